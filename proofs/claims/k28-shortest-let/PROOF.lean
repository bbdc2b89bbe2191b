import PyProof.Rows.All
import Wide.All
import OpenK.AllK
import Wide.FinOn
import HandS.ForMost
import PySem.Challenge.RW_leastguards_k28_whole_shortest_let_runs
import KE.KStateDown
import HandS.WordsExc
import HandS.Defaults
import HandS.Head0
import HandS.Head1
import HandS.Head2
import HandS.HeadEnd
import HandS.HeadHook1
import HandS.HeadHook2
import HandS.Codes
import HandS.Evl
import HandS.IsInst
import HandS.Deep
import HandS.Style
import HandS.NoneIn
import HandS.OwnEq
import HandS.Iter
import HandS.Walk
import KE.GoesZip
import KE.GoesMore
import KE.GoesEnum
import KE.KDictKeyed
import KE.KeyNested
import KE.KDictDisplayH
import KE.KDictWalk
import HandS.DictComp
import KE.KEqDict
import HandS.TupSets
import HandS.SetKeys
import HandS.SetBool
import HandS.Set
import HandS.Strs
import HandS.More
import KE.KDictCopyH
import KE.KDictList
import HandS.Star
import HandS.List
import HandS.TupAny
import KE.DataEq
section
set_option Elab.async false
set_option maxRecDepth 100000
namespace K28
open PySem L2
def top (i : Nat) : Stmt := PySem.Challenge.pw_leastguards_k28_whole_shortest_let_runs.main.body.getD i (.Pass ⟨0, 0, 0, 0⟩)
abbrev s_is_integer : Stmt := top 4
abbrev s_is_row : Stmt := top 5
abbrev s_is_name : Stmt := top 6
abbrev s_is_state : Stmt := top 7
abbrev s_is_number_below : Stmt := top 8
abbrev s_first_other : Stmt := top 9
abbrev s_wrong_place : Stmt := top 24
abbrev s_check_run : Stmt := top 25
abbrev s_checked_sights : Stmt := top 27
abbrev s_checked_words : Stmt := top 28
abbrev s_marked : Stmt := top 29
abbrev s_View_init : Stmt := inClass (top 30) 0
abbrev s_View_copy : Stmt := inClass (top 30) 6
abbrev s_View_eq : Stmt := inClass (top 30) 7
abbrev s_sights_told : Stmt := top 33
abbrev s_checked_lines : Stmt := top 34
abbrev s_is_place : Stmt := top 35
abbrev s_checked_arrows : Stmt := top 36
abbrev s_Guard_init : Stmt := inClass (top 37) 0
abbrev s_Guard_eq : Stmt := inClass (top 37) 5
abbrev s_holding : Stmt := top 39
abbrev s_moved : Stmt := top 40
abbrev s_check_guards : Stmt := top 51
abbrev s_is_held : Stmt := top 52
abbrev s_nodes_behind : Stmt := top 53
abbrev s_first_held : Stmt := top 54
abbrev s_lets : Stmt := top 55
abbrev s_Meeting_init : Stmt := inClass (top 56) 0
abbrev s_Meeting_run : Stmt := inClass (top 56) 1
abbrev s_meetings : Stmt := top 57
abbrev s_shortest_let : Stmt := top 58
abbrev s_is_step : Stmt := top 63
abbrev s_checked_steps : Stmt := top 64
abbrev s_checked_marks : Stmt := top 65
abbrev s_reached_states : Stmt := top 66
abbrev s_Plant_init : Stmt := inClass (top 67) 0
abbrev s_law_stream : Stmt := top 69
abbrev s_law_draw : Stmt := top 70
abbrev s_law_is_integer : Stmt := top 71
abbrev s_law_names : Stmt := top 72
abbrev s_law_states : Stmt := top 73
abbrev s_law_steps : Stmt := top 74
abbrev s_law_marks : Stmt := top 75
abbrev s_law_view : Stmt := top 76
abbrev s_law_guard : Stmt := top 77
abbrev s_law_parts : Stmt := top 78
abbrev s_law_is_held : Stmt := top 79
abbrev s_law_after : Stmt := top 80
abbrev s_law_meet : Stmt := top 81
abbrev s_law_due : Stmt := top 82
abbrev s_law : Stmt := top 83
end K28
end

section
set_option Elab.async false
set_option maxRecDepth 100000
set_option maxHeartbeats 0
namespace K28
open PySem L2
def d_is_integer : He.DefD := ⟨("is_integer", none), "is_integer", "is_integer", defArgs s_is_integer, defBody s_is_integer, defScope s_is_integer, [], []⟩
def d_is_row : He.DefD := ⟨("is_row", none), "is_row", "is_row", defArgs s_is_row, defBody s_is_row, defScope s_is_row, [], []⟩
def d_is_name : He.DefD := ⟨("is_name", none), "is_name", "is_name", defArgs s_is_name, defBody s_is_name, defScope s_is_name, [], []⟩
def d_is_state : He.DefD := ⟨("is_state", none), "is_state", "is_state", defArgs s_is_state, defBody s_is_state, defScope s_is_state, [], []⟩
def d_is_number_below : He.DefD := ⟨("is_number_below", none), "is_number_below", "is_number_below", defArgs s_is_number_below, defBody s_is_number_below, defScope s_is_number_below, [], []⟩
def d_first_other : He.DefD := ⟨("first_other", none), "first_other", "first_other", defArgs s_first_other, defBody s_first_other, defScope s_first_other, [], []⟩
def d_wrong_place : He.DefD := ⟨("wrong_place", none), "wrong_place", "wrong_place", defArgs s_wrong_place, defBody s_wrong_place, defScope s_wrong_place, [], []⟩
def d_check_run : He.DefD := ⟨("check_run", none), "check_run", "check_run", defArgs s_check_run, defBody s_check_run, defScope s_check_run, [], []⟩
def d_checked_sights : He.DefD := ⟨("checked_sights", none), "checked_sights", "checked_sights", defArgs s_checked_sights, defBody s_checked_sights, defScope s_checked_sights, [], []⟩
def d_checked_words : He.DefD := ⟨("checked_words", none), "checked_words", "checked_words", defArgs s_checked_words, defBody s_checked_words, defScope s_checked_words, [], []⟩
def d_marked : He.DefD := ⟨("marked", none), "marked", "marked", defArgs s_marked, defBody s_marked, defScope s_marked, [], []⟩
def d_View_init : He.DefD := ⟨("View", some "__init__"), "__init__", "View.__init__", defArgs s_View_init, defBody s_View_init, defScope s_View_init, [.non, .adr (He.dflAt ("View", some "__init__") 1)], []⟩
def d_View_copy : He.DefD := ⟨("View", some "copy"), "copy", "View.copy", defArgs s_View_copy, defBody s_View_copy, defScope s_View_copy, [], []⟩
def d_View_eq : He.DefD := ⟨("View", some "__eq__"), "__eq__", "View.__eq__", defArgs s_View_eq, defBody s_View_eq, defScope s_View_eq, [], []⟩
def d_sights_told : He.DefD := ⟨("sights_told", none), "sights_told", "sights_told", defArgs s_sights_told, defBody s_sights_told, defScope s_sights_told, [], []⟩
def d_checked_lines : He.DefD := ⟨("checked_lines", none), "checked_lines", "checked_lines", defArgs s_checked_lines, defBody s_checked_lines, defScope s_checked_lines, [], []⟩
def d_is_place : He.DefD := ⟨("is_place", none), "is_place", "is_place", defArgs s_is_place, defBody s_is_place, defScope s_is_place, [], []⟩
def d_checked_arrows : He.DefD := ⟨("checked_arrows", none), "checked_arrows", "checked_arrows", defArgs s_checked_arrows, defBody s_checked_arrows, defScope s_checked_arrows, [], []⟩
def d_Guard_init : He.DefD := ⟨("Guard", some "__init__"), "__init__", "Guard.__init__", defArgs s_Guard_init, defBody s_Guard_init, defScope s_Guard_init, [], []⟩
def d_Guard_eq : He.DefD := ⟨("Guard", some "__eq__"), "__eq__", "Guard.__eq__", defArgs s_Guard_eq, defBody s_Guard_eq, defScope s_Guard_eq, [], []⟩
def d_holding : He.DefD := ⟨("holding", none), "holding", "holding", defArgs s_holding, defBody s_holding, defScope s_holding, [], []⟩
def d_moved : He.DefD := ⟨("moved", none), "moved", "moved", defArgs s_moved, defBody s_moved, defScope s_moved, [], []⟩
def d_check_guards : He.DefD := ⟨("check_guards", none), "check_guards", "check_guards", defArgs s_check_guards, defBody s_check_guards, defScope s_check_guards, [], []⟩
def d_is_held : He.DefD := ⟨("is_held", none), "is_held", "is_held", defArgs s_is_held, defBody s_is_held, defScope s_is_held, [], []⟩
def d_nodes_behind : He.DefD := ⟨("nodes_behind", none), "nodes_behind", "nodes_behind", defArgs s_nodes_behind, defBody s_nodes_behind, defScope s_nodes_behind, [], []⟩
def d_first_held : He.DefD := ⟨("first_held", none), "first_held", "first_held", defArgs s_first_held, defBody s_first_held, defScope s_first_held, [], []⟩
def d_lets : He.DefD := ⟨("lets", none), "lets", "lets", defArgs s_lets, defBody s_lets, defScope s_lets, [], []⟩
def d_Meeting_init : He.DefD := ⟨("Meeting", some "__init__"), "__init__", "Meeting.__init__", defArgs s_Meeting_init, defBody s_Meeting_init, defScope s_Meeting_init, [], []⟩
def d_Meeting_run : He.DefD := ⟨("Meeting", some "run"), "run", "Meeting.run", defArgs s_Meeting_run, defBody s_Meeting_run, defScope s_Meeting_run, [], []⟩
def d_meetings : He.DefD := ⟨("meetings", none), "meetings", "meetings", defArgs s_meetings, defBody s_meetings, defScope s_meetings, [], []⟩
def d_shortest_let : He.DefD := ⟨("shortest_let", none), "shortest_let", "shortest_let", defArgs s_shortest_let, defBody s_shortest_let, defScope s_shortest_let, [], []⟩
def d_is_step : He.DefD := ⟨("is_step", none), "is_step", "is_step", defArgs s_is_step, defBody s_is_step, defScope s_is_step, [], []⟩
def d_checked_steps : He.DefD := ⟨("checked_steps", none), "checked_steps", "checked_steps", defArgs s_checked_steps, defBody s_checked_steps, defScope s_checked_steps, [], []⟩
def d_checked_marks : He.DefD := ⟨("checked_marks", none), "checked_marks", "checked_marks", defArgs s_checked_marks, defBody s_checked_marks, defScope s_checked_marks, [], []⟩
def d_reached_states : He.DefD := ⟨("reached_states", none), "reached_states", "reached_states", defArgs s_reached_states, defBody s_reached_states, defScope s_reached_states, [], []⟩
def d_Plant_init : He.DefD := ⟨("Plant", some "__init__"), "__init__", "Plant.__init__", defArgs s_Plant_init, defBody s_Plant_init, defScope s_Plant_init, [.adr (He.dflAt ("Plant", some "__init__") 0)], []⟩
def d_law_stream : He.DefD := ⟨("_law_stream", none), "_law_stream", "_law_stream", defArgs s_law_stream, defBody s_law_stream, defScope s_law_stream, [], []⟩
def d_law_draw : He.DefD := ⟨("_law_draw", none), "_law_draw", "_law_draw", defArgs s_law_draw, defBody s_law_draw, defScope s_law_draw, [], []⟩
def d_law_is_integer : He.DefD := ⟨("_law_is_integer", none), "_law_is_integer", "_law_is_integer", defArgs s_law_is_integer, defBody s_law_is_integer, defScope s_law_is_integer, [], []⟩
def d_law_names : He.DefD := ⟨("_law_names", none), "_law_names", "_law_names", defArgs s_law_names, defBody s_law_names, defScope s_law_names, [], []⟩
def d_law_states : He.DefD := ⟨("_law_states", none), "_law_states", "_law_states", defArgs s_law_states, defBody s_law_states, defScope s_law_states, [], []⟩
def d_law_steps : He.DefD := ⟨("_law_steps", none), "_law_steps", "_law_steps", defArgs s_law_steps, defBody s_law_steps, defScope s_law_steps, [], []⟩
def d_law_marks : He.DefD := ⟨("_law_marks", none), "_law_marks", "_law_marks", defArgs s_law_marks, defBody s_law_marks, defScope s_law_marks, [], []⟩
def d_law_view : He.DefD := ⟨("_law_view", none), "_law_view", "_law_view", defArgs s_law_view, defBody s_law_view, defScope s_law_view, [], []⟩
def d_law_guard : He.DefD := ⟨("_law_guard", none), "_law_guard", "_law_guard", defArgs s_law_guard, defBody s_law_guard, defScope s_law_guard, [], []⟩
def d_law_parts : He.DefD := ⟨("_law_parts", none), "_law_parts", "_law_parts", defArgs s_law_parts, defBody s_law_parts, defScope s_law_parts, [], []⟩
def d_law_is_held : He.DefD := ⟨("_law_is_held", none), "_law_is_held", "_law_is_held", defArgs s_law_is_held, defBody s_law_is_held, defScope s_law_is_held, [], []⟩
def d_law_after : He.DefD := ⟨("_law_after", none), "_law_after", "_law_after", defArgs s_law_after, defBody s_law_after, defScope s_law_after, [], []⟩
def d_law_meet : He.DefD := ⟨("_law_meet", none), "_law_meet", "_law_meet", defArgs s_law_meet, defBody s_law_meet, defScope s_law_meet, [], []⟩
def d_law_due : He.DefD := ⟨("_law_due", none), "_law_due", "_law_due", defArgs s_law_due, defBody s_law_due, defScope s_law_due, [], []⟩
def d_law : He.DefD := ⟨("law", none), "law", "law", defArgs s_law, defBody s_law, defScope s_law, [], []⟩
def fn : List He.DefD :=
  ([d_is_integer, d_is_row, d_is_name, d_is_state, d_is_number_below, d_first_other, d_wrong_place, d_check_run, d_checked_sights, d_checked_words, d_marked, d_View_init, d_View_copy, d_View_eq, d_sights_told, d_checked_lines, d_is_place, d_checked_arrows, d_Guard_init, d_Guard_eq] : List He.DefD) ++
  ([d_holding, d_moved, d_check_guards, d_is_held, d_nodes_behind, d_first_held, d_lets, d_Meeting_init, d_Meeting_run, d_meetings, d_shortest_let, d_is_step, d_checked_steps, d_checked_marks, d_reached_states, d_Plant_init, d_law_stream, d_law_draw, d_law_is_integer, d_law_names] : List He.DefD) ++
  ([d_law_states, d_law_steps, d_law_marks, d_law_view, d_law_guard, d_law_parts, d_law_is_held, d_law_after, d_law_meet, d_law_due, d_law] : List He.DefD)
def fa : List He.Fa :=
  ([.glo "is_integer", .glo "is_row", .glo "is_name", .glo "is_state", .glo "is_number_below", .glo "first_other", .glo "wrong_place", .glo "check_run", .glo "checked_sights", .glo "checked_words", .glo "marked", .glo "sights_told", .glo "checked_lines", .glo "is_place", .glo "checked_arrows", .glo "holding", .glo "moved", .glo "check_guards", .glo "is_held", .glo "nodes_behind", .glo "first_held", .glo "lets", .glo "meetings", .glo "shortest_let", .glo "is_step", .glo "checked_steps", .glo "checked_marks", .glo "reached_states", .glo "_law_stream", .glo "_law_draw"] : List He.Fa) ++
  ([.glo "_law_is_integer", .glo "_law_names", .glo "_law_states", .glo "_law_steps", .glo "_law_marks", .glo "_law_view", .glo "_law_guard", .glo "_law_parts", .glo "_law_is_held", .glo "_law_after", .glo "_law_meet", .glo "_law_due", .glo "law", .glo "View", .glo "Guard", .glo "Meeting", .glo "Plant", .free "isinstance", .free "int", .free "bool", .free "len", .free "list", .free "tuple", .free "str", .free "dict", .free "set", .free "sorted", .free "all", .free "enumerate", .free "zip"] : List He.Fa) ++
  ([.free "range", .int "MOST_LETTERS" 12, .int "MOST_STATE" 99, .int "MOST_NODES" 200, .int "MOST_GUARDS" 3, .int "MOST_PLACES" 5000, .int "MOST_STEPS" 60, .int "MOST_LEAVING" 8, .int "MOST_WORDS" 12, .cls "View", .mkr "View", .noat "View" "table", .noat "View" "can", .cls "Guard", .mkr "Guard", .noat "Guard" "own", .noat "Guard" "lines", .noat "Guard" "arrows", .cls "Meeting", .mkr "Meeting", .noat "Meeting" "state", .noat "Meeting" "nodes", .noat "Meeting" "back", .noat "Meeting" "number", .cls "Plant", .mkr "Plant", .noat "Plant" "wanted_at", .noat "Plant" "barred_at", .noat "Plant" "first", .noat "Plant" "rows"] : List He.Fa) ++
  ([.noat "Plant" "leaving", .noat "Plant" "reached", .meth "View" "copy", .meth "View" "__eq__", .meth "Guard" "__eq__", .meth "Meeting" "run"] : List He.Fa)
abbrev R : PySem.W.OpenRow := PySem.W.OpenLaw.row PySem.Challenge.rw_leastguards_k28_whole_shortest_let_runs
/-- what isinstance asks of an own class -/
def insB (K : PySem.W.Frag) (x : Str) : Bool := He.eqO (PySem.W.findIn K (.ref (He.ga K x)) "__class__") (some (some (.builtin "object.__class__"))) && (He.eqO (PySem.W.specialIn K (.builtin "object.__class__") "__get__") (some (some (.builtin "getset_descriptor.__get__"))) && (decide (PySem.W.takesIn K (.builtin "object.__class__") = some true) && (decide (PySem.W.mroIn K (He.ga K x) (.type "object") = some true) && decide (PySem.W.kitOne K (.ref (He.ga K x)) (.ref (He.ga K x)) = some true))))
theorem insB_ok {K : PySem.W.Frag} {x : Str} (cl : L2.Cls K (He.ga K x)) (h : insB K x = true) : C8.InsC K (He.ga K x) := by
  obtain ⟨h1, h⟩ := He.ba h
  obtain ⟨h2, h⟩ := He.ba h
  obtain ⟨h3, h⟩ := He.ba h
  obtain ⟨h4, h5⟩ := He.ba h
  exact ⟨cl, He.eqO_ok h1, He.eqO_ok h2, of_decide_eq_true h3, of_decide_eq_true h4, of_decide_eq_true h5⟩
def exB (K : PySem.W.Frag) : Bool := insB K "View" && insB K "Guard"
def obsE (K : PySem.W.Frag) : He.AlD := (((fa.all fun f => f.ok K) && fn.all fun d => d.ok K) && exB K, fn.map fun d => He.fnW K d.at_)
theorem obsE_of {K : PySem.W.Frag} (h : obsE K = He.valD fn) : He.SaysD fa fn K ∧ exB K = true := by
  have e1 : (((fa.all fun f => f.ok K) && fn.all fun d => d.ok K) && exB K) = true := congrArg (fun z : He.AlD => z.1) h
  have e2 : (fn.map fun d => He.fnW K d.at_) = fn.map He.DefD.val := congrArg (fun z : He.AlD => z.2) h
  obtain ⟨h1, h2⟩ := He.ba e1
  refine ⟨?_, h2⟩
  show (((fa.all fun f => f.ok K) && fn.all fun d => d.ok K), fn.map fun d => He.fnW K d.at_) = (true, fn.map He.DefD.val)
  rw [h1, e2]
def obsG (g : Addr → Option Obj) : He.AlD := obsE (He.frG g (He.asD g 4))
def hk : PySem.W.Hook where
  α := He.AlD
  obs := fun s => obsG s.heap.get?
  val := fun _ => He.valD fn
  says := fun _ h => ∃ K : PySem.W.Frag, K.In h ∧ He.SaysD fa fn K ∧ exB K = true
  of := fun _ _ e => ⟨_, He.frG_in, obsE_of e⟩
  keeps := fun _ _ _ ⟨K, hK, c⟩ k => ⟨K, PySem.W.Frag.In.keeps hK k, c⟩
def ob (s : PySem.W.SharedT) : He.AlD := obsG (HandSHeadRun.getT s)
theorem ob_eq (s : PySem.W.SharedT) : ob s = hk.obs s.abs := by
  have e : HandSHeadRun.getT s = s.abs.heap.get? := funext (HandSHeadRun.getT_eq s)
  show obsG (HandSHeadRun.getT s) = obsG s.abs.heap.get?
  rw [e]
def loose : List PySem.Str :=
  (["_wall", "MOST_LETTERS", "MOST_STATE", "is_integer", "is_row", "is_name", "is_state", "is_number_below", "first_other", "GuardError", "BadState", "BadSteps", "BadMarks", "BadWord", "BadView", "BadRun", "BadSights", "BadGuard", "BadGuards", "BadEntry", "TooMany", "wrong_place", "check_run", "checked_sights", "checked_words", "marked", "View", "MOST_NODES", "sights_told", "checked_lines"] : List PySem.Str) ++
  (["is_place", "checked_arrows", "Guard", "words_at", "holding", "moved", "check_partner", "pair_line", "is_shut", "combined", "numbered", "blocks", "reduced", "MOST_GUARDS", "MOST_PLACES", "check_guards", "is_held", "nodes_behind", "first_held", "lets", "Meeting", "meetings", "shortest_let", "MOST_STEPS", "MOST_LEAVING", "MOST_WORDS", "is_step", "checked_steps", "checked_marks", "reached_states"] : List PySem.Str) ++
  (["Plant", "_law_stream", "_law_draw", "_law_is_integer", "_law_names", "_law_states", "_law_steps", "_law_marks", "_law_view", "_law_guard", "_law_parts", "_law_is_held", "_law_after", "_law_meet", "_law_due"] : List PySem.Str)
abbrev qv : Program := PySem.W.view R.prog [83]
/-- the state behind the top -/
noncomputable abbrev endS (w : World) (os : OsState) : Option PySem.W.SharedT := HandSHeadRun.endF (HandSHeadRun.stepQ (HandSHeadRun.denQ HandSHeadRun.tabQ) R.prog w) 10000 R.prog w os
theorem map2 {α β γ : Type} {o : Option α} {f : α → β} {g : α → γ} {b : β} {c : γ} (h1 : o.map f = some b) (h2 : o.map g = some c) : o.map (fun x => (f x, g x)) = some (b, c) := by
  cases o with
  | none => cases h1
  | some x =>
    have e1 : f x = b := Option.some.inj h1
    have e2 : g x = c := Option.some.inj h2
    show some (f x, g x) = some (b, c)
    rw [e1, e2]
theorem mapAnd {α : Type} {o : Option α} {f g : α → Bool} (h1 : o.map f = some true) (h2 : o.map g = some true) : o.map (fun x => f x && g x) = some true := by
  cases o with
  | none => cases h1
  | some x =>
    have e1 : f x = true := Option.some.inj h1
    have e2 : g x = true := Option.some.inj h2
    show some (f x && g x) = some true
    rw [e1, e2]
    rfl
abbrev kS (s : PySem.W.SharedT) : PySem.W.Frag := He.frG (HandSHeadRun.getT s) (He.asD (HandSHeadRun.getT s) 4)
open PySem.W PySem.Calls PyProof.Rows in
theorem run_a (w : World) (os : OsState) : (endS w os).map (fun s => (HandSHeadRun.looksF R.prog (boot_heap w.params) s.abs, HandSHeadRun.seenQ qv loose (importedModules R.prog.main.body) (fun s => xlAt qv [] s && recOk R.toRowW.records s) s.abs)) = some (true, openGood qv loose) := by kernel_rfl
theorem run_b (w : World) (os : OsState) : (endS w os).map (fun s => fa.all fun f => f.ok (kS s)) = some true := by kernel_rfl
theorem run_c (w : World) (os : OsState) : (endS w os).map (fun s => (fn.all fun d => d.ok (kS s)) && exB (kS s)) = some true := by kernel_rfl
theorem run_d (w : World) (os : OsState) : (endS w os).map (fun s => fn.map fun d => He.fnW (kS s) d.at_) = some (fn.map He.DefD.val) := by kernel_rfl
theorem fit {α β γ δ : Type} {o : Option α} {f : α → β} {g : α → γ} {h : α → δ} {b : β} {c : γ} {d : δ} (h1 : o.map (fun x => (f x, g x)) = some (b, c)) (h2 : o.map h = some d) : o.map (fun x => (f x, g x, h x)) = some (b, c, d) := by
  cases o with
  | none => cases h1
  | some x =>
    have e1 : (f x, g x) = (b, c) := Option.some.inj h1
    have e2 : h x = d := Option.some.inj h2
    obtain ⟨e3, e4⟩ := Prod.mk.inj e1
    show some (f x, g x, h x) = some (b, c, d)
    rw [e3, e4, e2]
theorem run (w : World) : HandSHeadRun.RunEq R qv hk ob 10000 loose w := fun os => fit (run_a w os) (map2 ((congrArg (fun f => (endS w os).map f) (funext fun s => Bool.and_assoc _ _ _)).trans (mapAnd (run_b w os) (run_c w os))) (run_d w os))
end K28
end

section
set_option Elab.async false
set_option maxRecDepth 100000
namespace K28
open PySem PySem.Spec PyProof.Rows L2 Evl
/-- a def of the module -/
def Dfn (K : PySem.W.Frag) (mg : Str → Option Value) (x : Str) (st : Stmt) : Prop :=
  ∃ f fd, FunD K x x (defArgs st) (defBody st) (defScope st) [] [] f fd ∧ mg x = some (.ref f)
/-- a method of the class at C; dvs its defaults -/
def Mfn (K : PySem.W.Frag) (C : Addr) (m qual : Str) (st : Stmt) (dvs : List V) (f : Addr) : Prop :=
  ∃ fd, FunD K m qual (defArgs st) (defBody st) (defScope st) dvs [] f fd
abbrev WithRoom (k : Nat) (A : Around) (env : Env) : Prop := Room k (A.deeper env)
section
variable {P : Program} {w : World} {K : PySem.W.Frag} {mg : Str → Option Value} {base : Heap}
/-- what a body owes -/
def Owes (P : Program) (w : World) (K : PySem.W.Frag) (mg : Str → Option Value) (base : Heap) (N : List Str) (qual : Str) (st : Stmt) (k : Nat) (sp : Sp) : Prop :=
  ∀ (f : Addr) (cdv : Value) (A : Around) (outer : List Env) (s : Shared) (H : Hp) (vs : List V) (Q : VK) (E : XK), Room k (A.deeper (envOfC qual (defScope st) s.heap.objs.size f cdv)) → sp vs H Q E →
    ∃ t, PSs (cxOf L2.CX0 P w K mg base N qual (defScope st) f cdv A outer s H E).nox (defBody st) t ∧ t { nx := fun _ H' => Q .non H', rt := Q } (start N vs) H
theorem fnOk_of {x qual : Str} {st : Stmt} {f : Addr} {fd : FuncData} {N ps : List Str} {k : Nat} {sp : Sp} {dvs : List V} (F : FunD K x qual (defArgs st) (defBody st) (defScope st) dvs [] f fd) (S : FnScope N ps (defScope st))
    (len : ∀ vs H Q E, sp vs H Q E → vs.length = ps.length) (h : Owes P w K mg base N qual st k sp) : FnOk P w K mg base L2.CX0 (k + 1) f fd ps sp :=
  F.ok S len fun cdv A outer s H vs Q E hr hs => let ⟨t, a, b⟩ := h f cdv A outer s H vs Q E hr hs; ⟨t, a.nox, b⟩
abbrev CalP (P : Program) (w : World) (K : PySem.W.Frag) (mg : Str → Option Value) (base : Heap) (k : Nat) (x : Str) (sp : Sp) : Prop := C8.Cal P w K mg base k x sp []
theorem cal_of {x : Str} {st : Stmt} {N ps : List Str} {k : Nat} {sp : Sp} (D : Dfn K mg x st) (S : FnScope N ps (defScope st))
    (hb : ∀ (kV doc pm : Value) (an : Option Addr) (cdv ct : Value) (us : List Value), us.length = ps.length → bindArgs (PySem.W.fnOf x x (defArgs st) (defBody st) (defScope st) .none kV doc pm an cdv ct) ⟨us, []⟩ = pure (ps.zip us))
    (len : ∀ vs H Q E, sp vs H Q E → vs.length = ps.length) (h : Owes P w K mg base N x st k sp) : CalP P w K mg base (k + 1) x sp := by
  obtain ⟨f, fd, F, e⟩ := D
  exact ⟨f, fd, ps, [], fnOk_of F S len h, e, F.kp, F.bindsN hb, .nil⟩
end
theorem u65 {k : Nat} {A : Around} (r : Room k A) : A.units + 65 < cLine := by have := r.un; omega
/-- what the top leaves, as far as the walk asks -/
structure Tx (K : PySem.W.Frag) (mg : Str → Option Value) : Prop where
  f_isinstance : mg "isinstance" = none
  f_int : mg "int" = none
  f_bool : mg "bool" = none
  f_len : mg "len" = none
  f_list : mg "list" = none
  f_tuple : mg "tuple" = none
  f_str : mg "str" = none
  f_dict : mg "dict" = none
  f_set : mg "set" = none
  f_sorted : mg "sorted" = none
  f_all : mg "all" = none
  f_enumerate : mg "enumerate" = none
  f_zip : mg "zip" = none
  f_range : mg "range" = none
  i_MOST_LETTERS : ∃ u, mg "MOST_LETTERS" = some u ∧ RelV (.int 12) u
  i_MOST_STATE : ∃ u, mg "MOST_STATE" = some u ∧ RelV (.int 99) u
  i_MOST_NODES : ∃ u, mg "MOST_NODES" = some u ∧ RelV (.int 200) u
  i_MOST_GUARDS : ∃ u, mg "MOST_GUARDS" = some u ∧ RelV (.int 3) u
  i_MOST_PLACES : ∃ u, mg "MOST_PLACES" = some u ∧ RelV (.int 5000) u
  i_MOST_STEPS : ∃ u, mg "MOST_STEPS" = some u ∧ RelV (.int 60) u
  i_MOST_LEAVING : ∃ u, mg "MOST_LEAVING" = some u ∧ RelV (.int 8) u
  i_MOST_WORDS : ∃ u, mg "MOST_WORDS" = some u ∧ RelV (.int 12) u
/-- the classes, at their addresses -/
structure Ad where
  View : Addr
  Guard : Addr
  Meeting : Addr
  Plant : Addr
structure TxC (K : PySem.W.Frag) (mg : Str → Option Value) (a : Ad) : Prop extends Tx K mg where
  g_View : mg "View" = some (.ref a.View)
  g_Guard : mg "Guard" = some (.ref a.Guard)
  c_View : Cls K a.View
  c_Guard : Cls K a.Guard
  c_Meeting : Cls K a.Meeting
  c_Plant : Cls K a.Plant
  n_table : NoAttr K a.View "table"
  n_can : NoAttr K a.View "can"
  n_own : NoAttr K a.Guard "own"
  n_lines : NoAttr K a.Guard "lines"
  n_arrows : NoAttr K a.Guard "arrows"
  n_state : NoAttr K a.Meeting "state"
  n_nodes : NoAttr K a.Meeting "nodes"
  n_back : NoAttr K a.Meeting "back"
  n_number : NoAttr K a.Meeting "number"
  n_wanted_at : NoAttr K a.Plant "wanted_at"
  n_barred_at : NoAttr K a.Plant "barred_at"
  n_first : NoAttr K a.Plant "first"
  n_rows : NoAttr K a.Plant "rows"
  n_leaving : NoAttr K a.Plant "leaving"
  n_reached : NoAttr K a.Plant "reached"
  is_View : C8.InsC K a.View
  is_Guard : C8.InsC K a.Guard
end K28
end

section
set_option Elab.async false
set_option maxRecDepth 100000
set_option maxHeartbeats 4000000
namespace K28
open PySem PySem.Spec PyProof.Rows L2 Evl
/-- a sequence of kind k: false a list, true a tuple -/
def SqK (k : Bool) (K : PySem.W.Frag) (H : Hp) (a : Addr) (xs : List V) : Prop := match k with
  | false => SqL K H a xs
  | true => SqT K H a xs
def hasItems (k : Bool) (h : Heap) (a : Addr) (its : Array Value) : Prop := match k with
  | false => h.IsList a its
  | true => h.IsTuple a its
def hasIter (k : Bool) (h : Heap) (it a : Addr) (i : Nat) : Prop := match k with
  | false => h.IsListIter it a i
  | true => h.IsTupleIter it a i
def iterObj (k : Bool) (a : Addr) : Obj := match k with
  | false => { cls := .type "list_iterator", data := .fields #[.ref a, .int 0 0] }
  | true => { cls := .type "tuple_iterator", data := .fields #[.ref a, .int 0 0] }
theorem SqK.ex {k : Bool} {K : PySem.W.Frag} {H H' : Hp} {a : Addr} {xs : List V} (e : Ex H H') (h : SqK k K H a xs) : SqK k K H' a xs := by
  cases k with
  | false => exact ex_l e h
  | true => exact ex_t e h
theorem hasIter.stay {k : Bool} {h h' : Heap} {it a : Addr} {i : Nat} (x : hasIter k h it a i) (q : ∀ o, h.get? it = some o → h'.get? it = some o) : hasIter k h' it a i := by
  cases k with
  | false => exact Heap.IsListIter.at x q
  | true => exact Heap.IsTupleIter.at x q
theorem hasIter.obj {k : Bool} {h : Heap} {it a : Addr} {i : Nat} (x : hasIter k h it a i) : ∃ o, h.get? it = some o ∧ ∀ v, o.data ≠ .cell v := by
  cases k with
  | false =>
    obtain ⟨o, e, _, d⟩ := (show h.IsListIter it a i from x)
    exact ⟨o, e, fun v q => by rw [d] at q; cases q⟩
  | true =>
    obtain ⟨o, e, _, d⟩ := (show h.IsTupleIter it a i from x)
    exact ⟨o, e, fun v q => by rw [d] at q; cases q⟩
theorem iterObj.is {k : Bool} {h : Heap} {it a : Addr} (e : h.get? it = some (iterObj k a)) : hasIter k h it a 0 := by
  cases k with
  | false => exact ⟨_, e, rfl, rfl⟩
  | true => exact ⟨_, e, rfl, rfl⟩
theorem draws_k {prog : Program} {w : World} {A : Around} (hh : A.handled = none) (k : Bool) (it a : Addr) (hne : a ≠ it) (its : Array Value) :
    Draws prog w A it [it, a] its.size (fun i v => its[i]? = some v) (fun i h => hasIter k h it a i ∧ hasItems k h a its) := by
  cases k with
  | false => exact Draws.list hh it a hne its
  | true => exact Draws.tuple hh it a hne its
theorem begins_k (k : Bool) (a : Addr) (its : Array Value) : Begins (.ref a) (iterObj k a) fun h => hasItems k h a its := by
  cases k with
  | false => exact begins_list a its
  | true => exact begins_tuple a its
section
variable {X : Cx} {pins : List (Addr × Obj)} {σ : L2.St} {H : Hp} {s : Shared}
theorem seqk_at (I : Inv X pins σ H s) {k : Bool} {a : Addr} {xs : List V} (h : SqK k X.K H a xs) : ∃ its : List Value, Vals xs its ∧ hasItems k s.heap a its.toArray ∧ a < s.heap.objs.size := by
  cases k with
  | false =>
    obtain ⟨its, r, p, _⟩ := I.list (show SqL X.K H a xs from h)
    exact ⟨its, r, p.isList, p.lt⟩
  | true =>
    obtain ⟨its, r, p, _⟩ := I.tuple (show SqT X.K H a xs from h)
    exact ⟨its, r, p, p.lt⟩
theorem seqk_inj (I : Inv X pins σ H s) {k : Bool} {a : Addr} {xs ys : List V} (h : SqK k X.K H a xs) (h' : SqK k X.K H a ys) : xs = ys := by
  cases k with
  | false => exact I.list_inj h h'
  | true => exact I.tuple_inj h h'
end
/-- what zip hands out: a new pair a turn -/
def ItzK (j k : Bool) (K : PySem.W.Frag) (a b : Addr) : It :=
  ⟨fun i H => ∃ (xs ys : List V) (x y : V), SqK j K H a xs ∧ SqK k K H b ys ∧ xs[i]? = some x ∧ ys[i]? = some y,
    fun i H v H' => ∃ T x y, v = .ref T ∧ H T = none ∧ H' = upd H T (.tup [x, y]) ∧ (∀ xs, SqK j K H a xs → xs[i]? = some x) ∧ ∀ ys, SqK k K H b ys → ys[i]? = some y,
    fun i H => ∃ xs ys : List V, SqK j K H a xs ∧ SqK k K H b ys ∧ i ≤ xs.length ∧ i ≤ ys.length ∧ (i = xs.length ∨ i = ys.length)⟩
structure Apart5 (z TI TO i1 i2 a b : Addr) : Prop where
  ne : TI ≠ z ∧ TO ≠ z ∧ TI ≠ TO ∧ TI ≠ i1 ∧ TI ≠ i2 ∧ z ≠ i1 ∧ z ≠ i2 ∧ TO ≠ i1 ∧ TO ≠ i2 ∧ i1 ≠ i2
  nea : a ≠ z ∧ a ≠ TI ∧ a ≠ TO ∧ a ≠ i1 ∧ a ≠ i2
  neb : b ≠ z ∧ b ≠ TI ∧ b ≠ TO ∧ b ≠ i1 ∧ b ≠ i2
theorem Apart5.sep {z TI TO i1 i2 a b : Addr} (D : Apart5 z TI TO i1 i2 a b) : ZipSep2 z TI TO i1 i2 [i1, a] [i2, b] := by
  obtain ⟨h1, h2, h3, h4, h5, h6, h7, h8, h9, h10⟩ := D.ne
  obtain ⟨a1, a2, a3, a4, a5⟩ := D.nea
  obtain ⟨b1, b2, b3, b4, b5⟩ := D.neb
  refine ⟨h1, h2, h3, h4, by simp, ?_, ?_, h5, by simp, ?_, ?_, ?_, ?_⟩ <;> simp [h6, h7, h8, h9, h10, h10.symm, a1.symm, a3.symm, a5.symm, b1.symm, b3.symm, b4.symm, Ne.symm a1]
theorem apart5_of (n a b : Nat) (ha : a < n) (hb : b < n) : Apart5 (n + 4) (n + 2) (n + 3) n (n + 1) a b := by
  refine ⟨⟨?_, ?_, ?_, ?_, ?_, ?_, ?_, ?_, ?_, ?_⟩, ⟨?_, ?_, ?_, ?_, ?_⟩, ⟨?_, ?_, ?_, ?_, ?_⟩⟩ <;> (intro e; replace e : (_ : Nat) = _ := e; omega)
theorem turn_zipK {P : Program} {w : World} {K : PySem.W.Frag} {elts : List Expr} {kk : Nat} {tpos : Pos} {j k : Bool} {a b z TI TO i1 i2 : Addr} (D : Apart5 z TI TO i1 i2 a b) :
    Turn P w K (.Tuple elts kk tpos) (ItzK j k K a b) [z, TI, TO, i1, i2] z (fun i h => IsZip h z TI TO .none ∧ IsTupOf2 h TI (.ref i1) (.ref i2) ∧ (∃ x y, IsTupOf2 h TO x y) ∧ hasIter j h i1 a i ∧ hasIter k h i2 b i) where
  mem := by simp
  obj := fun i h st c hc => by
    obtain ⟨hz, hTI, ⟨x, y, hTO⟩, h1, h2⟩ := st
    rcases (show c = z ∨ c = TI ∨ c = TO ∨ c = i1 ∨ c = i2 by simpa using hc) with q | q | q | q | q <;> rw [q]
    · exact ⟨_, hz, fun v q => nomatch q⟩
    · exact ⟨_, hTI, fun v q => nomatch q⟩
    · exact ⟨_, hTO, fun v q => nomatch q⟩
    · exact h1.obj
    · exact h2.obj
  keep := fun i h h' st q => by
    obtain ⟨hz, hTI, ⟨x, y, hTO⟩, h1, h2⟩ := st
    exact ⟨q z (by simp) _ hz, q TI (by simp) _ hTI, ⟨x, y, q TO (by simp) _ hTO⟩, h1.stay fun o r => q i1 (by simp) o r, h2.stay fun o r => q i2 (by simp) o r⟩
  item := by
    intro X hP hw hK hc i pins s σ H E I hf st hg
    subst hP hw hK
    obtain ⟨hz, hTI, ⟨x0, y0, hTO⟩, h1, h2⟩ := st
    obtain ⟨xs, ys, x, y, hqx, hqy, hx, hy⟩ := hg
    obtain ⟨its, rv, p, la⟩ := seqk_at I hqx
    obtain ⟨its2, rv2, p2, lb⟩ := seqk_at I hqy
    have hd := I.ok.hd hc
    have l1 : i < its.toArray.size := by
      have := (List.getElem?_eq_some_iff.mp hx).1
      rw [rv.length] at this
      simpa using this
    have l2 : i < its2.toArray.size := by
      have := (List.getElem?_eq_some_iff.mp hy).1
      rw [rv2.length] at this
      simpa using this
    have lz := Heap.lt_size hz
    have lT := Heap.lt_size hTI
    have lO := Heap.lt_size hTO
    have li1 : i1 < s.heap.objs.size := let ⟨_, e, _⟩ := h1.obj; Heap.lt_size e
    have li2 : i2 < s.heap.objs.size := let ⟨_, e, _⟩ := h2.obj; Heap.lt_size e
    refine wpAny_pyNext_zipD2_item D.sep (draws_k (show X.A.in1.handled = none from hd) j i1 a D.nea.2.2.2.1 its.toArray) (draws_k (show X.A.in1.handled = none from hd) k i2 b D.neb.2.2.2.2 its2.toArray) hz hTI hTO ⟨h1, p⟩ ⟨h2, p2⟩ l1 l2
      fun u1 u2 h' tk e1 e2 z' TO' g1 g2 hT _ hk => ?_
    refine ⟨_, rfl, wpAny_letOwnedTupleGo_zip (s := { s with heap := h', toks := tk }) z' fun h'' z'' sb => ?_⟩
    obtain ⟨v1, hv1, r1⟩ := rv.get hx
    obtain ⟨v2, hv2, r2⟩ := rv2.get hy
    have q1 : v1 = u1 := by
      have e1' : its[i]? = some u1 := by simpa using e1
      rw [hv1] at e1'
      exact Option.some.inj e1'
    have q2 : v2 = u2 := by
      have e2' : its2[i]? = some u2 := by simpa using e2
      rw [hv2] at e2'
      exact Option.some.inj e2'
    subst q1 q2
    obtain ⟨n1, n2, n3, n4, n5, n6, n7, n8, n9, n10⟩ := D.ne
    have hT2 : h''.get? s.heap.objs.size = some { cls := .type "tuple", data := .seq #[v1, v2] } := (sb.2 _ (Nat.ne_of_gt lz)).trans hT
    have new : ObjOk X.prog X.w (upd H s.heap.objs.size (.tup [x, y])) h'' s.heap.objs.size (.tup [x, y]) :=
      ⟨by show 2 ≤ sizeLine; decide, [v1, v2], .cons r1 (.cons r2 .nil), ⟨_, hT2, rfl, _, rfl⟩⟩
    have I1 : Inv X pins σ (upd H s.heap.objs.size (.tup [x, y])) { s with heap := h'', toks := tk } :=
      I.turnedNew (t' := tk) (ch := [z, TI, TO, i1, i2]) (fun c o hb q => (sb.2 c (fun q' => hb (by simp [q']))).trans (hk c o (fun q' => hb (by simp [q'])) (fun q' => hb (by simp [q'])) (fun q' => hb (by simp [q'])) (fun q' => hb (by simp [q'])) q)) hf (Nat.le_refl _) new
    refine ⟨.ref s.heap.objs.size, _, I1, rfl, ⟨_, x, y, rfl, I.hok.fresh (Nat.le_refl _), rfl, fun l hl => by rw [seqk_inj I hl hqx]; exact hx, fun l hl => by rw [seqk_inj I hl hqy]; exact hy⟩, ⟨z'', ?_, ⟨v1, v2, ?_⟩, ?_, ?_⟩, fun c hcm => ?_⟩
    · exact (sb.2 _ n1).trans (hk _ _ n1 n3 n4 n5 hTI)
    · exact (sb.2 _ n2).trans TO'
    · exact g1.1.stay fun o q => (sb.2 _ n6.symm).trans q
    · exact g2.1.stay fun o q => (sb.2 _ n7.symm).trans q
    · have hlt : c < s.heap.objs.size := by
        rcases (show c = z ∨ c = TI ∨ c = TO ∨ c = i1 ∨ c = i2 by simpa using hcm) with q | q | q | q | q <;> rw [q] <;> assumption
      rw [upd_ne (Nat.ne_of_lt hlt)]
      exact (hf c hcm).1
  done := by
    intro X hP hw hK hc i pins s σ H E I hf st hg
    subst hP hw hK
    obtain ⟨hz, hTI, ⟨x0, y0, hTO⟩, h1, h2⟩ := st
    obtain ⟨xs, ys, hqx, hqy, b1, b2, hend⟩ := hg
    obtain ⟨its, rv, p, la⟩ := seqk_at I hqx
    obtain ⟨its2, rv2, p2, lb⟩ := seqk_at I hqy
    have hd := I.ok.hd hc
    have l1 := rv.length
    have l2 := rv2.length
    refine wpAny_pyNext_zipD2_end D.sep (draws_k (show X.A.in1.handled = none from hd) j i1 a D.nea.2.2.2.1 its.toArray) (draws_k (show X.A.in1.handled = none from hd) k i2 b D.neb.2.2.2.2 its2.toArray) hz hTI hTO ⟨h1, p⟩ ⟨h2, p2⟩
      (by simp; omega) (by simp; omega) (by simp; omega) fun h' tk hk => ⟨rfl, ?_⟩
    exact I.turnedL (t' := tk) (ch := [z, TI, TO, i1, i2]) (fun c o hb q => hk c o (fun q' => hb (by simp [q'])) (fun q' => hb (by simp [q'])) (fun q' => hb (by simp [q'])) (fun q' => hb (by simp [q'])) q) hf
  self := fun A i s Q E st h => wpAny_pyIter_zip st.1 h
/-- zip(e, e2) -/
def iZipM (K : PySem.W.Frag) (ta : TA) : TI := fun σ H R => ta σ H fun vs H1 => ∃ (j k : Bool) (a b : Addr) (xs ys : List V), vs = [.ref a, .ref b] ∧ SqK j K H1 a xs ∧ SqK k K H1 b ys ∧ R (ItzK j k K a b) H1
theorem pi_zipM {X : Cx} {e e2 : Expr} {ta : TA} {p pos tpos : Pos} {elts : List Expr} {kk : Nat} (hg : Gl X "zip") (hm : X.mg "zip" = none) (ha : PA X [e, e2] ta)
    (hs : starEach [e, e2] X.env = (false, eval e X.env) :: starEach [e2] X.env := by rfl) (hpl : (backTo pos (starEach [e2] X.env)).any (·.1) = false := by rfl) :
    PI X (.Tuple elts kk tpos) (.Call (.Name "zip" p) [e, e2] [] pos) (iZipM X.K ta) := by
  refine ⟨fun pins s σ H R I h => Call_ (ld_blt I hg hm PyProof.Rows.boot_zip (PyProof.Rows.callWith_type1 (thn (ha.run pos pins s σ H _ I h) fun us s1 ⟨vs, H1, I1, r1, q1⟩ => ?_) hs hpl))⟩
  obtain ⟨j, k, a, b, xs, ys, rfl, hx, hy, q⟩ := q1
  obtain ⟨v1, v2, rfl, e1, e2⟩ := vals2 r1
  cases e1
  cases e2
  obtain ⟨its, rv, p1, la⟩ := seqk_at I1 hx
  obtain ⟨its2, rv2, p2, lb⟩ := seqk_at I1 hy
  refine zip_begins2 (begins_k j a its.toArray) (begins_k k b its2.toArray) p1 p2 fun h' hz hTI hTO o1 o2 hsz hk => wpAny_pyIter_zip hz ?_
  have I2 : Inv X pins σ H1 { s1 with heap := h' } := I1.kept (t' := s1.toks) hk
  refine ⟨_, [s1.heap.objs.size + 4, s1.heap.objs.size + 2, s1.heap.objs.size + 3, s1.heap.objs.size, s1.heap.objs.size + 1], _, _, H1, rfl, I2, turn_zipK (apart5_of s1.heap.objs.size a b la lb), ⟨hz, hTI, ⟨_, _, hTO⟩, iterObj.is o1, iterObj.is o2⟩, fun c hcm => ?_, q⟩
  have hle : s1.heap.objs.size ≤ c := by
    rcases (show c = s1.heap.objs.size + 4 ∨ c = s1.heap.objs.size + 2 ∨ c = s1.heap.objs.size + 3 ∨ c = s1.heap.objs.size ∨ c = s1.heap.objs.size + 1 by simpa using hcm) with z | z | z | z | z <;> rw [z] <;> first | exact Nat.le_add_right _ _ | exact Nat.le_refl _
  exact I1.fpOk hle (I1.hok.fresh hle)
theorem walk_zipK {j k : Bool} {K : PySem.W.Frag} {a b : Addr} {xs ys : List V} (hl : xs.length = ys.length) :
    Walk (ItzK j k K a b) xs.length (fun H => SqK j K H a xs ∧ SqK k K H b ys) (YPair (fun i => xs[i]?) (fun i => ys[i]?)) := by
  refine ⟨fun i _ hi q => ?_, fun _ q => ⟨xs, ys, q.1, q.2, Nat.le_refl _, by omega, .inl rfl⟩, fun i H v H' _ q y => ?_⟩
  · exact ⟨xs, ys, xs[i], ys[i], q.1, q.2, by simp [hi], by simp [show i < ys.length by omega]⟩
  · obtain ⟨T, x, z, h1, h2, h3, h4, h5⟩ := y
    exact ⟨T, x, z, h1, h2, h3, h4 xs q.1, h5 ys q.2⟩
end K28
end

section
set_option Elab.async false
set_option maxRecDepth 100000
set_option maxHeartbeats 4000000
namespace K28
open PySem PySem.Spec PyProof.Rows L2 Evl
theorem meets_enum1 {v : Value} {ob : Obj} {G : Heap → Prop} (B : Begins v ob G) :
    Meets (Builtin.«enumerate.__new__» ⟨[.type "enumerate", v], []⟩) (fun _ R s => G s.heap ∧
      R (.ok (.ret (.ref (s.heap.push ob).objs.size))) { s with heap := (s.heap.push ob).push { cls := .type "enumerate", data := .fields #[.none, .bool false, .ref s.heap.objs.size, rawInt 0, .none, .none] } }) :=
  .of_wp fun prog w A R s h => by
    obtain ⟨hp, g, d, tk, os⟩ := s
    obtain ⟨hG, hR⟩ := h
    have hsub := sub_enumerate
    have begin_ : ∀ {A' : Around} {E : Value → Shared → Prop} {Q : Value → Shared → Prop}, Q (.ref hp.objs.size) ⟨hp.push ob, g, d, tk, os⟩ → wpAny (model prog w) A' (pyIter v) Q E ⟨hp, g, d, tk, os⟩ :=
      fun q => B.iter prog w _ _ ⟨hp, g, d, tk, os⟩ _ hG q
    wp_walk using begin_
    refine wpAny_stack_any fun st => wpAny_pure ?_
    split
    · rename_i c _ _ _ _ _
      cases (c == Value.type "enumerate") <;> (wp_walk using begin_; exact ⟨_, rfl, hR⟩)
    · wp_walk using begin_
      exact ⟨_, rfl, hR⟩
section
variable {prog : Program} {w : World} {A : Around} {E : Value → Shared → Prop} {s : Shared}
theorem enum_begins1 {v : Value} {ob : Obj} {G : Heap → Prop} {Q : Value → Shared → Prop} (B : Begins v ob G) (hG : G s.heap)
    (h : ∀ h', IsEnum h' (s.heap.objs.size + 1) s.heap.objs.size 0 .none → h'.get? s.heap.objs.size = some ob → (∀ b o, s.heap.get? b = some o → h'.get? b = some o) → Q (.ref (s.heap.objs.size + 1)) { s with heap := h' }) :
    wpAny (model prog w) A (call (.type "enumerate") [v]) Q E s := by
  refine callType_new F.called_enumerate (by decide) (F.typeCall_enumerate_1 _) (F.newCall_enumerate_1 _) (fun obj => F.args_object_init_2 obj _) F.entry_enumerate_new (meets_enum1 B) ⟨hG, ?_⟩
  have hz : (s.heap.push ob).objs.size = s.heap.objs.size + 1 := Heap.size_push ..
  show _ ∧ _
  rw [hz]
  have he : IsEnum ((s.heap.push ob).push { cls := .type "enumerate", data := .fields #[.none, .bool false, .ref s.heap.objs.size, rawInt 0, .none, .none] }) (s.heap.objs.size + 1) s.heap.objs.size 0 .none := by
    have q := Heap.get?_push_size (s.heap.push ob) (o := { cls := .type "enumerate", data := .fields #[.none, .bool false, .ref s.heap.objs.size, rawInt 0, .none, .none] }) rfl
    rw [hz] at q
    exact q
  exact ⟨⟨_, he, rfl⟩, h _ he (Heap.get?_push_of_some _ (Heap.get?_push_size _ B.free)) fun b o x => Heap.get?_push_of_some _ (Heap.get?_push_of_some _ x)⟩
end
/-- what enumerate hands out -/
def IteK (k : Bool) (K : PySem.W.Frag) (a : Addr) : It :=
  ⟨fun i H => ∃ (xs : List V) (x : V), SqK k K H a xs ∧ xs[i]? = some x,
    fun i H v H' => ∃ T x, v = .ref T ∧ H T = none ∧ H' = upd H T (.tup [.int (i : Nat), x]) ∧ ∀ xs, SqK k K H a xs → xs[i]? = some x,
    fun i H => ∃ xs : List V, SqK k K H a xs ∧ i = xs.length⟩
theorem turn_enumK {P : Program} {w : World} {K : PySem.W.Frag} {elts : List Expr} {kk : Nat} {tpos : Pos} {k : Bool} {a e it : Addr} (hea : e ≠ a) (hai : a ≠ it) (hei : e ≠ it) :
    Turn P w K (.Tuple elts kk tpos) (IteK k K a) [e, it] e (fun i h => (∃ old, IsEnum h e it ((i : Nat) : Int) old) ∧ hasIter k h it a i) where
  mem := by simp
  obj := fun i h st b hb => by
    obtain ⟨⟨old, he⟩, hi⟩ := st
    rcases (show b = e ∨ b = it by simpa using hb) with z | z <;> rw [z]
    · exact ⟨_, he, fun v q => nomatch q⟩
    · exact hi.obj
  keep := fun i h h' st q => let ⟨⟨old, he⟩, hi⟩ := st; ⟨⟨old, q e (by simp) _ he⟩, hi.stay fun o r => q it (by simp) o r⟩
  item := by
    intro X hP hw hK hc i pins s σ H E I hf st hg
    subst hP hw hK
    obtain ⟨⟨old, he⟩, hit⟩ := st
    obtain ⟨xs, x, hq, hx⟩ := hg
    obtain ⟨its, rv, p, la⟩ := seqk_at I hq
    have hd := I.ok.hd hc
    have l1 : i < its.toArray.size := by
      have := (List.getElem?_eq_some_iff.mp hx).1
      rw [rv.length] at this
      simpa using this
    have le := Heap.lt_size he
    have li : it < s.heap.objs.size := let ⟨_, r, _⟩ := hit.obj; Heap.lt_size r
    refine wpAny_pyNext_enum_itemD (draws_k (show X.A.in1.handled = none from hd) k it a hai its.toArray) he ⟨hit, p⟩ l1 hei (by simp [hea, hei]) fun u h' tk e1 ho g1 hT hsz hk => ?_
    refine ⟨_, rfl, wpAny_letOwnedTupleGo_enum (s := { s with heap := h', toks := tk + 1 }) ho fun h'' he' sb => ?_⟩
    obtain ⟨v1, hv1, r1⟩ := rv.get hx
    have q1 : v1 = u := by
      have e1' : its[i]? = some u := by simpa using e1
      rw [hv1] at e1'
      exact Option.some.inj e1'
    subst q1
    have hT2 : h''.get? s.heap.objs.size = some { cls := .type "tuple", data := .seq #[.int i tk, v1] } := (sb.2 _ (Nat.ne_of_gt le)).trans hT
    have new : ObjOk X.prog X.w (upd H s.heap.objs.size (.tup [.int (i : Nat), x])) h'' s.heap.objs.size (.tup [.int (i : Nat), x]) :=
      ⟨by show 2 ≤ sizeLine; decide, [.int i tk, v1], .cons ⟨_, rfl⟩ (.cons r1 .nil), ⟨_, hT2, rfl, _, rfl⟩⟩
    have I1 : Inv X pins σ (upd H s.heap.objs.size (.tup [.int (i : Nat), x])) { s with heap := h'', toks := tk + 1 } :=
      I.turnedNew (ch := [e, it]) (fun b ob hb q => (sb.2 b (fun z => hb (by simp [z]))).trans (hk b ob (fun z => hb (by simp [z])) (fun z => hb (by simp [z])) q)) hf (Nat.le_refl _) new
    refine ⟨.ref s.heap.objs.size, _, I1, rfl, ⟨_, x, rfl, I.hok.fresh (Nat.le_refl _), rfl, fun ys hy => by rw [seqk_inj I hy hq]; exact hx⟩, ⟨⟨v1, ?_⟩, g1.1.stay fun o q => (sb.2 it (Ne.symm hei)).trans q⟩, fun b hb => ?_⟩
    · have e1 : ((i + 1 : Nat) : Int) = (i : Int) + 1 := by omega
      rw [e1]
      exact he'
    · have hb' : b < s.heap.objs.size := by
        rcases (show b = e ∨ b = it by simpa using hb) with z | z <;> rw [z] <;> assumption
      rw [upd_ne (Nat.ne_of_lt hb')]
      exact (hf b hb).1
  done := by
    intro X hP hw hK hc i pins s σ H E I hf st hg
    subst hP hw hK
    obtain ⟨⟨old, he⟩, hit⟩ := st
    obtain ⟨xs, hq, hx⟩ := hg
    obtain ⟨its, rv, p, la⟩ := seqk_at I hq
    have hd := I.ok.hd hc
    have hl := rv.length
    have ei : i = its.toArray.size := by simp; omega
    refine wpAny_pyNext_enum_endD (draws_k (show X.A.in1.handled = none from hd) k it a hai its.toArray) he (by rw [← ei]; exact ⟨hit, p⟩) fun h' eb => ⟨rfl, ?_⟩
    obtain ⟨f0, f1, f2, f3, f4, f5⟩ := hf it (by simp)
    exact I.turned (t' := s.toks) (fun b o hb q => eb b o hb q) f0 f1 f3 f4 f5
  self := fun A i s Q E st h => let ⟨⟨_, he⟩, _⟩ := st; wpAny_pyIter_enum he h
def iEnumA (K : PySem.W.Frag) (ta : TA) : TI := fun σ H R => ta σ H fun vs H1 => ∃ (k : Bool) (a : Addr) (xs : List V), vs = [.ref a] ∧ SqK k K H1 a xs ∧ R (IteK k K a) H1
theorem pi_enumA {X : Cx} {e : Expr} {ta : TA} {p pos tpos : Pos} {elts : List Expr} {kk : Nat} (hg : Gl X "enumerate") (hm : X.mg "enumerate" = none) (ha : PA X [e] ta) (hs : starEach [e] X.env = [(false, eval e X.env)] := by rfl) :
    PI X (.Tuple elts kk tpos) (.Call (.Name "enumerate" p) [e] [] pos) (iEnumA X.K ta) := by
  refine ⟨fun pins s σ H R I h => Call_ (ld_blt I hg hm boot_enumerate (PyProof.Rows.callWith_type1 (thn (ha.run pos pins s σ H _ I h) fun us s1 ⟨vs, H1, I1, r1, q1⟩ => ?_) hs rfl))⟩
  obtain ⟨k, a, xs, rfl, hq, q⟩ := q1
  obtain ⟨v1, rfl, e1⟩ := vals1 r1
  cases e1
  obtain ⟨its, rv, p1, la⟩ := seqk_at I1 hq
  refine enum_begins1 (begins_k k a its.toArray) p1 fun h' he ho hk => wpAny_pyIter_enum he ?_
  have I2 : Inv X pins σ H1 { s1 with heap := h' } := I1.kept (t' := s1.toks) hk
  refine ⟨_, [s1.heap.objs.size + 1, s1.heap.objs.size], _, _, H1, rfl, I2, turn_enumK (Nat.ne_of_gt (Nat.lt_succ_of_lt la)) (Nat.ne_of_lt la) (Nat.succ_ne_self _), ⟨⟨.none, he⟩, iterObj.is ho⟩, fun b hb => ?_, q⟩
  have hle : s1.heap.objs.size ≤ b := by
    rcases (show b = s1.heap.objs.size + 1 ∨ b = s1.heap.objs.size by simpa using hb) with z | z <;> rw [z]
    · exact Nat.le_add_right _ _
    · exact Nat.le_refl _
  exact I1.fpOk hle (I1.hok.fresh hle)
theorem walk_enumK {k : Bool} {K : PySem.W.Frag} {a : Addr} {xs : List V} : Walk (IteK k K a) xs.length (fun H => SqK k K H a xs) (YPair (fun i => some (.int (i : Nat))) (fun i => xs[i]?)) := by
  refine ⟨fun i _ hi q => ⟨xs, xs[i], q, by simp [hi]⟩, fun _ q => ⟨xs, q, rfl⟩, fun i H v H' _ q y => ?_⟩
  obtain ⟨T, x, h1, h2, h3, h4⟩ := y
  exact ⟨T, .int (i : Nat), x, h1, h2, h3, rfl, h4 xs q⟩
def Itq (k : Bool) (K : PySem.W.Frag) (a : Addr) : It := match k with
  | false => Itl K a
  | true => Itt K a
def iSeq (K : PySem.W.Frag) (te : TE) : TI := fun σ H R => te σ H fun x H1 => ∃ (k : Bool) (a : Addr) (xs : List V), x = .ref a ∧ SqK k K H1 a xs ∧ R (Itq k K a) H1
theorem pi_seq {X : Cx} {tg l : Expr} {te : TE} (h1 : PE X l te) : PI X tg l (iSeq X.K te) := by
  refine ⟨fun pins s σ H R I h => thn (h1.run pins s σ H _ I h) fun v s1 ⟨x, H1, I1, r1, q1⟩ => ?_⟩
  obtain ⟨k, a, xs, rfl, hq, q⟩ := q1
  cases r1
  obtain ⟨its, rv, p, la⟩ := seqk_at I1 hq
  refine (begins_k k a its.toArray).iter _ _ _ _ s1 _ p ?_
  have I2 : Inv X pins σ H1 { s1 with heap := s1.heap.push (iterObj k a) } := I1.kept (t' := s1.toks) fun b o e => Heap.get?_push_of_some _ e
  have hi : hasIter k (s1.heap.push (iterObj k a)) s1.heap.objs.size a 0 := iterObj.is (Heap.get?_push_size _ (begins_k k a its.toArray).free)
  have fp : ∀ b ∈ [s1.heap.objs.size], FpOk X pins H1 b := fun b hb => by
    have e : b = s1.heap.objs.size := by simpa using hb
    subst e
    exact I1.fpOk (Nat.le_refl _) (I1.hok.fresh (Nat.le_refl _))
  cases k with
  | false => exact ⟨s1.heap.objs.size, [s1.heap.objs.size], _, _, H1, rfl, I2, turn_list a _, hi, fp, q⟩
  | true => exact ⟨s1.heap.objs.size, [s1.heap.objs.size], _, _, H1, rfl, I2, turn_tuple a _, hi, fp, q⟩
theorem walk_seq {k : Bool} {K : PySem.W.Frag} {a : Addr} {xs : List V} : Walk (Itq k K a) xs.length (fun H => SqK k K H a xs) (YAt xs) := by
  cases k with
  | false => exact walk_list
  | true => exact walk_tup
end K28
end

section
set_option Elab.async false
set_option maxRecDepth 100000
set_option maxHeartbeats 4000000
namespace K28
open PySem PySem.Spec PyProof.Rows L2 Evl
abbrev NK : Type := NestedKey
def AtomV : NK → V → Prop
  | .none, v => v = .non
  | .num i, v => v = .int i
  | .text x, v => v = .str x
  | .tup _, _ => False
def PartV (H : Hp) (k : NK) (v : V) : Prop := AtomV k v ∨ ∃ ks b ws, k = .tup ks ∧ v = .ref b ∧ H b = some (.tup ws) ∧ Paired AtomV ks ws
def KeyV (H : Hp) (k : NK) (v : V) : Prop := ∃ ks b ws, k = .tup ks ∧ v = .ref b ∧ H b = some (.tup ws) ∧ Paired (PartV H) ks ws
/-- the tuples of H stay -/
def TupIn (H H' : Hp) : Prop := ∀ b ws, H b = some (.tup ws) → H' b = some (.tup ws)
theorem TupIn.of_ex {H H' : Hp} (e : Ex H H') : TupIn H H' := fun b ws h => e b _ h
theorem TupIn.upd {H : Hp} {a : Addr} {o : HO} (h : ∀ ws, H a ≠ some (.tup ws)) : TupIn H (L2.upd H a o) := fun b ws e => by
  have hne : b ≠ a := fun z => by
    subst z
    exact h ws e
  rw [upd_ne hne]
  exact e
theorem PartV.mono {H H' : Hp} (t : TupIn H H') {k : NK} {v : V} (h : PartV H k v) : PartV H' k v := by
  rcases h with h | ⟨ks, b, ws, e1, e2, e3, e4⟩
  · exact .inl h
  · exact .inr ⟨ks, b, ws, e1, e2, t b ws e3, e4⟩
theorem KeyV.mono {H H' : Hp} (t : TupIn H H') {k : NK} {v : V} (h : KeyV H k v) : KeyV H' k v := by
  obtain ⟨ks, b, ws, e1, e2, e3, e4⟩ := h
  exact ⟨ks, b, ws, e1, e2, t b ws e3, Paired.mapP e4 fun _ _ z => z.mono t⟩
theorem atom_is {h : Heap} {k : NK} {v : V} {u : Value} (a : AtomV k v) (r : RelV v u) : NestedIs h k u ∧ k.depth = 0 := by
  cases k with
  | none =>
    cases (show v = .non from a)
    cases (show u = Value.none from r)
    exact ⟨.none, rfl⟩
  | num i =>
    cases (show v = .int i from a)
    obtain ⟨t, e⟩ := (show ∃ t, u = Value.int i t from r)
    subst e
    exact ⟨.int i t, rfl⟩
  | text x =>
    cases (show v = .str x from a)
    obtain ⟨t, e⟩ := (show ∃ t, u = Value.str x t from r)
    subst e
    exact ⟨.text x t, rfl⟩
  | tup ks => exact (show False from a).elim
theorem atoms_are {h : Heap} : ∀ {ks : List NK} {vs : List V} {us : List Value}, Paired AtomV ks vs → Vals vs us → NestedAll h ks us ∧ NestedKey.depthAll ks = 0
  | _, _, _, .nil, .nil => ⟨.nil, rfl⟩
  | _, _, _, .cons a p, .cons r q => by
    obtain ⟨h1, h2⟩ := atom_is (h := h) a r
    obtain ⟨h3, h4⟩ := atoms_are (h := h) p q
    exact ⟨.cons h1 h3, by simp only [NestedKey.depthAll]; omega⟩
section
variable {P : Program} {w : World} {H : Hp} {h : Heap}
theorem tup_at (ok : HOk P w H h) {b : Addr} {ws : List V} (e : H b = some (.tup ws)) : ∃ us : List Value, Vals ws us ∧ ∃ o n, h.get? b = some o ∧ o.cls = .type "tuple" ∧ o.data = .seq us.toArray n := by
  obtain ⟨_, its, r, o, h1, h2, n, h3⟩ := (show ObjOk P w H h b (.tup ws) from ok b _ e)
  exact ⟨its, r, o, n, h1, h2, h3⟩
theorem part_is (ok : HOk P w H h) {k : NK} {v : V} {u : Value} (a : PartV H k v) (r : RelV v u) : NestedIs h k u ∧ k.depth ≤ 1 := by
  rcases a with a | ⟨ks, b, ws, rfl, rfl, e, p⟩
  · obtain ⟨h1, h2⟩ := atom_is (h := h) a r
    exact ⟨h1, by omega⟩
  · cases (show u = Value.ref b from r)
    obtain ⟨us, rv, o, n, h1, h2, h3⟩ := tup_at ok e
    obtain ⟨h4, h5⟩ := atoms_are (h := h) p rv
    exact ⟨.tup h1 h2 h3 (by simpa using h4), by simp only [NestedKey.depth]; omega⟩
theorem parts_are (ok : HOk P w H h) : ∀ {ks : List NK} {vs : List V} {us : List Value}, Paired (PartV H) ks vs → Vals vs us → NestedAll h ks us ∧ NestedKey.depthAll ks ≤ 1
  | _, _, _, .nil, .nil => ⟨.nil, Nat.zero_le _⟩
  | _, _, _, .cons a p, .cons r q => by
    obtain ⟨h1, h2⟩ := part_is ok a r
    obtain ⟨h3, h4⟩ := parts_are ok p q
    exact ⟨.cons h1 h3, by simp only [NestedKey.depthAll]; omega⟩
theorem key_is (ok : HOk P w H h) {k : NK} {b : Addr} (a : KeyV H k (.ref b)) : (nestedKind P w).is h k b := by
  obtain ⟨ks, b', ws, rfl, e2, e, p⟩ := a
  cases e2
  obtain ⟨us, rv, o, n, h1, h2, h3⟩ := tup_at ok e
  obtain ⟨h4, h5⟩ := parts_are ok p rv
  exact ⟨.tup h1 h2 h3 (by simpa using h4), by simp only [NestedKey.depth]; omega⟩
end
/-- the object at a is o -/
def Exact (a : Addr) (o : Obj) : HO := .ext fun h => h.get? a = some o
theorem exact_ok {P : Program} {w : World} {H : Hp} {h : Heap} {a : Addr} {o : Obj} (e : h.get? a = some o) : ObjOk P w H h a (Exact a o) := ⟨e, ⟨o, e⟩, fun _ _ q k => k _ q⟩
theorem exact_at {P : Program} {w : World} {H : Hp} {h : Heap} {a : Addr} {o : Obj} (ok : HOk P w H h) (e : H a = some (Exact a o)) : h.get? a = some o := (ok a _ e).1
abbrev NdR (H : Hp) : NK × V → NK × Addr × Value → Prop := fun p q => p.1 = q.1 ∧ KeyV H p.1 (.ref q.2.1) ∧ RelV p.2 q.2.2
/-- o is a dict of these keys and values -/
def NDo (P : Program) (w : World) (H : Hp) (o : Obj) (kvs : List (NK × V)) : Prop :=
  ∃ es ep xs, o.ExactDict ∧ o.data = .dict es ep ∧ es.toList = xs.map (entryOfKey (nestedKind P w)) ∧ (xs.map (·.1)).Nodup ∧ kvs.length ≤ sizeLine ∧ Paired (NdR H) kvs xs
def NDk (P : Program) (w : World) (H : Hp) (a : Addr) (kvs : List (NK × V)) : Prop := (a == sysModules) = false ∧ ∃ o, H a = some (Exact a o) ∧ NDo P w H o kvs
section
variable {P : Program} {w : World} {H H' : Hp} {h : Heap} {a : Addr} {o : Obj} {kvs : List (NK × V)}
theorem NDo.mono (t : TupIn H H') (x : NDo P w H o kvs) : NDo P w H' o kvs := by
  obtain ⟨es, ep, xs, h1, h2, h3, h4, h5, h6⟩ := x
  exact ⟨es, ep, xs, h1, h2, h3, h4, h5, Paired.mapP h6 fun _ _ z => ⟨z.1, z.2.1.mono t, z.2.2⟩⟩
theorem NDk.mono (t : TupIn H H') (e : ∀ u, H a = some u → H' a = some u) (x : NDk P w H a kvs) : NDk P w H' a kvs := by
  obtain ⟨h0, o, h1, h2⟩ := x
  exact ⟨h0, o, e _ h1, h2.mono t⟩
theorem NDk.ex (e : Ex H H') (x : NDk P w H a kvs) : NDk P w H' a kvs := x.mono (TupIn.of_ex e) fun u q => e a u q
theorem NDk.upd {b : Addr} {u : HO} (x : NDk P w H a kvs) (hb : a ≠ b) (ht : ∀ ws, H b ≠ some (.tup ws)) : NDk P w (L2.upd H b u) a kvs := x.mono (TupIn.upd ht) fun u q => by rw [upd_ne hb]; exact q
theorem NDk.some' (x : NDk P w H a kvs) : ∃ u, H a = some u := let ⟨_, _, h, _⟩ := x; ⟨_, h⟩
theorem nd_noTup (x : NDk P w H a kvs) : ∀ ws, H a ≠ some (.tup ws) := fun ws e => by
  obtain ⟨_, o, h1, _⟩ := x
  rw [h1] at e
  cases e
theorem nd_mut (x : NDk P w H a kvs) : Mut (H a) := by
  obtain ⟨_, o, h1, _⟩ := x
  rw [h1]
  exact True.intro
theorem nd_val {xs : List (NK × Addr × Value)} (r : Paired (NdR H) kvs xs) (k : NK) : RelO (valV kvs k) ((atKey xs k).map (·.2)) := by
  induction r with
  | nil => exact True.intro
  | @cons p q ps qs h t ih =>
    obtain ⟨h1, _, h2⟩ := h
    by_cases e : p.1 = k
    · have e' : q.1 = k := h1.symm.trans e
      have b : atKey (q :: qs) k = some q.2 := by simp [atKey, List.find?_cons, e']
      rw [valV_pos e, b]; exact h2
    · have e' : ¬ q.1 = k := fun z => e (h1.trans z)
      have b : atKey (q :: qs) k = atKey qs k := by simp [atKey, List.find?_cons, e']
      rw [valV_neg e, b]; exact ih
theorem nd_repl {xs : List (NK × Addr × Value)} (r : Paired (NdR H) kvs xs) (k : NK) {y : V} {u : Value} (ry : RelV y u) : Paired (NdR H) (kvs.map fun kv => if kv.1 = k then (kv.1, y) else kv) (xs.map (putAt k u)) := by
  induction r with
  | nil => exact .nil
  | @cons p q ps qs h t ih =>
    rw [List.map_cons, List.map_cons]
    refine .cons ?_ ih
    obtain ⟨h1, h2, h3⟩ := h
    unfold putAt
    by_cases e : p.1 = k
    · rw [if_pos e, if_pos (h1.symm.trans e)]; exact ⟨h1, h2, ry⟩
    · rw [if_neg e, if_neg (fun z => e (h1.trans z))]; exact ⟨h1, h2, h3⟩
theorem nd_put {xs : List (NK × Addr × Value)} (r : Paired (NdR H) kvs xs) (k : NK) {b : Addr} {y : V} {u : Value} (hb : KeyV H k (.ref b)) (ry : RelV y u) : Paired (NdR H) (putK kvs k y) (storedH xs k b u) := by
  have e : (kvs.any fun kv => decide (kv.1 = k)) = (atKey xs k).isSome := by
    rw [valV_any, (nd_val r k).isSome_eq, Option.isSome_map]
  unfold putK storedH
  rw [e]
  by_cases q : (atKey xs k).isSome = true
  · rw [if_pos q, if_pos q]; exact nd_repl r k ry
  · rw [if_neg q, if_neg q]; exact Paired.snoc r ⟨rfl, hb, ry⟩
/-- the raw dict -/
theorem nd_raw (ok : HOk P w H h) (x : NDk P w H a kvs) : ∃ xs, Paired (NdR H) kvs xs ∧ kvs.length ≤ sizeLine ∧ h.DictOfH (nestedKind P w) a xs := by
  obtain ⟨_, o, e, es, ep, xs, h1, h2, h3, h4, h5, h6⟩ := x
  have all : ∀ {l : List (NK × V)} {m : List (NK × Addr × Value)}, Paired (NdR H) l m → ∀ x ∈ m, (nestedKind P w).is h x.1 x.2.1 := by
    intro l m q
    induction q with
    | nil => intro x hx; exact nomatch hx
    | @cons p q ps qs hq t ih =>
      intro x hx
      rcases List.mem_cons.mp hx with e | hx
      · subst e
        exact key_is ok (by rw [← hq.1]; exact hq.2.1)
      · exact ih x hx
  exact ⟨xs, h6, h5, o, es, ep, exact_at ok e, h1, h2, h3, all h6, h4⟩
/-- .. and back -/
theorem nd_back {xs : List (NK × Addr × Value)} (hx : h.DictOfH (nestedKind P w) a xs) (hz : kvs.length ≤ sizeLine) (r : Paired (NdR H) kvs xs) : ∃ o, h.get? a = some o ∧ NDo P w H o kvs := by
  obtain ⟨o, es, ep, h1, h2, h3, h4, _, h5⟩ := hx
  exact ⟨o, h1, es, ep, xs, h2, h3, h4, h5, hz, r⟩
end
theorem nroom {A : Around} (hu : A.units + 64 < cLine) : A.in1.units + 8 < cLine := by
  rw [Around.in1_units]
  omega
section
variable {X : Cx} {pins : List (Addr × Obj)} {σ : L2.St} {H : Hp} {s : Shared} {a : Addr} {kvs : List (NK × V)} {k : NK} {y v : V} {u r : Value} {A : Around} {E : Value → Shared → Prop}
theorem n_getItem {Q : Value → Shared → Prop} (hu : A.units + 64 < cLine) (I : Inv X pins σ H s) (x : NDk X.prog X.w H a kvs) (ky : KeyV H k y) (hv : valV kvs k = some v) (ry : RelV y u) (h : ∀ w' s', Inv X pins σ H s' → RelV v w' → Q w' s') :
    wpAny (model X.prog X.w) A (getItem (.ref a) u) Q E s := by
  obtain ⟨_, b, _, _, rfl, _⟩ := id ky
  cases (show u = Value.ref b from ry)
  obtain ⟨xs, rel, _, dd⟩ := nd_raw I.hok x
  obtain ⟨w', hw, rw'⟩ := RelO.some_of (v := v) (o := (atKey xs k).map (·.2)) (by rw [← hv]; exact nd_val rel k)
  obtain ⟨p, hp, hp2⟩ := Option.map_eq_some_iff.mp hw
  refine wpAny_getItem_heap (nroom hu) (key_is I.hok ky) dd hp ?_
  rw [hp2]
  exact h w' _ (I.tok _) rw'
theorem n_in {Q : Value → Shared → Prop} (hu : A.units + 64 < cLine) (I : Inv X pins σ H s) (x : NDk X.prog X.w H a kvs) (ky : KeyV H k y) (ry : RelV y u) (h : ∀ s', Inv X pins σ H s' → Q (.bool (valV kvs k).isSome) s') :
    wpAny (model X.prog X.w) A (compareOp .In u (.ref a)) Q E s := by
  obtain ⟨_, b, _, _, rfl, _⟩ := id ky
  cases (show u = Value.ref b from ry)
  obtain ⟨xs, rel, _, dd⟩ := nd_raw I.hok x
  refine wpAny_in_heap (nroom hu) (key_is I.hok ky) x.1 dd ?_
  have q := (nd_val rel k).isSome_eq
  rw [Option.isSome_map] at q
  rw [← q]
  exact h _ (I.tok _)
theorem n_notIn {Q : Value → Shared → Prop} (hu : A.units + 64 < cLine) (I : Inv X pins σ H s) (x : NDk X.prog X.w H a kvs) (ky : KeyV H k y) (ry : RelV y u) (h : ∀ s', Inv X pins σ H s' → Q (.bool (!(valV kvs k).isSome)) s') :
    wpAny (model X.prog X.w) A (compareOp .NotIn u (.ref a)) Q E s := by
  obtain ⟨_, b, _, _, rfl, _⟩ := id ky
  cases (show u = Value.ref b from ry)
  obtain ⟨xs, rel, _, dd⟩ := nd_raw I.hok x
  refine wpAny_notIn_heap (nroom hu) (key_is I.hok ky) x.1 dd ?_
  have q := (nd_val rel k).isSome_eq
  rw [Option.isSome_map] at q
  rw [← q]
  exact h _ (I.tok _)
theorem n_get {Q : Value → Shared → Prop} (hu : A.units + 64 < cLine) (I : Inv X pins σ H s) (x : NDk X.prog X.w H a kvs) (ky : KeyV H k y) (ry : RelV y u) (h : ∀ w' s', Inv X pins σ H s' → RelV ((valV kvs k).getD .non) w' → Q w' s') :
    wpAny (model X.prog X.w) A (call (.builtin "dict.get") [.ref a, u]) Q E s := by
  obtain ⟨_, b, _, _, rfl, _⟩ := id ky
  cases (show u = Value.ref b from ry)
  obtain ⟨xs, rel, _, dd⟩ := nd_raw I.hok x
  refine call_meetsIn F.slot_dict_get dd.typeIs F.entry_dict_get (F.args_dict_get_2 _ _) (meetsH_dict_get (nestedKind X.prog X.w) a b x.1) ⟨nroom hu, k, xs, key_is I.hok ky, dd, h _ _ (I.tok _) ?_⟩
  exact (nd_val rel k).getD (d := .non) (d' := .none) rfl
theorem n_setItem {Q : Unit → Shared → Prop} (hu : A.units + 64 < cLine) (I : Inv X pins σ H s) (x : NDk X.prog X.w H a kvs) (ky : KeyV H k y) (hz : kvs.length < sizeLine) (ry : RelV y u) (rv : RelV v r)
    (h : ∀ o s', NDk X.prog X.w (upd H a o) a (putK kvs k v) → Inv X pins σ (upd H a o) s' → Q () s') :
    wpAny (model X.prog X.w) A (setItem (.ref a) u r) Q E s := by
  obtain ⟨_, b, _, _, rfl, _⟩ := id ky
  cases (show u = Value.ref b from ry)
  obtain ⟨xs, rel, _, dd⟩ := nd_raw I.hok x
  have hzx : xs.length ≤ sizeLine := by rw [← Paired.length rel]; omega
  have hl : (putK kvs k v).length ≤ sizeLine := by have := length_putK kvs k v; omega
  refine wpAny_setItem_heap (hsz := hzx) (nroom hu) (key_is I.hok ky) dd fun h' dd' hs => ?_
  have t : TupIn H (upd H a (Exact a { cls := .none, data := .plain })) := TupIn.upd (nd_noTup x)
  obtain ⟨o, ho, q⟩ := nd_back (H := H) dd' hl (nd_put rel k ky rv)
  refine h (Exact a o) _ ⟨x.1, o, upd_same, q.mono (TupIn.upd (nd_noTup x))⟩ ?_
  exact d_write I (nd_mut x) hs ⟨o, ho⟩ (exact_ok ho)
end
/-! ### rules -/
def tNGet (P : Program) (w : World) (td ty : TE) : TE := fun σ H Q => td σ H fun x H1 => ty σ H1 fun y H2 => ∃ a kvs k v, x = .ref a ∧ NDk P w H2 a kvs ∧ KeyV H2 k y ∧ valV kvs k = some v ∧ Q v H2
def tNIn (P : Program) (w : World) (ty td : TE) : TE := fun σ H Q => ty σ H fun y H1 => td σ H1 fun x H2 => ∃ a kvs k, x = .ref a ∧ NDk P w H2 a kvs ∧ KeyV H2 k y ∧ Q (.bl (valV kvs k).isSome) H2
def tNNotIn (P : Program) (w : World) (ty td : TE) : TE := fun σ H Q => ty σ H fun y H1 => td σ H1 fun x H2 => ∃ a kvs k, x = .ref a ∧ NDk P w H2 a kvs ∧ KeyV H2 k y ∧ Q (.bl (!(valV kvs k).isSome)) H2
def tNGet1 (P : Program) (w : World) (td ty : TE) : TE := fun σ H Q => td σ H fun x H1 => ∃ a kvs, x = .ref a ∧ NDk P w H1 a kvs ∧ ty σ H1 fun y H2 => ∃ k, NDk P w H2 a kvs ∧ KeyV H2 k y ∧ Q ((valV kvs k).getD .non) H2
def sNPut (P : Program) (w : World) (td ty tv : TE) : TS := fun D σ H => tv σ H fun v H1 => td σ H1 fun x H2 => ty σ H2 fun y H3 => ∃ a kvs k, x = .ref a ∧ NDk P w H3 a kvs ∧ KeyV H3 k y ∧ kvs.length < sizeLine ∧
  ∀ o, NDk P w (upd H3 a o) a (putK kvs k v) → D.nx σ (upd H3 a o)
def tNNew (P : Program) (w : World) : TE := fun _ H Q => ∀ p o, H p = none → NDk P w (upd H p o) p [] → Q (.ref p) (upd H p o)
section
variable {X : Cx} {o i e value : Expr} {pos pos' tpos apos cpos : Pos} {td ty tv : TE}
theorem pe_nget (hu : X.A.units + 64 < cLine) (ho : PE X o td) (hi : PE X i ty) (hs : NoSl i) : PE X (.Subscript o i pos) (tNGet X.prog X.w td ty) := by
  refine ⟨fun pins s σ H Q I h => ?_⟩
  refine subD_of PySem.F.slot_dict_getitem.lookup hs (thn (ho.run pins s σ H _ I h) fun u s1 ⟨x, H1, I1, rx, q1⟩ => thn (hi.run pins s1 σ H1 _ I1 q1) fun iv s2 ⟨y, H2, I2, ry, a, kvs, k, v, ex, nd, ky, hv, q2⟩ => ?_)
  subst ex
  obtain rfl : u = Value.ref a := rx
  obtain ⟨xs, rel, _, dd⟩ := nd_raw I2.hok nd
  exact ⟨dd.typeIs, n_getItem hu I2 nd ky hv ry fun w' s3 I3 rw' => ⟨v, H2, I3, rw', q2⟩⟩
theorem pc_nin (hu : X.A.units + 64 < cLine) (hi : PE X i ty) (ho : PE X o td) : PC X .In i o (tNIn X.prog X.w ty td) := by
  refine ⟨fun pins s σ H Q I h => ?_⟩
  refine thn (hi.run pins s σ H _ I h) fun iv s1 ⟨y, H1, I1, ry, q1⟩ => thn (ho.run pins s1 σ H1 _ I1 q1) fun u s2 ⟨x, H2, I2, rx, a, kvs, k, ex, nd, ky, q2⟩ => ?_
  subst ex
  obtain rfl : u = Value.ref a := rx
  exact n_in hu I2 nd ky ry fun s3 I3 => ⟨.bl _, H2, I3, rfl, q2⟩
theorem pc_nnotin (hu : X.A.units + 64 < cLine) (hi : PE X i ty) (ho : PE X o td) : PC X .NotIn i o (tNNotIn X.prog X.w ty td) := by
  refine ⟨fun pins s σ H Q I h => ?_⟩
  refine thn (hi.run pins s σ H _ I h) fun iv s1 ⟨y, H1, I1, ry, q1⟩ => thn (ho.run pins s1 σ H1 _ I1 q1) fun u s2 ⟨x, H2, I2, rx, a, kvs, k, ex, nd, ky, q2⟩ => ?_
  subst ex
  obtain rfl : u = Value.ref a := rx
  exact n_notIn hu I2 nd ky ry fun s3 I3 => ⟨.bl _, H2, I3, rfl, q2⟩
theorem ps_nput (hu : X.A.units + 64 < cLine) (ho : PE X o td) (hi : PE X i ty) (hv : PE X value tv) (hs : swapsWith value (some (.Subscript o i pos')) pos.line X.env = pure false) :
    PS X (.Assign [.Subscript o i pos'] value pos) (sNPut X.prog X.w td ty tv) := by
  refine ⟨fun pins s σ H D I h => ?_⟩
  refine wpAny_Assign_Subscript (thn (hv.run pins s σ H _ I h) fun r s1 ⟨v, H1, I1, rv, q1⟩ => thn (ho.run pins s1 σ H1 _ I1 q1) fun u s2 ⟨x, H2, I2, rx, q2⟩ => thn (hi.run pins s2 σ H2 _ I2 q2) fun iv s3 ⟨y, H3, I3, ry, a, kvs, k, ex, nd, ky, hz, q3⟩ => ?_) hs
  subst ex
  obtain rfl : u = Value.ref a := rx
  exact n_setItem hu I3 nd ky hz ry rv fun o s4 nd4 I4 => ⟨σ, _, I4, q3 o nd4⟩
theorem pe_nget1 (hu : X.A.units + 64 < cLine) (ho : PE X o td) (he : PE X e ty) (m : M1 X o "get" apos e cpos) : PE X (.Call (.Attribute o "get" apos) [e] [] cpos) (tNGet1 X.prog X.w td ty) := by
  refine ⟨fun pins s σ H Q I h => ?_⟩
  refine wpAny_Call_method m.base m.few m.line PySem.F.plainAttrs_dict PySem.F.slot_dict_get PySem.F.type_dict_get (thn (ho.run pins s σ H _ I h) fun u s1 ⟨x, H1, I1, rx, a, kvs, ex, nd, q1⟩ => ?_)
  subst ex
  obtain rfl : u = Value.ref a := rx
  obtain ⟨xs, rel, _, dd⟩ := nd_raw I1.hok nd
  refine ⟨dd.typeIs, fun b q => ?_, ?_⟩
  · cases q
    obtain ⟨ob, _, _, h1, h2, _⟩ := dd
    exact ⟨ob, h1, h2.2.1⟩
  · rw [m.trees]
    refine Calls.callWith_builtin rfl (Calls.evalArgs_plain (Calls.spliced_cons (thn (he.run pins s1 σ H1 _ I1 q1) fun iv s2 ⟨y, H2, I2, ry, k, nd2, ky, q2⟩ => Calls.spliced_nil ?_)))
    exact n_get hu I2 nd2 ky ry fun w' s3 I3 rw' => ⟨_, H2, I3, rw', q2⟩
abbrev emptyD : Obj := { cls := .type "dict", data := .dict #[] }
theorem nd_empty {P : Program} {w : World} {H : Hp} {p : Addr} (h : (p == sysModules) = false) : NDk P w (upd H p (Exact p emptyD)) p [] :=
  ⟨h, emptyD, upd_same, #[], 0, [], ⟨rfl, rfl, rfl⟩, rfl, rfl, List.nodup_nil, Nat.zero_le _, .nil⟩
theorem pe_nnew : PE X (.Dict [] [] pos) (tNNew X.prog X.w) := ⟨fun pins s σ H Q I h => by
  have hn := I.hok.fresh (Nat.le_refl s.heap.objs.size)
  have hg : (s.heap.push { cls := .type "dict", data := .dict #[] }).get? s.heap.objs.size = some { cls := .type "dict", data := .dict #[] } := Heap.get?_push_size _ rfl
  refine wpAny_Dict_empty ⟨.ref s.heap.objs.size, _, I.laid (a := s.heap.objs.size) (o := Exact s.heap.objs.size { cls := .type "dict", data := .dict #[] }) (t' := s.toks) (fun _ _ q => Heap.get?_push_of_some _ q) (Nat.le_refl _) (exact_ok hg), rfl, h _ _ hn (nd_empty (beq_eq_false_iff_ne.mpr (Ne.symm (Nat.ne_of_lt I.big))))⟩⟩
/-- {k: v} with one pair -/
def tNDisp1 (P : Program) (w : World) (ty tv : TE) : TE := fun σ H Q => ∀ p o, H p = none → NDk P w (upd H p o) p [] → ty σ (upd H p o) fun y H1 => tv σ H1 fun v H2 => ∃ k, NDk P w H2 p [] ∧ KeyV H2 k y ∧ ∀ o', NDk P w (upd H2 p o') p [(k, v)] → Q (.ref p) (upd H2 p o')
theorem pe_ndisp1 {k v : Expr} (hu : X.A.units + 64 < cLine) (hk : PE X k ty) (hv : PE X v tv) : PE X (.Dict [some k] [v] pos) (tNDisp1 X.prog X.w ty tv) := by
  refine ⟨fun pins s σ H Q I h => ?_⟩
  have hn := I.hok.fresh (Nat.le_refl s.heap.objs.size)
  have hg : (s.heap.push { cls := .type "dict", data := .dict #[] }).get? s.heap.objs.size = some { cls := .type "dict", data := .dict #[] } := Heap.get?_push_size _ rfl
  have I1 := I.laid (a := s.heap.objs.size) (o := Exact s.heap.objs.size { cls := .type "dict", data := .dict #[] }) (t' := s.toks) (fun _ _ q => Heap.get?_push_of_some _ q) (Nat.le_refl _) (exact_ok hg)
  have hq := h _ _ hn (nd_empty (beq_eq_false_iff_ne.mpr (Ne.symm (Nat.ne_of_lt I.big))))
  rw [arm_eval_Dict, zip_pairTrees [some k] [v] X.env pos rfl rfl, dictDisplay_pairs (pairTrees [some k] [v] X.env pos) (by simp [pairTrees]) (by simp [pairTrees])]
  refine wpAny_bind (wpAny_standAt (wpAny_bind (wpAny_subDictH (knd := nestedKind X.prog X.w) (show X.A.units + 8 < cLine by omega) (by simp [pairTrees]) ?_)))
  refine pairTrees_cons_walk (thn (hk.run pins _ σ _ _ I1 hq) fun kv s2 ⟨y, H1, I2, ry, q2⟩ => thn (hv.run pins s2 σ H1 _ I2 q2) fun vv s3 ⟨z, H2, I3, rz, kk, nd, ky, q3⟩ => pairTrees_nil_walk ?_)
  obtain ⟨_, b, _, _, rfl, _⟩ := id ky
  cases (show kv = Value.ref b from ry)
  obtain ⟨xs, rel, _, dd⟩ := nd_raw I3.hok nd
  cases rel
  refine ⟨[(kk, b, vv)], ⟨rfl, rfl, key_is I3.hok ky, True.intro⟩, dd, fun h' tk dx hs => wpAny_pure ?_⟩
  obtain ⟨o, ho, q⟩ := nd_back (H := H2) (kvs := [(kk, z)]) dx (by show 1 ≤ sizeLine; decide) (.cons ⟨rfl, ky, rz⟩ .nil)
  refine ⟨.ref s.heap.objs.size, _, d_write (t' := tk) I3 (nd_mut nd) hs ⟨o, ho⟩ (exact_ok ho), rfl, q3 _ ⟨nd.1, o, upd_same, q.mono (TupIn.upd (nd_noTup nd))⟩⟩
end
end K28
end

section
set_option Elab.async false
set_option maxRecDepth 100000
set_option maxHeartbeats 4000000
namespace K28
open PySem PySem.Spec PyProof.Rows L2 Evl
theorem call_isND {X : Cx} : CallR X (.builtin "isinstance") (fun xs H Q => ∃ a kvs, xs = [.ref a, .ty "dict"] ∧ NDk X.prog X.w H a kvs ∧ Q (.bl true) H) := by
  intro pins s σ H xs us Q I r h
  obtain ⟨a, kvs, rfl, nd, q⟩ := h
  obtain ⟨u1, u2, rfl, r1, r2⟩ := vals2 r
  cases (show u1 = Value.ref a from r1)
  cases (show u2 = Value.type "dict" from r2)
  obtain ⟨_, o, e, es, ep, xs, h1, _⟩ := nd
  exact PySem.W.kia_one PySem.W.kitx_dict I.kIn (show ∃ ob, s.heap.get? a = some ob ∧ ob.cls = .type "dict" from ⟨o, exact_at I.hok e, h1.1⟩) (kit_ty (by decide +kernel)) (fun z => nomatch z) fun tk => ⟨.bl true, H, I.tok tk, rfl, q⟩
/-- the pairs, each a new tuple -/
def Itn (P : Program) (w : World) (d : Addr) (o : Obj) (kvs : List (NK × V)) : It :=
  ⟨fun i H => H d = some (Exact d o) ∧ NDo P w H o kvs ∧ i < kvs.length,
    fun i H x H' => ∃ T q k v, kvs[i]? = some (k, v) ∧ x = .ref T ∧ H T = none ∧ H' = upd H T (.tup [.ref q, v]) ∧ KeyV H k (.ref q),
    fun i H => H d = some (Exact d o) ∧ NDo P w H o kvs ∧ kvs.length ≤ i⟩
theorem pair_at {α β : Type} {R : α → β → Prop} : ∀ {xs : List α} {ys : List β}, Paired R xs ys → ∀ {i : Nat} {x : α}, xs[i]? = some x → ∃ y, ys[i]? = some y ∧ R x y
  | _, _, .nil, i, x, h => by simp at h
  | _, _, .cons r t, 0, x, h => by
    simp only [List.getElem?_cons_zero, Option.some.injEq] at h
    subst h
    exact ⟨_, rfl, r⟩
  | _, _, .cons r t, i + 1, x, h => by
    simp only [List.getElem?_cons_succ] at h ⊢
    exact pair_at t h
section
variable {P : Program} {w : World} {K : PySem.W.Frag} {d : Addr} {o : Obj} {es : Array DictEntry} {ep : Nat}
theorem turn_itemsN {kvs : List (NK × V)} {elts : List Expr} {kk : Nat} {tpos : Pos} (it : Addr) (hod : o.data = .dict es ep) :
    Turn P w K (.Tuple elts kk tpos) (Itn P w d o kvs) [it] it (fun i h => ∃ ok ov, IsItemIter h it d i es.size ep ok ov) where
  mem := by simp
  obj := fun i h st b hb => by
    have e : b = it := by simpa using hb
    subst e
    obtain ⟨ok, ov, e⟩ := st
    exact ⟨_, e, fun v z => nomatch z⟩
  keep := fun i h h' st k => let ⟨ok, ov, e⟩ := st; ⟨ok, ov, k it (by simp) _ e⟩
  item := by
    intro X hP hw hK hc i pins s σ H E I hf st hg
    subst hP hw hK
    obtain ⟨hd, nd, hi⟩ := hg
    obtain ⟨es', ep', xs, h1, hdt, h3, h4, h5, h6⟩ := nd
    obtain ⟨rfl, rfl⟩ := dict_ep hod hdt
    have ho := exact_at I.hok hd
    obtain ⟨⟨k, v⟩, hkv⟩ : ∃ p, kvs[i]? = some p := ⟨kvs[i], List.getElem?_eq_getElem hi⟩
    obtain ⟨⟨k', q, u⟩, hx, e1, e2, e3⟩ := pair_at h6 hkv
    have hes : es'[i]? = some (entryOfKey (nestedKind X.prog X.w) (k', q, u)) := by rw [entry_at h3 i, hx]; rfl
    obtain ⟨hlt, hei⟩ := Array.getElem?_eq_some_iff.mp hes
    obtain ⟨ok, ov, he⟩ := st
    have hltI : it < s.heap.objs.size := Heap.lt_size he
    refine wpAny_pyNext_items_item_raw he ⟨o, ho, h1, hdt⟩ hlt fun h' ho' hT hz hk => ?_
    rw [hei] at ho' hT
    refine ⟨_, rfl, wpAny_letOwnedTupleGo_items (s := { s with heap := h' }) ho' fun h'' he' sb => ?_⟩
    have hT2 : h''.get? s.heap.objs.size = some { cls := .type "tuple", data := .seq #[.ref q, u] } := (sb.2 _ (Nat.ne_of_gt hltI)).trans hT
    have new : ObjOk X.prog X.w (upd H s.heap.objs.size (.tup [.ref q, v])) h'' s.heap.objs.size (.tup [.ref q, v]) :=
      ⟨by show 2 ≤ sizeLine; decide, [.ref q, u], .cons rfl (.cons e3 .nil), ⟨_, hT2, rfl, _, rfl⟩⟩
    have I1 : Inv X pins σ (upd H s.heap.objs.size (.tup [.ref q, v])) { s with heap := h'' } :=
      I.turnedNew (t' := s.toks) (ch := [it]) (fun b ob hb e => (sb.2 b (by simpa using hb)).trans (hk b ob (by simpa using hb) e)) hf (Nat.le_refl _) new
    refine ⟨.ref s.heap.objs.size, _, I1, rfl, ⟨_, q, k, v, hkv, rfl, I.hok.fresh (Nat.le_refl _), rfl, e2⟩, ⟨_, _, he'⟩, fun b hb => ?_⟩
    have e : b = it := by simpa using hb
    rw [e, upd_ne (Nat.ne_of_lt hltI)]
    exact (hf it (by simp)).1
  done := by
    intro X hP hw hK hc i pins s σ H E I hf st hg
    subst hP hw hK
    obtain ⟨hd, nd, hi⟩ := hg
    obtain ⟨f0, f1, f2, f3, f4, f5⟩ := hf it (by simp)
    obtain ⟨es', ep', xs, h1, hdt, h3, h4, h5, h6⟩ := nd
    obtain ⟨rfl, rfl⟩ := dict_ep hod hdt
    have ho := exact_at I.hok hd
    have hs := size_of_entries h3
    have hl : kvs.length = xs.length := Paired.length h6
    obtain ⟨ok, ov, he⟩ := st
    exact wpAny_pyNext_items_end_raw (I.ok.hd hc) he ⟨o, ho, h1, hdt⟩ (by omega) fun h' eb => ⟨rfl, I.turned (t' := s.toks) (fun b ob hb e => eb b ob hb e) f0 f1 f3 f4 f5⟩
  self := fun A i s Q E st h => let ⟨_, _, e⟩ := st; PySem.W.kcp_self e h
end
def iItemsN (P : Program) (w : World) (td : TE) : TI := fun σ H R => td σ H fun x H1 => ∃ d kvs, x = .ref d ∧ NDk P w H1 d kvs ∧ ∀ o, H1 d = some (Exact d o) → NDo P w H1 o kvs → R (Itn P w d o kvs) H1
theorem pi_itemsN {X : Cx} {e : Expr} {td : TE} {apos cpos : Pos} {elts : List Expr} {kk : Nat} {tpos : Pos} (he : PE X e td) (hbase : attributeBase e "items" X.env (eval e X.env) = eval e X.env := by rfl) (hline : (apos.endLine == cpos.line) = true := by rfl) :
    PI X (.Tuple elts kk tpos) (.Call (.Attribute e "items" apos) [] [] cpos) (iItemsN X.prog X.w td) := by
  refine ⟨fun pins s σ H R I h => ?_⟩
  refine wpAny_Call_method (T := "dict") (id := "dict.items") hbase rfl hline F.plainAttrs_dict F.slot_dict_items F.type_dict_items (thn (he.run pins s σ H _ I h) fun u s1 ⟨x, H1, I1, rx, d, kvs, ex, nd, q⟩ => ?_)
  subst ex
  obtain rfl : u = Value.ref d := rx
  obtain ⟨hs, o, hd, nd⟩ := nd
  have q := q o hd nd
  have ho := exact_at I1.hok hd
  obtain ⟨es, ep, xs, h1, hdt, h3, h4, h5, h6⟩ := nd
  refine ⟨⟨o, ho, h1.1⟩, fun b z => ?_, ?_⟩
  · cases z
    exact ⟨o, ho, h1.2.1⟩
  have I2 : Inv X pins σ H1 { s1 with heap := s1.heap.push { cls := .type "dict_items", data := .fields #[.ref d] } } := I1.kept (t' := s1.toks) fun b ob q => Heap.get?_push_of_some _ q
  have fin : wpAny (model X.prog X.w) X.A (pyIter (.ref s1.heap.objs.size)) (PIE X pins σ (.Tuple elts kk tpos) R) X.xe { s1 with heap := s1.heap.push { cls := .type "dict_items", data := .fields #[.ref d] } } := by
    refine wpAny_pyIter_items_raw (d := d) ⟨_, Heap.get?_push_size _ rfl, rfl, rfl⟩ (show Heap.DictRaw _ d es ep from ⟨o, Heap.get?_push_of_some _ ho, h1, hdt⟩) (pi_one (tk := s1.toks) I2 _ (turn_itemsN _ hdt) ⟨.none, .none, ?_⟩ q)
    exact Heap.get?_push_size _ rfl
  show wpAny _ _ (callWith cpos (.builtin "dict.items") [.ref d] [] []) _ X.xe s1
  exact method_meetsIn F.slot_dict_items F.entry_dict_items rfl (PySem.evalArgs_none ⟨rfl, ⟨o, ho, h1.1⟩, F.args_dict_items_1 _, _, meets_dict_items_raw d hs, ⟨es, ep, o, ho, h1, hdt⟩, fin⟩)
theorem walk_itemsN {P : Program} {w : World} {d : Addr} {o : Obj} {kvs : List (NK × V)} : Walk (Itn P w d o kvs) kvs.length (fun H => H d = some (Exact d o) ∧ NDo P w H o kvs)
    (fun i H x H' => ∃ T q k v, kvs[i]? = some (k, v) ∧ x = .ref T ∧ H T = none ∧ H' = upd H T (.tup [.ref q, v]) ∧ KeyV H k (.ref q)) :=
  ⟨fun _ _ hi q => ⟨q.1, q.2, hi⟩, fun _ q => ⟨q.1, q.2, Nat.le_refl _⟩, fun _ _ _ _ _ _ y => y⟩
/-! ### == of two such dicts -/
section
variable {prog : Program} {w : World} {A : Around} {E : Value → Shared → Prop} {s : Shared}
theorem nk_samePairs {nm : String} {a b : Addr} {xs ys : List (NK × Addr × Value)} {Q : Bool → Shared → Prop} (hu : A.units + 8 < cLine) (ha : (a == sysModules) = false) (hb : (b == sysModules) = false)
    (da : s.heap.DictOfH (nestedKind prog w) a xs) (db : s.heap.DictOfH (nestedKind prog w) b ys) (hl : xs.length = ys.length) (hits : ∀ x ∈ xs, ∃ p, atKey ys x.1 = some p ∧ SeqAt.EqAt A s x.2.2 p.2 true) (h : Q true s) :
    wpAny (model prog w) A (Builtin.Dict.samePairs nm a b) Q E s := by
  obtain ⟨oa, es, ep, hoa, _, hda, hea, hia, _⟩ := da
  obtain ⟨ob, es', ep', hob, _, hdb, heb, hib, hnb⟩ := db
  have hla : es.size = xs.length := size_of_entries hea
  have hlb : es'.size = ys.length := size_of_entries heb
  have hsz : es.size = es'.size := by omega
  unfold Builtin.Dict.samePairs Builtin.Dict.showsAll
  rw [if_neg (show ¬ (a == sysModules) = true by rw [ha]; exact Bool.false_ne_true), if_neg (show ¬ (b == sysModules) = true by rw [hb]; exact Bool.false_ne_true)]
  refine wpAny_bind (wpAny_pure (wpAny_bind (wpAny_pure ?_)))
  refine wpAny_bind (wpAny_dictEntries hoa hda ?_)
  dsimp only
  refine wpAny_bind (wpAny_dictEntries hob hdb ?_)
  rw [if_neg (by rw [hsz]; simp)]
  refine wpAny_bind (wpAny_dictEpoch hoa hda ?_)
  refine wpAny_bind ?_
  rw [Std.Legacy.Range.forIn_eq_forIn_range']
  simp only [Std.Legacy.Range.size, Nat.sub_zero, Nat.add_sub_cancel, Nat.div_one]
  refine wpAny_forIn_list _ (fun rest q s' => s' = s ∧ q = (none, ()) ∧ ∃ i, rest = List.range' i (es.size - i) ∧ i ≤ es.size) _ ?_ ?_ _ _ ⟨rfl, rfl, 0, by simp, Nat.zero_le _⟩
  · rintro x rest q s' ⟨rfl, rfl, i, hr, hi⟩
    have hlt : i < es.size := by
      rcases Nat.lt_or_ge i es.size with h | h
      · exact h
      · rw [Nat.sub_eq_zero_of_le h] at hr; simp at hr
    obtain ⟨rfl, hrest⟩ : x = i ∧ rest = List.range' (i + 1) (es.size - (i + 1)) := by
      have e : es.size - i = (es.size - (i + 1)) + 1 := by omega
      rw [e, List.range'_succ] at hr
      injection hr with h1 h2
      exact ⟨h1, h2⟩
    refine wpAny_bind (wpAny_dictEntries hoa hda ?_)
    have hltx : x < xs.length := by omega
    obtain ⟨k, kq, kv, hkq⟩ : ∃ k kq kv, xs[x] = (k, kq, kv) := ⟨_, _, _, rfl⟩
    have hx : xs[x]? = some (k, kq, kv) := by rw [List.getElem?_eq_getElem hltx, hkq]
    have hex : es[x]? = some (entryOfKey (nestedKind prog w) (k, kq, kv)) := by rw [entry_at hea x, hx]; rfl
    rw [hex]
    have hmem : (k, kq, kv) ∈ xs := List.mem_of_getElem? hx
    obtain ⟨p, hp, he⟩ := hits _ hmem
    refine wpAny_bind (wpAny_holding (wpAny_bind (wpAny_dictFind_heap (knd := nestedKind prog w) hu (hia _ hmem) hob hdb heb hib hnb (fun hn => ?_) fun j pj hj => ?_)))
    · exfalso
      rw [show atKey ys (k, kq, kv).1 = none from atKey_none_of_get hn] at hp
      cases hp
    · have ej : pj = p := by
        have := atKey_of_get hnb hj
        rw [show atKey ys k = some p from hp] at this
        exact (Option.some.inj this).symm
      subst ej
      have hej : es'[j]? = some (entryOfKey (nestedKind prog w) (k, pj)) := by rw [entry_at heb j, hj]; rfl
      refine wpAny_bind (wpAny_dictEntries hob hdb ?_)
      rw [hej]
      refine wpAny_holding (he prog w _ _ ?_)
      show wpAny _ _ (if (!true) = true then _ else _) _ _ _
      rw [if_neg (by decide)]
      refine wpAny_bind (wpAny_dictEpoch hoa hda ?_)
      rw [if_neg (by simp)]
      exact wpAny_pure ⟨rfl, rfl, x + 1, hrest, hlt⟩
  · rintro q s' ⟨rfl, rfl, i, hr, hi⟩
    exact wpAny_pure h
theorem nk_eq {a b : Addr} {xs ys : List (NK × Addr × Value)} {Q : Value → Shared → Prop} (hu : A.units + 64 < cLine) (ha : (a == sysModules) = false) (hb : (b == sysModules) = false)
    (da : s.heap.DictOfH (nestedKind prog w) a xs) (db : s.heap.DictOfH (nestedKind prog w) b ys) (hl : xs.length = ys.length) (hits : ∀ x ∈ xs, ∃ p, atKey ys x.1 = some p ∧ SeqAt.EqAt A.in1 s x.2.2 p.2 true) (h : Q (.bool true) s) :
    wpAny (model prog w) A (compareOp .Eq (.ref a) (.ref b)) Q E s := by
  refine wpAny_richCompare_same_room (op := .Eq) da.typeIs db.typeIs PySem.F.slot_dict_eq (wpAny_call_entry PySem.F.slot_dict_eq da.typeIs PySem.F.entry_dict_eq ?_ (PySem.F.args_dict_eq_2 _ _)) (by omega)
  show wpAny _ _ (Builtin.Dict.dictSlotArgs "__eq__" ⟨[.ref a, .ref b], []⟩ >>= _) _ _ s
  refine wpAny_bind ?_
  unfold Builtin.Dict.dictSlotArgs
  refine wpAny_bind (wpAny_notOrdered_dict da.typeIs ?_)
  show wpAny _ _ (pure (Value.ref a, Value.ref b)) _ _ s
  refine wpAny_pure ?_
  refine wpAny_bind (wpAny_isInstance (T := "dict") db.typeIs PySem.F.sub_dict_dict ?_)
  simp only [Bool.not_true, Bool.false_eq_true, if_false]
  refine wpAny_bind (wpAny_pure (wpAny_bind (wpAny_pure ?_)))
  refine wpAny_bind (nk_samePairs (nroom hu) ha hb da db hl hits ?_)
  refine wpAny_pure ⟨_, rfl, ?_, ?_⟩
  · exact fun x => nomatch x
  · simpa using h
end
theorem nd_ints {H : Hp} : ∀ {kvs : List (NK × V)} {xs : List (NK × Addr × Value)}, Paired (NdR H) kvs xs → ∀ x ∈ xs, ∃ v, (x.1, v) ∈ kvs ∧ RelV v x.2.2
  | _, _, .nil, x, hx => nomatch hx
  | _, _, .cons r t, x, hx => by
    rcases List.mem_cons.mp hx with e | hx
    · subst e
      exact ⟨_, by rw [← r.1]; exact List.mem_cons_self, r.2.2⟩
    · obtain ⟨v, h1, h2⟩ := nd_ints t x hx
      exact ⟨v, List.mem_cons_of_mem _ h1, h2⟩
/-- .. of ints, the same pairs -/
def rEqN (P : Program) (w : World) : R2 := fun x y H Q => ∃ a b ks ls, x = .ref a ∧ y = .ref b ∧ NDk P w H a ks ∧ NDk P w H b ls ∧ ks.length = ls.length ∧ (∀ p ∈ ks, ∃ i : Int, p.2 = .int i ∧ valV ls p.1 = some (.int i)) ∧ Q (.bl true) H
theorem op_eqN {X : Cx} (hu : X.A.units + 64 < cLine) : OpR X (compareOp .Eq) (rEqN X.prog X.w) := by
  intro pins s σ H x y v u Q I rx ry h
  obtain ⟨a, b, ks, ls, rfl, rfl, na, nb, hlen, hp, q⟩ := h
  obtain rfl : v = Value.ref a := rx
  obtain rfl : u = Value.ref b := ry
  obtain ⟨xs, ra, _, da⟩ := nd_raw I.hok na
  obtain ⟨ys, rb, _, db⟩ := nd_raw I.hok nb
  have hl : xs.length = ys.length := by rw [← Paired.length ra, ← Paired.length rb]; exact hlen
  refine nk_eq hu na.1 nb.1 da db hl (fun x hx => ?_) ⟨.bl true, H, I, rfl, q⟩
  obtain ⟨v, hv, rv⟩ := nd_ints ra x hx
  obtain ⟨i, e1, e2⟩ := hp _ hv
  have rr := nd_val rb x.1
  rw [e2] at rr
  cases q2 : atKey ys x.1 with
  | none =>
    rw [q2] at rr
    exact (show False from rr).elim
  | some p =>
    rw [q2] at rr
    have rr2 : RelV (.int i) p.2 := rr
    rw [show v = .int i from e1] at rv
    obtain ⟨t1, e3⟩ := rv
    obtain ⟨t2, e4⟩ := rr2
    refine ⟨p, rfl, ?_⟩
    rw [e3, e4]
    have z := SeqAt.EqAt.int_int (A := X.A.in1) (s := s) i t1 i t2
    have e5 : (i == i) = true := by simp
    first
      | exact z.cast (by simp)
      | (rw [e5] at z; exact z)
end K28
end

section
set_option Elab.async false
set_option maxRecDepth 100000
set_option maxHeartbeats 4000000
namespace K28
open PySem PySem.Spec PyProof.Rows L2 Evl
abbrev thk (P : Program) (w : World) (k : List Key) : Int := tupleKeyHash (mixKind P w) k
abbrev IsK (P : Program) (w : World) (h : Heap) (k : List Key) (a : Addr) : Prop := IsTupleKey (mixKind P w) h k a
section
variable {P : Program} {w : World} {A : Around} {E : Value → Shared → Prop} {s : Shared}

theorem items_kk {k : List Key} {vs : List Value} (h : ItemsAre (mixKind P w) k vs) : ∀ v ∈ vs, (∃ i t, v = Value.int i t) ∨ ∃ z t, v = Value.str z t := by
  induction h with
  | nil => intro v hv; cases hv
  | @cons k0 v' ks vs h1 _ ih =>
    intro v hv
    rcases List.mem_cons.mp hv with e | hv
    · have r := relV_key (show keyIs k0 v' = true from h1)
      subst e
      cases k0 with
      | inl i =>
        obtain ⟨t, e2⟩ := r
        exact .inl ⟨i, t, e2⟩
      | inr z =>
        obtain ⟨t, e2⟩ := r
        exact .inr ⟨z, t, e2⟩
    · exact ih v hv
theorem ofAClass_flat (n : Nat) {v : Value} (h : (∃ i t, v = Value.int i t) ∨ ∃ z t, v = Value.str z t) : ofAClassStatement n v = pure false := by
  rcases h with ⟨i, t, e⟩ | ⟨i, t, e⟩ <;> subst e <;> cases n <;> rfl
theorem hashBy_flat (n : Nat) {v : Value} (h : (∃ i t, v = Value.int i t) ∨ ∃ z t, v = Value.str z t) : hashByValue n v = pure true ∨ hashByValue n v = pure false := by
  rcases h with ⟨i, t, e⟩ | ⟨i, t, e⟩ <;> subst e
  · left; cases n <;> rfl
  · right; cases n <;> rfl
theorem ofAClassK {k : List Key} {b : Addr} {Q : Bool → Shared → Prop} (hk : IsK P w s.heap k b) (h : Q false s) : wpAny (model P w) A (ofAClassStatement 8 (.ref b)) Q E s := by
  have hT := hk.typeIs
  obtain ⟨o, items, n, ho, _, hd, hi⟩ := hk
  unfold ofAClassStatement
  refine wpAny_bind (wpAny_typeOf hT ?_)
  dsimp only
  have e : (("tuple" : String) == "tuple") = true := by decide
  simp only [e, if_true, Bool.not_true, Bool.false_eq_true, if_false]
  try refine wpAny_bind (wpAny_pure ?_)
  try simp only [Bool.not_true, Bool.false_eq_true, if_false]
  show wpAny _ _ (seqItems? (.ref b) >>= _) _ _ s
  refine wpAny_bind (wpAny_seqItems ho hd ?_)
  dsimp only
  refine wpAny_bind ?_
  show wpAny _ _ (forIn items _ _) _ _ s
  rw [← Array.forIn_toList]
  refine wpAny_forIn_list _ (fun rest r s' => r.1 = none ∧ s' = s ∧ ∀ v ∈ rest, (∃ i t, v = Value.int i t) ∨ ∃ z t, v = Value.str z t) _ ?_ ?_ _ _ ⟨rfl, rfl, items_kk hi⟩
  · rintro v rest r s' ⟨hr, rfl, hall⟩
    rw [ofAClass_flat _ (hall v List.mem_cons_self)]
    refine wpAny_bind (wpAny_pure ?_)
    simp only [Bool.false_eq_true, if_false]
    exact wpAny_pure ⟨rfl, rfl, fun u hu' => hall u (List.mem_cons_of_mem _ hu')⟩
  · rintro ⟨r1, r2⟩ s' ⟨hr, rfl, _⟩
    simp only at hr
    subst hr
    exact wpAny_pure h
theorem hashByK {k : List Key} {b : Addr} {Q : Bool → Shared → Prop} (hk : IsK P w s.heap k b) (h : ∀ r, Q r s) : wpAny (model P w) A (hashByValue 8 (.ref b)) Q E s := by
  have hT := hk.typeIs
  obtain ⟨o, items, n, ho, _, hd, hi⟩ := hk
  unfold hashByValue
  refine wpAny_bind (wpAny_specialOf hT F.slot_tuple_hash.lookup ?_)
  show wpAny _ _ (seqItems? (.ref b) >>= _) _ _ s
  refine wpAny_bind (wpAny_seqItems ho hd ?_)
  refine wpAny_bind ?_
  show wpAny _ _ (forIn items _ _) _ _ s
  rw [← Array.forIn_toList]
  refine wpAny_forIn_list _ (fun rest r s' => r.1 = none ∧ s' = s ∧ ∀ v ∈ rest, (∃ i t, v = Value.int i t) ∨ ∃ z t, v = Value.str z t) _ ?_ ?_ _ _ ⟨rfl, rfl, items_kk hi⟩
  · rintro v rest r s' ⟨hr, rfl, hall⟩
    rcases hashBy_flat 7 (hall v List.mem_cons_self) with e | e <;> rw [e] <;> refine wpAny_bind (wpAny_pure ?_)
    · simp only [Bool.not_true, Bool.false_eq_true, if_false]
      exact wpAny_pure ⟨rfl, rfl, fun u hu' => hall u (List.mem_cons_of_mem _ hu')⟩
    · simp only [Bool.not_false, if_true]
      exact wpAny_pure (wpAny_pure (h _))
  · rintro ⟨r1, r2⟩ s' ⟨hr, rfl, _⟩
    simp only at hr
    subst hr
    exact wpAny_pure (h _)
/-- a search among tuples shows nothing -/
theorem seenK {k : List Key} {b : Addr} {Q : Bool → Shared → Prop} (hk : IsK P w s.heap k b) {ys : List Value} (hy : ∀ y ∈ ys, ∃ k' c, y = Value.ref c ∧ IsK P w s.heap k' c) (h : Q false s) :
    wpAny (model P w) A (searchCouldBeSeen (.ref b) ys) Q E s := by
  unfold searchCouldBeSeen
  refine wpAny_bind ?_
  refine wpAny_forIn_list _ (fun rest r s' => r.1 = none ∧ s' = s ∧ ∀ y ∈ rest, ∃ k' c, y = Value.ref c ∧ IsK P w s.heap k' c) _ ?_ ?_ _ _ ⟨rfl, rfl, hy⟩
  · rintro v rest r s' ⟨hr, rfl, hall⟩
    obtain ⟨k', c, rfl, hc⟩ := hall v List.mem_cons_self
    have rest' : ∀ y ∈ rest, ∃ k' c, y = Value.ref c ∧ IsK P w s'.heap k' c := fun u hu' => hall u (List.mem_cons_of_mem _ hu')
    dsimp only
    by_cases hv : (b == c || (carriedByValue (.ref b) && carriedByValue (.ref c))) = true
    · refine wp_if_pos hv ?_
      exact wpAny_pure ⟨rfl, rfl, rest'⟩
    · refine wp_if_neg hv ?_
      refine wpAny_bind (wpAny_eqIsQuiet_tuple hk ?_)
      simp only [Bool.not_true, Bool.false_eq_true, if_false]
      refine wpAny_bind (wpAny_eqIsQuiet_tuple hc ?_)
      simp only [Bool.not_true, Bool.false_eq_true, if_false]
      refine wpAny_bind (ofAClassK hk ?_)
      simp only [Bool.false_eq_true, if_false]
      refine wpAny_bind (ofAClassK hc ?_)
      simp only [Bool.false_eq_true, if_false]
      exact wpAny_pure ⟨rfl, rfl, rest'⟩
  · rintro ⟨r1, r2⟩ s' ⟨hr, rfl, _⟩
    simp only at hr
    subst hr
    exact wpAny_pure h

/-! ### the set of tuples -/
def rowsK (P : Program) (w : World) (L : List (Addr × List Key)) : List (Int × Value) := L.map fun p => (thk P w p.2, Value.ref p.1)
structure SetK3 (P : Program) (w : World) (h : Heap) (a : Addr) (L : List (Addr × List Key)) (es : Array (Int × Value)) (ep : Nat) (t : SetTable) : Prop where
  ob : ∃ o, h.get? a = some o ∧ o.ExactSet ∧ o.data = .set es ep t
  rows : es.toList = rowsK P w L
  tab : TabOk t (L.map fun p => thk P w p.2)
  nd : (L.map (·.2)).Nodup
  tup : ∀ p ∈ L, IsK P w h p.2 p.1
  led : w.params.followText "set-order" = true ∨ t.led = true
  room : L.length * 5 < t.mask * 3
  few : L.length < 64
variable {a : Addr} {L : List (Addr × List Key)} {es : Array (Int × Value)} {ep : Nat} {t : SetTable}
theorem SetK3.size (R : SetK3 P w s.heap a L es ep t) : es.size = L.length := by
  have h := congrArg List.length R.rows
  unfold rowsK at h
  rw [Array.length_toList, List.length_map] at h
  exact h
theorem SetK3.fits (R : SetK3 P w s.heap a L es ep t) : t.fits es.size = true := by
  have h1 := R.tab.sz
  rw [List.length_map] at h1
  have h2 := R.size
  have h3 := R.room
  unfold SetTable.fits SetTable.fill
  rw [R.tab.dm, Bool.and_eq_true, beq_iff_eq, decide_eq_true_eq]
  show t.place.size = es.size ∧ t.place.size + 0 ≤ t.mask
  omega
theorem SetK3.entry (R : SetK3 P w s.heap a L es ep t) {i : Nat} {p : Addr × List Key} (h : L[i]? = some p) : es[i]? = some (thk P w p.2, Value.ref p.1) := by
  rw [← Array.getElem?_toList, R.rows]
  unfold rowsK
  rw [List.getElem?_map, h] <;> rfl
theorem SetK3.gw (R : SetK3 P w s.heap a L es ep t) : ¬ t.gaveWay = true := by
  unfold SetTable.gaveWay
  rw [mask_odd R.tab.mok]
  decide
/-- THE SEARCH: from the c-th step of the way on -/
theorem searchK (R : SetK3 P w s.heap a L es ep t) {x : Addr} {k : List Key} (hx : IsK P w s.heap k x) (hu : A.units < cLine) {K : Nat} (hKf : K < 10 * SetTable.turns t.mask)
    (hK : way t.mask (thk P w k) K ∉ t.place.toList) (hKb : ∀ c, c < K → way t.mask (thk P w k) c ∈ t.place.toList) {Q : SetFound → Shared → Prop}
    {ad : Bool} (hnk : k ∉ L.map (·.2)) (hout : Q (.free (way t.mask (thk P w k) K) false) s) :
    ∀ (f c : Nat) (stand : Option SetTable.Probe), stand.getD (t.probeStart (thk P w k)) = nth t.mask (runAt t.mask (SetTable.bits (thk P w k) % (t.mask + 1)) (SetTable.bits (thk P w k))) c → c ≤ K → K - c < f →
      wpAny (model P w) A (setSearchFrom a (.ref x) (thk P w k) ad f stand) Q E s
  | 0, c, stand, _, _, hf => absurd hf (Nat.not_lt_zero _)
  | f + 1, c, stand, hst, hc, hf => by
    obtain ⟨o, ho, hex, hd⟩ := R.ob
    rw [setSearchFrom_succ]
    refine wpAny_bind (wpAny_setState_of ho hd R.fits ?_)
    dsimp only
    refine wp_if_neg R.gw ?_
    try refine wpAny_bind (wpAny_pure ?_)
    have hnd : (nth t.mask (runAt t.mask (SetTable.bits (thk P w k) % (t.mask + 1)) (SetTable.bits (thk P w k))) c).dummy = none := by
      have key : ∀ (n : Nat) (p : SetTable.Probe), p.dummy = none → (nth t.mask p n).dummy = none := by
        intro n
        induction n with
        | zero => intro p h; exact h
        | succ n ih =>
          intro p h
          refine ih (adv t.mask p) ?_
          unfold adv
          split <;> exact h
      exact key c _ rfl
    have sh : ∀ q, nth t.mask (nth t.mask (runAt t.mask (SetTable.bits (thk P w k) % (t.mask + 1)) (SetTable.bits (thk P w k))) c) q = nth t.mask (runAt t.mask (SetTable.bits (thk P w k) % (t.mask + 1)) (SetTable.bits (thk P w k))) (c + q) := fun q => (nth_add t.mask c _ q).symm
    have e1 : ∀ q, (nth t.mask (nth t.mask (runAt t.mask (SetTable.bits (thk P w k) % (t.mask + 1)) (SetTable.bits (thk P w k))) c) q).j = way t.mask (thk P w k) (c + q) := fun q => congrArg SetTable.Probe.j (sh q)
    have spec := go_spec t R.tab.ris R.tab.dm (fun i => (es[i]?.map (·.1)).getD 0) (thk P w k) (10 * SetTable.turns t.mask) (K - c) _ hnd (by omega)
      (fun q hq => by rw [e1]; exact hKb (c + q) (by omega)) (by rw [e1, show c + (K - c) = K by omega]; exact hK)
    have hashAt : ∀ (i : Nat) p, L[i]? = some p → (fun i => (es[i]?.map (·.1)).getD 0) i = thk P w p.2 := fun i p hp => by
      show (es[i]?.map (·.1)).getD 0 = _
      rw [R.entry hp] <;> rfl
    rcases spec with ⟨q, i, hq, hi, hh, hno, hpr⟩ | ⟨hno, hpr⟩
    · -- a candidate
      have hpr' : t.probe (fun i => (es[i]?.map (·.1)).getD 0) (thk P w k) (stand.getD (t.probeStart (thk P w k))) = some (.candidate (way t.mask (thk P w k) (c + q)) i (nth t.mask (runAt t.mask (SetTable.bits (thk P w k) % (t.mask + 1)) (SetTable.bits (thk P w k))) (c + (q + 1)))) := by
        rw [hst, ← e1, ← sh]
        exact hpr
      rw [hpr']
      dsimp only
      rw [e1] at hi
      -- the entry
      have hil : i < L.length := by
        have h1 : i < t.place.toList.length := (List.getElem?_eq_some_iff.mp hi).1
        have h2 := R.tab.sz
        rw [List.length_map] at h2
        rw [Array.length_toList] at h1
        omega
      have hp : L[i]? = some L[i] := List.getElem?_eq_getElem hil
      generalize hpe : L[i] = p at hp
      have hmem : p ∈ L := List.mem_of_getElem? hp
      have hpt := R.tup p hmem
      have rest : wpAny (model P w) A (searchRest a (.ref x) (thk P w k) ad f es t (way t.mask (thk P w k) (c + q)) i (nth t.mask (runAt t.mask (SetTable.bits (thk P w k) % (t.mask + 1)) (SetTable.bits (thk P w k))) (c + (q + 1)))) Q E s := by
        unfold searchRest
        rw [R.entry hp]
        dsimp only
        refine wpAny_bind (wpAny_holding (wpAny_eqBool_tuple hu hpt hx ?_))
        refine wpAny_bind (wpAny_setState_of ho hd R.fits ?_)
        dsimp only
        by_cases hkk : p.2 = k
        · exact absurd (List.mem_map.mpr ⟨p, hmem, hkk⟩) hnk
        · refine wp_if_neg (by simp [hkk]) ?_
          try refine wpAny_bind (wpAny_pure ?_)
          rw [sameMem]
          dsimp only
          have hsl : t.slot (way t.mask (thk P w k) (c + q)) = .live i := slot_live R.tab.ris hi
          simp only [if_true, hsl, R.entry hp]
          refine wpAny_bind (wpAny_isSame_ref_self (wpAny_bind (wpAny_pure ?_)))
          simp only [if_true]
          refine wp_if_neg (by simp [hkk]) ?_
          exact searchK R hx hu hKf hK hKb hnk hout f (c + (q + 1)) _ rfl (by omega) (by omega)
      by_cases hl : t.led = true
      · refine wp_if_neg (by simp [hl]) ?_
        try refine wpAny_bind (wpAny_pure ?_)
        exact rest
      · refine wp_if_pos (by simp [hl]) ?_
        refine wpAny_bind (seenK hx (fun y hy => ?_) ?_)
        · obtain ⟨e, he, ee⟩ := List.mem_map.mp hy
          have he1 : e ∈ es ∧ e.1 = thk P w k := by simpa using he
          have he2 : e ∈ es.toList := by simpa using he1.1
          rw [R.rows] at he2
          obtain ⟨p2, hp2, e2⟩ := List.mem_map.mp he2
          refine ⟨p2.2, p2.1, ?_, R.tup p2 hp2⟩
          rw [← ee, ← e2]
        · refine wp_if_neg (by decide) ?_
          try refine wpAny_bind (wpAny_pure ?_)
          exact rest
    · -- the empty slot
      have hpr' : t.probe (fun i => (es[i]?.map (·.1)).getD 0) (thk P w k) (stand.getD (t.probeStart (thk P w k))) = some (.empty (way t.mask (thk P w k) K) none) := by
        have e2 : way t.mask (thk P w k) K = (nth t.mask (nth t.mask (runAt t.mask (SetTable.bits (thk P w k) % (t.mask + 1)) (SetTable.bits (thk P w k))) c) (K - c)).j := by
          rw [e1, show c + (K - c) = K by omega]
        rw [hst, e2]
        exact hpr
      rw [hpr']
      dsimp only
      exact wpAny_pure hout

/-- the search as adding asks for it -/
theorem searchAtK (R : SetK3 P w s.heap a L es ep t) {x : Addr} {k : List Key} (hx : IsK P w s.heap k x) (hu : A.units < cLine) {ad : Bool} {Q : SetFound → Shared → Prop} (hnk : k ∉ L.map (·.2))
    (hout : ∀ K, way t.mask (thk P w k) K ∉ t.place.toList → (∀ c, c < K → way t.mask (thk P w k) c ∈ t.place.toList) → Q (.free (way t.mask (thk P w k) K) false) s) :
    wpAny (model P w) A (setSearch a (.ref x) (thk P w k) ad) Q E s := by
  have hroom := R.room
  obtain ⟨K, hKf, hK, hKb⟩ := R.tab.first (by rw [List.length_map]; omega) (thk P w k)
  have hbig : K < 100000 := by
    have : 10 * SetTable.turns t.mask ≤ 1420 := by
      unfold SetTable.turns
      rcases R.tab.mok with e | e | e <;> omega
    omega
  unfold setSearch
  exact searchK R hx hu hKf hK hKb hnk (hout K hK hKb) 100000 0 none rfl (Nat.zero_le _) (by omega)
/-- k in the set: no -/
theorem findK (R : SetK3 P w s.heap a L es ep t) {x : Addr} {k : List Key} (hx : IsK P w s.heap k x) (hu : A.units < cLine) {Q : Option Nat → Shared → Prop} (hnk : k ∉ L.map (·.2)) (h : Q none s) :
    wpAny (model P w) A (setFind a (.ref x) (thk P w k)) Q E s := by
  obtain ⟨o, ho, hex, hd⟩ := R.ob
  have e : setFindIn a (.ref x) (thk P w k) (99999 + 1) = (do
    let (es, _, _) ← setState a
    if byScan (.ref x) es then
      rule "set.find.by-scan"
      match ← setScan a (.ref x) (thk P w k) false es with
      | .found i => return some i
      | .absent => return none
      | .anew => return ← setFindIn a (.ref x) (thk P w k) 99999
    match ← setSearch a (.ref x) (thk P w k) with
    | .there i => return i
    | .free .. => return none) := by rfl
  unfold setFind
  rw [show (100000 : Nat) = 99999 + 1 from rfl, e]
  refine wpAny_bind (wpAny_setState_of ho hd R.fits ?_)
  dsimp only
  refine wp_if_neg (by simp [byScan, Value.scannable]) ?_
  try refine wpAny_bind (wpAny_pure ?_)
  refine wpAny_bind (searchAtK (ad := false) R hx hu hnk fun K hK hb => ?_)
  exact wpAny_pure h
end

section
variable {P : Program} {w : World} {A : Around} {E : Value → Shared → Prop} {s : Shared}
/-- a tuple isn't the set -/
theorem isK_same {h h' : Heap} {k : List Key} {a b : Addr} {o : Obj} {es : Array (Int × Value)} {ep : Nat} {t : SetTable} (hb : IsK P w h k b) (ho : h.get? a = some o) (hd : o.data = .set es ep t) (hs : Heap.SameBut a h h') : IsK P w h' k b := by
  obtain ⟨o', items, n, ho', hc, hd', hi⟩ := hb
  have hne : b ≠ a := by
    rintro rfl
    obtain rfl : o' = o := Option.some.inj (ho'.symm.trans ho)
    rw [hd] at hd'
    exact nomatch hd'
  exact ⟨o', items, n, (hs.2 b hne).trans ho', hc, hd', hi⟩
theorem rowsK_put (L : List (Addr × List Key)) (p : Nat) (x : Addr) (k : List Key) : rowsK P w (L.take p ++ (x, k) :: L.drop p) = (rowsK P w L).take p ++ (thk P w k, Value.ref x) :: (rowsK P w L).drop p := by
  unfold rowsK
  rw [List.map_append, List.map_cons, List.map_take, List.map_drop]
theorem putK_perm {α : Type} (L : List α) (p : Nat) (x : α) : (L.take p ++ x :: L.drop p).Perm (x :: L) := by
  have h : (L.take p ++ x :: L.drop p).Perm (x :: (L.take p ++ L.drop p)) := List.perm_middle
  rw [List.take_append_drop] at h
  exact h
theorem orderK (L : List (Addr × List Key)) (es : Array (Int × Value)) (order : Array Nat) (hr : es.toList = rowsK P w L) (hp : order.toList.Perm (List.range L.length)) :
    ∃ L2, (order.filterMap (es[·]?)).toList = rowsK P w L2 ∧ L2.Perm L ∧ (L2.map fun p => thk P w p.2) = order.toList.map fun i => (es.map (·.1)).getD i 0 := by
  have hsz : es.size = L.length := by
    have h := congrArg List.length hr
    unfold rowsK at h
    rw [Array.length_toList, List.length_map] at h
    exact h
  have ent : ∀ i (h : i < L.length), es[i]? = some (thk P w (L[i]).2, Value.ref (L[i]).1) := fun i h => by
    rw [← Array.getElem?_toList, hr]
    unfold rowsK
    rw [List.getElem?_map, List.getElem?_eq_getElem h] <;> rfl
  have key : ∀ l : List Nat, (∀ i ∈ l, i < L.length) → ∃ L2 : List (Addr × List Key), l.filterMap (fun i => es[i]?) = rowsK P w L2 ∧ L2 = l.filterMap (fun i => L[i]?) ∧ (L2.map fun p => thk P w p.2) = l.map fun i => (es.map (·.1)).getD i 0 := by
    intro l
    induction l with
    | nil => intro _; exact ⟨[], rfl, rfl, rfl⟩
    | cons i l ih =>
      intro hl
      have hi := hl i List.mem_cons_self
      obtain ⟨L2, e1, e2, e3⟩ := ih fun j hj => hl j (List.mem_cons_of_mem _ hj)
      refine ⟨L[i] :: L2, ?_, ?_, ?_⟩
      · rw [List.filterMap_cons_some (ent i hi), e1] <;> rfl
      · rw [List.filterMap_cons_some (List.getElem?_eq_getElem hi), e2]
      · rw [List.map_cons, List.map_cons, e3]
        have hi2 : i < (es.map (·.1)).size := by rw [Array.size_map, hsz]; exact hi
        have e4 : (es.map (·.1)).getD i 0 = thk P w (L[i]).2 := by
          have e5 : (es.map (·.1))[i]? = some (thk P w (L[i]).2) := by rw [Array.getElem?_map, ent i hi] <;> rfl
          simp [Array.getD_eq_getD_getElem?, e5]
        rw [e4]
  obtain ⟨L2, e1, e2, e3⟩ := key order.toList fun i hi => List.mem_range.mp (hp.mem_iff.mp hi)
  refine ⟨L2, by first | (rw [Array.toList_filterMap]; exact e1) | simpa using e1, ?_, e3⟩
  have h1 : L2.Perm ((List.range L.length).filterMap fun i => L[i]?) := by
    rw [e2]
    exact hp.filterMap _
  have h2 : (List.range L.length).filterMap (fun i => L[i]?) = L := by
    have key2 : ∀ n, n ≤ L.length → (List.range n).filterMap (fun i => L[i]?) = L.take n := by
      intro n
      induction n with
      | zero => intro _; rfl
      | succ n ih =>
        intro hn
        have hlt : n < L.length := hn
        rw [List.range_succ, List.filterMap_append, ih (Nat.le_of_lt hlt), List.take_succ, List.getElem?_eq_getElem hlt]
        rw [List.filterMap_cons_some (List.getElem?_eq_getElem hlt)] <;> rfl
    rw [key2 L.length (Nat.le_refl _), List.take_length]
  rw [h2] at h1
  exact h1

variable {a : Addr} {L : List (Addr × List Key)} {es : Array (Int × Value)} {ep : Nat} {t : SetTable}
/-- the table laid anew, larger -/
theorem relayK {o : Obj} (ho : s.heap.get? a = some o) (hex : o.ExactSet) (hd : o.data = .set es ep t) (hrows : es.toList = rowsK P w L) (hsz : t.place.size = es.size) (hdm : t.dummies = #[]) (hfl : es.size ≤ t.mask)
    (nd : (L.map (·.2)).Nodup) (tup : ∀ p ∈ L, IsK P w s.heap p.2 p.1) (ld : w.params.followText "set-order" = true ∨ t.led = true) (few : L.length < 64) {wanted M : Nat}
    (hw : SetTable.sizeAbove wanted - 1 = M) (hM : MaskOk M) (hw2 : SetTable.sizeAbove wanted ≤ 128) (hn : L.length * 5 < M * 3) {Q : Unit → Shared → Prop}
    (hQ : ∀ h' L' es' ep' t', Heap.SameBut a s.heap h' → SetK3 P w h' a L' es' ep' t' → L'.Perm L → Q () { s with heap := h' }) : wpAny (model P w) A (setRelay a wanted) Q E s := by
  have hsl : es.size = L.length := by
    have h := congrArg List.length hrows
    unfold rowsK at h
    rw [Array.length_toList, List.length_map] at h
    exact h
  have hfits : t.fits es.size = true := by
    unfold SetTable.fits SetTable.fill
    rw [hdm, Bool.and_eq_true, beq_iff_eq, decide_eq_true_eq]
    show t.place.size = es.size ∧ t.place.size + 0 ≤ t.mask
    omega
  obtain ⟨t', order, e, hp, T, em, el, ep', ed⟩ := relaid_ok t (hs := es.map (·.1)) (wanted := wanted) hw hM (by rw [Array.size_map, hsl]; omega)
  rw [Array.size_map, hsl] at hp
  obtain ⟨L2, r1, r2, r3⟩ := orderK L es order hrows hp
  rw [← r3] at T
  have hs2 : (order.filterMap (es[·]?)).size = es.size := by
    have h := congrArg List.length r1
    unfold rowsK at h
    rw [Array.length_toList, List.length_map, r2.length_eq] at h
    rw [h, hsl]
  rw [setRelay_eq]
  refine wpAny_bind (wpAny_setState_of ho hd hfits ?_)
  dsimp only
  refine wp_if_neg (by rw [sizeLine_eq]; omega) ?_
  try refine wpAny_bind (wpAny_pure ?_)
  rw [e]
  dsimp only
  refine wpAny_bind ?_
  refine wp_if_neg (by rw [hs2]; simp) ?_
  try refine wpAny_bind (wpAny_pure ?_)
  refine wpAny_pure ?_
  dsimp only
  refine wpAny_storeSet_of ho hd ?_ (by rw [hs2, hsl, sizeLine_eq]; omega)
  have sb : Heap.SameBut a s.heap (s.heap.update a (Obj.putSet (order.filterMap (es[·]?)) t')) := Heap.SameBut.update ..
  refine hQ _ L2 (order.filterMap (es[·]?)) (ep + 1) t' sb ?_ r2
  refine ⟨⟨_, store_at ho hd, ⟨hex.1, hex.2.1, hex.2.2⟩, rfl⟩, r1, T, ?_, fun p hpm => isK_same (tup p (r2.mem_iff.mp hpm)) ho hd sb, by rw [el]; exact ld, ?_, by rw [r2.length_eq]; exact few⟩
  · exact (r2.map (·.2)).nodup_iff.mpr nd
  · rw [r2.length_eq, em]
    exact hn

/-- ADDING -/
theorem addK (R : SetK3 P w s.heap a L es ep t) {x : Addr} {k : List Key} (hx : IsK P w s.heap k x) (hu : A.units < cLine) (hfew : L.length + 1 < 64) (hm : k ∉ L.map (·.2)) {Q : Bool → Shared → Prop}
    (hQ : ∀ b h' L' es' ep' t', Heap.SameBut a s.heap h' → SetK3 P w h' a L' es' ep' t' → L'.Perm ((x, k) :: L) → Q b { s with heap := h' }) :
    wpAny (model P w) A (setAddHashed a (.ref x) (thk P w k)) Q E s := by
  obtain ⟨o, ho, hex, hd⟩ := R.ob
  have hsl := R.size
  have hroom := R.room
  unfold setAddHashed
  refine wpAny_holding ?_
  rw [show (100000 : Nat) = 99999 + 1 from rfl, setAddHashedIn_succ]
  refine wpAny_bind (wpAny_setState_of ho hd R.fits ?_)
  dsimp only
  refine wp_if_neg (by simp [byScan, Value.scannable]) ?_
  try refine wpAny_bind (wpAny_pure ?_)
  refine wpAny_bind (searchAtK (ad := true) R hx hu hm fun K hK hb => ?_)
  · dsimp only
    refine wpAny_bind (wpAny_setState_of ho hd R.fits ?_)
    dsimp only
    obtain ⟨q1, q2, q3, q4, q5, q6, q7, q8, q9⟩ := R.tab.put hK hb
    generalize hpt : t.put (way t.mask (thk P w k) K) = pt at q1 q3 q4 q5 q6 q7 q8 q9 ⊢
    obtain ⟨t1, p⟩ := pt
    dsimp only at q1 q3 q4 q5 q6 q7 q8 q9 ⊢
    subst q1
    suffices go1 : ∀ t2 : SetTable, TabOk t2 (List.take (SetTable.below t.place (way t.mask (thk P w k) K)) (L.map fun p => thk P w p.2) ++ thk P w k :: List.drop (SetTable.below t.place (way t.mask (thk P w k) K)) (L.map fun p => thk P w p.2)) → t2.mask = t.mask → t2.led = t.led → t2.fill = (L.map fun p => thk P w p.2).length + 1 → wpAny (model P w) A (do
        storeSet a (SetTable.insertAt es (SetTable.below t.place (way t.mask (thk P w k) K)) (thk P w k, Value.ref x)) t2
        if (!false && t2.tooFull) = true then do
            setRelay a (SetTable.grown (es.size + 1))
            pure true
          else pure true) Q E s by
      have go2 : ∀ r : Bool, wpAny (model P w) A (do
        storeSet a (SetTable.insertAt es (SetTable.below t.place (way t.mask (thk P w k) K)) (thk P w k, Value.ref x)) (if r = true then t1 else { t1 with plain := false })
        if (!false && (if r = true then t1 else { t1 with plain := false }).tooFull) = true then do
            setRelay a (SetTable.grown (es.size + 1))
            pure true
          else pure true) Q E s := fun r => by
        cases r
        · exact go1 { t1 with plain := false } ⟨q3.ris, q3.dm, q3.sz, q3.mok, q3.bd, q3.reach⟩ q4 q5 q9
        · exact go1 t1 q3 q4 q5 q9
      by_cases hp1 : t1.plain = true
      · refine wp_if_pos hp1 (wpAny_bind (hashByK hx fun r => ?_))
        exact go2 r
      · refine wp_if_neg hp1 ?_
        first
          | exact go2 true
          | exact wpAny_bind (wpAny_pure (go2 true))
    clear q3 q4 q5 q6 q7 q8 q9
    intro t1 q3 q4 q5 q9
    have hin : (SetTable.insertAt es (SetTable.below t.place (way t.mask (thk P w k) K)) (thk P w k, Value.ref x)).toList = rowsK P w (L.take (SetTable.below t.place (way t.mask (thk P w k) K)) ++ (x, k) :: L.drop (SetTable.below t.place (way t.mask (thk P w k) K))) := by
      rw [SetTable.toList_insertAt, rowsK_put, R.rows]
    generalize hpp : SetTable.below t.place (way t.mask (thk P w k) K) = p at q2 q3 hin ⊢
    have pm := putK_perm L p (x, k)
    have hlen : (L.take p ++ (x, k) :: L.drop p).length = L.length + 1 := pm.length_eq
    have hhs : (L.take p ++ (x, k) :: L.drop p).map (fun p => thk P w p.2) = (L.map fun p => thk P w p.2).take p ++ thk P w k :: (L.map fun p => thk P w p.2).drop p := by
      rw [List.map_append, List.map_cons, List.map_take, List.map_drop]
    rw [← hhs] at q3
    have nd1 : ((L.take p ++ (x, k) :: L.drop p).map (·.2)).Nodup := by
      refine (pm.map (·.2)).nodup_iff.mpr ?_
      rw [List.map_cons]
      exact List.nodup_cons.mpr ⟨hm, R.nd⟩
    have hes : (SetTable.insertAt es p (thk P w k, Value.ref x)).size = L.length + 1 := by
      have h := congrArg List.length hin
      unfold rowsK at h
      rw [Array.length_toList, List.length_map, hlen] at h
      exact h
    generalize SetTable.insertAt es p (thk P w k, Value.ref x) = es1 at hin hes ⊢
    generalize L.take p ++ (x, k) :: L.drop p = L1 at pm hlen q3 nd1 hin
    refine wpAny_bind (wpAny_storeSet_of ho hd ?_ (by rw [hes, sizeLine_eq]; omega))
    have sb : Heap.SameBut a s.heap (s.heap.update a (Obj.putSet es1 t1)) := Heap.SameBut.update ..
    have ho1 := store_at (es' := es1) (t' := t1) ho hd
    generalize s.heap.update a (Obj.putSet es1 t1) = h1 at sb ho1 ⊢
    have tup1 : ∀ p ∈ L1, IsK P w h1 p.2 p.1 := fun p hp => by
      rcases List.mem_cons.mp (pm.mem_iff.mp hp) with e | hp
      · rw [e]; exact isK_same hx ho hd sb
      · exact isK_same (R.tup p hp) ho hd sb
    have ld1 : w.params.followText "set-order" = true ∨ t1.led = true := by rw [q5]; exact R.led
    by_cases hf : t1.tooFull = true
    · first
        | (refine wpAny_bind ?_; refine wp_if_pos (by simp [hf]) ?_)
        | (refine wp_if_pos (by simp [hf]) ?_; refine wpAny_bind ?_)
      have hfull : (L.length + 1) * 5 ≥ t1.mask * 3 := by
        have h := hf
        unfold SetTable.tooFull at h
        rw [decide_eq_true_eq, q9, List.length_map] at h
        exact h
      rw [hsl]
      have hsz1 : t1.place.size = es1.size := by
        have h := q3.sz
        rw [List.length_map, hlen] at h
        rw [h, hes]
      have cases2 : (t.mask = 7 ∧ L.length = 4) ∨ (t.mask = 31 ∧ L.length = 18) := by
        rcases R.tab.mok with e | e | e
        · left; rw [q4, e] at hfull; rw [e] at hroom; exact ⟨e, by omega⟩
        · right; rw [q4, e] at hfull; rw [e] at hroom; exact ⟨e, by omega⟩
        · exfalso; rw [q4, e] at hfull; omega
      have go : ∀ M, SetTable.sizeAbove (SetTable.grown (L.length + 1)) - 1 = M → MaskOk M → SetTable.sizeAbove (SetTable.grown (L.length + 1)) ≤ 128 → (L.length + 1) * 5 < M * 3 →
          wpAny (model P w) A (setRelay a (SetTable.grown (L.length + 1))) (fun _ s' => wpAny (model P w) A (pure true) Q E s') E { s with heap := h1 } := fun M h1' h2' h3' h4' => by
        refine relayK (s := { s with heap := h1 }) ho1 ⟨hex.1, hex.2.1, hex.2.2⟩ rfl hin hsz1 q3.dm (by rw [hes, q4]; rcases cases2 with ⟨e, e2⟩ | ⟨e, e2⟩ <;> omega) nd1 tup1 ld1 (by rw [hlen]; exact hfew) h1' h2' h3' (by rw [hlen]; exact h4') ?_
        intro h2 L2 es2 ep2 t2 sb2 R2 pm2
        refine wpAny_pure (hQ true h2 L2 es2 ep2 t2 (sb.trans sb2) R2 (pm2.trans pm))
      rcases cases2 with ⟨_, e2⟩ | ⟨_, e2⟩
      · refine go 31 (by rw [e2, size_20]) (.inr (.inl rfl)) (by rw [e2, size_20]; decide) (by omega)
      · refine go 127 (by rw [e2, size_76]) (.inr (.inr rfl)) (by rw [e2, size_76]; decide) (by omega)
    · first
        | refine wp_if_neg (by simp [hf]) ?_
        | (refine wpAny_bind ?_; refine wp_if_neg (by simp [hf]) ?_; refine wpAny_pure ?_)
      refine wpAny_pure (hQ true h1 L1 es1 (ep + 1) t1 sb ⟨⟨_, ho1, ⟨hex.1, hex.2.1, hex.2.2⟩, rfl⟩, hin, q3, nd1, tup1, ld1, ?_, by rw [hlen]; exact hfew⟩ pm)
      have h := hf
      unfold SetTable.tooFull at h
      rw [decide_eq_true_eq, q9, List.length_map] at h
      rw [hlen]
      omega
end
section
variable {P : Program} {w : World}
theorem setK3_fresh {h : Heap} {a : Addr} (ho : h.get? a = some { cls := .type "set", dict := none, data := .set #[] 0 (.fresh 0 0 (!w.params.followText "set-order")) }) : SetK3 P w h a [] #[] 0 (.fresh 0 0 (!w.params.followText "set-order")) where
  ob := ⟨_, ho, ⟨rfl, rfl, rfl⟩, rfl⟩
  rows := rfl
  tab := ⟨List.Pairwise.nil, rfl, rfl, .inl rfl, fun x hx => (by cases hx), fun i h j hi => (by simp at hi)⟩
  nd := List.nodup_nil
  tup := fun p hp => (by cases hp)
  led := by
    show _ ∨ (!w.params.followText "set-order") = true
    cases w.params.followText "set-order"
    · exact .inr rfl
    · exact .inl rfl
  room := by
    show 0 * 5 < 7 * 3
    decide
  few := by
    show 0 < 64
    decide

end

/-! ### as an object of the abstract heap: told exactly -/
def TSk (P : Program) (w : World) (H : Hp) (o : Obj) (ks : List (List Key)) : Prop := ∃ (L : List (Addr × List Key)) (es : Array (Int × Value)) (ep : Nat) (t : SetTable),
  o.ExactSet ∧ o.data = .set es ep t ∧ es.toList = rowsK P w L ∧ TabOk t (L.map fun p => thk P w p.2) ∧ (L.map (·.2)).Nodup ∧ (w.params.followText "set-order" = true ∨ t.led = true) ∧ L.length * 5 < t.mask * 3 ∧ L.length < 64 ∧
  (∀ p ∈ L, H p.1 = some (.tup (p.2.map kV))) ∧ (L.map (·.2)).Perm ks
def TSet (P : Program) (w : World) (H : Hp) (a : Addr) (ks : List (List Key)) : Prop := ∃ o, H a = some (Exact a o) ∧ TSk P w H o ks
theorem TSet.mono {P : Program} {w : World} {H H' : Hp} {a : Addr} {ks : List (List Key)} (t : TupIn H H') (e : ∀ u, H a = some u → H' a = some u) (x : TSet P w H a ks) : TSet P w H' a ks := by
  obtain ⟨o, h1, L, es, ep, tb, g1, g2, g3, g4, g5, g6, g7, g8, g9, g10⟩ := x
  exact ⟨o, e _ h1, L, es, ep, tb, g1, g2, g3, g4, g5, g6, g7, g8, fun p hp => t _ _ (g9 p hp), g10⟩
theorem ts_noTup {P : Program} {w : World} {H : Hp} {a : Addr} {ks : List (List Key)} (x : TSet P w H a ks) : ∀ ws, H a ≠ some (.tup ws) := fun ws e => by
  obtain ⟨o, h1, _⟩ := x
  rw [h1] at e
  cases e
section
variable {X : Cx} {pins : List (Addr × Obj)} {σ : L2.St} {H : Hp} {s : Shared}
theorem ts_raw {a : Addr} {ks : List (List Key)} (I : Inv X pins σ H s) (x : TSet X.prog X.w H a ks) : ∃ L es ep t, SetK3 X.prog X.w s.heap a L es ep t ∧ (∀ p ∈ L, H p.1 = some (.tup (p.2.map kV))) ∧ (L.map (·.2)).Perm ks := by
  obtain ⟨o, h1, L, es, ep, tb, g1, g2, g3, g4, g5, g6, g7, g8, g9, g10⟩ := x
  exact ⟨L, es, ep, tb, ⟨⟨o, exact_at I.hok h1, g1, g2⟩, g3, g4, g5, fun p hp => key_of I.hok (g9 p hp), g6, g7, g8⟩, g9, g10⟩
theorem ts_back {a : Addr} {H0 : Hp} {h : Heap} {ks : List (List Key)} {L : List (Addr × List Key)} {es : Array (Int × Value)} {ep : Nat} {t : SetTable} (R : SetK3 X.prog X.w h a L es ep t) (hL : ∀ p ∈ L, H0 p.1 = some (.tup (p.2.map kV))) (hp : (L.map (·.2)).Perm ks) :
    ∃ o, h.get? a = some o ∧ TSk X.prog X.w H0 o ks := by
  obtain ⟨o, ho, g1, g2⟩ := R.ob
  exact ⟨o, ho, L, es, ep, t, g1, g2, R.rows, R.tab, R.nd, R.led, R.room, R.few, hL, hp⟩
def rTSet0 (P : Program) (w : World) : List V → Hp → VK → Prop := fun xs H Q => xs = [] ∧ ∀ p o, H p = none → TSet P w (upd H p o) p [] → Q (.ref p) (upd H p o)
theorem cr_tset0 : CallR X (.type "set") (rTSet0 X.prog X.w) := by
  intro pins s σ H xs us Q I r h
  obtain ⟨rfl, q⟩ := h
  cases r
  refine setR_new (w := X.w) fun _ => ?_
  have hg : (s.heap.push { cls := .type "set", dict := none, data := .set #[] 0 (.fresh 0 0 (!X.w.params.followText "set-order")) }).get? s.heap.objs.size = some { cls := .type "set", dict := none, data := .set #[] 0 (.fresh 0 0 (!X.w.params.followText "set-order")) } := Heap.get?_push_size _ rfl
  have R : SetK3 X.prog X.w _ _ _ _ _ _ := setK3_fresh hg
  obtain ⟨o, ho, ts⟩ := ts_back (H0 := upd H s.heap.objs.size (Exact s.heap.objs.size { cls := .type "set", dict := none, data := .set #[] 0 (.fresh 0 0 (!X.w.params.followText "set-order")) })) R (fun p hp => (by cases hp)) (List.Perm.nil)
  rw [hg] at ho
  obtain rfl := Option.some.inj ho
  have hn := I.hok.fresh (Nat.le_refl s.heap.objs.size)
  exact ⟨.ref _, _, I.laid (a := s.heap.objs.size) (o := Exact s.heap.objs.size _) (t' := s.toks) (fun b u e => Heap.get?_push_of_some _ e) (Nat.le_refl _) (exact_ok hg), rfl, q _ _ hn ⟨_, upd_same, ts⟩⟩
/-- a new tuple in it: no -/
def rTIn (P : Program) (w : World) : R2 := fun x y H Q => ∃ b a k ks, x = .ref b ∧ y = .ref a ∧ H b = some (.tup (k.map kV)) ∧ TSet P w H a ks ∧ k ∉ ks ∧ Q (.bl false) H
theorem or_tin (hu : X.A.units + 64 < cLine) : OpR X (compareOp .In) (rTIn X.prog X.w) := by
  intro pins s σ H x y v u Q I rx ry h
  obtain ⟨b, a, k, ks, rfl, rfl, hb, ts, hk, q⟩ := h
  cases rx
  cases ry
  obtain ⟨L, es, ep, t, R, hL, hp⟩ := ts_raw I ts
  have hx : IsK X.prog X.w s.heap k b := key_of I.hok hb
  have hnk : k ∉ L.map (·.2) := fun z => hk (hp.mem_iff.mp z)
  obtain ⟨o, ho, hex, hd⟩ := R.ob
  have hT : s.TypeIs (.ref a) "set" := ⟨o, ho, hex.1⟩
  show wpAny _ _ (do return Value.bool (← contains (.ref a) (.ref b)) : Sem Value) _ _ s
  refine wpAny_bind ?_
  unfold contains
  try with_reducible refine wpAny_holding ?_
  refine wpAny_bind (wpAny_specialOf hT F.slot_set_contains.lookup ?_)
  show wpAny _ _ (if (some (Value.builtin "set.__contains__") == some Value.none) = true then _ else _) _ _ s
  rw [if_neg (by rw [beq_builtin_none]; exact Bool.false_ne_true)]
  refine wpAny_bind (wpAny_callSpecialUnlessNone?_slot (name := Str.ofString "__contains__") hT F.slot_set_contains
    (wpAny_call_entry F.slot_set_contains hT entry_set_contains ?_ (F.args_set_contains_2 _ _)))
  unfold Builtin.«frozenset.__contains__» Builtin.Frozenset.oneOther
  simp only [List.isEmpty_nil, bind_assoc]
  unfold Builtin.Frozenset.addrOf Builtin.Frozenset.withSetAsKey setContains
  refine wpAny_bind (wpAny_pure ?_)
  try dsimp only
  refine wpAny_bind (wpAny_pure ?_)
  try dsimp only
  refine wpAny_bind (wpAny_tryCatch ?_)
  refine wpAny_holding ?_
  have hu1 : X.A.in1.units < cLine := by rw [Around.in1_units]; omega
  refine wpAny_bind (wpAny_pyHash_tuple hu1 hx ?_)
  refine wpAny_bind (findK (s := { s with toks := s.toks + (k.length + 1) }) R hx hu1 hnk ?_)
  refine wpAny_pure ?_
  show wpAny _ _ (ret (Value.bool false)) _ _ _
  exact wpAny_pure ⟨_, rfl, wpAny_truthy_bool (wpAny_pure ⟨.bl false, H, I.tok _, rfl, q⟩)⟩
/-- .. added -/
def rTAdd (P : Program) (w : World) : V → List V → Hp → VK → Prop := fun x xs H Q => ∃ b a k ks, x = .ref a ∧ xs = [.ref b] ∧ H b = some (.tup (k.map kV)) ∧ TSet P w H a ks ∧ k ∉ ks ∧ ks.length + 1 < 64 ∧
  ∀ o, TSet P w (upd H a o) a (k :: ks) → Q .non (upd H a o)
theorem mt_tadd (hu : X.A.units + 64 < cLine) : MtR X "set.add" (rTAdd X.prog X.w) := by
  intro pins s σ H x xs v us Q I rx rxs h
  obtain ⟨b, a, k, ks, rfl, rfl, hb, ts, hk, hfew, q⟩ := h
  cases rx
  rw [Vals.ref1 rxs]
  obtain ⟨L, es, ep, t, R, hL, hp⟩ := ts_raw I ts
  have hx : IsK X.prog X.w s.heap k b := key_of I.hok hb
  have hnk : k ∉ L.map (·.2) := fun z => hk (hp.mem_iff.mp z)
  have hlen : L.length = ks.length := by
    have := hp.length_eq
    rw [List.length_map] at this
    exact this
  obtain ⟨o, ho, hex, hd⟩ := R.ob
  have hT : s.TypeIs (.ref a) "set" := ⟨o, ho, hex.1⟩
  have hu1 : X.A.in1.units < cLine := by rw [Around.in1_units]; omega
  refine wpAny_call_entry F.slot_set_add hT F.entry_set_add ?_ (F.args_set_add_2 _ _)
  unfold Builtin.«set.add» Builtin.Frozenset.oneOther
  simp only [List.isEmpty_nil, bind_assoc]
  unfold Builtin.Frozenset.addrOf setAdd
  refine wpAny_bind (wpAny_pure ?_)
  try dsimp only
  refine wpAny_bind (wpAny_pure ?_)
  try dsimp only
  refine wpAny_bind ?_
  refine wpAny_holding ?_
  refine wpAny_bind (wpAny_pyHash_tuple hu1 hx ?_)
  refine addK (s := { s with toks := s.toks + (k.length + 1) }) R hx hu1 (by omega) hnk fun r h' L' es' ep' t' sb R' pm => ?_
  have nt := ts_noTup ts
  have hL' : ∀ p ∈ L', (upd H a (Exact a { cls := .none, data := .plain })) p.1 = some (.tup (p.2.map kV)) := fun p hpm => by
    have e : H p.1 = some (.tup (p.2.map kV)) := by
      rcases List.mem_cons.mp (pm.mem_iff.mp hpm) with z | z
      · rw [z]; exact hb
      · exact hL p z
    exact TupIn.upd nt _ _ e
  obtain ⟨o', ho', ts'⟩ := ts_back (ks := k :: ks) R' hL' ((pm.map (·.2)).trans (by rw [List.map_cons]; exact List.Perm.cons _ hp))
  have he : ∃ u, h'.get? a = some u := ⟨o', ho'⟩
  have mu : Mut (H a) := by
    obtain ⟨o0, e0, _⟩ := ts
    rw [e0]
    exact True.intro
  show wpAny _ _ (ret Value.none) _ _ _
  have ts2 : TSk X.prog X.w (upd H a (Exact a o')) o' (k :: ks) := by
    obtain ⟨L, es, ep, tb, g1, g2, g3, g4, g5, g6, g7, g8, g9, g10⟩ := ts'
    refine ⟨L, es, ep, tb, g1, g2, g3, g4, g5, g6, g7, g8, fun p hp => ?_, g10⟩
    have z := g9 p hp
    have hne : p.1 ≠ a := fun e => by rw [e, upd_same] at z; cases z
    rw [upd_ne hne] at z ⊢
    exact z
  exact wpAny_pure ⟨_, rfl, .non, upd H a (Exact a o'), I.write (e := a) (t' := s.toks + (k.length + 1)) mu (.inl rfl) (fun b u hb hu => (sb.2 b hb).trans hu) he (exact_ok ho'), rfl, q _ ⟨o', upd_same, ts2⟩⟩
def tTAdd (P : Program) (w : World) (to : TE) (t : TA) : TE := fun σ H Q => to σ H fun x H1 => (∃ a ks, x = V.ref a ∧ TSet P w H1 a ks) ∧ t σ H1 fun xs H2 => rTAdd P w x xs H2 Q
variable {o e : Expr} {es : List Expr} {to : TE} {t : TA} {apos cpos : Pos}
theorem pe_tadd (hu : X.A.units + 64 < cLine) (ho : PE X o to) (ha : PA X (e :: es) t)
    (hbase : attributeBase o "add" X.env (eval o X.env) = eval o X.env := by rfl)
    (hfew : ((backTo cpos (starEach (e :: es) X.env)).all (fun x => !x.1) && (backToKw cpos (keywordEach [] X.env)).all (fun x => x.1.isSome)
      && decide ((e :: es).length + ([] : List Keyword).length + (if ([] : List Keyword).isEmpty then 0 else 1) < 30)) = true := by rfl)
    (hline : (apos.endLine == cpos.line) = true := by rfl) (hs : starEach (e :: es) X.env = (false, eval e X.env) :: starEach es X.env := by rfl) (hplain : (backTo cpos (starEach es X.env)).any (·.1) = false := by rfl) :
    PE X (.Call (.Attribute o "add" apos) (e :: es) [] cpos) (tTAdd X.prog X.w to t) := by
  refine ⟨fun pins s σ H Q I h => ?_⟩
  refine wpAny_Call_method_late hbase hfew hline rfl (thn (ho.run pins s σ H _ I h) fun v s1 ⟨x, H1, I1, r1, ty, q1⟩ => ?_)
  obtain ⟨a, ks, rfl, ts⟩ := ty
  cases r1
  obtain ⟨L, es2, ep, tb, R, _, _⟩ := ts_raw I1 ts
  obtain ⟨ob, hob, hex, hd⟩ := R.ob
  refine ⟨"set", "set.add", F.plainAttrs_set, F.slot_set_add, F.type_set_add, ⟨ob, hob, hex.1⟩, fun b q => ?_, ?_⟩
  · cases q
    exact ⟨ob, hob, hex.2.1⟩
  have hA := ha.run cpos pins s1 σ H1 _ I1 q1
  rw [hs] at hA ⊢
  refine Calls.callWith_builtin (by show (false || (backTo cpos (starEach es X.env)).any (·.1)) = false; rw [hplain] <;> rfl) (Calls.evalArgs_plain ?_)
  exact thn hA fun us s2 ⟨vs, H2, I2, r2, q2⟩ => mt_tadd hu pins s2 σ H2 (.ref a) vs (.ref a) us Q I2 rfl r2 q2
end
end K28
end

section
set_option Elab.async false
set_option maxRecDepth 100000
set_option maxHeartbeats 4000000
namespace K28
open PySem PySem.Spec PyProof.Rows L2 Evl
theorem is_strS {P : Program} {w : World} (k : Str) (u : Tok) : (PySem.strKind P w).is k (.str k u) = true := by
  show Value.isStrOf k (.str k u) = true
  simp [Value.isStrOf]
def keyS (e : Int × Value) : Str := match e.2 with | .str k _ => k | _ => Str.empty
def GoodS (w : World) (e : Int × Value) : Prop := ∃ k tk, e.2 = Value.str k tk ∧ e.1 = hashStr w k
/-- a set object of the texts ks -/
def SSo (w : World) (o : Obj) (ks : List Str) : Prop := ∃ (es : Array (Int × Value)) (ep : Nat) (t : SetTable), o.ExactSet ∧ o.data = .set es ep t ∧ (∀ e ∈ es.toList, GoodS w e) ∧ (es.toList.map keyS).Nodup ∧ (es.toList.map keyS).Perm ks ∧
  es.size < scanBound ∧ t.fits es.size = true ∧ Ris t.place.toList ∧ (w.params.followText "set-order" = true ∨ t.led = true)
def SSh (w : World) (h : Heap) (a : Addr) (ks : List Str) : Prop := ∃ o, h.get? a = some o ∧ SSo w o ks
def addS (ks : List Str) (k : Str) : List Str := if k ∈ ks then ks else k :: ks
section
variable {P : Program} {w : World} {A : Around} {E : Value → Shared → Prop} {s : Shared} {a : Addr} {ks : List Str}
theorem goodS_elems {l : List (Int × Value)} (g : ∀ e ∈ l, GoodS w e) : ElemsOf (PySem.strKind P w) l := fun e he => by
  obtain ⟨k, tk, h1, h2⟩ := g e he
  exact ⟨⟨k, by rw [h1]; exact is_strS k tk, h2⟩, by rw [h1] <;> rfl⟩
theorem goodS_is {e : Int × Value} (g : GoodS w e) (k : Str) : (PySem.strKind P w).is k e.2 = true ↔ keyS e = k := by
  obtain ⟨k0, tk, h1, _⟩ := g
  unfold keyS
  rw [h1]
  constructor
  · intro h
    obtain ⟨t, e⟩ := Value.isStrOf_shape (show Value.isStrOf k (.str k0 tk) = true from h)
    injection e
  · intro h
    have h' : k0 = k := h
    subst h'
    exact is_strS k0 tk
theorem goodS_mem {l : List (Int × Value)} (g : ∀ e ∈ l, GoodS w e) (k : Str) : k ∈ l.map keyS ↔ ∃ e ∈ l, (PySem.strKind P w).is k e.2 = true := by
  rw [List.mem_map]
  constructor
  · rintro ⟨e, he, q⟩
    exact ⟨e, he, (goodS_is (g e he) k).2 q⟩
  · rintro ⟨e, he, q⟩
    exact ⟨e, he, (goodS_is (g e he) k).1 q⟩
/-- what storing leaves -/
theorem addS_tail {g : Bool → Sem Unit} (hg : ∀ (b : Bool) (s₁ : Shared) (Q' : Unit → Shared → Prop), Q' () s₁ → wpAny (model P w) A (g b) Q' E s₁)
    {o : Obj} {es : Array (Int × Value)} {ep : Nat} {t : SetTable} (ho : s.heap.get? a = some o) (hex : o.ExactSet) (hd : o.data = .set es ep t)
    {es1 : Array (Int × Value)} {t2 : SetTable} (g1 : ∀ e ∈ es1.toList, GoodS w e) (nd1 : (es1.toList.map keyS).Nodup) (m1 : (es1.toList.map keyS).Perm ks)
    (hb1 : es1.size < scanBound) (hf2 : t2.fits es1.size = true) (hr : Ris t2.place.toList) (hl : w.params.followText "set-order" = true ∨ t2.led = true) {wasDummy : Bool} {R : Option Bool → Shared → Prop}
    (hR : ∀ h', Heap.SameBut a s.heap h' → SSh w h' a ks → R (some true) { s with heap := h' }) :
    wpAny (model P w) A (do
        storeSet a es1 t2
        if (!wasDummy && t2.tooFull) = true then do
            g (relayAll t2 es1 (SetTable.grown es1.size)).2.2
            storeSet a (relayAll t2 es1 (SetTable.grown es1.size)).1 (relayAll t2 es1 (SetTable.grown es1.size)).2.1
            pure (some true)
          else pure (some true)) R E s := by
  refine wpAny_bind (wpAny_storeSet_of ho hd ?_ (fits_of_scanBound hb1))
  have ho1 := PpSet.storeB_at (es' := es1) (t' := t2) ho hd
  have sb1 := Heap.SameBut.update s.heap a (Obj.putSet es1 t2)
  split
  · have pm := relayAll_perm t2 es1 (SetTable.grown es1.size)
    have hf3 := relayAll_fits t2 es1 (SetTable.grown es1.size)
    have hr3 := relayAll_ris t2 es1 (SetTable.grown es1.size)
    have hl3 := relayAll_led t2 es1 (SetTable.grown es1.size)
    generalize relayAll t2 es1 (SetTable.grown es1.size) = Z at pm hf3 hr3 hl3 ⊢
    obtain ⟨es2, t3, gave⟩ := Z
    dsimp only at pm hf3 hr3 hl3 ⊢
    have hsz : es2.size = es1.size := by rw [← Array.length_toList, pm.length_eq, Array.length_toList]
    have hb2 : es2.size < scanBound := by rw [hsz]; exact hb1
    refine wpAny_bind (hg _ _ _ ?_)
    refine wpAny_bind (wpAny_storeSet_of ho1 rfl ?_ (fits_of_scanBound hb2))
    have ho2 := PpSet.storeB_at (es' := es2) (t' := t3) ho1 rfl
    refine wpAny_pure (hR _ (sb1.trans (Heap.SameBut.update _ a _)) ?_)
    exact ⟨_, ho2, es2, _, t3, hex, rfl, fun e he => g1 e (pm.mem_iff.mp he), (pm.map keyS).nodup_iff.mpr nd1, (pm.map keyS).trans m1, hb2, hf3, hr3, hl.imp id fun z => by rw [hl3]; exact z⟩
  · exact wpAny_pure (hR _ sb1 ⟨_, ho1, es1, _, t2, hex, rfl, g1, nd1, m1, hb1, hf2, hr, hl⟩)
theorem addS_hashed {k : Str} {tk : Tok} {Q : Bool → Shared → Prop} (R : SSh w s.heap a ks) (room : ks.length + 1 < scanBound)
    (hQ : ∀ r h', Heap.SameBut a s.heap h' → SSh w h' a (addS ks k) → Q r { s with heap := h' }) :
    wpAny (model P w) A (setAddHashed a (.str k tk) (hashStr w k)) Q E s := by
  obtain ⟨o, ho, es, ep, t, hex, hd, g, nd, hm, hb, hf, hr, hl⟩ := R
  have hkey : (PySem.strKind P w).is k (.str k tk) = true := is_strS k tk
  have hsc : (Value.str k tk).scannable = true := rfl
  have hel : ElemsOf (PySem.strKind P w) es.toList := goodS_elems g
  have hlen : es.size = ks.length := by
    have := hm.length_eq
    rw [List.length_map, Array.length_toList] at this
    exact this
  unfold setAddHashed setAddHashedIn
  refine wpAny_holding (wpAny_bind (wpAny_setState_of ho hd hf ?_))
  dsimp only
  rw [byScan_of hsc hb hel]
  simp only [↓reduceIte]
  unfold setAddByScan
  refine wpAny_bind ?_
  refine wpAny_bind (wpAny_rule ?_)
  refine wpAny_bind (wpAny_setScan_of (knd := PySem.strKind P w) hkey ho hd hf hel ?_)
  cases hfi : List.findIdx? (fun e => (PySem.strKind P w).is k e.2) es.toList with
  | some j =>
    dsimp only
    obtain ⟨hj, pj, _⟩ := List.findIdx?_eq_some_iff_getElem.mp hfi
    have hSk : k ∈ ks := hm.mem_iff.mp ((goodS_mem (P := P) (w := w) g k).2 ⟨es.toList[j], List.getElem_mem hj, pj⟩)
    refine wpAny_pure (wpAny_pure ?_)
    refine hQ _ s.heap (Heap.SameBut.refl a s.heap) ?_
    unfold addS
    rw [if_pos hSk]
    exact ⟨o, ho, es, ep, t, hex, hd, g, nd, hm, hb, hf, hr, hl⟩
  | none =>
    dsimp only
    have hnk : k ∉ es.toList.map keyS := fun z => by
      obtain ⟨e, he, q⟩ := (goodS_mem (P := P) (w := w) g k).1 z
      have c := List.findIdx?_eq_none_iff.mp hfi e he
      rw [q] at c
      cases c
    have hSk : k ∉ ks := fun z => hnk (hm.mem_iff.mpr z)
    have hgw : ∀ (b : Bool) {s₁ : Shared} {Q' : Unit → Shared → Prop}, Q' () s₁ → wpAny (model P w) A (match b with | true => rule "set.scan.the-table-gave-way" | false => pure ()) Q' E s₁ :=
      fun b s₁ Q' q => by cases b <;> first | exact wpAny_pure q | exact wpAny_rule q
    have pm := layNew_perm t es (hashStr w k) (.str k tk)
    have hf1 := layNew_fits t es (hashStr w k) (.str k tk)
    have hr1 := layNew_ris t es (hashStr w k) (.str k tk) hr
    have hl1 := layNew_led t es (hashStr w k) (.str k tk)
    generalize layNew t es (hashStr w k) (.str k tk) = Z at pm hf1 hr1 hl1 ⊢
    obtain ⟨es1, t1, wasDummy, gave⟩ := Z
    dsimp only at pm hf1 hr1 hl1 ⊢
    rw [Array.toList_push] at pm
    have pc : es1.toList.Perm ((hashStr w k, Value.str k tk) :: es.toList) := pm.trans (List.perm_append_singleton _ _)
    have pk : (es1.toList.map keyS).Perm (k :: es.toList.map keyS) := pc.map keyS
    have g1 : ∀ e ∈ es1.toList, GoodS w e := fun e he => by
      rcases List.mem_cons.mp (pc.mem_iff.mp he) with z | z
      · rw [z]; exact ⟨k, tk, rfl, rfl⟩
      · exact g e z
    have nd1 : (es1.toList.map keyS).Nodup := pk.nodup_iff.mpr (List.nodup_cons.mpr ⟨hnk, nd⟩)
    have m1 : (es1.toList.map keyS).Perm (addS ks k) := by
      unfold addS
      rw [if_neg hSk]
      exact pk.trans (List.Perm.cons _ hm)
    have hsz : es1.size = ks.length + 1 := by rw [← Array.length_toList, pc.length_eq, List.length_cons, Array.length_toList, hlen]
    have hb1 : es1.size < scanBound := by rw [hsz]; exact room
    have hled : w.params.followText "set-order" = true ∨ t1.led = true := hl.imp id fun z => by rw [hl1]; exact z
    have fin : ∀ h', Heap.SameBut a s.heap h' → SSh w h' a (addS ks k) → Q true { s with heap := h' } := fun h' sb r => hQ _ h' sb r
    refine wpAny_bind (hgw _ ?_)
    split
    · refine wpAny_bind ?_
      rw [hashByValue_scannable 8 hsc]
      refine wpAny_pure ?_
      refine addS_tail ?_ ho hex hd g1 nd1 m1 hb1 ?_ ?_ ?_ ?_
      · intro b s₁ Q' q; cases b <;> first | exact wpAny_pure q | exact wpAny_rule q
      · first | (split <;> first | exact hf1 | exact SetTable.fits_plain_off hf1) | exact hf1
      · first | (split <;> exact hr1) | exact hr1
      · first | (split <;> exact hled) | exact hled
      · intro h' sb r; dsimp only; exact wpAny_pure (fin h' sb r)
    · refine wpAny_bind (wpAny_pure ?_)
      simp only [↓reduceIte]
      refine addS_tail ?_ ho hex hd g1 nd1 m1 hb1 hf1 hr1 hled ?_
      · intro b s₁ Q' q; cases b <;> first | exact wpAny_pure q | exact wpAny_rule q
      · intro h' sb r; dsimp only; exact wpAny_pure (fin h' sb r)
theorem setAddS {k : Str} {tk : Tok} {Q : Bool → Shared → Prop} (R : SSh w s.heap a ks) (room : ks.length + 1 < scanBound)
    (hQ : ∀ r h', Heap.SameBut a s.heap h' → SSh w h' a (addS ks k) → Q r { s with heap := h', toks := s.toks + 1 }) :
    wpAny (model P w) A (setAdd a (.str k tk)) Q E s := by
  unfold setAdd
  refine wpAny_holding ?_
  refine wpAny_bind (wpAny_pyHash_str ?_)
  exact addS_hashed (s := { s with toks := s.toks + 1 }) R room fun r h' sb x => hQ r h' sb x
theorem ssh_fresh {h : Heap} (ho : h.get? a = some { cls := .type "set", dict := none, data := .set #[] 0 (.fresh 0 0 (!w.params.followText "set-order")) }) : SSh w h a [] :=
  ⟨_, ho, #[], 0, _, ⟨rfl, rfl, rfl⟩, rfl, (fun e he => by simp at he), (by simp), (by simp), (by decide), (by rfl), List.Pairwise.nil, by
    show _ ∨ (!w.params.followText "set-order") = true
    cases w.params.followText "set-order"
    · exact .inr rfl
    · exact .inl rfl⟩
end

/-! ### set(xs) -/
section
variable {P : Program} {w : World} {A : Around} {E : Value → Shared → Prop} {s : Shared}
theorem SSh.at' {h h' : Heap} {a : Addr} {ks : List Str} (x : SSh w h a ks) (k : ∀ o, h.get? a = some o → h'.get? a = some o) : SSh w h' a ks := let ⟨o, e, r⟩ := x; ⟨o, k o e, r⟩
def addAll (ks : List Str) (xs : List Str) : List Str := xs.foldl addS ks
theorem addS_len (ks : List Str) (k : Str) : (addS ks k).length ≤ ks.length + 1 := by
  unfold addS
  split
  · omega
  · rw [List.length_cons]
    omega
theorem addAll_len : ∀ (xs ks : List Str), (addAll ks xs).length ≤ ks.length + xs.length
  | [], ks => by show ks.length ≤ _; simp
  | x :: xs, ks => by
    have h1 := addAll_len xs (addS ks x)
    have h2 := addS_len ks x
    show (addAll (addS ks x) xs).length ≤ _
    rw [List.length_cons]; omega
theorem addS_mem (ks : List Str) (k x : Str) : x ∈ addS ks k ↔ x = k ∨ x ∈ ks := by
  unfold addS
  split
  · rename_i h
    exact ⟨.inr, fun z => z.elim (fun e => e ▸ h) id⟩
  · exact List.mem_cons
theorem addAll_mem : ∀ (xs ks : List Str) (x : Str), x ∈ addAll ks xs ↔ x ∈ ks ∨ x ∈ xs
  | [], ks, x => by show x ∈ ks ↔ _; simp
  | y :: xs, ks, x => by
    show x ∈ addAll (addS ks y) xs ↔ _
    rw [addAll_mem xs (addS ks y) x, addS_mem, List.mem_cons]
    constructor
    · rintro ((h | h) | h)
      · exact .inr (.inl h)
      · exact .inl h
      · exact .inr (.inr h)
    · rintro (h | h | h)
      · exact .inl (.inr h)
      · exact .inl (.inl h)
      · exact .inr h
theorem addS_nodup {ks : List Str} {k : Str} (h : ks.Nodup) : (addS ks k).Nodup := by
  unfold addS
  split
  · exact h
  · rename_i hn
    exact List.nodup_cons.mpr ⟨hn, h⟩
theorem addAll_nodup : ∀ (xs : List Str) {ks : List Str}, ks.Nodup → (addAll ks xs).Nodup
  | [], _, h => h
  | x :: xs, _, h => addAll_nodup xs (addS_nodup h)
theorem set_update_strs {I : Addr} {fp wr : List Addr} {G : Array GenState → Array GenState → Prop} {n : Nat} {Pv : Nat → Value → Prop} {St : Nat → Shared → Prop} {R : Result → Shared → Prop}
    (W : WalksS P w A.in1 I fp wr G n Pv St) (S : Addr) (hSf : S ∉ fp) (xs : List Str) (hn : n = xs.length) (hfew : xs.length < 4000) (hval : ∀ i v, Pv i v → ∃ k t, xs[i]? = some k ∧ v = .str k t)
    (h0 : Heap) (hS0 : h0.get? S = none) (hw0 : ∀ b ∈ wr, h0.get? b = none) :
    ∀ (k i : Nat) (s : Shared), n - i = k → i ≤ n → St i s → (∀ b o, h0.get? b = some o → s.heap.get? b = some o) → SSh w s.heap S (addAll [] (xs.take i)) →
      (∀ s', Moved (S :: wr) G s s' → SSh w s'.heap S (addAll [] xs) → (∀ b o, h0.get? b = some o → s'.heap.get? b = some o) → R (.ok (.ret .none)) s') →
      codeAny (model P w) A (.builtin "set.update.loop" ⟨[.ref S, .ref I], []⟩) R s := by
  have hSw : S ∉ wr := fun h => hSf (W.sub _ h)
  have hsub : ∀ b ∈ wr, b ∈ S :: wr := fun b hb => List.mem_cons_of_mem _ hb
  have keepM : ∀ {s s' : Shared}, Moved wr G s s' → (∀ b o, h0.get? b = some o → s.heap.get? b = some o) → ∀ b o, h0.get? b = some o → s'.heap.get? b = some o := fun hm hkp b o e =>
    hm.heap b o (fun hb => by rw [hw0 b hb] at e; cases e) (hkp b o e)
  intro k
  induction k with
  | zero =>
    intro i s hk' hi hst hkp hS hR
    have hin : i = n := by omega
    subst hin
    refine codeAny_builtin F.entry_set_update_loop ?_
    rw [Around.under_plainId F.plain_set_update_loop _]
    show wpAny _ A.in1 (pyNext (.ref I) >>= _) _ _ s
    refine wpAny_bind (W.done s _ _ hst fun s' hm => ?_)
    show wpAny _ A.in1 (ret Value.none) _ _ s'
    have hkp' := keepM hm hkp
    rw [hn, List.take_length] at hS
    exact wpAny_pure (hR s' (hm.mono hsub) (hS.at' fun o e => hm.heap S o hSw e) hkp')
  | succ k ih =>
    intro i s hk' hi hst hkp hS hR
    have hlt : i < n := by omega
    refine codeAny_builtin F.entry_set_update_loop ?_
    rw [Around.under_plainId F.plain_set_update_loop _]
    show wpAny _ A.in1 (pyNext (.ref I) >>= _) _ _ s
    refine wpAny_bind (W.item i s _ _ hlt hst fun v s' hP hst' hm => ?_)
    obtain ⟨p, t, hp, rfl⟩ := hval i v hP
    have hkp' := keepM hm hkp
    have hS' : SSh w s'.heap S (addAll [] (xs.take i)) := hS.at' fun o e => hm.heap S o hSw e
    show wpAny _ A.in1 (holding [Value.str p t] (setAdd S (.str p t)) >>= _) _ _ s'
    have hl := addAll_len (xs.take i) []
    rw [List.length_take, List.length_nil] at hl
    refine wpAny_bind (wpAny_holding (setAddS hS' (by show _ < 4096; omega) fun b h' hsb hS2 => ?_))
    have e2 : addS (addAll [] (xs.take i)) p = addAll [] (xs.take (i + 1)) := by
      rw [take_next hp]
      unfold addAll
      rw [List.foldl_append]
      rfl
    rw [e2] at hS2
    have hkp2 : ∀ b o, h0.get? b = some o → h'.get? b = some o := fun b o e => (hsb.2 b (fun z => by rw [z, hS0] at e; cases e)).trans (hkp' b o e)
    refine wpAny_pure ⟨plainId_quiet F.plain_set_update_loop _, ih (i + 1) _ (by omega) hlt ?_ hkp2 hS2 fun s'' hm'' hS'' hkp'' => ?_⟩
    · exact W.frame _ s' _ _ hst' (Nat.le_succ _) fun b hb o e => by
        rw [hsb.2 b (fun h : b = S => hSf (by rw [← h]; exact hb))]; exact e
    · refine hR s'' (Moved.trans W.gtrans ((hm.mono hsub).then_heap (Nat.le_succ _) fun b o hb e => ?_) hm'') hS'' hkp''
      rw [hsb.2 b (fun h : b = S => hb (by rw [h]; exact List.mem_cons_self))]; exact e
theorem call_set_strs {l : Addr} {items : Array Value} (xs : List Str) {Q : Value → Shared → Prop} (hh : A.handled = none) (hl : s.heap.IsList l items) (hit : StrsAre items.toList xs) (hfew : xs.length < 4000)
    (h : ∀ (h' : Heap) (tk : Nat), SSh w h' s.heap.objs.size (addAll [] xs) → (∀ b o, s.heap.get? b = some o → h'.get? b = some o) → Q (.ref s.heap.objs.size) { s with heap := h', toks := tk }) :
    wpAny (model P w) A (call (.type "set") [.ref l]) Q E s := by
  have hisz : items.size = xs.length := by
    have q := hit.length
    rw [Array.length_toList] at q
    exact q
  obtain ⟨c, tl, hmro⟩ := F.called_set.mro
  have hmade := F.called_set.made
  have hsub := F.called_set.sub
  refine wpAny_call (codeAny_of_tree ?_)
  show wpAny _ _ (callAny (.type "set") _) _ _ _
  refine wpAny_pure ⟨Code.quiet_builtin _ (by decide +kernel), codeAny_builtin F.entry_type_call ?_⟩
  rw [Around.under_plain (weight_type_call_type "set" [.ref l] []) rfl]
  have h1 := F.called_set.notType
  have h2 := F.called_set.canCreate
  have hct := F.typeCall_set_1 (.ref l)
  repeat (any_goals (first | assumption | wp_step))
  refine codeAny_mono (code_set_led1 (.ref l) (E := E) (Q₁ := fun obj s₁ => obj = .ref s.heap.objs.size ∧ s₁ = { s with heap := s.heap.push { cls := .type "set", dict := none, data := .set #[] 0 (.fresh 0 0 (!w.params.followText "set-order")) } }) ⟨rfl, rfl⟩) fun r s₁ hr => ?_
  cases r with
  | error e => exact hr
  | ok fl =>
    cases fl with
    | ret obj =>
      obtain ⟨rfl, rfl⟩ := hr
      have hS : (s.heap.push { cls := .type "set", dict := none, data := .set #[] 0 (.fresh 0 0 (!w.params.followText "set-order")) }).get? s.heap.objs.size = some { cls := .type "set", dict := none, data := .set #[] 0 (.fresh 0 0 (!w.params.followText "set-order")) } := Heap.get?_push_size _ rfl
      have hT : Shared.TypeIs { s with heap := s.heap.push { cls := .type "set", dict := none, data := .set #[] 0 (.fresh 0 0 (!w.params.followText "set-order")) } } (.ref s.heap.objs.size) "set" := ⟨_, hS, rfl⟩
      have hli := F.called_set.init.lookup
      have hbi := F.called_set.init.bind (.ref s.heap.objs.size)
      repeat (any_goals (first | assumption | wp_step))
      refine codeAny_mono (codeAny_call_builtin (R := wants (fun r s₂ => r = .none ∧ ∃ h' tk, s₂ = { s with heap := h', toks := tk } ∧ SSh w h' s.heap.objs.size (addAll [] xs) ∧
          (∀ b o, s.heap.get? b = some o → h'.get? b = some o)) E) F.called_set.init.plain F.entry_set_init (check_set_init_1 hT ?_)) fun r₂ s₂ hr₂ => ?_
      · obtain ⟨ol, hol, hcl, nl, hdl⟩ := hl
        obtain ⟨ocls, odict, odata, oslots⟩ := ol
        simp only at hcl hdl
        subst hcl; subst hdl
        have hol' : (s.heap.push { cls := .type "set", dict := none, data := .set #[] 0 (.fresh 0 0 (!w.params.followText "set-order")) }).get? l = some { cls := .type "list", dict := odict, data := .seq items nl, slots := oslots } := Heap.get?_push_of_some _ hol
        have hsls := F.sub_list_set
        have hslf := F.sub_list_frozenset
        have hne : (Value.type "list" == Value.type "dict") = false := by decide
        have hl1 : (s.heap.push { cls := .type "set", dict := none, data := .set #[] 0 (.fresh 0 0 (!w.params.followText "set-order")) }).IsList l items := ⟨_, hol', rfl, nl, rfl⟩
        unfold Builtin.«set.__init__» noKeywords Builtin.Frozenset.updateFrom
        generalize hPI : pyIter = PI
        wp_walk
        subst hPI
        refine wpAny_pyIter_list hl1 ?_
        refine wpAny_bind (wpAny_runValue ?_)
        have hlS : l < s.heap.objs.size := Heap.lt_size hol
        have hh3 : A.in1.in1.in1.handled = none := by simp [hh]
        have hneI : l ≠ (s.heap.push { cls := .type "set", dict := none, data := .set #[] 0 (.fresh 0 0 (!w.params.followText "set-order")) }).objs.size := by
          rw [Heap.size_push]; exact Nat.ne_of_lt (Nat.lt_succ_of_lt hlS)
        have hSf : s.heap.objs.size ∉ [(s.heap.push { cls := .type "set", dict := none, data := .set #[] 0 (.fresh 0 0 (!w.params.followText "set-order")) }).objs.size, l] := by
          rw [Heap.size_push]; simp only [List.mem_cons, List.mem_singleton, List.not_mem_nil, or_false, not_or]
          exact ⟨Nat.ne_of_lt (Nat.lt_succ_self _), Nat.ne_of_gt hlS⟩
        have hval : ∀ (i : Nat) (v : Value), items[i]? = some v → ∃ k t, xs[i]? = some k ∧ v = .str k t := fun i v hv => by
          have q : items.toList[i]? = some v := by rw [Array.getElem?_toList]; exact hv
          have hi : i < xs.length := by
            have := (Array.getElem?_eq_some_iff.mp hv).1
            omega
          obtain ⟨t, e⟩ := SS.strs_at hit i v q
          exact ⟨xs[i], t, List.getElem?_eq_getElem hi, by rw [e]; simp [List.getD_eq_getElem?_getD, List.getElem?_eq_getElem hi]⟩
        have none_of : ∀ b, s.heap.objs.size ≤ b → s.heap.get? b = none := fun b hb => by
          cases q : s.heap.get? b with
          | none => rfl
          | some o => exact absurd (Nat.lt_of_lt_of_le (Heap.lt_size q) hb) (Nat.lt_irrefl _)
        refine set_update_strs ((Walks.list hh3 _ l hneI items).toS) s.heap.objs.size
          hSf xs hisz hfew hval s.heap (none_of _ (Nat.le_refl _)) (fun b hb => none_of b (by
            rw [List.mem_singleton.mp hb, Heap.size_push]
            exact Nat.le_succ _)) (items.size - 0) 0 _ (by omega) (Nat.zero_le _)
          ⟨⟨_, Heap.get?_push_size _ rfl, rfl, rfl⟩, (hl1.push _)⟩ (fun b o e => Heap.get?_push_of_some _ (Heap.get?_push_of_some _ e)) ?hS0 ?hR
        case hS0 =>
          have hget : ((s.heap.push { cls := .type "set", dict := none, data := .set #[] 0 (.fresh 0 0 (!w.params.followText "set-order")) }).push { cls := .type "list_iterator", data := .fields #[.ref l, .int 0 0] }).get? s.heap.objs.size
              = some { cls := .type "set", dict := none, data := .set #[] 0 (.fresh 0 0 (!w.params.followText "set-order")) } := Heap.get?_push_of_some _ hS
          exact ssh_fresh hget
        case hR =>
          intro s' hm hS' hkp
          obtain ⟨h', g2, d', tk', os'⟩ := s'
          have eg : g2 = s.gens := hm.gens
          have ed : d' = s.drawn := hm.drawn
          have eo : os' = s.os := hm.os
          subst eg; subst ed; subst eo
          show wpAny _ _ _ _ _ _
          refine wpAny_pure ?_
          show wpAny _ _ (ret Value.none) _ _ _
          exact wpAny_pure ⟨rfl, h', tk', rfl, hS', hkp⟩
      · cases r₂ with
        | error e => exact hr₂
        | ok fl₂ =>
          cases fl₂ with
          | ret r =>
            obtain ⟨rfl, h', tk, rfl, hS', hk'⟩ := hr₂
            repeat (any_goals (first | assumption | wp_step))
            exact h _ _ hS' hk'
          | _ => exact hr₂.elim
    | _ => exact hr.elim
end
end K28
end

section
set_option Elab.async false
set_option maxRecDepth 100000
set_option maxHeartbeats 4000000
namespace K28
open PySem PySem.Spec PyProof.Rows L2 Evl
def SetSO (w : World) (a : Addr) (ks : List Str) : HO := .ext fun h => SSh w h a ks
theorem setSO_new {w : World} {P : Program} {H : Hp} {h : Heap} {a : Addr} {ks : List Str} (R : SSh w h a ks) : ObjOk P w H h a (SetSO w a ks) := by
  have ⟨o, ho, _⟩ := R
  exact ⟨R, ⟨o, ho⟩, fun h1 h2 p k => SSh.at' p k⟩
section
variable {X : Cx}
theorem setSO_get {pins : List (Addr × Obj)} {σ : L2.St} {H : Hp} {s : Shared} {a : Addr} {ks : List Str} (I : Inv X pins σ H s) (ha : H a = some (SetSO X.w a ks)) : SSh X.w s.heap a ks := (I.hok a _ ha).1
theorem addSO_ok {pins : List (Addr × Obj)} {σ : L2.St} {H : Hp} {s : Shared} {E : Value → Shared → Prop} {D : Addr} {ks : List Str} {y : Str} {tk : Tok} {Q : Value → Shared → Prop} (I : Inv X pins σ H s) (hD : H D = some (SetSO X.w D ks)) (room : ks.length + 1 < scanBound)
    (h : ∀ s', Inv X pins σ (upd H D (SetSO X.w D (addS ks y))) s' → Q .none s') : wpAny (model X.prog X.w) X.A (call (.builtin "set.add") [.ref D, .str y tk]) Q E s := by
  have R := setSO_get I hD
  obtain ⟨o, ho, so⟩ := id R
  have hT : s.TypeIs (.ref D) "set" := by
    obtain ⟨_, _, _, hx, _⟩ := so
    exact ⟨o, ho, hx.1⟩
  refine wpAny_call_entry F.slot_set_add hT F.entry_set_add ?_ (F.args_set_add_2 _ _)
  unfold Builtin.«set.add» Builtin.Frozenset.oneOther
  simp only [List.isEmpty_nil, bind_assoc]
  unfold Builtin.Frozenset.addrOf
  refine wpAny_bind (wpAny_pure ?_)
  try dsimp only
  refine wpAny_bind (wpAny_pure ?_)
  try dsimp only
  refine wpAny_bind (setAddS R room fun r h' sb new => ?_)
  have he : ∃ u, h'.get? D = some u := by
    have ⟨o, ho, _⟩ := new
    exact ⟨o, ho⟩
  show wpAny _ _ (ret Value.none) _ _ _
  exact wpAny_pure ⟨_, rfl, h _ (I.write (e := D) (t' := s.toks + 1) (by rw [hD]; trivial) (.inl rfl) (fun b u hb hu => (sb.2 b hb).trans hu) he (setSO_new new))⟩
/-- {elt for target in iter if ..}, elt a text: D the new set -/
def tScS (w : World) (wi : TI) (g : TG) (tt : TT) (te : TE) (vs : List Nat) : TE := fun σ H Q => wi σ H fun J H1 => ∀ D, H1 D = none → ∃ W : Nat → Nat → Hp → Prop, (∃ m, W 0 m (upd H1 D (SetSO w D []))) ∧ ∀ i m H, W i m H →
  (J.stop i H ∧ Q (.ref D) H) ∨ (J.go i H ∧ ∃ Nx : Hp → Prop, (∀ H', Nx H' → ∃ m', m' < m ∧ W (i + 1) m' H') ∧ ∀ x H', J.yld i H x H' → g x (wipe σ vs) H' fun σ2 H2 => wipe σ2 vs = wipe σ vs ∧ tt σ2 H2 fun b H3 =>
    if b = true then te σ2 H3 fun y H4 => ∃ (c : Str) (ks : List Str), y = .str c ∧ H4 D = some (SetSO w D ks) ∧ ks.length + 1 < scanBound ∧ Nx (upd H4 D (SetSO w D (addS ks c))) else Nx H3)
theorem sc_coreS {pins : List (Addr × Obj)} {s : Shared} {σ : L2.St} {H : Hp} {Q : VK} {elt tg iter : Expr} {ifs : List Expr} {scope : Scope} {own : List (PySem.Str × Nat)} {pos pos' : Pos} {wi : TI} {g : TG} {tt : TT} {te : TE} {use : Option (Value → Sem Unit)} {Qf : Value → Shared → Prop}
    (hc : X.calm = true) (hN : X.N.Nodup) (I : Inv X pins σ H s) (hi : PI X tg iter wi) (ok : BlkOk X.N X.env.scope scope own)
    (hg : ∀ (s : Shared) (H : Hp) (C : Addr) (cl : List (PySem.Str × Addr)) (fp : List Addr), PG (X.blk s H scope (compEnvC scope cl C X.env) fp) tg g) (ht : ∀ (s : Shared) (H : Hp) (C : Addr) (cl : List (PySem.Str × Addr)) (fp : List Addr), PTs (X.blk s H scope (compEnvC scope cl C X.env) fp) ifs tt)
    (he : ∀ (s : Shared) (H : Hp) (C : Addr) (cl : List (PySem.Str × Addr)) (fp : List Addr), PE (X.blk s H scope (compEnvC scope cl C X.env) fp) elt te) (hs : ∀ x, foldedSetIterable iter X.env x = pure x)
    (h : tScS X.w wi g tt te (own.map (·.2)) σ H Q)
    (hRR : ∀ D C s' m H', Inv X pins σ H' s' → Q (.ref D) H' → s'.heap.Ns C m → FpOk X pins H' C → compPost (model X.prog X.w) X.A X.xe use Qf (.ref D) C (.ok .next) s') :
    wpAny (model X.prog X.w) X.A (comprehension (.SetComp elt [⟨tg, iter, ifs, 0⟩] scope pos) scope X.env pos' (newSet (.type "set")) false (eval iter X.env) use) Qf X.xe s := by
  have hfree : ∀ y ∈ scope.names, y.2 = .free → ∃ c, X.env.cells.lookup y.1 = some c := fun y hy e => by
    rcases ok.free y hy e with k | k
    · exact I.ok.has _ (.inl k)
    · exact I.ok.has _ (.inr k)
  refine wpAny_comprehension_free (use := use) rfl hs (closure_ok hfree) ok.kind (fun y hy e => by rw [ok.uniq y hy, e])
    (thn (hi.run pins s σ H _ I h) fun xv s1 hx => thn hx fun itv s2 h2 => ?_)
  obtain ⟨it, fp, tn, J, H2, e, I2, T, st2, f2, q⟩ := h2
  subst e
  refine PpSet.newSet_ok (newEnv_comp ?_)
  generalize hD : s2.heap.objs.size = D
  have hDn : H2 D = none := I2.hok.fresh (Nat.le_of_eq hD)
  obtain ⟨W, ⟨m0, w0⟩, turn⟩ := q D hDn
  -- the new list
  generalize hs3 : ({ s2 with heap := s2.heap.push { cls := .type "set", dict := none, data := .set #[] 0 (.fresh 0 0 (!X.w.params.followText "set-order")) } } : Shared) = s3
  have I3 : Inv X pins σ (upd H2 D (SetSO X.w D [])) s3 := by
    rw [← hs3]
    refine I2.laid (t' := s2.toks) (fun b o e => Heap.get?_push_of_some _ e) (Nat.le_of_eq hD) ?_
    rw [← hD]
    exact setSO_new (ssh_fresh (Heap.get?_push_size _ rfl))
  have h3 : s3.heap = s2.heap.push { cls := .type "set", dict := none, data := .set #[] 0 (.fresh 0 0 (!X.w.params.followText "set-order")) } := by rw [← hs3]
  have sz : ∀ b ∈ fp, b < s2.heap.objs.size := fun b hb => by
    obtain ⟨o, e, _⟩ := T.obj _ _ st2 b hb
    exact Heap.lt_size e
  have f3 : ∀ b ∈ fp, FpOk X pins (upd H2 D (SetSO X.w D [])) b ∧ b < s3.heap.objs.size := fun b hb => by
    have hlt := sz b hb
    refine ⟨⟨?_, (f2 b hb).2⟩, by rw [h3, Heap.size_push]; exact Nat.lt_succ_of_lt hlt⟩
    rw [upd_ne (by rw [← hD]; exact Nat.ne_of_lt hlt)]
    exact (f2 b hb).1
  have st3 : tn 0 s3.heap := T.keep _ _ _ st2 fun b _ o e => by rw [h3]; exact Heap.get?_push_of_some _ e
  have I4 := block_start I3 ok hN f3
  have pg := hg s3 (upd H2 D (SetSO X.w D [])) s3.heap.objs.size (cellsFrom (s3.heap.objs.size + 1) scope.names (cloFrom X.env.cells scope.names [])) fp
  have pt := ht s3 (upd H2 D (SetSO X.w D [])) s3.heap.objs.size (cellsFrom (s3.heap.objs.size + 1) scope.names (cloFrom X.env.cells scope.names [])) fp
  have pe := he s3 (upd H2 D (SetSO X.w D [])) s3.heap.objs.size (cellsFrom (s3.heap.objs.size + 1) scope.names (cloFrom X.env.cells scope.names [])) fp
  show codeAny _ _ (.compStart (.SetComp elt [⟨tg, iter, ifs, 0⟩] scope pos) 0 (.ref it) (.ref D) (compEnvC scope (cellsFrom (s3.heap.objs.size + 1) scope.names (cloFrom X.env.cells scope.names [])) s3.heap.objs.size X.env)) (compPost (model X.prog X.w) X.A X.xe use Qf (.ref D) s3.heap.objs.size) { s3 with heap := pushCells (s3.heap.push { cls := .type "dict", data := .dict #[] }) scope.names }
  have nfp : ∀ b ∈ fp, (upd H2 D (SetSO X.w D [])) b = none := fun b hb => (f3 b hb).1.1
  generalize hce : compEnvC scope (cellsFrom (s3.heap.objs.size + 1) scope.names (cloFrom X.env.cells scope.names [])) s3.heap.objs.size X.env = ce at I4 pg pt pe ⊢
  have cL : ce.locals = s3.heap.objs.size := by subst hce; rfl
  generalize hH3 : upd H2 D (SetSO X.w D []) = H3 at I3 I4 pg pt pe w0 nfp f3
  generalize hs4 : ({ s3 with heap := pushCells (s3.heap.push { cls := .type "dict", data := .dict #[] }) scope.names } : Shared) = s4 at I4 ⊢
  have st4 : tn 0 s4.heap := T.keep _ _ _ st3 fun b _ o e => by rw [← hs4]; exact pushCells_keeps _ _ _ _ (Heap.get?_push_of_some _ e)
  have stat : ∀ {σ' : L2.St} {H' : Hp} {s' : Shared}, Inv (X.blk s3 H3 scope ce fp) [] σ' H' s' → (∀ b ∈ fp, H' b = none) → ∀ b ∈ fp, FpOk (X.blk s3 H3 scope ce fp) [] H' b := fun {σ' H' s'} I' hn b hb =>
    ⟨hn b hb, (I'.ok.exf b hb).1, I'.ok.exfs b hb, .inl hb, fun x c e => (I'.ok.exf b hb).2 x c e, fun p hp => absurd (show p ∈ ([] : List (Addr × Obj)) ++ [] from hp) (by simp)⟩
  have loop : codeAny (model X.prog X.w) X.A (.compLoop (.SetComp elt [⟨tg, iter, ifs, 0⟩] scope pos) 0 (.ref it) (.ref D) ce) (compPost (model X.prog X.w) X.A X.xe use Qf (.ref D) s3.heap.objs.size) s4 := by
    refine PpSet.compLoopS_any (fun n s' => ∃ i H', Inv (X.blk s3 H3 scope ce fp) [] (wipe σ (own.map (·.2))) H' s' ∧ tn i s'.heap ∧ (∀ b ∈ fp, H' b = none) ∧ W i n H') ?_ m0 ⟨0, H3, I4, st4, nfp, w0⟩
    rintro n s5 ⟨i, H5, I5, st5, n5, w5⟩
    rcases turn i n H5 w5 with ⟨stop, qq⟩ | ⟨go, Nx, hNx, step⟩
    · have td := T.done (X.blk s3 H3 scope ce fp) rfl rfl rfl hc i [] s5 _ H5 (fun _ _ => False) I5 (stat I5 n5) st5 stop
      refine thnF td fun r s6 ⟨hr, I6⟩ => ?_
      subst hr
      -- back in the def's context
      have I7 : Inv X pins σ H5 s6 := I3.call' (ch := fp) I6.os I6.base I6.hok I6.bare fun b hb => ⟨(f3 b hb).1.2.2.2.1, (f3 b hb).1.2.1, (f3 b hb).1.2.2.2.2.1, (f3 b hb).1.2.2.2.2.2⟩
      have nC : H5 s3.heap.objs.size = none := by
        have z : H5 ce.locals = none := I6.free
        rw [cL] at z
        exact z
      obtain ⟨m, hn, _⟩ := I6.loc
      have hn : s6.heap.Ns ce.locals m := hn
      rw [cL] at hn
      exact hRR D s3.heap.objs.size s6 m H5 I7 qq hn (I3.fpOk (Nat.le_refl _) nC)
    · have ti := T.item (X.blk s3 H3 scope ce fp) rfl rfl rfl hc i [] s5 _ H5 (fun _ _ => False) I5 (stat I5 n5) st5 go
      refine thnF ti fun r s6 ⟨u, hr, h6⟩ => ?_
      subst hr
      refine thnF h6 fun _ s7 ⟨x, H7, I7, r7, y7, st7, n7⟩ => ?_
      have I7' := I7.pinned (stat I7 n7) (T.obj _ _ st7)
      refine thnF (pg.run _ s7 _ H7 x u _ I7' r7 (step x H7 y7)) fun _ s8 ⟨σ8, H8, I8, hw8, q8⟩ => ?_
      refine thnF (pt.run _ s8 σ8 H8 _ I8 q8) fun b s9 ⟨H9, I9, q9⟩ => ?_
      -- the turn's end
      have fin : ∀ {s' : Shared} {H' : Hp}, Inv (X.blk s3 H3 scope ce fp) ([] ++ pinsAt fp s7.heap) σ8 H' s' → Nx H' → ∃ m, m < n ∧ ∃ i H', Inv (X.blk s3 H3 scope ce fp) [] (wipe σ (own.map (·.2))) H' s' ∧ tn i s'.heap ∧ (∀ b ∈ fp, H' b = none) ∧ W i m H' := fun {s' H'} I' nx => by
        obtain ⟨m', hm, w'⟩ := hNx H' nx
        have pin' : ∀ b ∈ fp, ∀ o, s7.heap.get? b = some o → s'.heap.get? b = some o ∧ H' b = none := fun b hb o e =>
          let z := I'.pin (b, o) (List.mem_append_right _ (List.mem_append_right _ (mem_pinsAt hb e)))
          ⟨z.1, z.2.1⟩
        have hl : (wipe σ (own.map (·.2))).length = σ8.length := by rw [← hw8, wipe_length]
        refine ⟨m', hm, i + 1, H', (I'.unpinned (pins := [])).weak hl (fun j v e => ?_), T.keep _ _ _ st7 fun b hb o e => (pin' b hb o e).1, fun b hb => ?_, w'⟩
        · rw [← hw8] at e
          exact (wipe_some e).1
        · obtain ⟨o, e, _⟩ := T.obj _ _ st7 b hb
          exact (pin' b hb o e).2
      cases b with
      | false =>
        simp only [Bool.false_eq_true, if_false] at q9 ⊢
        exact fin I9 q9
      | true =>
        simp only [if_true] at q9 ⊢
        refine thnF (pe.run _ s9 σ8 H9 _ I9 q9) fun z s10 ⟨yv, H10, I10, r10, cb, ks0, ey, hD10, hz10, nx⟩ => ?_
        subst ey
        obtain ⟨tk10, ez⟩ := (show ∃ t, z = Value.str cb t from r10)
        subst ez
        exact addSO_ok (X := X.blk s3 H3 scope ce fp) I10 hD10 hz10 fun s11 I11 => fin I11 nx
  exact PpSet.codeAny_compStart_set loop (T.self X.A 0 _ _ _ st4 loop)
/-- as a value -/
theorem pe_scS {elt tg iter : Expr} {ifs : List Expr} {scope : Scope} {own : List (PySem.Str × Nat)} {pos : Pos} {wi : TI} {g : TG} {tt : TT} {te : TE} (hc : X.calm = true) (hN : X.N.Nodup) (hi : PI X tg iter wi) (ok : BlkOk X.N X.env.scope scope own)
    (hg : ∀ (s : Shared) (H : Hp) (C : Addr) (cl : List (PySem.Str × Addr)) (fp : List Addr), PG (X.blk s H scope (compEnvC scope cl C X.env) fp) tg g) (ht : ∀ (s : Shared) (H : Hp) (C : Addr) (cl : List (PySem.Str × Addr)) (fp : List Addr), PTs (X.blk s H scope (compEnvC scope cl C X.env) fp) ifs tt)
    (he : ∀ (s : Shared) (H : Hp) (C : Addr) (cl : List (PySem.Str × Addr)) (fp : List Addr), PE (X.blk s H scope (compEnvC scope cl C X.env) fp) elt te) (hs : ∀ x, foldedSetIterable iter X.env x = pure x := by intro _; rfl) :
    PE X (.SetComp elt [⟨tg, iter, ifs, 0⟩] scope pos) (tScS X.w wi g tt te (own.map (·.2))) := by
  refine ⟨fun pins s σ H Q I h => ?_⟩
  rw [PpSet.eval_SetComp]
  refine sc_coreS hc hN I hi ok hg ht he hs h fun D C s' m H' I' q hn f => ⟨m, hn, fun h'' sb => ?_⟩
  obtain ⟨f0, f1, f2, f3, f4, f5⟩ := f
  exact ⟨.ref D, H', I'.turned (t' := s'.toks) (fun b o hb e => (sb.2 b hb).trans e) f0 f1 f3 f4 f5, rfl, q⟩
end
/-- .. over a walk -/
theorem scS_it {J : It} {n : Nat} {G : Hp → Prop} {Y : Nat → Hp → V → Hp → Prop} {w : World} (wk : Walk J n G Y) {g : TG} {tt : TT} {te : TE} {vs : List Nat} {σ : L2.St} {H1 : Hp} {D : Addr} {Qd : Hp → Prop} (Pv : Nat → Hp → Prop) (h0 : Pv 0 (upd H1 D (SetSO w D []))) (hG : ∀ i H, i ≤ n → Pv i H → G H)
    (hs : ∀ i x H H', i < n → Pv i H → Y i H x H' → g x (wipe σ vs) H' fun σ2 H2 => wipe σ2 vs = wipe σ vs ∧ tt σ2 H2 fun b H3 =>
      if b = true then te σ2 H3 fun y H4 => ∃ (c : Str) (ks : List Str), y = .str c ∧ H4 D = some (SetSO w D ks) ∧ ks.length + 1 < scanBound ∧ Pv (i + 1) (upd H4 D (SetSO w D (addS ks c))) else Pv (i + 1) H3) (hd : ∀ H, Pv n H → Qd H) :
    ∃ W : Nat → Nat → Hp → Prop, (∃ m, W 0 m (upd H1 D (SetSO w D []))) ∧ ∀ i m H, W i m H →
      (J.stop i H ∧ Qd H) ∨ (J.go i H ∧ ∃ Nx : Hp → Prop, (∀ H', Nx H' → ∃ m', m' < m ∧ W (i + 1) m' H') ∧ ∀ x H', J.yld i H x H' → g x (wipe σ vs) H' fun σ2 H2 => wipe σ2 vs = wipe σ vs ∧ tt σ2 H2 fun b H3 =>
        if b = true then te σ2 H3 fun y H4 => ∃ (c : Str) (ks : List Str), y = .str c ∧ H4 D = some (SetSO w D ks) ∧ ks.length + 1 < scanBound ∧ Nx (upd H4 D (SetSO w D (addS ks c))) else Nx H3) := by
  refine ⟨fun i m H => m = n - i ∧ i ≤ n ∧ Pv i H, ⟨n, by simp, Nat.zero_le _, h0⟩, ?_⟩
  rintro i m H ⟨rfl, hi, p⟩
  have q := hG i H hi p
  by_cases hlt : i < n
  · refine .inr ⟨wk.goes i H hlt q, Pv (i + 1), fun H' p' => ⟨n - (i + 1), by omega, rfl, hlt, p'⟩, fun x H' y => hs i x H H' hlt p (wk.yields i H x H' hlt q y)⟩
  · have e : i = n := by omega
    subst e
    exact .inl ⟨wk.stops H q, hd H p⟩
/-- len(s) -/
def rLenS2 (w : World) : List V → Hp → VK → Prop := fun xs H Q => ∃ a ks, xs = [.ref a] ∧ H a = some (SetSO w a ks) ∧ Q (.int ks.length) H
section
variable {X : Cx}
theorem ssh_setOf {P : Program} {w : World} {h : Heap} {a : Addr} {ks : List Str} (R : SSh w h a ks) : h.SetOf (PySem.strKind P w) a (fun k => decide (k ∈ ks)) ks.length := by
  obtain ⟨o, ho, es, ep, t, hx, hd, g, nd, hm, hb, hf, hr, hl⟩ := R
  have hlen : es.size = ks.length := by
    have := hm.length_eq
    rw [List.length_map, Array.length_toList] at this
    exact this
  exact ⟨o, es, ep, t, ho, hx, hd, goodS_elems g, fun k => by rw [decide_eq_true_eq, ← hm.mem_iff]; exact goodS_mem g k, hb, hf, hlen⟩
theorem cr_lenSS : CallR X (.builtin "len") (rLenS2 X.w) := by
  intro pins s σ H xs us Q I r h
  obtain ⟨a, ks, rfl, ha, q⟩ := h
  rw [Vals.ref1 r]
  obtain ⟨o, ho, es, ep, t, hx, hd, g, nd, hm, hb, hf, hr, hl⟩ := setSO_get I ha
  have hlen : es.size = ks.length := by
    have := hm.length_eq
    rw [List.length_map, Array.length_toList] at this
    exact this
  have hb2 : es.size < 4096 := hb
  exact call_len_set ho hx hd hf (by omega) ⟨.int ks.length, H, I.tok _, ⟨_, by rw [hlen] <;> rfl⟩, q⟩
/-- set(xs) of a list of texts -/
def rSetOfS (K : PySem.W.Frag) (w : World) : List V → Hp → VK → Prop := fun xs H Q => ∃ l, ∃ ks : List Str, xs = [.ref l] ∧ SqL K H l (ks.map V.str) ∧ ks.length < 4000 ∧ ∀ p, H p = none → Q (.ref p) (upd H p (SetSO w p (addAll [] ks)))
theorem cr_setOfS (hc : X.calm = true) : CallR X (.type "set") (rSetOfS X.K X.w) := by
  intro pins s σ H xs us Q I r h
  obtain ⟨l, ks, rfl, hl, hz, q⟩ := h
  rw [Vals.ref1 r]
  obtain ⟨its, rv, p, la⟩ := I.list hl
  refine call_set_strs (w := X.w) ks (I.ok.hd hc) p.isList (by simpa using strsAre_of rv) hz fun h' tk R k => ?_
  exact ⟨.ref _, _, I.laid (t' := tk) k (Nat.le_refl _) (setSO_new R), rfl, q _ (I.hok.fresh (Nat.le_refl _))⟩
/-- sorted(s) of a set of texts -/
def rSortedSS (w : World) : List V → Hp → VK → Prop := fun xs H Q => ∃ a, ∃ ks : List Str, xs = [.ref a] ∧ H a = some (SetSO w a ks) ∧ ks.length < 64 ∧ ∀ ys p, ys.Perm ks → ys.Nodup → sortedS ys = true → H p = none → Q (.ref p) (upd H p (.lst (ys.map V.str)))
theorem strs_vals : ∀ {vs : List Value}, (∀ v ∈ vs, ∃ k tk, v = Value.str k tk) → ∃ ks, StrsAre vs ks ∧ ks = vs.map (fun v => keyS (0, v))
  | [], _ => ⟨[], .nil, rfl⟩
  | v :: vs, h => by
    obtain ⟨k, tk, rfl⟩ := h v List.mem_cons_self
    obtain ⟨ks, h1, h2⟩ := strs_vals (vs := vs) fun u hu => h u (List.mem_cons_of_mem _ hu)
    exact ⟨k :: ks, .cons k tk h1, by rw [h2]; rfl⟩
theorem cr_sortedSS (hc : X.calm = true) : CallR X (.builtin "sorted") (rSortedSS X.w) := by
  intro pins s σ H xs us Q I r h
  obtain ⟨a, ks, rfl, ha, h64, q⟩ := h
  rw [Vals.ref1 r]
  obtain ⟨o, ho, es, ep, t, hx, hd, g, nd, hm, hb, hf, hr, hl⟩ := setSO_get I ha
  have hlen : es.size = ks.length := by
    have := hm.length_eq
    rw [List.length_map, Array.length_toList] at this
    exact this
  refine Calls.call_function_entry PyProof.Rows.kind_sorted PyProof.Rows.plain_sorted PyProof.Rows.entry_sorted (PyProof.Rows.args_sorted1 _) ?_
  unfold Builtin.«sorted»
  refine wpAny_bind (m := checkCount "sorted" 1 1 _) (wpAny_pure ?_)
  refine wpAny_bind (collect_set (A := X.A.in1) (I.ok.hd hc) ⟨o, ho, hx.1, hd⟩ hf hb hr hl fun s1 vs k1 hz g1 o1 pm => ?_)
  obtain ⟨zs, hS, hzs⟩ := strs_vals (vs := vs) fun v hv => by
    obtain ⟨e, he, qe⟩ := List.mem_map.mp (pm.mem_iff.mp hv)
    obtain ⟨k, tk, h1, _⟩ := g e he
    exact ⟨k, tk, by rw [← qe]; exact h1⟩
  have pz : zs.Perm ks := by
    rw [hzs]
    refine (pm.map _).trans ?_
    rw [List.map_map]
    exact hm
  have hvl : vs.length = ks.length := by rw [pm.length_eq, List.length_map, Array.length_toList]; exact hlen
  have e1 : s1 = { s with heap := s1.heap, gens := s1.gens, drawn := s1.drawn, toks := s1.toks } := by
    cases s1
    cases s
    cases o1
    rfl
  have I1 : Inv X pins σ H s1 := by
    rw [e1]
    exact I.call' (s' := { s with heap := s1.heap, gens := s1.gens, drawn := s1.drawn, toks := s1.toks }) (ch := []) rfl (Un.kept k1) (I.hok.kept k1) (by rw [g1]; exact I.bare) (fun _ z => nomatch z)
  refine wpAny_bind (wpAny_newList ?_ (by rw [hvl, sizeLine_eq]; omega))
  have hoL : (s1.heap.push (seqObj "list" vs.toArray 0)).get? s1.heap.objs.size = some (seqObj "list" vs.toArray 0) := Heap.get?_push_size _ rfl
  show wpAny _ _ _ _ _ { s1 with heap := s1.heap.push (seqObj "list" vs.toArray 0) }
  refine wpAny_bind (wpAny_holding (wpAny_call_entry PyProof.Rows.slot_list_sort ⟨_, hoL, rfl⟩ PyProof.Rows.entry_list_sort
    (list_sort_treeK strKind_oneLt (s := { s1 with heap := s1.heap.push (seqObj "list" vs.toArray 0) }) hoL hS.keysOf (fun v₁ v₂ rest e => keyKind_strs (by rw [← e]; exact hS)) (by rw [hvl]; exact h64) fun st' hp hs => ⟨_, rfl, ?_⟩)
    (PyProof.Rows.args_list_sort _)))
  obtain ⟨ys, y1, y2, y3⟩ := sorted_out_str hS hp hs
  obtain ⟨e', he'⟩ := PyProof.Rows.sortedHeap_at (vs := vs) (out := (arrOf st').map (·.2)) hoL
  have hlen2 : (ys.map V.str).length ≤ sizeLine := by
    rw [List.length_map, (y2.trans pz).length_eq]
    exact Nat.le_trans (Nat.le_of_lt h64) (by decide)
  have ndk : ks.Nodup := hm.nodup_iff.mp nd
  refine wpAny_pure ⟨_, rfl, .ref s1.heap.objs.size, upd H s1.heap.objs.size (.lst (ys.map V.str)), I1.laid (t' := s1.toks) (fun b u e => ?_) (Nat.le_refl _)
    (show ObjOk X.prog X.w _ _ _ (.lst (ys.map V.str)) from ⟨hlen2, ((arrOf st').map (·.2)).toList, e', vals_of_strs y1, by rw [Array.toArray_toList]; exact he'⟩), rfl, q ys _ (y2.trans pz) ((y2.trans pz).nodup_iff.mpr ndk) y3 (I1.hok.fresh (Nat.le_refl _))⟩
  have hb : b < s1.heap.objs.size := Heap.lt_size e
  rw [PyProof.Rows.sortedHeap_old (Nat.ne_of_lt hb) (by rw [size_push']; exact Nat.lt_succ_of_lt hb)]
  exact Heap.get?_push_of_some _ e
end
end K28
end

section
set_option Elab.async false
set_option maxRecDepth 100000
set_option maxHeartbeats 4000000
namespace K28
open PySem PySem.Spec PyProof.Rows L2 Evl
def tListVals (td : TE) : TE := fun σ H Q => td σ H fun x H1 => ∃ d, ∃ kvs : List (Key × V), x = .ref d ∧ Rd H1 d (.dK kvs) ∧ ∀ p, H1 p = none → Q (.ref p) (upd H1 p (.lst (kvs.map (·.2))))
theorem vals_each : ∀ {xs : List V} {us : List Value}, us.length = xs.length → (∀ (j : Nat) (u : Value), us[j]? = some u → ∃ x, xs[j]? = some x ∧ RelV x u) → Vals xs us
  | [], [], _, _ => .nil
  | x :: xs, u :: us, hl, h => by
    obtain ⟨y, e1, e2⟩ := h 0 u rfl
    have e3 : x = y := Option.some.inj e1
    subst e3
    exact .cons e2 (vals_each (by simpa using hl) fun j v e => by simpa using h (j + 1) v (by simpa using e))
  | [], _ :: _, hl, _ => by simp at hl
  | _ :: _, [], hl, _ => by simp at hl
theorem pe_listVals {X : Cx} {e : Expr} {td : TE} {p pos apos cpos : Pos} (hc : X.calm = true) (hg : Gl X "list") (hm : X.mg "list" = none) (he : PE X e td)
    (hbase : attributeBase e "values" X.env (eval e X.env) = eval e X.env := by rfl) (hline : (apos.endLine == cpos.line) = true := by rfl)
    (hs : starEach [.Call (.Attribute e "values" apos) [] [] cpos] X.env = [(false, eval (.Call (.Attribute e "values" apos) [] [] cpos) X.env)] := by rfl) :
    PE X (.Call (.Name "list" p) [.Call (.Attribute e "values" apos) [] [] cpos] [] pos) (tListVals td) := by
  refine ⟨fun pins s σ H Q I h => Call_ (ld_blt I hg hm boot_list (PyProof.Rows.callWith_type1 ?_ hs rfl))⟩
  rw [hs]
  show wpAny _ _ (spliced ((false, eval (.Call (.Attribute e "values" apos) [] [] cpos) X.env) :: [])) _ _ _
  refine Calls.spliced_cons (wpAny_Call_method (T := "dict") (id := "dict.values") hbase rfl hline F.plainAttrs_dict F.slot_dict_values F.type_dict_values (thn (he.run pins s σ H _ I h) fun u s1 ⟨x, H1, I1, rx, d, kvs, ex, hd, q⟩ => ?_))
  subst ex
  obtain rfl : u = Value.ref d := rx
  obtain ⟨z, lo, vs, rel, dd⟩ := dk_rd I1.hok hd
  refine ⟨dd.typeIs, dd.mapOf.noDict, ?_⟩
  obtain ⟨es, ep, ⟨o, ho, hx, hdt⟩, hsz, hent⟩ := dd.raw
  have hl : kvs.length = vs.length := rel.length
  have I2 : Inv X pins σ H1 { s1 with heap := s1.heap.push { cls := .type "dict_values", data := .fields #[.ref d] } } := I1.kept (t' := s1.toks) fun b ob q => Heap.get?_push_of_some _ q
  have hlt : d < s1.heap.objs.size := Heap.lt_size ho
  show wpAny _ _ (callWith cpos (.builtin "dict.values") [.ref d] [] []) _ X.xe s1
  refine method_meetsIn F.slot_dict_values F.entry_dict_values rfl (PySem.evalArgs_none ⟨rfl, dd.typeIs, F.args_dict_values_1 _, _, meets_dict_values (mixKind X.prog X.w) d lo, ⟨vs, dd⟩, ?_⟩)
  refine Calls.spliced_nil ?_
  refine PySem.W.kdl_call (KdlSrc.rawValues (r := s1.heap.objs.size) (d := d) (es := es) (ep := ep)) (I2.ok.hd hc) ⟨⟨_, Heap.get?_push_size _ rfl, rfl, rfl⟩, ⟨o, Heap.get?_push_of_some _ ho, hx, hdt⟩⟩ (by rw [hsz, ← hl]; exact z) fun h' tk acc c' hk hD hacc => ?_
  have hzz : (kvs.map (·.2)).length ≤ sizeLine := by rw [List.length_map]; exact z
  have hv : Vals (kvs.map (·.2)) acc.toList := by
    refine vals_each (by rw [Array.length_toList, hacc.1, List.length_map, hsz, hl]) fun j u e => ?_
    obtain ⟨hi, e2⟩ := hacc.2 j u (by rw [← Array.getElem?_toList]; exact e)
    have hj : j < kvs.length := by omega
    obtain ⟨v0, h0, r0⟩ := kv_get rel (List.getElem?_eq_getElem hj)
    obtain ⟨_, e3⟩ := hent j hi _ _ h0
    refine ⟨kvs[j].2, by rw [List.getElem?_map, List.getElem?_eq_getElem hj]; rfl, ?_⟩
    rw [e2, e3]
    exact r0
  have hn := I2.hok.fresh (Nat.le_refl _)
  exact ⟨.ref _, _, I2.laid (t' := tk) hk (Nat.le_refl _) (show ObjOk X.prog X.w _ _ _ (.lst (kvs.map (·.2))) from ⟨hzz, acc.toList, c', hv, by rw [Array.toArray_toList]; exact hD⟩), rfl, q _ hn⟩
end K28
end

section
set_option Elab.async false
set_option maxRecDepth 100000
set_option maxHeartbeats 4000000
namespace K28
open PySem PySem.Spec PyProof.Rows L2 Evl
def StrmO (a : Addr) : HO := .ext fun h => ∃ (its : List Value) (n : Nat), h.get? a = some { cls := .type "list", data := .seq its.toArray n } ∧ ∃ x y z : Int, Vals [.int x, .int y, .int z] its
theorem strm_ok {P : Program} {w : World} {H : Hp} {h : Heap} {a : Addr} {x y z : Int} (r : ObjOk P w H h a (.lst [.int x, .int y, .int z])) : ObjOk P w H h a (StrmO a) := by
  obtain ⟨_, its, n, rv, e⟩ := r
  exact ⟨⟨its, n, e, x, y, z, rv⟩, ⟨_, e⟩, fun h1 h2 ⟨its, n, e, q⟩ k => ⟨its, n, k _ e, q⟩⟩
section
variable {X : Cx} {pins : List (Addr × Obj)} {σ : L2.St} {H : Hp} {s : Shared}
/-- seen as a list -/
theorem strm_open {a : Addr} (I : Inv X pins σ H s) (e : H a = some (StrmO a)) : ∃ x y z : Int, Inv X pins σ (upd H a (.lst [.int x, .int y, .int z])) s := by
  obtain ⟨⟨its, n, ho, x, y, z, rv⟩, _, _⟩ := (show ObjOk X.prog X.w H s.heap a (StrmO a) from I.hok a _ e)
  refine ⟨x, y, z, I.write (x := a) (e := a) (t' := s.toks) (h' := s.heap) (by rw [e]; exact True.intro) (.inl rfl) (fun b u _ q => q) ⟨_, ho⟩ ⟨by show 3 ≤ sizeLine; decide, its, n, rv, ho⟩⟩
/-- .. and back -/
theorem strm_close {a : Addr} {x y z : Int} {H' : Hp} (I : Inv X pins σ H' s) (e : H' a = some (.lst [.int x, .int y, .int z])) : Inv X pins σ (upd H' a (StrmO a)) s := by
  have ok := I.hok a _ e
  obtain ⟨_, its, n, rv, ho⟩ := (show ObjOk X.prog X.w H' s.heap a (.lst [.int x, .int y, .int z]) from ok)
  refine I.write (x := a) (e := a) (t' := s.toks) (h' := s.heap) (by rw [e]; exact True.intro) (.inl rfl) (fun b u _ q => q) ⟨_, ho⟩ ?_
  exact ⟨⟨its, n, ho, x, y, z, rv⟩, ⟨_, ho⟩, fun h1 h2 ⟨its, n, e, q⟩ k => ⟨its, n, k _ e, q⟩⟩
theorem upd_back {a : Addr} {o u : HO} (e : H a = some u) : upd (upd H a o) a u = H := by
  funext b
  by_cases h : b = a
  · subst h
    rw [upd_same, e]
  · rw [upd_ne h, upd_ne h]
def rIx3 : R2 := fun x y H Q => ∃ a i, x = .ref a ∧ y = .int i ∧ H a = some (StrmO a) ∧ 0 ≤ i ∧ i < 3 ∧ ∀ n : Int, Q (.int n) H
theorem at3 {x y z i : Int} (h0 : 0 ≤ i) (h3 : i < 3) : ∃ n : Int, atI [V.int x, .int y, .int z] i = some (.int n) := by
  have h : i = 0 ∨ i = 1 ∨ i = 2 := by omega
  rcases h with h | h | h <;> subst h
  · exact ⟨x, rfl⟩
  · exact ⟨y, rfl⟩
  · exact ⟨z, rfl⟩
theorem ix_strm : IxR X rIx3 := by
  intro value slice pins s σ H x y v u Q I rx ry h hs
  obtain ⟨a, i, rfl, rfl, ha, h0, h3, q⟩ := h
  obtain ⟨x1, y1, z1, I1⟩ := strm_open I ha
  obtain ⟨n, hn⟩ := at3 (x := x1) (y := y1) (z := z1) h0 h3
  refine wpAny_mono (ix_list value slice pins s σ _ (.ref a) (.int i) v u (fun v' H' => v' = .int n ∧ H' = upd H a (.lst [.int x1, .int y1, .int z1])) I1 rx ry ⟨a, _, i, _, rfl, rfl, SqL.of upd_same, hn, rfl, rfl⟩ hs) (fun r s' hr => ?_) fun _ _ e => e
  obtain ⟨v', H', I', r', rfl, rfl⟩ := hr
  have I2 := strm_close I' upd_same
  rw [upd_back ha] at I2
  exact ⟨.int n, H, I2, r', q n⟩
/-- [a, b, c] of ints -/
def tStrm (ta : TA) : TE := fun σ H Q => ta σ H fun vs H1 => ∃ x y z : Int, vs = [.int x, .int y, .int z] ∧ ∀ p, H1 p = none → Q (.ref p) (upd H1 p (StrmO p))
theorem pe_strm {es : List Expr} {ta : TA} {pos : Pos} (h : PA X es ta) : PE X (.List es pos) (tStrm ta) := by
  refine ⟨fun pins s σ H Q I hq => ?_⟩
  refine wpAny_List_spliced (thn (h.run pos pins s σ H _ I hq) fun us s1 ⟨vs, H1, I1, r, x, y, z, ev, q⟩ => ?_)
  subst ev
  have hl : us.length = 3 := by
    have := r.length
    simpa using this.symm
  refine ⟨by rw [hl]; decide, ?_⟩
  have hf : H1 s1.heap.objs.size = none := I1.hok.fresh (Nat.le_refl _)
  have e : (s1.heap.push { cls := .type "list", data := .seq us.toArray 0 }).get? s1.heap.objs.size = some { cls := .type "list", data := .seq us.toArray 0 } := Heap.get?_push_size _ rfl
  exact ⟨.ref s1.heap.objs.size, upd H1 s1.heap.objs.size (StrmO _), I1.laid (t' := s1.toks) (fun b u e => Heap.get?_push_of_some _ e) (Nat.le_refl _)
    ⟨⟨us, 0, e, x, y, z, r⟩, ⟨_, e⟩, fun h1 h2 ⟨its, n, e, q⟩ k => ⟨its, n, k _ e, q⟩⟩, rfl, q _ hf⟩
def rSet3 : V → V → V → Hp → (Hp → Prop) → Prop := fun o i v H Q => ∃ a k n, o = .ref a ∧ i = .int k ∧ v = .int n ∧ H a = some (StrmO a) ∧ 0 ≤ k ∧ k < 3 ∧ Q H
theorem set_strm : PSet X rSet3 := by
  intro pins s σ H o i v ov iv u Q I ro ri rv h
  obtain ⟨a, k, n, rfl, rfl, rfl, ha, h0, h3, q⟩ := h
  obtain ⟨x1, y1, z1, I1⟩ := strm_open I ha
  have hk : k = 0 ∨ k = 1 ∨ k = 2 := by omega
  have hj : ∃ j : Nat, ixN ([V.int x1, .int y1, .int z1] : List V).length k = some j ∧ ∃ x2 y2 z2 : Int, ([V.int x1, .int y1, .int z1] : List V).set j (.int n) = [.int x2, .int y2, .int z2] := by
    rcases hk with h | h | h <;> subst h
    · exact ⟨0, rfl, n, y1, z1, rfl⟩
    · exact ⟨1, rfl, x1, n, z1, rfl⟩
    · exact ⟨2, rfl, x1, y1, n, rfl⟩
  obtain ⟨j, hj, x2, y2, z2, e2⟩ := hj
  refine wpAny_mono (set_list pins s σ _ (.ref a) (.int k) (.int n) ov iv u (fun H' => H' = upd H a (.lst [.int x2, .int y2, .int z2])) I1 ro ri rv ⟨a, _, k, j, rfl, rfl, upd_same, hj, by rw [e2, upd_upd]⟩) (fun r s' hr => ?_) fun _ _ e => e
  obtain ⟨H', I', rfl⟩ := hr
  have I2 := strm_close I' upd_same
  rw [upd_back ha] at I2
  exact ⟨H, I2, q⟩
end
end K28
end

section
set_option Elab.async false
set_option maxRecDepth 100000
set_option maxHeartbeats 4000000
namespace K28
open PySem PySem.Spec PyProof.Rows L2 Evl
section
variable {P : Program} {w : World} {K : PySem.W.Frag} {mg : Str → Option Value} {base : Heap} {σ : L2.St} {H H' : Hp} {ta tb tc td te : TE} {x y z v : V} {b : Bool}
theorem ev_isi {m n : String} (ha : Ev ta σ H x) (hb : Ev tb σ H (.ty n)) (ty : ∀ H1, Ex H H1 → TyX K H1 x (.type m)) (e : kitB m n = some b) : Ev (tCB (rIsi K) (tCons ta (tCons tb tNil))) σ H (.bl b) :=
  ev_cb (ea_cons ha (ea_cons hb ea_nil)) fun H1 e1 _ q => ⟨x, .ty n, .type m, .type n, b, rfl, .ty n, ty H1 e1, kit_ty e, q H1 (Ex.refl _)⟩
theorem ev_isi2 {m n1 n2 : String} (ha : Ev ta σ H x) (hb : Ev tb σ H (.ty n1)) (hc : Ev tc σ H (.ty n2)) (ty : ∀ H1, Ex H H1 → TyX K H1 x (.type m)) (e : PySem.W.kitAny K (.type m) [.type n1, .type n2] = some b) :
    Ev (tCB (rIsiT K) (tCons ta (tCons (tTup (tCons tb (tCons tc tNil))) tNil))) σ H (.bl b) := fun H1 e1 Q q =>
  ha H1 e1 _ fun H2 e2 => hb H2 (e1.trans e2) _ fun H3 e3 => hc H3 ((e1.trans e2).trans e3) _ fun H4 e4 => ⟨by show 2 ≤ sizeLine; decide, fun p hp =>
    have e5 : Ex H1 (upd H4 p (.tup [.ty n1, .ty n2])) := ((e2.trans e3).trans e4).trans (Ex.new hp)
    ⟨x, p, [.ty n1, .ty n2], .type m, [.type n1, .type n2], b, rfl, upd_same, .cons (.ty n1) (.cons (.ty n2) .nil), ty _ (e1.trans e5), e, q _ e5⟩⟩
theorem ev_isC {C : Addr} {a dx : Addr} {fs : List (Str × V)} (ha : Ev ta σ H (.ref a)) (hb : Ev tb σ H (.ref C)) (e : H a = some (.ins C dx fs)) :
    Ev (tCB (fun xs H Q => ∃ a dx fs, xs = [.ref a, .ref C] ∧ H a = some (.ins C dx fs) ∧ Q (.bl true) H) (tCons ta (tCons tb tNil))) σ H (.bl true) :=
  ev_cb (ea_cons ha (ea_cons hb ea_nil)) fun H1 e1 _ q => ⟨a, dx, fs, rfl, e1 a _ e, q H1 (Ex.refl _)⟩
theorem ev_isND {a : Addr} {kvs : List (NK × V)} (ha : Ev ta σ H (.ref a)) (hb : Ev tb σ H (.ty "dict")) (e : NDk P w H a kvs) :
    Ev (tCB (fun xs H Q => ∃ a kvs, xs = [.ref a, .ty "dict"] ∧ NDk P w H a kvs ∧ Q (.bl true) H) (tCons ta (tCons tb tNil))) σ H (.bl true) :=
  ev_cb (ea_cons ha (ea_cons hb ea_nil)) fun H1 e1 _ q => ⟨a, kvs, rfl, e.ex e1, q H1 (Ex.refl _)⟩
theorem ev_chain {r r' : R2} {k : Bool} (ha : Ev ta σ H x) (hb : Ev tb σ H y) (h1 : RV r x y H (.bl k)) (hc : Ev tc σ H z) (h2 : RV r' y z H (.bl b)) : Ev (tChain r r' ta tb tc) σ H (.bl (k && b)) := fun H1 e1 Q q =>
  ha H1 e1 _ fun H2 e2 => hb H2 (e1.trans e2) _ fun H3 e3 => h1 H3 ((e1.trans e2).trans e3) _ fun H4 e4 => ⟨k, rfl, by
    cases k with
    | false => exact iteF (q _ (((e2.trans e3).trans e4)))
    | true =>
      refine iteT ?_
      exact hc H4 (((e1.trans e2).trans e3).trans e4) _ fun H5 e5 => h2 H5 ((((e1.trans e2).trans e3).trans e4).trans e5) _ fun H6 e6 => q H6 ((((e2.trans e3).trans e4).trans e5).trans e6)⟩
theorem et_chain {r r' : R2} {k : Bool} (ha : Ev ta σ H x) (hb : Ev tb σ H y) (h1 : RV r x y H (.bl k)) (hc : Ev tc σ H z) (h2 : RV r' y z H (.bl b)) : EvT (tTest (tChain r r' ta tb tc)) σ H (k && b) := et_test (ev_chain ha hb h1 hc h2)
/-- a field that stays -/
theorem ev_fld {a C dx : Addr} {fs : List (Str × V)} {f : Str} (ha : Ev ta σ H (.ref a)) (e : H a = some (.ins C dx fs)) (cl : Cls K C) (na : NoAttr K C f) (hf : fs.lookup f = some v) : Ev (tFld K ta f) σ H v := fun H1 e1 Q q =>
  ha H1 e1 _ fun H2 e2 => ⟨a, C, dx, fs, v, rfl, (e1.trans e2) a _ e, cl, na, hf, q H2 e2⟩
/-- len of a list or a tuple -/
theorem ev_lenK {k : Bool} {a : Addr} {xs : List V} (ha : Ev ta σ H (.ref a)) (h : SqK k K H a xs) : Ev (tCB (rLenS K) (tCons ta tNil)) σ H (.int (xs.length : Int)) :=
  ev_cb (ea_cons ha ea_nil) fun H1 e1 _ q => ⟨a, xs, rfl, (by
    cases k with
    | false => exact .inl (ex_l e1 h)
    | true => exact .inr (ex_t e1 h)), q H1 (Ex.refl _)⟩
theorem sqk_l {a : Addr} {xs : List V} (h : H a = some (.lst xs)) : SqK false K H a xs := sq_of h
theorem sqk_t {a : Addr} {xs : List V} (h : H a = some (.tup xs)) : SqK true K H a xs := st_of h
/-! ### what a for walks -/
variable {R : It → Hp → Prop}
theorem f_seq {k : Bool} {a : Addr} {xs : List V} (h : Ev te σ H (.ref a)) (hq : SqK k K H a xs) (q : ∀ H1, Ex H H1 → R (Itq k K a) H1) : iSeq K te σ H R :=
  h H (Ex.refl H) _ fun H1 e1 => ⟨k, a, xs, rfl, hq.ex e1, q H1 e1⟩
theorem f_enum {k : Bool} {a : Addr} {xs : List V} {t : TA} (h : EvA t σ H [.ref a]) (hq : SqK k K H a xs) (q : ∀ H1, Ex H H1 → R (IteK k K a) H1) : iEnumA K t σ H R :=
  h H (Ex.refl H) _ fun H1 e1 => ⟨k, a, xs, rfl, hq.ex e1, q H1 e1⟩
theorem f_zip {j k : Bool} {a c : Addr} {xs ys : List V} {t : TA} (h : EvA t σ H [.ref a, .ref c]) (hx : SqK j K H a xs) (hy : SqK k K H c ys) (q : ∀ H1, Ex H H1 → R (ItzK j k K a c) H1) : iZipM K t σ H R :=
  h H (Ex.refl H) _ fun H1 e1 => ⟨j, k, a, c, xs, ys, rfl, hx.ex e1, hy.ex e1, q H1 e1⟩
theorem f_str {x : Str} (h : Ev te σ H (.str x)) (q : ∀ H1, Ex H H1 → R (Its x) H1) : iStr te σ H R := h H (Ex.refl H) _ fun H1 e1 => ⟨x, rfl, q H1 e1⟩
theorem f_range {n : Nat} {t : TA} (h : EvA t σ H [.int (n : Int)]) (hn : n ≤ 100000) (q : ∀ H1, Ex H H1 → R (Itr 0 n) H1) : iRng1 t σ H R :=
  h H (Ex.refl H) _ fun H1 e1 => ⟨(n : Int), rfl, by omega, by omega, by simpa using q H1 e1⟩
theorem f_itemsN {d : Addr} {kvs : List (NK × V)} (h : Ev te σ H (.ref d)) (nd : NDk P w H d kvs) (q : ∀ H1 o, Ex H H1 → H1 d = some (Exact d o) → NDo P w H1 o kvs → R (Itn P w d o kvs) H1) : iItemsN P w te σ H R :=
  h H (Ex.refl H) _ fun H1 e1 => ⟨d, kvs, rfl, nd.ex e1, fun o h1 h2 => q H1 o e1 h1 h2⟩
/-- what a for asks of its iterator -/
def ForW (g : TG) (tb : TS) (D : Ends) (σ : L2.St) (J : It) (H1 : Hp) : Prop := ∃ W : Nat → Nat → L2.St → Hp → Prop, (∃ m, W 0 m σ H1) ∧ ∀ i m σ H, W i m σ H →
  (J.stop i H ∧ D.nx σ H) ∨ (J.go i H ∧ ∃ N : L2.St → Hp → Prop, (∀ σ' H', N σ' H' → ∃ m', m' < m ∧ W (i + 1) m' σ' H') ∧ ∀ x H', J.yld i H x H' → g x σ H' fun σ2 H2 => tb { D with nx := N, ct := N, bk := D.nx } σ2 H2)
theorem s_for {wi : TI} {g : TG} {tb : TS} {D : Ends} (h : wi σ H (ForW g tb D σ)) : tFor wi g tb D σ H := h
theorem q_for {wi : TI} {g : TG} {tb tz : TS} {D : Ends} (h : wi σ H (ForW g tb { D with nx := tz D } σ)) : tSeq (tFor wi g tb) tz D σ H := h
theorem for_w {J : It} {n : Nat} {G : Hp → Prop} {Y : Nat → Hp → V → Hp → Prop} (w : Walk J n G Y) {g : TG} {tb : TS} {D : Ends} (Pv : Nat → L2.St → Hp → Prop) (h0 : Pv 0 σ H) (hG : ∀ i σ H, i ≤ n → Pv i σ H → G H)
    (hs : ∀ i x σ H H', i < n → Pv i σ H → Y i H x H' → g x σ H' fun σ2 H2 => tb { D with nx := Pv (i + 1), ct := Pv (i + 1), bk := D.nx } σ2 H2) (hd : ∀ σ H, Pv n σ H → D.nx σ H) : ForW g tb D σ J H := for_it w Pv h0 hG hs hd
theorem q_forw {wi : TI} {J : It} {n : Nat} {G : Hp → Prop} {Y : Nat → Hp → V → Hp → Prop} {g : TG} {tb tz : TS} {D : Ends} (hw : ∀ R : It → Hp → Prop, (∀ H1, Ex H H1 → R J H1) → wi σ H R) (w : Walk J n G Y) (Pv : Nat → L2.St → Hp → Prop) (h0 : ∀ H1, Ex H H1 → Pv 0 σ H1) (hG : ∀ i σ H, i ≤ n → Pv i σ H → G H)
    (hs : ∀ i x σ H H', i < n → Pv i σ H → Y i H x H' → g x σ H' fun σ2 H2 => tb { nx := Pv (i + 1), rt := D.rt, bk := tz D, ct := Pv (i + 1) } σ2 H2) (hd : ∀ σ H, Pv n σ H → tz D σ H) : tSeq (tFor wi g tb) tz D σ H :=
  hw (ForW g tb { D with nx := tz D } σ) fun H1 e1 => for_w w Pv (h0 H1 e1) hG hs hd
theorem s_forw {wi : TI} {J : It} {n : Nat} {G : Hp → Prop} {Y : Nat → Hp → V → Hp → Prop} {g : TG} {tb : TS} {D : Ends} (hw : ∀ R : It → Hp → Prop, (∀ H1, Ex H H1 → R J H1) → wi σ H R) (w : Walk J n G Y) (Pv : Nat → L2.St → Hp → Prop) (h0 : ∀ H1, Ex H H1 → Pv 0 σ H1) (hG : ∀ i σ H, i ≤ n → Pv i σ H → G H)
    (hs : ∀ i x σ H H', i < n → Pv i σ H → Y i H x H' → g x σ H' fun σ2 H2 => tb { nx := Pv (i + 1), rt := D.rt, bk := D.nx, ct := Pv (i + 1) } σ2 H2) (hd : ∀ σ H, Pv n σ H → D.nx σ H) : tFor wi g tb D σ H :=
  hw (ForW g tb D σ) fun H1 e1 => for_w w Pv (h0 H1 e1) hG hs hd
/-- what a comprehension asks of its iterator -/
def LcW (g : TG) (tt : TT) (te : TE) (vs : List Nat) (σ : L2.St) (Q : VK) (J : It) (H1 : Hp) : Prop := ∀ D, H1 D = none → ∃ W : Nat → Nat → Hp → Prop, (∃ m, W 0 m (upd H1 D (.lst []))) ∧ ∀ i m H, W i m H →
  (J.stop i H ∧ Q (.ref D) H) ∨ (J.go i H ∧ ∃ Nx : Hp → Prop, (∀ H', Nx H' → ∃ m', m' < m ∧ W (i + 1) m' H') ∧ ∀ x H', J.yld i H x H' → g x (wipe σ vs) H' fun σ2 H2 => wipe σ2 vs = wipe σ vs ∧ tt σ2 H2 fun b H3 =>
    if b = true then te σ2 H3 fun y H4 => ∃ acc, H4 D = some (.lst acc) ∧ acc.length < sizeLine ∧ Nx (upd H4 D (.lst (acc ++ [y]))) else Nx H3)
theorem e_lc {wi : TI} {g : TG} {tt : TT} {te : TE} {vs : List Nat} {Q : VK} (h : wi σ H (LcW g tt te vs σ Q)) : tLc wi g tt te vs σ H Q := h
theorem lc_w {J : It} {n : Nat} {G : Hp → Prop} {Y : Nat → Hp → V → Hp → Prop} (w : Walk J n G Y) {g : TG} {tt : TT} {te : TE} {vs : List Nat} {Q : VK} (Pv : Addr → Nat → Hp → Prop) (h0 : ∀ D, H D = none → Pv D 0 (upd H D (.lst []))) (hG : ∀ D i H1, H D = none → i ≤ n → Pv D i H1 → G H1)
    (hs : ∀ D i x H1 H', H D = none → i < n → Pv D i H1 → Y i H1 x H' → g x (wipe σ vs) H' fun σ2 H2 => wipe σ2 vs = wipe σ vs ∧ tt σ2 H2 fun b H3 =>
      if b = true then te σ2 H3 fun y H4 => ∃ acc, H4 D = some (.lst acc) ∧ acc.length < sizeLine ∧ Pv D (i + 1) (upd H4 D (.lst (acc ++ [y]))) else Pv D (i + 1) H3) (hd : ∀ D H1, H D = none → Pv D n H1 → Q (.ref D) H1) : LcW g tt te vs σ Q J H :=
  fun D hD => lc_it w (Pv D) (h0 D hD) (fun i H1 => hG D i H1 hD) (fun i x H1 H' => hs D i x H1 H' hD) (fun H1 => hd D H1 hD)
/-- a new dict -/
def DcW (g : TG) (tt : TT) (tk tv : TE) (vs : List Nat) (σ : L2.St) (Q : VK) (J : It) (H1 : Hp) : Prop := ∀ D, H1 D = none → ∃ W : Nat → Nat → Hp → Prop, (∃ m, W 0 m (upd H1 D (.dK []))) ∧ ∀ i m H, W i m H →
  (J.stop i H ∧ Q (.ref D) H) ∨ (J.go i H ∧ ∃ Nx : Hp → Prop, (∀ H', Nx H' → ∃ m', m' < m ∧ W (i + 1) m' H') ∧ ∀ x H', J.yld i H x H' → g x (wipe σ vs) H' fun σ2 H2 => wipe σ2 vs = wipe σ vs ∧ tt σ2 H2 fun b H3 =>
    if b = true then tk σ2 H3 fun y H4 => tv σ2 H4 fun z H5 => ∃ kvs k, y = kV k ∧ H5 D = some (.dK kvs) ∧ kvs.length < sizeLine ∧ Nx (upd H5 D (.dK (putK kvs k z))) else Nx H3)
theorem e_dc {wi : TI} {g : TG} {tt : TT} {tk tv : TE} {vs : List Nat} {Q : VK} (h : wi σ H (DcW g tt tk tv vs σ Q)) : tDc wi g tt tk tv vs σ H Q := h
theorem dc_w {J : It} {n : Nat} {G : Hp → Prop} {Y : Nat → Hp → V → Hp → Prop} (wk : Walk J n G Y) {g : TG} {tt : TT} {tk tv : TE} {vs : List Nat} {Q : VK} (Pv : Addr → Nat → Hp → Prop) (h0 : ∀ D, H D = none → Pv D 0 (upd H D (.dK []))) (hG : ∀ D i H1, H D = none → i ≤ n → Pv D i H1 → G H1)
    (hs : ∀ D i x H1 H', H D = none → i < n → Pv D i H1 → Y i H1 x H' → g x (wipe σ vs) H' fun σ2 H2 => wipe σ2 vs = wipe σ vs ∧ tt σ2 H2 fun b H3 =>
      if b = true then tk σ2 H3 fun y H4 => tv σ2 H4 fun z H5 => ∃ kvs k, y = kV k ∧ H5 D = some (.dK kvs) ∧ kvs.length < sizeLine ∧ Pv D (i + 1) (upd H5 D (.dK (putK kvs k z))) else Pv D (i + 1) H3) (hd : ∀ D H1, H D = none → Pv D n H1 → Q (.ref D) H1) : DcW g tt tk tv vs σ Q J H := fun D hD => by
  refine ⟨fun i m H => m = n - i ∧ i ≤ n ∧ Pv D i H, ⟨n, by simp, Nat.zero_le _, h0 D hD⟩, ?_⟩
  rintro i m H1 ⟨rfl, hi, p⟩
  have q := hG D i H1 hD hi p
  by_cases hlt : i < n
  · refine .inr ⟨wk.goes i H1 hlt q, Pv D (i + 1), fun H' p' => ⟨n - (i + 1), by omega, rfl, hlt, p'⟩, fun x H' y => hs D i x H1 H' hD hlt p (wk.yields i H1 x H' hlt q y)⟩
  · have e : i = n := by omega
    subst e
    exact .inl ⟨wk.stops H1 q, hd D H1 hD p⟩
/-- a new list, item by item of the walk: v i the i-th item -/
theorem lc_all {J : It} {n : Nat} {G : Hp → Prop} {Y : Nat → Hp → V → Hp → Prop} (w : Walk J n G Y) {g : TG} {te : TE} {vs : List Nat} {Q : VK} (f : Nat → V) (hn : n ≤ 50000) (hG : ∀ H1, Ex H H1 → G H1)
    (hs : ∀ i x H1 H', i < n → Ex H H1 → Y i H1 x H' → g x (wipe σ vs) H' fun σ2 H2 => Ex H1 H2 ∧ wipe σ2 vs = wipe σ vs ∧ Ev te σ2 H2 (f i)) (hd : ∀ D H1, H D = none → Ex H H1 → H1 D = some (.lst ((List.range n).map f)) → Q (.ref D) H1)
    (hg : ∀ x σ H (q q' : L2.St → Hp → Prop), (∀ σ H, q σ H → q' σ H) → g x σ H q → g x σ H q') : LcW g tYes te vs σ Q J H := by
  refine lc_w w (fun D i H1 => Ex H H1 ∧ H1 D = some (.lst ((List.range i).map f))) (fun D hD => ⟨Ex.new hD, upd_same⟩) (fun D i H1 hD _ p => hG H1 p.1) (fun D i x H1 H' hD hi p y => ?_) fun D H1 hD p => hd D H1 hD p.1 p.2
  refine hg _ _ _ _ _ (fun σ2 H2 q => ?_) (hs i x H1 H' hi p.1 y)
  obtain ⟨e, hw, ev⟩ := q
  refine ⟨hw, ?_⟩
  simp only [tYes, if_true]
  refine ev H2 (Ex.refl _) _ fun H3 e3 => ?_
  have hD3 := (e.trans e3) D _ p.2
  refine ⟨_, hD3, by rw [List.length_map, List.length_range]; exact sz_lt (by omega), (p.1.trans (e.trans e3)).mut hD, ?_⟩
  rw [upd_same, List.range_succ, List.map_append]
  rfl
theorem gName_mono {i : Nat} : ∀ (x : V) (σ : L2.St) (H : Hp) (q q' : L2.St → Hp → Prop), (∀ σ H, q σ H → q' σ H) → gName i x σ H q → gName i x σ H q' := fun _ σ H _ _ h p => h _ _ p
theorem gPair_mono {i j : Nat} : ∀ (x : V) (σ : L2.St) (H : Hp) (q q' : L2.St → Hp → Prop), (∀ σ H, q σ H → q' σ H) → gTup K 2 (gCons (gName i) (gCons (gName j) gNil)) x σ H q → gTup K 2 (gCons (gName i) (gCons (gName j) gNil)) x σ H q' := by
  rintro x σ H q q' h ⟨a, xs, h1, h2, h3, h4⟩
  obtain ⟨v, r, e1, v', r', e2, e3, p⟩ := h4
  exact ⟨a, xs, h1, h2, h3, v, r, e1, v', r', e2, e3, h _ _ p⟩
/-- a comprehension over a list or a tuple, no test, one name -/
theorem el_lcS {k : Bool} {a : Addr} {xs : List V} {j : Nat} {te0 : TE} {vs : List Nat} (f : Nat → V) (h : Ev te0 σ H (.ref a)) (hq : SqK k K H a xs) (hn : xs.length ≤ 50000)
    (hw : ∀ x, wipe ((wipe σ vs).set j (some x)) vs = wipe σ vs) (he : ∀ i x H1, xs[i]? = some x → Ex H H1 → Ev te ((wipe σ vs).set j (some x)) H1 (f i)) : EvL (tLc (iSeq K te0) (gName j) tYes te vs) σ H ((List.range xs.length).map f) := fun H1 e1 Q q =>
  e_lc (f_seq (h.mono e1) (hq.ex e1) fun H2 e2 => lc_all (walk_seq (xs := xs)) f hn (fun H3 e3 => hq.ex (e1.trans (e2.trans e3))) (fun i x H3 H' _ e3 y => by
    obtain ⟨rfl, ex⟩ := y
    exact ⟨Ex.refl _, hw x, he i x _ ex (e1.trans (e2.trans e3))⟩) (fun D H3 hD e3 h3 => q D H3 (fresh_back e2 hD) (e2.trans e3) h3) gName_mono)
theorem ev_all {bs : List Bool} (h : EvL te σ H (bs.map V.bl)) : Ev (tCB (rAll K) (tCons te tNil)) σ H (.bl (bs.all id)) := fun H1 e1 _ q => h H1 e1 _ fun p H2 _ e2 h2 => ⟨p, bs, rfl, sq_of h2, q H2 e2⟩
theorem map_true (n : Nat) : (List.range n).map (fun _ => V.bl true) = (List.replicate n true).map V.bl := by
  rw [List.map_replicate]
  induction n with
  | zero => rfl
  | succ n ih => rw [List.range_succ, List.map_append, ih, List.replicate_succ']; rfl
theorem all_true (n : Nat) : (List.replicate n true).all id = true := by
  rw [List.all_eq_true]
  intro x hx
  exact (List.mem_replicate.mp hx).2
theorem ev_allT {n : Nat} (h : EvL te σ H ((List.range n).map fun _ => V.bl true)) : Ev (tCB (rAll K) (tCons te tNil)) σ H (.bl true) := by
  rw [map_true] at h
  have := ev_all (K := K) h
  rw [all_true] at this
  exact this
theorem q_set {i : Nat} {tz : TS} {D : Ends} (h : te σ H fun x H1 => tz D (σ.set i (some x)) H1) : tSeq (tAsg te (gName i)) tz D σ H := h
theorem q_stm {tu tz : TS} {D : Ends} (h : tu { nx := tz D, rt := D.rt, bk := D.bk, ct := D.ct } σ H) : tSeq tu tz D σ H := h
theorem ev_din {ty : TE} {d : Addr} {kvs : List (Key × V)} {k : Key} (hy : Ev ty σ H (kV k)) (hd : Ev td σ H (.ref d)) (h : H d = some (.dK kvs)) : Ev (tDIn ty td) σ H (.bl (valV kvs k).isSome) := fun H1 e1 _ q =>
  hy H1 e1 _ fun H2 e2 => hd H2 (e1.trans e2) _ fun H3 e3 => ⟨d, _, rfl, DGet.k ((e1.trans (e2.trans e3)) _ _ h), q H3 (e2.trans e3)⟩
theorem ev_dget {ty : TE} {d : Addr} {kvs : List (Key × V)} {k : Key} (hd : Ev td σ H (.ref d)) (hy : Ev ty σ H (kV k)) (h : H d = some (.dK kvs)) (hv : valV kvs k = some v) : Ev (tDGet td ty) σ H v := fun H1 e1 _ q =>
  hd H1 e1 _ fun H2 e2 => hy H2 (e1.trans e2) _ fun H3 e3 => ⟨d, v, rfl, by rw [← hv]; exact DGet.k ((e1.trans (e2.trans e3)) _ _ h), q H3 (e2.trans e3)⟩
theorem ev_dnotin {ty : TE} {d : Addr} {kvs : List (Key × V)} {k : Key} (hy : Ev ty σ H (kV k)) (hd : Ev td σ H (.ref d)) (h : H d = some (.dK kvs)) : Ev (tDNotIn ty td) σ H (.bl (!(valV kvs k).isSome)) := fun H1 e1 _ q =>
  hy H1 e1 _ fun H2 e2 => hd H2 (e1.trans e2) _ fun H3 e3 => ⟨d, _, rfl, DGet.k ((e1.trans (e2.trans e3)) _ _ h), q H3 (e2.trans e3)⟩
def rTupS (K : PySem.W.Frag) : List V → Hp → VK → Prop := fun xs H Q => ∃ p ys, xs = [.ref p] ∧ ((SqL K H p ys ∧ ∀ l, H l = none → Q (.ref l) (upd H l (.tup ys))) ∨ (SqT K H p ys ∧ Q (.ref p) H))
theorem eu_tuple {xs : List V} (h : EvL te σ H xs) : EvU (tCB (rTupS K) (tCons te tNil)) σ H xs := fun H1 e1 Q q => h H1 e1 _ fun p H2 hp e2 h2 => ⟨p, xs, rfl, .inl ⟨sq_of h2, fun t ht => q t _ (fresh_back e2 ht) (e2.trans (Ex.new ht)) upd_same⟩⟩
/-! ### dicts of nested keys -/
theorem ev_nget {d : Addr} {kvs : List (NK × V)} {k : NK} (hd : Ev td σ H (.ref d)) (hy : Ev ta σ H y) (nd : NDk P w H d kvs) (ky : KeyV H k y) (hv : valV kvs k = some v) : Ev (tNGet P w td ta) σ H v := fun H1 e1 Q q =>
  hd H1 e1 _ fun H2 e2 => hy H2 (e1.trans e2) _ fun H3 e3 => ⟨d, kvs, k, v, rfl, nd.ex ((e1.trans e2).trans e3), ky.mono (TupIn.of_ex ((e1.trans e2).trans e3)), hv, q H3 (e2.trans e3)⟩
theorem ev_ninU {d : Addr} {kvs : List (NK × V)} {k : NK} {ws : List V} (ht : EvU te σ H ws) (hd : ∀ H1, Ex H H1 → Ev td σ H1 (.ref d)) (nd : NDk P w H d kvs) (hk : ∀ t H1, Ex H H1 → H1 t = some (.tup ws) → KeyV H1 k (.ref t)) :
    Ev (tNIn P w te td) σ H (.bl (valV kvs k).isSome) := fun H1 e1 Q q => ht H1 e1 _ fun t H2 _ e2 h2 => hd H2 (e1.trans e2) H2 (Ex.refl _) _ fun H3 e3 => ⟨d, kvs, k, rfl, nd.ex ((e1.trans e2).trans e3), hk t H3 ((e1.trans e2).trans e3) (e3 _ _ h2), q H3 (e2.trans e3)⟩
theorem ev_nnotinU {d : Addr} {kvs : List (NK × V)} {k : NK} {ws : List V} (ht : EvU te σ H ws) (hd : ∀ H1, Ex H H1 → Ev td σ H1 (.ref d)) (nd : NDk P w H d kvs) (hk : ∀ t H1, Ex H H1 → H1 t = some (.tup ws) → KeyV H1 k (.ref t)) :
    Ev (tNNotIn P w te td) σ H (.bl (!(valV kvs k).isSome)) := fun H1 e1 Q q => ht H1 e1 _ fun t H2 _ e2 h2 => hd H2 (e1.trans e2) H2 (Ex.refl _) _ fun H3 e3 => ⟨d, kvs, k, rfl, nd.ex ((e1.trans e2).trans e3), hk t H3 ((e1.trans e2).trans e3) (e3 _ _ h2), q H3 (e2.trans e3)⟩
/-! ### heaps -/
theorem ex_upd {p : Addr} {o : HO} (e : Ex H H') (h : H p = none) : Ex H (upd H' p o) := e.mut h
theorem ne_new {p q : Addr} {o : HO} (h : H p = none) (e : H q = some o) : q ≠ p := fun z => by
  rw [z, h] at e
  cases e
end
section
variable {X : Cx} {i o : Expr} {ty td : TE} {pos : Pos} {k : Nat}
theorem pe_din (hr : Room k X.A) (hi : PE X i ty) (ho : PE X o td) (h1 : behindInMarks .In o = false) : PE X (.Compare i [.In] [o] pos) (tDIn ty td) := pe_cmp (pc_din (hu_of hr) hi ho) h1
theorem pe_dnotin (hr : Room k X.A) (hi : PE X i ty) (ho : PE X o td) (h1 : behindInMarks .NotIn o = false) : PE X (.Compare i [.NotIn] [o] pos) (tDNotIn ty td) := pe_cmp (pc_dnotin (hu_of hr) hi ho) h1
/-! the same in a comprehension's block, K named -/
theorem pe_fldK {K' : PySem.W.Frag} {e : Expr} {ta : TE} {f : Str} (hK : X.K = K') (he : PE X e ta) (hb : attributeBase e f X.env (eval e X.env) = eval e X.env) : PE X (.Attribute e f pos) (tFld K' ta f) := by
  subst hK
  exact pe_fld he hb
theorem ix_tupK {K' : PySem.W.Frag} (hK : X.K = K') : IxR X (rIxT K') := by
  subst hK
  exact ix_tup
theorem ix_listK {K' : PySem.W.Frag} (hK : X.K = K') : IxR X (rIxL K') := by
  subst hK
  exact ix_list
theorem pg_tupK {K' : PySem.W.Frag} {es : List Expr} {k : Nat} {t : TGs} (hK : X.K = K') (hc : X.calm = true) (h : PGs X es t)
    (hn : (assignEach es X.env).length = es.length := by rfl) (hst : (assignEach es X.env).findIdx? (·.1) = none := by rfl) : PG X (.Tuple es k pos) (gTup K' es.length t) := by
  subst hK
  have := pg_tup (pos := pos) (k := k) hc h rfl hst
  rw [hn] at this
  exact this
end
end K28
end

section
set_option Elab.async false
set_option maxRecDepth 100000
set_option maxHeartbeats 4000000
namespace K28
open PySem PySem.Spec PyProof.Rows L2 Evl
section
variable {P : Program} {w : World} {K : PySem.W.Frag} {mg : Str → Option Value} {base : Heap}
/-- a name -/
def NameOk (z : Str) : Prop := 1 ≤ z.cps.size ∧ z.cps.size ≤ 12 ∧ ∀ (i c : Nat), z.cps[i]? = some c → 97 ≤ c ∧ c ≤ 122
def spIsInt : Sp := fun vs H Q _ => ∃ i : Int, vs = [.int i] ∧ RetV (.bl true) H Q
def spIsRow (K : PySem.W.Frag) : Sp := fun vs H Q _ => ∃ (a : Addr) (k : Bool) (xs : List V), vs = [.ref a] ∧ H a = some (if k then .tup xs else .lst xs) ∧ RetV (.bl true) H Q
def spIsName : Sp := fun vs H Q _ => ∃ z, vs = [.str z] ∧ NameOk z ∧ RetV (.bl true) H Q
def spIsState : Sp := fun vs H Q _ => ∃ i : Int, vs = [.int i] ∧ 0 ≤ i ∧ i ≤ 99 ∧ RetV (.bl true) H Q
def spBelow : Sp := fun vs H Q _ => ∃ i n : Int, vs = [.int i, .int n] ∧ 0 ≤ i ∧ i < n ∧ RetV (.bl true) H Q
def spFirst (K : PySem.W.Frag) : Sp := fun vs H Q _ => ∃ (a : Addr) (k : Bool) (zs : List Str), vs = [.ref a] ∧ SqK k K H a (zs.map V.str) ∧ (∀ z ∈ zs, NameOk z) ∧ RetV (.int (-1)) H Q
theorem sv_int {H : Hp} {i : Int} : SpV spIsInt [.int i] H (.bl true) := fun _ _ _ q _ => ⟨i, rfl, q⟩
theorem sv_row {H : Hp} {a : Addr} {k : Bool} {xs : List V} (h : H a = some (if k then .tup xs else .lst xs)) : SpV (spIsRow K) [.ref a] H (.bl true) := fun H1 e _ q _ => ⟨a, k, xs, rfl, e a _ h, q⟩
theorem sv_name {H : Hp} {z : Str} (h : NameOk z) : SpV spIsName [.str z] H (.bl true) := fun _ _ _ q _ => ⟨z, rfl, h, q⟩
theorem sv_state {H : Hp} {i : Int} (h0 : 0 ≤ i) (h : i ≤ 99) : SpV spIsState [.int i] H (.bl true) := fun _ _ _ q _ => ⟨i, rfl, h0, h, q⟩
theorem sv_below {H : Hp} {i n : Int} (h0 : 0 ≤ i) (h : i < n) : SpV spBelow [.int i, .int n] H (.bl true) := fun _ _ _ q _ => ⟨i, n, rfl, h0, h, q⟩
theorem sv_first {H : Hp} {a : Addr} {k : Bool} {zs : List Str} (h : SqK k K H a (zs.map V.str)) (hz : ∀ z ∈ zs, NameOk z) : SpV (spFirst K) [.ref a] H (.int (-1)) := fun H1 e _ q _ => ⟨a, k, zs, rfl, h.ex e, hz, q⟩
theorem sc_is_integer : FnScope ["value"] ["value"] (defScope s_is_integer) := ⟨rfl, rfl, rfl, by decide +kernel, rfl, by decide +kernel, by decide +kernel⟩
theorem ok_is_integer (T : Tx K mg) (D : Dfn K mg "is_integer" s_is_integer) : CalP P w K mg base 1 "is_integer" spIsInt := by
  refine cal_of D sc_is_integer (fun _ _ _ _ _ _ us hl => match us, hl with | [_], _ => rfl) (fun vs H Q E h => by obtain ⟨i, rfl, _⟩ := h; rfl) fun f cdv A outer s H vs Q E hr h => ?_
  obtain ⟨i, rfl, k⟩ := h
  refine ⟨_, (pss_one (ps_ret (pe_and (pe_callB call_isi (by rfl) T.f_isinstance boot_isinstance (pa_cons (pv 0) (pa_cons (pe_bltn (v := .ty "int") (by rfl) T.f_int PyProof.Rows.boot_int rfl) pa_nil))) (pe_one (pe_not (pe_callB call_isi (by rfl) T.f_isinstance boot_isinstance (pa_cons (pv 0) (pa_cons (pe_bltn (v := .ty "bool") (by rfl) T.f_bool PyProof.Rows.boot_bool rfl) pa_nil)))))))), ?_⟩
  exact s_ret (ev_andV (ev_isi (b := true) (ev_var rfl) ev_c (fun _ _ => .base (.int i)) (by decide +kernel)) fun _ => ev_notV (ev_isi (b := false) (ev_var rfl) ev_c (fun _ _ => .base (.int i)) (by decide +kernel))) k
theorem sc_law_is_integer : FnScope ["_law_value"] ["_law_value"] (defScope s_law_is_integer) := ⟨rfl, rfl, rfl, by decide +kernel, rfl, by decide +kernel, by decide +kernel⟩
theorem ok_law_is_integer (T : Tx K mg) (D : Dfn K mg "_law_is_integer" s_law_is_integer) : CalP P w K mg base 1 "_law_is_integer" spIsInt := by
  refine cal_of D sc_law_is_integer (fun _ _ _ _ _ _ us hl => match us, hl with | [_], _ => rfl) (fun vs H Q E h => by obtain ⟨i, rfl, _⟩ := h; rfl) fun f cdv A outer s H vs Q E hr h => ?_
  obtain ⟨i, rfl, k⟩ := h
  refine ⟨_, (pss_one (ps_ret (pe_and (pe_callB call_isi (by rfl) T.f_isinstance boot_isinstance (pa_cons (pv 0) (pa_cons (pe_bltn (v := .ty "int") (by rfl) T.f_int PyProof.Rows.boot_int rfl) pa_nil))) (pe_one (pe_not (pe_callB call_isi (by rfl) T.f_isinstance boot_isinstance (pa_cons (pv 0) (pa_cons (pe_bltn (v := .ty "bool") (by rfl) T.f_bool PyProof.Rows.boot_bool rfl) pa_nil)))))))), ?_⟩
  exact s_ret (ev_andV (ev_isi (b := true) (ev_var rfl) ev_c (fun _ _ => .base (.int i)) (by decide +kernel)) fun _ => ev_notV (ev_isi (b := false) (ev_var rfl) ev_c (fun _ _ => .base (.int i)) (by decide +kernel))) k
theorem kit2 {K : PySem.W.Frag} (k : Bool) : PySem.W.kitAny K (.type (if k then "tuple" else "list")) [.type "list", .type "tuple"] = some true := by
  cases k
  · exact kitAny_cons (b := true) (kit_ty (by decide +kernel)) (fun h => by cases h) fun _ => rfl
  · exact kitAny_cons (b := false) (kit_ty (by decide +kernel)) (fun _ => kitAny_cons (b := true) (kit_ty (by decide +kernel)) (fun h => by cases h) fun _ => rfl) fun h => by cases h
theorem sc_is_row : FnScope ["value"] ["value"] (defScope s_is_row) := ⟨rfl, rfl, rfl, by decide +kernel, rfl, by decide +kernel, by decide +kernel⟩
theorem ok_is_row (T : Tx K mg) (D : Dfn K mg "is_row" s_is_row) : CalP P w K mg base 1 "is_row" (spIsRow K) := by
  refine cal_of D sc_is_row (fun _ _ _ _ _ _ us hl => match us, hl with | [_], _ => rfl) (fun vs H Q E h => by obtain ⟨a, _, _, rfl, _⟩ := h; rfl) fun f cdv A outer s H vs Q E hr h => ?_
  obtain ⟨a, j, xs, rfl, ha, k⟩ := h
  refine ⟨_, (pss_one (ps_ret (pe_callB call_isiT (by rfl) T.f_isinstance boot_isinstance (pa_cons (pv 0) (pa_cons (pe_tup (pa_cons (pe_bltn (v := .ty "list") (by rfl) T.f_list PyProof.Rows.boot_list rfl) (pa_cons (pe_bltn (v := .ty "tuple") (by rfl) T.f_tuple PyProof.Rows.boot_tuple rfl) pa_nil))) pa_nil))))), ?_⟩
  refine s_ret (ev_isi2 (m := if j then "tuple" else "list") (ev_var rfl) ev_c ev_c (fun H1 e1 => ?_) (kit2 j)) k
  cases j
  · exact .base (.lst (e1 a _ ha))
  · exact .base (.tup (e1 a _ ha))
theorem le_a {c : Nat} (h : 97 ≤ c) : (!decide (([c] : List Nat) < [97])) = true := by
  have : ¬ ([c] : List Nat) < [97] := fun z => by
    have := (List.cons_lt_cons_iff).mp z
    rcases this with z | ⟨_, z⟩
    · omega
    · exact absurd z (by decide)
  simp [this]
theorem le_z {c : Nat} (h : c ≤ 122) : (!decide (([122] : List Nat) < [c])) = true := by
  have : ¬ ([122] : List Nat) < [c] := fun z => by
    have := (List.cons_lt_cons_iff).mp z
    rcases this with z | ⟨_, z⟩
    · omega
    · exact absurd z (by decide)
  simp [this]
theorem sc_is_name : FnScope ["value", "char"] ["value"] (defScope s_is_name) := ⟨rfl, rfl, rfl, by decide +kernel, rfl, by decide +kernel, by decide +kernel⟩
theorem ok_is_name (T : Tx K mg) (D : Dfn K mg "is_name" s_is_name) : CalP P w K mg base 1 "is_name" spIsName := by
  refine cal_of D sc_is_name (fun _ _ _ _ _ _ us hl => match us, hl with | [_], _ => rfl) (fun vs H Q E h => by obtain ⟨i, rfl, _⟩ := h; rfl) fun f cdv A outer s H vs Q E hr h => ?_
  obtain ⟨z, rfl, ⟨n1, n2, n3⟩, k⟩ := h
  refine ⟨_, (pss_cons (ps_if (PW.pt (pw_or (pt_not (pt_val (pe_callB call_isi (by rfl) T.f_isinstance boot_isinstance (pa_cons (pv 0) (pa_cons (pe_bltn (v := .ty "str") (by rfl) T.f_str PyProof.Rows.boot_str rfl) pa_nil))))) (pw_or1 (pt_not (pt_chain op_le op_le pe_int (pe_callB call_len_str (by rfl) T.f_len boot_len (pa_cons (pv 0) pa_nil)) (C8.pe_gc (by rfl) T.i_MOST_LETTERS)))))) (pss_one (ps_ret pe_bl)) pss_nil)
        (pss_cons (ps_for PassesOwn.never rfl (pi_str (pv 0)) (pg_name (i := 1) sc_is_name.nd rfl (Or.inl rfl)) (pss_one (ps_if (pt_not (pt_chain op_le_str op_le_str pe_str (pv 1) pe_str)) (pss_one (ps_ret pe_bl)) pss_nil)))
        (pss_one (ps_ret pe_bl)))), ?_⟩
  have hlen : ∀ H1, RC (fun xs H Q => ∃ z, xs = [.str z] ∧ z.length ≤ sizeLine ∧ Q (.int z.length) H) [.str z] H1 (.int (z.cps.size : Nat)) := fun H1 H2 e Q q => ⟨z, rfl, sz_of (by show z.cps.size ≤ _; omega), q H2 (Ex.refl _)⟩
  refine q_when (et_or (et_not (et_B (ev_isi (b := true) (ev_var rfl) ev_c (fun _ _ => .base (.str z)) (by decide +kernel)))) fun _ => et_not (et_chain ev_c (ev_cb (ea_cons (ev_var rfl) ea_nil) (hlen _)) rv_I0 ev_c rv_I0)) (fun e => ?_) fun _ H1 e1 => ?_
  · have h1 : (1 : Int) ≤ (z.cps.size : Nat) := by omega
    have h2 : ((z.cps.size : Nat) : Int) ≤ 12 := by omega
    simp [h1, h2] at e
  refine q_forw (fun R q => f_str (ev_var rfl) q) walk_str (fun i σ' H' => ∃ v, σ' = [some (.str z), v] ∧ Ex H H') (fun H2 e2 => ⟨_, rfl, e1.trans e2⟩) (fun _ _ _ _ _ => True.intro) ?_ ?_
  · rintro i x σ' H3 H4 hi ⟨v, rfl, e3⟩ ⟨rfl, c, hc, rfl⟩
    obtain ⟨c1, c2⟩ := n3 i c hc
    refine s_when (et_not (et_chain (k := true) (b := true) ev_c (ev_var rfl) (rv_val fun H1 e Q q => ⟨_, _, rfl, rfl, ?_⟩) ev_c (rv_val fun H1 e Q q => ⟨_, _, rfl, rfl, ?_⟩))) (fun e => ?_) fun _ H5 e5 => ⟨_, rfl, e3.trans e5⟩
    · rw [show (!decide ((⟨#[c]⟩ : Str).cps.toList < (Str.ofString "a").cps.toList)) = true from le_a c1]
      exact q
    · rw [show (!decide ((Str.ofString "z").cps.toList < (⟨#[c]⟩ : Str).cps.toList)) = true from le_z c2]
      exact q
    · cases e
  · rintro σ' H3 ⟨v, rfl, e3⟩
    exact s_ret ev_c fun H4 e4 => k H4 (e3.trans e4)
theorem sc_is_state : FnScope ["value"] ["value"] (defScope s_is_state) := ⟨rfl, rfl, rfl, by decide +kernel, rfl, by decide +kernel, by decide +kernel⟩
theorem ok_is_state (T : Tx K mg) (D : Dfn K mg "is_state" s_is_state) (C_is_integer : CalP P w K mg base 1 "is_integer" spIsInt) : CalP P w K mg base 2 "is_state" spIsState := by
  refine cal_of D sc_is_state (fun _ _ _ _ _ _ us hl => match us, hl with | [_], _ => rfl) (fun vs H Q E h => by obtain ⟨i, rfl, _⟩ := h; rfl) fun f cdv A outer s H vs Q E hr h => ?_
  obtain ⟨i, rfl, h0, h9, k⟩ := h
  refine ⟨_, (pss_one (ps_ret (pe_and (C8.pe_c C_is_integer hr (by decide) (by rfl) (pa_cons (pv 0) pa_nil)) (pe_one (pe_chain op_le op_le pe_int (pv 0) (C8.pe_gc (by rfl) T.i_MOST_STATE)))))), ?_⟩
  refine s_ret (ev_is (ev_andV (ev_call (ea_cons (ev_var rfl) ea_nil) sv_int) fun _ => ev_chain ev_c (ev_var rfl) rv_I0 ev_c rv_I0) ?_) k
  simp [h0, h9]
theorem sc_is_number_below : FnScope ["value", "count"] ["value", "count"] (defScope s_is_number_below) := ⟨rfl, rfl, rfl, by decide +kernel, rfl, by decide +kernel, by decide +kernel⟩
theorem ok_is_number_below (T : Tx K mg) (D : Dfn K mg "is_number_below" s_is_number_below) (C_is_integer : CalP P w K mg base 1 "is_integer" spIsInt) : CalP P w K mg base 2 "is_number_below" spBelow := by
  refine cal_of D sc_is_number_below (fun _ _ _ _ _ _ us hl => match us, hl with | [_, _], _ => rfl) (fun vs H Q E h => by obtain ⟨i, n, rfl, _⟩ := h; rfl) fun f cdv A outer s H vs Q E hr h => ?_
  obtain ⟨i, n, rfl, h0, h9, k⟩ := h
  refine ⟨_, (pss_one (ps_ret (pe_and (C8.pe_c C_is_integer hr (by decide) (by rfl) (pa_cons (pv 0) pa_nil)) (pe_one (pe_chain op_le op_lt pe_int (pv 0) (pv 1)))))), ?_⟩
  refine s_ret (ev_is (ev_andV (ev_call (ea_cons (ev_var rfl) ea_nil) sv_int) fun _ => ev_chain ev_c (ev_var rfl) rv_I0 (ev_var rfl) rv_I0) ?_) k
  simp [h0, h9]
theorem sc_first_other : FnScope ["names", "at", "name"] ["names"] (defScope s_first_other) := ⟨rfl, rfl, rfl, by decide +kernel, rfl, by decide +kernel, by decide +kernel⟩
theorem ok_first_other (T : Tx K mg) (D : Dfn K mg "first_other" s_first_other) (C_is_name : CalP P w K mg base 1 "is_name" spIsName) : CalP P w K mg base 2 "first_other" (spFirst K) := by
  refine cal_of D sc_first_other (fun _ _ _ _ _ _ us hl => match us, hl with | [_], _ => rfl) (fun vs H Q E h => by obtain ⟨a, _, _, rfl, _⟩ := h; rfl) fun f cdv A outer s H vs Q E hr h => ?_
  obtain ⟨a, j, zs, rfl, ha, hz, k⟩ := h
  refine ⟨_, (pss_cons (ps_for PassesOwn.never rfl (pi_enumA (by rfl) T.f_enumerate (pa_cons (pv 0) pa_nil)) (pg_tup rfl (pgs_cons (pg_name (i := 1) sc_first_other.nd rfl (Or.inl rfl)) (pgs_cons (pg_name (i := 2) sc_first_other.nd rfl (Or.inl rfl)) pgs_nil))) (pss_one (ps_if (pt_not (pt_val (C8.pe_c C_is_name hr (by decide) (by rfl) (pa_cons (pv 2) pa_nil)))) (pss_one (ps_ret (pv 1))) pss_nil)))
        (pss_one (ps_ret (pe_un un_neg pe_int)))), ?_⟩
  refine q_forw (fun R q => f_enum (ea_cons (ev_var rfl) ea_nil) ha q) (walk_enumK (xs := zs.map V.str)) (fun i σ' H' => ∃ u v, σ' = [some (.ref a), u, v] ∧ Ex H H') (fun H2 e2 => ⟨_, _, rfl, e2⟩) (fun i σ' H' _ ⟨_, _, _, e⟩ => ha.ex e) ?_ ?_
  · rintro i x σ' H3 H4 hi ⟨u, v, rfl, e3⟩ ⟨t, x1, x2, rfl, hn, rfl, ex1, ex2⟩
    have e4 : Ex H (upd H3 t (.tup [x1, x2])) := e3.trans (Ex.new hn)
    obtain ⟨y, hy, rfl⟩ : ∃ y ∈ zs, x2 = .str y := by
      have := List.mem_of_getElem? ex2
      obtain ⟨y, hy, e⟩ := List.mem_map.mp this
      exact ⟨y, hy, e.symm⟩
    refine ⟨t, _, rfl, st_of upd_same, rfl, _, _, rfl, _, _, rfl, rfl, ?_⟩
    exact s_when (et_not (et_B (ev_call (ea_cons (ev_var rfl) ea_nil) (sv_name (hz y hy))))) (fun e => by cases e) fun _ H5 e5 => ⟨_, _, rfl, e4.trans e5⟩
  · rintro σ' H3 ⟨u, v, rfl, e3⟩
    exact s_ret (ev_un ev_c ru_neg) fun H4 e4 => k H4 (e3.trans e4)
end
end K28
end

section
set_option Elab.async false
set_option maxRecDepth 100000
set_option maxHeartbeats 4000000
namespace K28
open PySem PySem.Spec PyProof.Rows L2 Evl
section
variable {P : Program} {w : World} {K : PySem.W.Frag} {mg : Str → Option Value} {base : Heap}
/-! ### tables of texts -/
def tabK (tab : List (Str × Str)) : List (Key × V) := tab.map fun p => (Sum.inr p.1, V.str p.2)
def canK (ks : List Str) : List (Key × V) := ks.map fun z => (Sum.inr z, V.bl true)
def RetD (kvs : List (Key × V)) (H : Hp) (Q : VK) : Prop := ∀ p H2, H p = none → Ex H H2 → H2 p = some (.dK kvs) → Q (.ref p) H2
def CanAt (H : Hp) (c : Addr) (zs : List Str) : Prop := ∃ ks : List Str, ks.Nodup ∧ (∀ z, z ∈ ks ↔ z ∈ zs) ∧ ks.length ≤ zs.length ∧ H c = some (.dK (canK ks))
theorem CanAt.ex {H H' : Hp} {c : Addr} {zs : List Str} (e : Ex H H') (h : CanAt H c zs) : CanAt H' c zs := let ⟨ks, a, b, l, d⟩ := h; ⟨ks, a, b, l, e c _ d⟩
def ViewAt (C : Addr) (H : Hp) (x : Addr) (tab : List (Str × Str)) (zs : List Str) : Prop := ∃ dx t c, H x = some (.ins C dx [("table", .ref t), ("can", .ref c)]) ∧ H t = some (.dK (tabK tab)) ∧ CanAt H c zs
theorem ViewAt.ex {C : Addr} {H H' : Hp} {x : Addr} {tab : List (Str × Str)} {zs : List Str} (e : Ex H H') (h : ViewAt C H x tab zs) : ViewAt C H' x tab zs := let ⟨dx, t, c, h1, h2, h3⟩ := h; ⟨dx, t, c, e _ _ h1, e _ _ h2, h3.ex e⟩
/-- a table of names -/
def TabOk' (tab : List (Str × Str)) : Prop := (tab.map (·.1)).Nodup ∧ (∀ p ∈ tab, NameOk p.1 ∧ NameOk p.2) ∧ tab.length ≤ 1000
def NamesOk (zs : List Str) : Prop := (∀ z ∈ zs, NameOk z) ∧ zs.length ≤ 1000
theorem valV_notin {κ : Type} [DecidableEq κ] {kvs : List (κ × V)} {k : κ} (h : k ∉ kvs.map (·.1)) : valV kvs k = none := by
  induction kvs with
  | nil => rfl
  | cons p r ih =>
    rw [List.map_cons, List.mem_cons, not_or] at h
    rw [valV_neg (fun e => h.1 e.symm)]
    exact ih h.2
theorem valV_in {κ : Type} [DecidableEq κ] {kvs : List (κ × V)} {k : κ} {v : V} (hn : (kvs.map (·.1)).Nodup) (h : (k, v) ∈ kvs) : valV kvs k = some v := by
  induction kvs with
  | nil => cases h
  | cons p r ih =>
    rw [List.map_cons, List.nodup_cons] at hn
    rcases List.mem_cons.mp h with e | h
    · rw [← e]
      exact valV_pos rfl
    · have hne : ¬ p.1 = k := fun e => hn.1 (e ▸ List.mem_map.mpr ⟨(k, v), h, rfl⟩)
      rw [valV_neg hne]
      exact ih hn.2 h
theorem take_notin {α β : Type} {l : List (α × β)} (hn : (l.map (·.1)).Nodup) {i : Nat} {p : α × β} (h : l[i]? = some p) : p.1 ∉ (l.take i).map (·.1) := by
  intro hm
  obtain ⟨q, hq, e⟩ := List.mem_map.mp hm
  obtain ⟨j, hj, ej⟩ := List.getElem_of_mem hq
  rw [List.length_take] at hj
  rw [List.getElem_take] at ej
  have h1 : (l.map (·.1))[j]? = some p.1 := by rw [List.getElem?_map, List.getElem?_eq_getElem (by omega), ej, ← e]; rfl
  have h2 : (l.map (·.1))[i]? = some p.1 := by rw [List.getElem?_map, h]; rfl
  have := (List.getElem?_inj (by rw [List.length_map]; omega) hn).mp (h1.trans h2.symm)
  omega
theorem take_snoc {α : Type} {l : List α} {i : Nat} {x : α} (h : l[i]? = some x) : l.take (i + 1) = l.take i ++ [x] := by
  rw [List.take_add_one, h]
  rfl
theorem tab_put {tab : List (Str × Str)} (hn : (tab.map (·.1)).Nodup) {i : Nat} {k s : Str} (h : tab[i]? = some (k, s)) : putK (tabK (tab.take i)) (Sum.inr k) (.str s) = tabK (tab.take (i + 1)) := by
  rw [take_snoc h, putK_new _ (valV_notin fun hm => ?_)]
  · unfold tabK
    rw [List.map_append]
    rfl
  · unfold tabK at hm
    rw [List.map_map] at hm
    obtain ⟨q, hq, e⟩ := List.mem_map.mp hm
    have e2 : (Sum.inr q.1 : Key) = Sum.inr k := e
    injection e2 with e3
    exact take_notin hn h (List.mem_map.mpr ⟨q, hq, e3⟩)
def spSights : Sp := fun vs H Q _ => ∃ t tab, vs = [.ref t] ∧ TabOk' tab ∧ H t = some (.dK (tabK tab)) ∧ RetD (tabK tab) H Q
theorem sc_checked_sights : FnScope ["sights", "table", "word", "sight"] ["sights"] (defScope s_checked_sights) := ⟨rfl, rfl, rfl, by decide +kernel, rfl, by decide +kernel, by decide +kernel⟩
theorem ok_checked_sights (T : Tx K mg) (D : Dfn K mg "checked_sights" s_checked_sights) (C_is_name : CalP P w K mg base 1 "is_name" spIsName) : CalP P w K mg base 2 "checked_sights" spSights := by
  refine cal_of D sc_checked_sights (fun _ _ _ _ _ _ us hl => match us, hl with | [_], _ => rfl) (fun vs H Q E h => by obtain ⟨_, _, rfl, _⟩ := h; rfl) fun f cdv A outer s H vs Q E hr h => ?_
  obtain ⟨t, tab, rfl, ⟨hn, hz, hl⟩, ht, k⟩ := h
  refine ⟨_, (pss_cons (ps_if (pt_not (pt_val (pe_callB call_isi (by rfl) T.f_isinstance boot_isinstance (pa_cons (pv 0) (pa_cons (pe_bltn (v := .ty "dict") (by rfl) T.f_dict PyProof.Rows.boot_dict rfl) pa_nil))))) pss_never pss_nil)
        (pss_cons (ps_set (i := 1) sc_checked_sights.nd rfl (Or.inl rfl) pe_dnewK)
        (pss_cons (ps_lock (ps_for PassesOwn.never rfl (pi_items (pv 0)) (pg_tup rfl (pgs_cons (pg_name (i := 2) sc_checked_sights.nd rfl (Or.inl rfl)) (pgs_cons (pg_name (i := 3) sc_checked_sights.nd rfl (Or.inl rfl)) pgs_nil))) (pss_cons (ps_if (PW.pt (pw_or (pt_not (pt_val (C8.pe_c C_is_name hr (by decide) (by rfl) (pa_cons (pv 2) pa_nil)))) (pw_or1 (pt_not (pt_val (C8.pe_c C_is_name hr (by decide) (by rfl) (pa_cons (pv 3) pa_nil))))))) pss_never pss_nil)
        (pss_one (ps_dput (hu_of hr) (pv 1) (pv 2) (pv 3) rfl)))))
        (pss_one (ps_ret (pv 1)))))), ?_⟩
  refine q_when (et_not (et_B (ev_isi (b := true) (ev_var rfl) ev_c (fun _ e => .base (.dK (e _ _ ht))) (by decide +kernel)))) (fun e => by cases e) fun _ H1 e1 => ?_
  intro p hp
  have hpt : t ≠ p := ne_new hp (e1 _ _ ht)
  refine ⟨t, .dK (tabK tab), by rw [upd_ne hpt]; exact e1 _ _ ht, True.intro, fun od => ?_⟩
  have hb : upd (upd H1 p (.dK [])) t (.frz od (.dK (tabK tab))) t = some (.frz od (.dK (tabK tab))) := upd_same
  refine s_forw (J := Iti t od (tabK tab)) (fun R q => ⟨_, rfl, t, od, tabK tab, rfl, hb, q _ (Ex.refl _)⟩) walk_items
    (fun i σ' H' => ∃ u v, σ' = [some (.ref t), some (.ref p), u, v] ∧ Ex (upd H1 t (.frz od (.dK (tabK tab)))) H' ∧ H' p = some (.dK (tabK (tab.take i)))) (fun H2 e2 => ⟨_, _, rfl, fun a o h => e2 a o ?_, e2 p _ ?_⟩) (fun i σ' H' _ ⟨_, _, _, e, _⟩ => e t _ upd_same) ?_ ?_
  · by_cases ha : a = t
    · subst ha
      rw [upd_same] at h ⊢
      exact h
    · rw [upd_ne ha] at h ⊢
      rw [upd_ne (ne_new hp h)]
      exact h
  · rw [upd_ne hpt.symm, upd_same]
    rfl
  · rintro i x σ' H3 H4 hi ⟨u, v, rfl, e3, e4⟩ ⟨tt, x1, x2, rfl, hnt, rfl, ex1, ex2⟩
    have hi' : i < tab.length := by simpa [tabK] using hi
    obtain ⟨⟨y, z⟩, hyz⟩ : ∃ q, tab[i]? = some q := ⟨_, List.getElem?_eq_getElem hi'⟩
    have hk : (tabK tab)[i]? = some (Sum.inr y, V.str z) := by unfold tabK; rw [List.getElem?_map, hyz]; rfl
    simp only [hk, Option.map_some, Option.some.injEq] at ex1 ex2
    subst ex1 ex2
    obtain ⟨ny, nz⟩ := hz _ (List.mem_of_getElem? hyz)
    have eT : Ex H3 (upd H3 tt (.tup [.str y, .str z])) := Ex.new hnt
    refine ⟨tt, _, rfl, st_of upd_same, rfl, _, _, rfl, _, _, rfl, rfl, ?_⟩
    refine q_when (et_or (et_not (et_B (ev_call (ea_cons (ev_var rfl) ea_nil) (sv_name ny)))) fun _ => et_not (et_B (ev_call (ea_cons (ev_var rfl) ea_nil) (sv_name nz)))) (fun e => by cases e) fun _ H5 e5 => ?_
    have e35 : Ex H3 H5 := eT.trans e5
    refine ⟨_, rfl, _, rfl, _, rfl, p, _, rfl, DPut.k (k := Sum.inr y) (e35 p _ e4) (sz_lt (by simp [tabK]; omega)), _, _, rfl, ?_, ?_⟩
    · refine Ex.mut (e3.trans e35) ?_
      rw [upd_ne hpt.symm]
      exact hp
    · rw [upd_same, tab_put hn hyz]
  · rintro σ' H3 ⟨u, v, rfl, e3, e4⟩
    refine ⟨e3 t _ upd_same, _, rfl, k p _ (fresh_back e1 hp) (e1.trans fun a o h => ?_) ?_⟩
    · by_cases ha : a = t
      · subst ha
        rw [e1 _ _ ht] at h
        rw [upd_same]
        exact h
      · rw [upd_ne ha]
        exact e3 a o (by rw [upd_ne ha]; exact h)
    · rw [upd_ne hpt.symm, e4]
      have : tab.take (tabK tab).length = tab := by unfold tabK; rw [List.length_map, List.take_length]
      rw [this]
def spWords (K : PySem.W.Frag) : Sp := fun vs H Q _ => ∃ a zs, vs = [.ref a] ∧ NamesOk zs ∧ H a = some (.lst (zs.map V.str)) ∧ RetL (zs.map V.str) H Q
theorem sc_checked_words : FnScope ["words", "at"] ["words"] (defScope s_checked_words) := ⟨rfl, rfl, rfl, by decide +kernel, rfl, by decide +kernel, by decide +kernel⟩
theorem ok_checked_words (T : Tx K mg) (D : Dfn K mg "checked_words" s_checked_words) (C_is_row : CalP P w K mg base 1 "is_row" (spIsRow K)) (C_first_other : CalP P w K mg base 2 "first_other" (spFirst K)) : CalP P w K mg base 3 "checked_words" (spWords K) := by
  refine cal_of D sc_checked_words (fun _ _ _ _ _ _ us hl => match us, hl with | [_], _ => rfl) (fun vs H Q E h => by obtain ⟨_, _, rfl, _⟩ := h; rfl) fun f cdv A outer s H vs Q E hr h => ?_
  obtain ⟨a, zs, rfl, ⟨hz, hl⟩, ha, k⟩ := h
  refine ⟨_, (pss_cons (ps_if (pt_not (pt_val (C8.pe_c C_is_row hr (by decide) (by rfl) (pa_cons (pv 0) pa_nil)))) pss_never pss_nil)
        (pss_cons (ps_set (i := 1) sc_checked_words.nd rfl (Or.inl rfl) (C8.pe_c C_first_other hr (by decide) (by rfl) (pa_cons (pv 0) pa_nil)))
        (pss_cons (ps_if (pt_cmpR op_ge (pv 1) pe_int (nomark _)) pss_never pss_nil)
        (pss_one (ps_ret (pe_callTy call_list_of (by rfl) T.f_list PyProof.Rows.boot_list (pa_cons (pv 0) pa_nil))))))), ?_⟩
  refine q_when (et_not (et_B (ev_call (ea_cons (ev_var rfl) ea_nil) (sv_row (k := false) ha)))) (fun e => by cases e) fun _ H1 e1 => ?_
  refine q_asg (ev_call (ea_cons (ev_var rfl) ea_nil) (sv_first (k := false) (sqk_l (e1 _ _ ha)) hz)) fun H2 e2 => ?_
  refine q_when (et_test (ev_op (ev_var rfl) ev_c rv_I0)) (fun e => by cases e) fun _ H3 e3 => ?_
  exact s_retL (el_list (ev_var rfl) (sq_of (e3 _ _ (e2 _ _ (e1 _ _ ha))))) fun p H4 hp e4 h4 => k.go (e1.trans (e2.trans e3)) hp e4 h4
theorem canK_put {ks : List Str} {z : Str} : ∃ ks', putK (canK ks) (Sum.inr z) (.bl true) = canK ks' ∧ (ks.Nodup → ks'.Nodup) ∧ (∀ y, y ∈ ks' ↔ y ∈ ks ∨ y = z) ∧ ks'.length ≤ ks.length + 1 := by
  by_cases h : z ∈ ks
  · refine ⟨ks, ?_, id, fun y => ⟨.inl, fun q => q.elim id fun e => e ▸ h⟩, Nat.le_succ _⟩
    unfold putK
    have h1 : ((canK ks).any fun kv => decide (kv.1 = Sum.inr z)) = true := by
      rw [List.any_eq_true]
      exact ⟨(Sum.inr z, .bl true), List.mem_map.mpr ⟨z, h, rfl⟩, by simp⟩
    rw [if_pos h1]
    unfold canK
    rw [List.map_map]
    refine List.map_congr_left fun y _ => ?_
    show (if _ then _ else _) = _
    split <;> rfl
  · refine ⟨ks ++ [z], ?_, fun hn => ?_, fun y => by simp, by simp⟩
    · rw [putK_new _ (valV_notin fun hm => ?_)]
      · unfold canK
        rw [List.map_append]
        rfl
      · unfold canK at hm
        rw [List.map_map] at hm
        obtain ⟨q, hq, e⟩ := List.mem_map.mp hm
        have e2 : (Sum.inr q : Key) = Sum.inr z := e
        injection e2 with e3
        exact h (e3 ▸ hq)
    · rw [List.nodup_append]
      refine ⟨hn, by simp, fun a ha b hb e => ?_⟩
      rw [List.mem_singleton] at hb
      exact h (hb ▸ e ▸ ha)
def RetC (zs : List Str) (H : Hp) (Q : VK) : Prop := ∀ p H2, H p = none → Ex H H2 → CanAt H2 p zs → Q (.ref p) H2
def spMarked : Sp := fun vs H Q _ => ∃ a zs, vs = [.ref a] ∧ zs.length ≤ 1000 ∧ H a = some (.lst (zs.map V.str)) ∧ RetC zs H Q
theorem sc_marked : FnScope ["words", "word"] ["words"] (defScope s_marked) := ⟨rfl, rfl, rfl, by decide +kernel, rfl, by decide +kernel, by decide +kernel⟩
theorem ok_marked (T : Tx K mg) (D : Dfn K mg "marked" s_marked) : CalP P w K mg base 1 "marked" spMarked := by
  refine cal_of D sc_marked (fun _ _ _ _ _ _ us hl => match us, hl with | [_], _ => rfl) (fun vs H Q E h => by obtain ⟨_, _, rfl, _⟩ := h; rfl) fun f cdv A outer s H vs Q E hr h => ?_
  obtain ⟨a, zs, rfl, hl, ha, k⟩ := h
  refine ⟨_, (pss_one (ps_ret (pe_dc (own := [("word", 1)]) (g := gName 1) (tt := tYes) (by rfl) sc_marked.nd (pi_seq (pv 0)) (blkOk_by (own := [("word", 1)]) (N := ["words", "word"]) (sc := defScope s_marked) (by decide +kernel)) (fun _ _ _ _ _ => (pg_name (i := 1) sc_marked.nd rfl (Or.inl rfl))) (fun _ _ _ _ _ => pts_nil) (fun _ _ _ _ _ => (pv 1)) (fun _ _ _ _ _ => pe_bl)))), ?_⟩
  refine e_dc (f_seq (k := false) (ev_var rfl) (sqk_l ha) fun H1 e1 => dc_w (walk_seq (xs := zs.map V.str)) (fun D i H' => Ex H H' ∧ ∃ ks : List Str, ks.Nodup ∧ (∀ z, z ∈ ks ↔ z ∈ zs.take i) ∧ ks.length ≤ i ∧ H' D = some (.dK (canK ks))) ?_ ?_ ?_ ?_)
  · exact fun D hD => ⟨e1.mut (fresh_back e1 hD), [], List.nodup_nil, fun z => by simp, Nat.le_refl _, upd_same⟩
  · exact fun D i H' _ _ p => sqk_l (p.1 _ _ ha)
  · rintro D i x H2 H' hD hi ⟨e2, ks, k1, k2, k3, k4⟩ ⟨rfl, ex⟩
    rw [List.getElem?_map] at ex
    obtain ⟨y, hy, rfl⟩ := Option.map_eq_some_iff.mp ex
    obtain ⟨ks', p1, p2, p3, p4⟩ := canK_put (ks := ks) (z := y)
    refine ⟨rfl, ?_⟩
    simp only [tYes, if_true]
    refine ⟨_, rfl, canK ks, Sum.inr y, rfl, k4, by unfold canK; rw [List.length_map]; rw [List.length_map] at hi; exact sz_lt (by omega), e2.mut (fresh_back e1 hD), ks', p2 k1, fun z => ?_, by omega, ?_⟩
    · rw [p3, k2, take_snoc hy]
      simp
    · rw [upd_same, p1]
  · rintro D H2 hD ⟨e2, ks, k1, k2, k3, k4⟩
    rw [List.length_map] at k2 k3
    rw [List.take_length] at k2
    exact k D H2 (fresh_back e1 hD) e2 ⟨ks, k1, k2, k3, k4⟩
/-! ### View -/
def RetW (C : Addr) (tab : List (Str × Str)) (zs : List Str) (H : Hp) (Q : VK) : Prop := ∀ p H2, H p = none → Ex H H2 → ViewAt C H2 p tab zs → Q (.ref p) H2
def spViewInit (C : Addr) : Sp := fun vs H Q _ => ∃ x dx H0 t c tab zs, vs = [.ref x, .ref t, .ref c] ∧ H x = some (.ins C dx []) ∧ H0 x = none ∧ Ex H0 H ∧ TabOk' tab ∧ NamesOk zs ∧ H0 t = some (.dK (tabK tab)) ∧ H0 c = some (.lst (zs.map V.str)) ∧
  ∀ H2, Ex H0 H2 → ViewAt C H2 x tab zs → Q .non H2
theorem sc_View_init : FnScope ["self", "sights", "holds"] ["self", "sights", "holds"] (defScope s_View_init) := ⟨rfl, rfl, rfl, by decide +kernel, rfl, by decide +kernel, by decide +kernel⟩
theorem ok_View_init {a : Ad} {f : Addr} {fd : FuncData} {dvs : List V} (T : TxC K mg a) (F : FunD K "__init__" "View.__init__" (defArgs s_View_init) (defBody s_View_init) (defScope s_View_init) dvs [] f fd)
    (C_checked_sights : CalP P w K mg base 2 "checked_sights" spSights) (C_checked_words : CalP P w K mg base 3 "checked_words" (spWords K)) (C_marked : CalP P w K mg base 1 "marked" spMarked) :
    FnOk P w K mg base L2.CX0 4 f fd ["self", "sights", "holds"] (spViewInit a.View) := by
  refine fnOk_of F sc_View_init (fun vs H Q E h => by obtain ⟨_, _, _, _, _, _, _, rfl, _⟩ := h; rfl) fun f cdv A outer s H vs Q E hr h => ?_
  obtain ⟨x, dx, H0, t, c, tab, zs, rfl, hx, h0, e0, ht, hz, h1, h2, k⟩ := h
  refine ⟨_, (pss_cons (ps_fld (pv 0) pe_dnewK rfl)
        (pss_cons (ps_if (pt_cmpR op_notN (pv 1) pe_non (nomark _)) (pss_one (ps_fld (pv 0) (C8.pe_c C_checked_sights hr (by decide) (by rfl) (pa_cons (pv 1) pa_nil)) rfl)) pss_nil)
        (pss_one (ps_fld (pv 0) (C8.pe_c C_marked hr (by decide) (by rfl) (pa_cons (C8.pe_c C_checked_words hr (by decide) (by rfl) (pa_cons (pv 2) pa_nil)) pa_nil)) rfl)))), ?_⟩
  intro p hp
  have hpx : x ≠ p := ne_new hp hx
  have hp0 : H0 p = none := fresh_back e0 hp
  refine ⟨_, rfl, x, a.View, dx, _, rfl, by rw [upd_ne hpx]; exact hx, T.c_View, T.n_table, by decide, ?_⟩
  have e1 : Ex H0 (upd (upd H p (.dK [])) x (.ins a.View dx (putF "table" (.ref p) []))) := (e0.mut hp0).mut h0
  dsimp only
  refine q_when (b := true) (et_test (ev_op (ev_var rfl) ev_c (rv_val fun _ _ _ q => ⟨rfl, q⟩))) (fun _ H1 e2 => ?_) (fun e => by cases e)
  have hx1 : H1 x = some (.ins a.View dx (putF "table" (.ref p) [])) := e2 x _ upd_same
  refine ⟨_, rfl, t, tab, rfl, ht, e2 _ _ (e1 _ _ h1), fun t' H2 ht' e3 h3 => ⟨_, rfl, x, a.View, dx, _, rfl, e3 _ _ hx1, T.c_View, T.n_table, (by decide : (1 : Nat) < 1000), ?_⟩⟩
  have hne : t' ≠ x := fun e => by rw [e, hx1] at ht'; cases ht'
  have e4 : Ex H0 (upd H2 x (.ins a.View dx (putF "table" (.ref t') (putF "table" (.ref p) [])))) := (e1.trans (e2.trans e3)).mut h0
  refine ⟨_, rfl, c, zs, rfl, hz, e4 _ _ h2, fun c' H3 hc' e5 h5 => ?_⟩
  refine ⟨c', zs, rfl, hz.2, h5, fun m H4 hm e6 h6 => ⟨_, rfl, x, a.View, dx, _, rfl, e6 _ _ (e5 _ _ upd_same), T.c_View, T.n_can, (by decide : (1 : Nat) < 1000), ?_⟩⟩
  have hmx : m ≠ x := fun e => by rw [e, e5 _ _ upd_same] at hm; cases hm
  refine k _ ((e4.trans (e5.trans e6)).mut h0) ⟨dx, t', m, upd_same, ?_, ?_⟩
  · rw [upd_ne hne]
    refine e6 _ _ (e5 _ _ ?_)
    rw [upd_ne hne]
    exact h3
  · obtain ⟨ks, q1, q2, q3, q4⟩ := h6
    exact ⟨ks, q1, q2, q3, by rw [upd_ne hmx]; exact q4⟩
/-- View(a, b) -/
theorem e_View {C : Addr} {ta : TA} {σ : L2.St} {H : Hp} {Q : VK} {t c : Addr} {tab : List (Str × Str)} {zs : List Str} {E : XK} (h : EvA ta σ H [.ref t, .ref c]) (ht : TabOk' tab) (hz : NamesOk zs) (h1 : H t = some (.dK (tabK tab))) (h2 : H c = some (.lst (zs.map V.str))) (k : RetW C tab zs H Q) :
    tMake C (spViewInit C) [] E ta σ H Q := h H (Ex.refl _) _ fun H1 e1 x dx hx hdx _ =>
  ⟨x, dx, H1, t, c, tab, zs, rfl, upd_same, hx, (Ex.new hdx).mut hx, ht, hz, e1 _ _ h1, e1 _ _ h2, fun H2 e2 hv => ⟨rfl, k x H2 (fresh_back e1 hx) (e1.trans e2) hv⟩⟩
def spCopy (C : Addr) : Sp := fun vs H Q _ => ∃ x tab zs, vs = [.ref x] ∧ TabOk' tab ∧ NamesOk zs ∧ ViewAt C H x tab zs ∧ RetW C tab zs H Q
theorem sc_View_copy : FnScope ["self"] ["self"] (defScope s_View_copy) := ⟨rfl, rfl, rfl, by decide +kernel, rfl, by decide +kernel, by decide +kernel⟩
theorem ok_View_copy {a : Ad} {f : Addr} {fd : FuncData} (T : TxC K mg a) (F : FunD K "copy" "View.copy" (defArgs s_View_copy) (defBody s_View_copy) (defScope s_View_copy) [] [] f fd)
    (M_View : C8.Mak P w K mg base 4 "View" a.View (spViewInit a.View) []) : FnOk P w K mg base L2.CX0 6 f fd ["self"] (spCopy a.View) := by
  refine fnOk_of F sc_View_copy (fun vs H Q E h => by obtain ⟨_, _, _, rfl, _⟩ := h; rfl) fun f cdv A outer s H vs Q E hr h => ?_
  obtain ⟨x, tab, zs, rfl, ht, hz, ⟨dx, t, c, v1, v2, ks, c1, c2, c3, c4⟩, k⟩ := h
  refine ⟨_, (pss_one (ps_ret (C8.pe_mk M_View hr (by decide) (by rfl) (pa_cons (pe_fld (pv 0) rfl) (pa_cons (pe_callTy (call_listD rfl) (by rfl) T.f_list PyProof.Rows.boot_list (pa_cons (pe_fld (pv 0) rfl) pa_nil)) pa_nil))))), ?_⟩
  have hzk : NamesOk ks := ⟨fun z h => hz.1 z ((c2 z).mp h), Nat.le_trans c3 hz.2⟩
  refine ⟨_, rfl, x, a.View, dx, _, _, rfl, v1, T.c_View, T.n_table, rfl, ?_⟩
  refine ⟨_, rfl, x, a.View, dx, _, _, rfl, v1, T.c_View, T.n_can, rfl, ?_⟩
  refine ⟨c, canK ks, rfl, .inl c4, fun p hp => ?_⟩
  have hpl : (canK ks).map (fun kv => kV kv.1) = ks.map V.str := by unfold canK; rw [List.map_map]; rfl
  rw [hpl]
  refine e_View (ta := fun σ H Q => Q [.ref t, .ref p] H) (E := C8.E0) (σ := []) (fun H1 e1 Q q => q H1 (Ex.refl _)) ht hzk (by rw [upd_ne (ne_new hp v2)]; exact v2) upd_same (fun q H2 hq e2 hv => ?_)
  obtain ⟨dx', t', c', w1, w2, ks', d1, d2, d3, d4⟩ := hv
  have e3 : Ex H H2 := (Ex.new hp).trans e2
  exact k q H2 (fresh_back (Ex.new hp) hq) e3 ⟨dx', t', c', w1, w2, ks', d1, fun z => (d2 z).trans (c2 z), Nat.le_trans d3 c3, d4⟩
end
end K28
end

section
set_option Elab.async false
set_option maxRecDepth 100000
set_option maxHeartbeats 4000000
namespace K28
open PySem PySem.Spec PyProof.Rows L2 Evl
/-- one part of the law's: a table, what it holds, moves, what is held at a node -/
structure Part where
  tab : List (Str × Str)
  holds : List Str
  moves : List ((Int × Str) × Int)
  held : List (List Str)
def mkey (k : Int × Str) : NK := .tup [.num k.1, .text k.2]
def movesK (ms : List ((Int × Str) × Int)) : List (NK × V) := ms.map fun p => (mkey p.1, .int p.2)
def lk {α β : Type} [DecidableEq α] (l : List (α × β)) (a : α) : Option β := (l.find? fun p => decide (p.1 = a)).map (·.2)
theorem mkey_inj {a b : Int × Str} (h : mkey a = mkey b) : a = b := by
  injection h with h
  injection h with h1 h2
  injection h1 with h1
  injection h2 with h2 _
  injection h2 with h2
  exact Prod.ext h1 h2
theorem lk_cons {α β : Type} [DecidableEq α] (p : α × β) (l : List (α × β)) (a : α) : lk (p :: l) a = if p.1 = a then some p.2 else lk l a := by
  unfold lk
  rw [List.find?_cons]
  by_cases h : p.1 = a
  · simp [h]
  · simp [h]
theorem val_moves (ms : List ((Int × Str) × Int)) (k : Int × Str) : valV (movesK ms) (mkey k) = (lk ms k).map V.int := by
  induction ms with
  | nil => rfl
  | cons p r ih =>
    rw [lk_cons]
    by_cases e : p.1 = k
    · rw [if_pos e]
      exact valV_pos (p := (mkey p.1, V.int p.2)) (by rw [e])
    · rw [if_neg e, ← ih]
      exact valV_neg (p := (mkey p.1, V.int p.2)) (fun z => e (mkey_inj z))
theorem val_moves_none (ms : List ((Int × Str) × Int)) (z : Str) : valV (movesK ms) (.tup [.none, .text z]) = none := by
  refine valV_notin fun hm => ?_
  unfold movesK at hm
  rw [List.map_map] at hm
  obtain ⟨q, _, e⟩ := List.mem_map.mp hm
  have e2 : mkey q.1 = .tup [.none, .text z] := e
  injection e2 with e3
  injection e3 with e4 _
  cases e4
theorem val_tab (tab : List (Str × Str)) (z : Str) : valV (tabK tab) (Sum.inr z) = (lk tab z).map V.str := by
  induction tab with
  | nil => rfl
  | cons p r ih =>
    rw [lk_cons]
    by_cases e : p.1 = z
    · rw [if_pos e]
      exact valV_pos (p := (Sum.inr p.1, V.str p.2)) (by rw [e])
    · rw [if_neg e, ← ih]
      exact valV_neg (p := (Sum.inr p.1, V.str p.2)) (fun q => by injection q with q; exact e q)
theorem val_can (ks : List Str) (z : Str) : valV (canK ks) (Sum.inr z) = if z ∈ ks then some (.bl true) else none := by
  by_cases h : z ∈ ks
  · rw [if_pos h]
    induction ks with
    | nil => cases h
    | cons p r ih =>
      by_cases e : p = z
      · exact valV_pos (p := (Sum.inr p, V.bl true)) (by rw [e])
      · rw [show canK (p :: r) = (Sum.inr p, V.bl true) :: canK r from rfl, valV_neg (fun q => by injection q with q; exact e q)]
        rcases List.mem_cons.mp h with h | h
        · exact absurd h.symm e
        · exact ih h
  · rw [if_neg h]
    refine valV_notin fun hm => ?_
    unfold canK at hm
    rw [List.map_map] at hm
    obtain ⟨q, hq, e⟩ := List.mem_map.mp hm
    have e2 : (Sum.inr q : Key) = Sum.inr z := e
    injection e2 with e3
    exact h (e3 ▸ hq)
/-- is the word held at this place -/
def heldP (p : Part) (pl : Option Int) (z : Str) : Bool := decide (z ∈ p.holds) && (match pl with
  | none => true
  | some i => decide (z ∈ p.held.getD i.toNat []))
/-- the place behind the word -/
def afterP (p : Part) (pl : Option Int) (z : Str) : Option Int := match lk p.tab z with
  | none => pl
  | some s => (match pl with
    | none => none
    | some i => lk p.moves (i, s))
def plV : Option Int → V
  | none => .non
  | some i => .int i
def HeldAt (H : Hp) (l : Addr) (held : List (List Str)) : Prop := ∃ as : List Addr, H l = some (.lst (as.map V.ref)) ∧ Paired (fun a hs => H a = some (.lst (hs.map V.str))) as held
def LineAt (H : Hp) (t : Addr) (hs : List Str) : Prop := ∃ ys : List Str, H t = some (.tup (ys.map V.str)) ∧ ys.Nodup ∧ sortedS ys = true ∧ ∀ z, z ∈ ys ↔ z ∈ hs
def LinesAt (H : Hp) (l : Addr) (held : List (List Str)) : Prop := ∃ ts : List Addr, H l = some (.lst (ts.map V.ref)) ∧ Paired (LineAt H) ts held
theorem LineAt.ex {H H' : Hp} {t : Addr} {hs : List Str} (e : Ex H H') (h : LineAt H t hs) : LineAt H' t hs := let ⟨ys, a, b⟩ := h; ⟨ys, e _ _ a, b⟩
theorem LinesAt.ex {H H' : Hp} {l : Addr} {held : List (List Str)} (e : Ex H H') (h : LinesAt H l held) : LinesAt H' l held := let ⟨ts, a, b⟩ := h; ⟨ts, e _ _ a, Paired.mapP b fun _ _ q => q.ex e⟩
theorem HeldAt.ex {H H' : Hp} {l : Addr} {held : List (List Str)} (e : Ex H H') (h : HeldAt H l held) : HeldAt H' l held := let ⟨ts, a, b⟩ := h; ⟨ts, e _ _ a, Paired.mapP b fun _ _ q => e _ _ q⟩
def PartOk (p : Part) : Prop := TabOk' p.tab ∧ p.tab.length < 64 ∧ NamesOk p.holds ∧ 1 ≤ p.held.length ∧ p.held.length ≤ 3 ∧ (∀ hs ∈ p.held, hs.length < 64 ∧ ∀ z ∈ hs, z ∈ p.holds) ∧
  p.moves.length ≤ 1000 ∧ ∀ q ∈ p.moves, 0 ≤ q.1.1 ∧ q.1.1 < p.held.length ∧ q.1.2 ∈ p.tab.map (·.2) ∧ 0 ≤ q.2 ∧ q.2 < p.held.length
def GuardAt (P : Program) (w : World) (a : Ad) (H : Hp) (x : Addr) (p : Part) : Prop := ∃ dx o l r, H x = some (.ins a.Guard dx [("own", .ref o), ("lines", .ref l), ("arrows", .ref r)]) ∧ ViewAt a.View H o p.tab p.holds ∧ LinesAt H l p.held ∧ NDk P w H r (movesK p.moves)
theorem GuardAt.ex {P : Program} {w : World} {a : Ad} {H H' : Hp} {x : Addr} {p : Part} (e : Ex H H') (h : GuardAt P w a H x p) : GuardAt P w a H' x p := let ⟨dx, o, l, r, h1, h2, h3, h4⟩ := h; ⟨dx, o, l, r, e _ _ h1, h2.ex e, h3.ex e, h4.ex e⟩
/-- a place of the part -/
def PlOk (p : Part) (pl : Option Int) : Prop := ∀ i, pl = some i → 0 ≤ i ∧ i < p.held.length
theorem lk_mem {α β : Type} [DecidableEq α] {l : List (α × β)} {a : α} {b : β} (h : lk l a = some b) : (a, b) ∈ l := by
  induction l with
  | nil => cases h
  | cons p r ih =>
    rw [lk_cons] at h
    by_cases e : p.1 = a
    · rw [if_pos e] at h
      have : p.2 = b := Option.some.inj h
      subst e this
      exact List.mem_cons_self
    · rw [if_neg e] at h
      exact List.mem_cons_of_mem _ (ih h)
theorem after_ok {p : Part} (ok : PartOk p) {pl : Option Int} (h : PlOk p pl) (z : Str) : PlOk p (afterP p pl z) := by
  intro i e
  unfold afterP at e
  cases h1 : lk p.tab z with
  | none =>
    rw [h1] at e
    exact h i e
  | some s =>
    rw [h1] at e
    cases pl with
    | none => cases e
    | some j =>
      have := ok.2.2.2.2.2.2.2 _ (lk_mem (show lk p.moves (j, s) = some i from e))
      exact ⟨this.2.2.2.1, this.2.2.2.2⟩
theorem inV_str {z : Str} {ys : List Str} : inV (.str z) (ys.map V.str) = decide (z ∈ ys) := by
  unfold inV
  rw [List.any_map]
  induction ys with
  | nil => rfl
  | cons y r ih =>
    rw [List.any_cons, ih]
    show ((y == z) || decide (z ∈ r)) = decide (z ∈ y :: r)
    by_cases h : y = z
    · subst h
      simp
    · have h1 : (y == z) = false := by simpa using h
      rw [h1]
      simp [Ne.symm h]
theorem flat_strs' (ys : List Str) : (ys.map V.str).all flatV = true := by
  rw [List.all_map]
  exact List.all_eq_true.mpr fun _ _ => rfl
section
variable {P : Program} {w : World} {K : PySem.W.Frag} {mg : Str → Option Value} {base : Heap}
def RetS (zs : List Str) (H : Hp) (Q : VK) : Prop := ∀ (p : Addr) (H2 : Hp) (ys : List Str), H p = none → Ex H H2 → H2 p = some (.lst (ys.map V.str)) → (∀ z, z ∈ ys ↔ z ∈ zs) → Q (.ref p) H2
def spTold (a : Ad) : Sp := fun vs H Q _ => ∃ x tab zs, vs = [.ref x] ∧ tab.length < 64 ∧ ViewAt a.View H x tab zs ∧ RetS (tab.map (·.2)) H Q
theorem sc_sights_told : FnScope ["view"] ["view"] (defScope s_sights_told) := ⟨rfl, rfl, rfl, by decide +kernel, rfl, by decide +kernel, by decide +kernel⟩
theorem ok_sights_told {a : Ad} (T : TxC K mg a) (D : Dfn K mg "sights_told" s_sights_told) : CalP P w K mg base 1 "sights_told" (spTold a) := by
  refine cal_of D sc_sights_told (fun _ _ _ _ _ _ us hl => match us, hl with | [_], _ => rfl) (fun vs H Q E h => by obtain ⟨_, _, _, rfl, _⟩ := h; rfl) fun f cdv A outer s H vs Q E hr h => ?_
  obtain ⟨x, tab, zs, rfl, hl, ⟨dx, t, c, v1, v2, v3⟩, k⟩ := h
  refine ⟨_, (pss_one (ps_ret (pe_callB (cr_sortedSS rfl) (by rfl) T.f_sorted boot_sorted (pa_cons (pe_callTy (cr_setOfS rfl) (by rfl) T.f_set boot_set (pa_cons (pe_listVals rfl (by rfl) T.f_list (pe_fld (pv 0) rfl)) pa_nil)) pa_nil)))), ?_⟩
  refine ⟨_, rfl, x, a.View, dx, _, _, rfl, v1, T.c_View, T.n_table, rfl, t, tabK tab, rfl, .inl v2, fun p hp => ?_⟩
  have e1 : Ex H (upd H p (.lst ((tabK tab).map (·.2)))) := Ex.new hp
  have e2 : (tabK tab).map (·.2) = (tab.map (·.2)).map V.str := by unfold tabK; rw [List.map_map, List.map_map]; rfl
  rw [e2] at e1 ⊢
  refine ⟨p, tab.map (·.2), rfl, sq_of upd_same, by rw [List.length_map]; omega, fun q hq => ?_⟩
  have h1 := addAll_len (tab.map (·.2)) []
  rw [List.length_map, List.length_nil] at h1
  refine ⟨q, addAll [] (tab.map (·.2)), rfl, upd_same, by omega, fun ys r hp2 hn hs hr2 => ?_⟩
  refine k r _ ys (fresh_back (e1.trans (Ex.new hq)) hr2) ((e1.trans (Ex.new hq)).trans (Ex.new hr2)) upd_same fun z => ?_
  rw [hp2.mem_iff, addAll_mem]
  simp
def spHolding (P : Program) (w : World) (a : Ad) : Sp := fun vs H Q _ => ∃ g p pl z, vs = [.ref g, plV pl, .str z] ∧ GuardAt P w a H g p ∧ PlOk p pl ∧ RetV (.bl (heldP p pl z)) H Q
theorem sv_holding {a : Ad} {H : Hp} {g : Addr} {p : Part} {pl : Option Int} {z : Str} (h : GuardAt P w a H g p) (ho : PlOk p pl) : SpV (spHolding P w a) [.ref g, plV pl, .str z] H (.bl (heldP p pl z)) := fun _ e _ q _ => ⟨g, p, pl, z, rfl, h.ex e, ho, q⟩
theorem sc_holding : FnScope ["guard", "node", "word"] ["guard", "node", "word"] (defScope s_holding) := ⟨rfl, rfl, rfl, by decide +kernel, rfl, by decide +kernel, by decide +kernel⟩
theorem ok_holding {a : Ad} (T : TxC K mg a) (D : Dfn K mg "holding" s_holding) : CalP P w K mg base 1 "holding" (spHolding P w a) := by
  refine cal_of D sc_holding (fun _ _ _ _ _ _ us hl => match us, hl with | [_, _, _], _ => rfl) (fun vs H Q E h => by obtain ⟨_, _, _, _, rfl, _⟩ := h; rfl) fun f cdv A outer s H vs Q E hr h => ?_
  obtain ⟨g, p, pl, z, rfl, ⟨dx, o, l, r, g1, ⟨dv, t, c, v1, v2, ks, k1, k2, k3, k4⟩, ⟨ts, l1, l2⟩, g4⟩, hpl, k⟩ := h
  refine ⟨_, (pss_cons (ps_if (pt_cmp (pc_dnotin (hu_of hr) (pv 2) (pe_fld (pe_fld (pv 0) rfl) rfl)) (by with_unfolding_all rfl)) (pss_one (ps_ret pe_bl)) pss_nil)
        (pss_one (ps_ret (pe_or (pe_cmpR op_isN (pv 1) pe_non (nomark _)) (pe_one (pe_cmpR op_in_seq (pv 2) (pe_ix ix_list (pe_fld (pv 0) rfl) (pv 1) (fun _ _ => rfl)) (by with_unfolding_all rfl))))))), ?_⟩
  refine ⟨_, rfl, _, rfl, g, a.Guard, dx, _, _, rfl, g1, T.c_Guard, T.n_own, rfl, o, a.View, dv, _, _, rfl, v1, T.c_View, T.n_can, rfl, c, _, rfl, DGet.k (k := Sum.inr z) k4, _, rfl, ?_⟩
  have hin : (valV (canK ks) (Sum.inr z)).isSome = decide (z ∈ p.holds) := by
    rw [val_can]
    by_cases h : z ∈ ks
    · rw [if_pos h]
      simp [(k2 z).mp h]
    · rw [if_neg h]
      have h' : z ∉ p.holds := fun q => h ((k2 z).mpr q)
      simp [h']
  rw [hin]
  by_cases hz : z ∈ p.holds
  · rw [show (!decide (z ∈ p.holds)) = false by simp [hz]]
    refine iteF ?_
    cases pl with
    | none =>
      refine ⟨_, rfl, rfl, _, rfl, ?_⟩
      refine iteT (k H (Ex.refl _) |> fun q => ?_)
      rw [show heldP p none z = true by simp [heldP, hz]] at q
      exact q
    | some i =>
      obtain ⟨i0, i1⟩ := hpl i rfl
      refine ⟨_, rfl, rfl, _, rfl, iteF ?_⟩
      have hi : i.toNat < p.held.length := by omega
      have hlen : ts.length = p.held.length := Paired.length l2
      obtain ⟨t', ht', ys, y1, y2, y3, y4⟩ : ∃ t', ts[i.toNat]? = some t' ∧ LineAt H t' (p.held[i.toNat]) := by
        have hi2 : i.toNat < ts.length := by omega
        obtain ⟨hs, e1, e2⟩ := pair_at l2 (List.getElem?_eq_getElem hi2)
        rw [List.getElem?_eq_getElem hi] at e1
        cases e1
        exact ⟨_, List.getElem?_eq_getElem hi2, e2⟩
      have hat : atI (ts.map V.ref) i = some (.ref t') := by
        have := atI_nat (xs := ts.map V.ref) (j := i.toNat) (by rw [List.getElem?_map, ht']; rfl)
        rw [Int.toNat_of_nonneg i0] at this
        exact this
      refine ⟨_, rfl, _, rfl, g, a.Guard, dx, _, _, rfl, g1, T.c_Guard, T.n_lines, rfl, _, rfl, l, _, i, _, rfl, rfl, sq_of l1, hat, ?_⟩
      refine ⟨t', _, rfl, .inr (st_of y1), rfl, flat_strs' ys, ?_⟩
      rw [if_neg Bool.false_ne_true, inV_str]
      have q := k H (Ex.refl _)
      have e : heldP p (some i) z = decide (z ∈ ys) := by
        show (decide (z ∈ p.holds) && decide (z ∈ p.held.getD i.toNat [])) = _
        have e2 : p.held.getD i.toNat [] = p.held[i.toNat] := by simp [List.getD_eq_getElem?_getD, List.getElem?_eq_getElem hi]
        rw [e2]
        by_cases h : z ∈ ys
        · simp [h, hz, (y4 z).mp h]
        · have h' : z ∉ p.held[i.toNat] := fun q => h ((y4 z).mpr q)
          simp [h, h']
      rw [e] at q
      exact q
  · rw [show (!decide (z ∈ p.holds)) = true by simp [hz]]
    refine iteT ?_
    have q := k H (Ex.refl _)
    rw [show heldP p pl z = false by simp [heldP, hz]] at q
    exact q
def spMoved (P : Program) (w : World) (a : Ad) : Sp := fun vs H Q _ => ∃ g p pl z, vs = [.ref g, plV pl, .str z] ∧ GuardAt P w a H g p ∧ RetV (plV (afterP p pl z)) H Q
theorem sv_moved {a : Ad} {H : Hp} {g : Addr} {p : Part} {pl : Option Int} {z : Str} (h : GuardAt P w a H g p) : SpV (spMoved P w a) [.ref g, plV pl, .str z] H (plV (afterP p pl z)) := fun _ e _ q _ => ⟨g, p, pl, z, rfl, h.ex e, q⟩
theorem sc_moved : FnScope ["guard", "node", "word"] ["guard", "node", "word"] (defScope s_moved) := ⟨rfl, rfl, rfl, by decide +kernel, rfl, by decide +kernel, by decide +kernel⟩
theorem ok_moved {a : Ad} (T : TxC K mg a) (D : Dfn K mg "moved" s_moved) : CalP P w K mg base 1 "moved" (spMoved P w a) := by
  refine cal_of D sc_moved (fun _ _ _ _ _ _ us hl => match us, hl with | [_, _, _], _ => rfl) (fun vs H Q E h => by obtain ⟨_, _, _, _, rfl, _⟩ := h; rfl) fun f cdv A outer s H vs Q E hr h => ?_
  obtain ⟨g, p, pl, z, rfl, ⟨dx, o, l, r, g1, ⟨dv, t, c, v1, v2, v3⟩, g3, g4⟩, k⟩ := h
  refine ⟨_, (pss_cons (ps_if (pt_cmp (pc_dnotin (hu_of hr) (pv 2) (pe_fld (pe_fld (pv 0) rfl) rfl)) (by with_unfolding_all rfl)) (pss_one (ps_ret (pv 1))) pss_nil)
        (pss_one (ps_ret (pe_nget1 hr.units (pe_fld (pv 0) rfl) (pe_tup (pa_cons (pv 1) (pa_cons (pe_dget (hu_of hr) (pe_fld (pe_fld (pv 0) rfl) rfl) (pv 2) (fun _ _ => rfl)) pa_nil))) ⟨by rfl, by rfl, by rfl, by rfl⟩)))), ?_⟩
  refine ⟨_, rfl, _, rfl, g, a.Guard, dx, _, _, rfl, g1, T.c_Guard, T.n_own, rfl, o, a.View, dv, _, _, rfl, v1, T.c_View, T.n_table, rfl, t, _, rfl, DGet.k (k := Sum.inr z) v2, _, rfl, ?_⟩
  rw [val_tab]
  cases hlk : lk p.tab z with
  | none =>
    refine iteT ⟨_, rfl, ?_⟩
    have q := k H (Ex.refl _)
    rw [show afterP p pl z = pl by simp [afterP, hlk]] at q
    exact q
  | some y =>
    refine iteF ?_
    refine ⟨_, rfl, g, a.Guard, dx, _, _, rfl, g1, T.c_Guard, T.n_arrows, rfl, r, _, rfl, g4, ?_⟩
    refine ⟨_, rfl, _, rfl, g, a.Guard, dx, _, _, rfl, g1, T.c_Guard, T.n_own, rfl, o, a.View, dv, _, _, rfl, v1, T.c_View, T.n_table, rfl, _, rfl, t, .str y, rfl, ?_, by show 2 ≤ sizeLine; decide, fun q hq => ?_⟩
    · have := DGet.k (k := Sum.inr z) v2
      rw [val_tab, hlk] at this
      exact this
    have e1 : Ex H (upd H q (.tup [plV pl, .str y])) := Ex.new hq
    have kq := k _ e1
    cases pl with
    | none =>
      refine ⟨.tup [.none, .text y], g4.ex e1, ⟨_, q, _, rfl, rfl, upd_same, .cons (.inl rfl) (.cons (.inl rfl) .nil)⟩, ?_⟩
      rw [val_moves_none]
      rw [show afterP p none z = none by simp [afterP, hlk]] at kq
      exact kq
    | some i =>
      refine ⟨mkey (i, y), g4.ex e1, ⟨_, q, _, rfl, rfl, upd_same, .cons (.inl rfl) (.cons (.inl rfl) .nil)⟩, ?_⟩
      rw [val_moves]
      rw [show afterP p (some i) z = lk p.moves (i, y) by simp [afterP, hlk]] at kq
      cases hm : lk p.moves (i, y) with
      | none => rw [hm] at kq; exact kq
      | some j => rw [hm] at kq; exact kq
end
end K28
end

section
set_option Elab.async false
set_option maxRecDepth 100000
set_option maxHeartbeats 4000000
namespace K28
open PySem PySem.Spec PyProof.Rows L2 Evl
section
variable {P : Program} {w : World} {K : PySem.W.Frag} {mg : Str → Option Value} {base : Heap}
theorem keyV_mkey {H : Hp} {k : Int × Str} {q : Addr} (h : KeyV H (mkey k) (.ref q)) : H q = some (.tup [.int k.1, .str k.2]) := by
  obtain ⟨ks, b, ws, e1, e2, e3, e4⟩ := h
  injection e1 with e1
  cases e2
  subst e1
  cases e4 with
  | cons r t =>
    cases t with
    | cons r2 t2 =>
      cases t2
      rcases r with r | ⟨_, _, _, z, _⟩
      · rcases r2 with r2 | ⟨_, _, _, z, _⟩
        · cases (show _ = V.int k.1 from r)
          cases (show _ = V.str k.2 from r2)
          exact e3
        · cases z
      · cases z
theorem mkey_keyV {H : Hp} {k : Int × Str} {q : Addr} (h : H q = some (.tup [.int k.1, .str k.2])) : KeyV H (mkey k) (.ref q) := ⟨_, q, _, rfl, rfl, h, .cons (.inl rfl) (.cons (.inl rfl) .nil)⟩
theorem nd_nodup {H : Hp} {a : Addr} {kvs : List (NK × V)} (h : NDk P w H a kvs) : (kvs.map (·.1)).Nodup := by
  obtain ⟨_, o, _, es, ep, xs, _, _, _, hn, _, hp⟩ := h
  have e : ∀ {l : List (NK × V)} {m : List (NK × Addr × Value)}, Paired (NdR H) l m → l.map (·.1) = m.map (·.1) := by
    intro l m q
    induction q with
    | nil => rfl
    | cons r t ih => rw [List.map_cons, List.map_cons, ih, r.1]
  rw [e hp]
  exact hn
theorem moves_nodup {ms : List ((Int × Str) × Int)} (h : ((movesK ms).map (·.1)).Nodup) : (ms.map (·.1)).Nodup := by
  unfold movesK at h
  rw [List.map_map] at h
  have : (ms.map fun p => mkey p.1) = (ms.map (·.1)).map mkey := by rw [List.map_map]; rfl
  have h2 : ((ms.map (·.1)).map mkey).Nodup := by
    rw [← this]
    exact h
  exact List.Pairwise.of_map mkey (fun _ _ hne e => hne (congrArg mkey e)) h2
theorem moves_put {ms : List ((Int × Str) × Int)} (hn : (ms.map (·.1)).Nodup) {i : Nat} {k : Int × Str} {v : Int} (h : ms[i]? = some (k, v)) : putK (movesK (ms.take i)) (mkey k) (.int v) = movesK (ms.take (i + 1)) := by
  rw [take_snoc h, putK_new _ (valV_notin fun hm => ?_)]
  · unfold movesK
    rw [List.map_append]
    rfl
  · unfold movesK at hm
    rw [List.map_map] at hm
    obtain ⟨q, hq, e⟩ := List.mem_map.mp hm
    exact take_notin hn h (List.mem_map.mpr ⟨q, hq, mkey_inj e⟩)
def spPlace : Sp := fun vs H Q _ => ∃ kk i z n s, ∃ ys : List Str, vs = [.ref kk, .int n, .ref s] ∧ H kk = some (.tup [.int i, .str z]) ∧ 0 ≤ i ∧ i < n ∧ NameOk z ∧ H s = some (.lst (ys.map V.str)) ∧ z ∈ ys ∧ RetV (.bl true) H Q
theorem sc_is_place : FnScope ["key", "size", "sights"] ["key", "size", "sights"] (defScope s_is_place) := ⟨rfl, rfl, rfl, by decide +kernel, rfl, by decide +kernel, by decide +kernel⟩
theorem ok_is_place (T : Tx K mg) (D : Dfn K mg "is_place" s_is_place) (C_is_number_below : CalP P w K mg base 2 "is_number_below" spBelow) (C_is_name : CalP P w K mg base 1 "is_name" spIsName) : CalP P w K mg base 3 "is_place" spPlace := by
  refine cal_of D sc_is_place (fun _ _ _ _ _ _ us hl => match us, hl with | [_, _, _], _ => rfl) (fun vs H Q E h => by obtain ⟨_, _, _, _, _, _, rfl, _⟩ := h; rfl) fun f cdv A outer s H vs Q E hr h => ?_
  obtain ⟨kk, i, z, n, s, ys, rfl, hk, h0, hn, hz, hs, hm, k⟩ := h
  refine ⟨_, (pss_cons (ps_if (PW.pt (pw_or (pt_not (pt_val (pe_callB call_isi (by rfl) T.f_isinstance boot_isinstance (pa_cons (pv 0) (pa_cons (pe_bltn (v := .ty "tuple") (by rfl) T.f_tuple PyProof.Rows.boot_tuple rfl) pa_nil))))) (pw_or (pt_cmpR op_ne (pe_callB call_len_seq (by rfl) T.f_len boot_len (pa_cons (pv 0) pa_nil)) pe_int (nomark _)) (pw_or1 (pt_not (pt_val (C8.pe_c C_is_number_below hr (by decide) (by rfl) (pa_cons (pe_ix ix_tup (pv 0) pe_int (fun _ _ => rfl)) (pa_cons (pv 1) pa_nil))))))))) (pss_one (ps_ret pe_bl)) pss_nil)
        (pss_one (ps_ret (pe_and (C8.pe_c C_is_name hr (by decide) (by rfl) (pa_cons (pe_ix ix_tup (pv 0) pe_int (fun _ _ => rfl)) pa_nil)) (pe_one (pe_cmpR op_in_seq (pe_ix ix_tup (pv 0) pe_int (fun _ _ => rfl)) (pv 2) (by with_unfolding_all rfl))))))), ?_⟩
  refine q_when (et_or (et_not (et_B (ev_isi (b := true) (ev_var rfl) ev_c (fun _ e => .base (.tup (e _ _ hk))) (by decide +kernel)))) fun _ => et_or (et_test (ev_op (ev_lenK (ev_var rfl) (sqk_t hk)) ev_c (rv_ne rfl))) fun _ =>
    et_not (et_B (ev_call (ea_cons (ev_op (ev_var rfl) ev_c (rv_ixT (st_of hk) (v := .int i) rfl)) (ea_cons (ev_var rfl) ea_nil)) (sv_below h0 hn)))) (fun e => by cases e) fun _ H1 e1 => ?_
  refine s_ret (ev_is (ev_andV (ev_call (ea_cons (ev_op (ev_var rfl) ev_c (rv_ixT (st_of (e1 _ _ hk)) (v := .str z) rfl)) ea_nil) (sv_name hz)) fun _ => ev_op (ev_op (ev_var rfl) ev_c (rv_ixT (st_of (e1 _ _ hk)) (v := .str z) rfl)) (ev_var rfl) (rv_isL (sq_of (e1 _ _ hs)) rfl (flat_strs' ys))) ?_) fun H2 e2 => k H2 (e1.trans e2)
  rw [inV_str]
  simp [hm]
def RetN (P : Program) (w : World) (ms : List ((Int × Str) × Int)) (H : Hp) (Q : VK) : Prop := ∀ p H2, H p = none → Ex H H2 → NDk P w H2 p (movesK ms) → Q (.ref p) H2
def spArrows (P : Program) (w : World) (a : Ad) : Sp := fun vs H Q _ => ∃ x m n tab zs ms, vs = [.ref x, .int n, .ref m] ∧ tab.length < 64 ∧ TabOk' tab ∧ ViewAt a.View H x tab zs ∧ NDk P w H m (movesK ms) ∧ ms.length ≤ 1000 ∧
  (∀ q ∈ ms, 0 ≤ q.1.1 ∧ q.1.1 < n ∧ q.1.2 ∈ tab.map (·.2) ∧ 0 ≤ q.2 ∧ q.2 < n) ∧ RetN P w ms H Q
theorem sc_checked_arrows : FnScope ["view", "size", "moves", "sights", "arrows", "key", "value"] ["view", "size", "moves"] (defScope s_checked_arrows) := ⟨rfl, rfl, rfl, by decide +kernel, rfl, by decide +kernel, by decide +kernel⟩
theorem ok_checked_arrows {a : Ad} (T : TxC K mg a) (D : Dfn K mg "checked_arrows" s_checked_arrows) (C_sights_told : CalP P w K mg base 1 "sights_told" (spTold a)) (C_is_place : CalP P w K mg base 3 "is_place" spPlace) (C_is_number_below : CalP P w K mg base 2 "is_number_below" spBelow) :
    CalP P w K mg base 4 "checked_arrows" (spArrows P w a) := by
  refine cal_of D sc_checked_arrows (fun _ _ _ _ _ _ us hl => match us, hl with | [_, _, _], _ => rfl) (fun vs H Q E h => by obtain ⟨_, _, _, _, _, _, rfl, _⟩ := h; rfl) fun f cdv A outer s H vs Q E hr h => ?_
  obtain ⟨x, m, n, tab, zs, ms, rfl, hl, ht, hv, hm, hml, hall, k⟩ := h
  refine ⟨_, (pss_cons (ps_if (pt_not (pt_val (pe_callB call_isND (by rfl) T.f_isinstance boot_isinstance (pa_cons (pv 2) (pa_cons (pe_bltn (v := .ty "dict") (by rfl) T.f_dict PyProof.Rows.boot_dict rfl) pa_nil))))) pss_never pss_nil)
        (pss_cons (ps_set (i := 3) sc_checked_arrows.nd rfl (Or.inl rfl) (C8.pe_c C_sights_told hr (by decide) (by rfl) (pa_cons (pv 0) pa_nil)))
        (pss_cons (ps_set (i := 4) sc_checked_arrows.nd rfl (Or.inl rfl) pe_nnew)
        (pss_cons (ps_for PassesOwn.never rfl (pi_itemsN (pv 2)) (pg_tup rfl (pgs_cons (pg_name (i := 5) sc_checked_arrows.nd rfl (Or.inl rfl)) (pgs_cons (pg_name (i := 6) sc_checked_arrows.nd rfl (Or.inl rfl)) pgs_nil))) (pss_cons (ps_if (pt_not (pt_val (C8.pe_c C_is_place hr (by decide) (by rfl) (pa_cons (pv 5) (pa_cons (pv 1) (pa_cons (pv 3) pa_nil)))))) pss_never pss_nil)
        (pss_cons (ps_if (pt_not (pt_val (C8.pe_c C_is_number_below hr (by decide) (by rfl) (pa_cons (pv 6) (pa_cons (pv 1) pa_nil))))) pss_never pss_nil)
        (pss_one (ps_nput hr.units (pv 4) (pv 5) (pv 6) rfl)))))
        (pss_one (ps_ret (pv 4))))))), ?_⟩
  refine q_when (et_not (et_B (ev_isND (ev_var rfl) ev_c hm))) (fun e => by cases e) fun _ H1 e1 => ?_
  refine q_set ⟨_, rfl, x, tab, zs, rfl, hl, hv.ex e1, fun s H2 ys hs e2 hs2 hys => ?_⟩
  refine q_set fun r o hr0 nd0 => ?_
  have e3 : Ex H H2 := e1.trans e2
  have hm2 : NDk P w (upd H2 r o) m (movesK ms) := (hm.ex e3).ex (Ex.new hr0)
  have hn := moves_nodup (nd_nodup hm)
  refine q_for ?_
  refine ⟨_, rfl, m, movesK ms, rfl, hm2, fun om hom ndo => for_w walk_itemsN (fun i σ' H' => ∃ u v, σ' = [some (.ref x), some (.int n), some (.ref m), some (.ref s), some (.ref r), u, v] ∧ Ex H2 H' ∧ NDk P w H' r (movesK (ms.take i))) ⟨_, _, rfl, Ex.new hr0, nd0⟩ ?_ ?_ ?_⟩
  · rintro i σ' H' _ ⟨u, v, _, e4, nd⟩
    have hrm : m ≠ r := fun e => by
      obtain ⟨_, q⟩ := hm.ex e3
      obtain ⟨o2, h2, _⟩ := q
      rw [e, hr0] at h2
      cases h2
    rw [upd_ne hrm] at hom
    obtain ⟨_, o3, h3, h4⟩ := hm.ex e3
    refine ⟨e4 _ _ hom, NDo.mono (fun b ws hb => ?_) ndo⟩
    by_cases hbr : b = r
    · subst hbr
      exact absurd hb (nd_noTup nd0 ws)
    · rw [upd_ne hbr] at hb
      exact e4 _ _ hb
  · rintro i y σ' H3 H4 hi ⟨u, v, rfl, e4, nd⟩ ⟨t, q, kk, vv, hkv, rfl, hnt, rfl, hkey⟩
    have hi' : i < ms.length := by simpa [movesK] using hi
    obtain ⟨⟨k1, v1⟩, hkv1⟩ : ∃ q, ms[i]? = some q := ⟨_, List.getElem?_eq_getElem hi'⟩
    have hk : (movesK ms)[i]? = some (mkey k1, V.int v1) := by unfold movesK; rw [List.getElem?_map, hkv1]; rfl
    rw [hk] at hkv
    cases hkv
    obtain ⟨b1, b2, b3, b4, b5⟩ := hall _ (List.mem_of_getElem? hkv1)
    have hq := keyV_mkey hkey
    have eT : Ex H3 (upd H3 t (.tup [.ref q, .int v1])) := Ex.new hnt
    refine ⟨t, _, rfl, st_of upd_same, rfl, _, _, rfl, _, _, rfl, rfl, ?_⟩
    have hname : NameOk k1.2 := by
      obtain ⟨p, hp, e⟩ := List.mem_map.mp b3
      rw [← e]
      exact (ht.2.1 p hp).2
    refine q_when (et_not (et_B (ev_call (ea_cons (ev_var rfl) (ea_cons (ev_var rfl) (ea_cons (ev_var rfl) ea_nil))) fun H5 e5 Q q _ => ⟨_, k1.1, k1.2, n, s, ys, rfl, e5 _ _ (eT _ _ hq), b1, b2, hname, e5 _ _ (eT _ _ (e4 _ _ hs2)), (hys _).mpr b3, q⟩))) (fun e => by cases e) fun _ H5 e5 => ?_
    refine q_when (et_not (et_B (ev_call (ea_cons (ev_var rfl) (ea_cons (ev_var rfl) ea_nil)) (sv_below b4 b5)))) (fun e => by cases e) fun _ H6 e6 => ?_
    have e36 : Ex H3 H6 := eT.trans (e5.trans e6)
    refine ⟨_, rfl, _, rfl, _, rfl, r, _, mkey k1, rfl, nd.ex e36, mkey_keyV (e36 _ _ hq), by unfold movesK; rw [List.length_map, List.length_take]; exact sz_lt (by omega), fun o' nd' => ⟨_, _, rfl, (e4.trans e36).mut hr0, ?_⟩⟩
    rw [moves_put hn hkv1] at nd'
    exact nd'
  · rintro σ' H3 ⟨u, v, rfl, e4, nd⟩
    refine ⟨_, rfl, k r H3 (fresh_back e3 hr0) (e3.trans e4) ?_⟩
    have : ms.take (movesK ms).length = ms := by unfold movesK; rw [List.length_map, List.take_length]
    rw [this] at nd
    exact nd
def RetLn (held : List (List Str)) (H : Hp) (Q : VK) : Prop := ∀ p H2, H p = none → Ex H H2 → LinesAt H2 p held → Q (.ref p) H2
def spLines (a : Ad) : Sp := fun vs H Q _ => ∃ x l tab zs held, vs = [.ref x, .ref l] ∧ NamesOk zs ∧ ViewAt a.View H x tab zs ∧ HeldAt H l held ∧ 1 ≤ held.length ∧ held.length ≤ 3 ∧ (∀ hs ∈ held, hs.length < 64 ∧ ∀ z ∈ hs, z ∈ zs) ∧ RetLn held H Q
theorem sc_checked_lines : FnScope ["view", "held", "lines", "item", "word"] ["view", "held"] (defScope s_checked_lines) := ⟨rfl, rfl, rfl, by decide +kernel, rfl, by decide +kernel, by decide +kernel⟩
theorem ok_checked_lines {a : Ad} (T : TxC K mg a) (D : Dfn K mg "checked_lines" s_checked_lines) (C_is_row : CalP P w K mg base 1 "is_row" (spIsRow K)) (C_is_name : CalP P w K mg base 1 "is_name" spIsName) :
    CalP P w K mg base 2 "checked_lines" (spLines a) := by
  refine cal_of D sc_checked_lines (fun _ _ _ _ _ _ us hl => match us, hl with | [_, _], _ => rfl) (fun vs H Q E h => by obtain ⟨_, _, _, _, _, rfl, _⟩ := h; rfl) fun f cdv A outer s H vs Q E hr h => ?_
  obtain ⟨x, l, tab, zs, held, rfl, hz, hv, ⟨as, l1, l2⟩, n1, n2, hall, k⟩ := h
  refine ⟨_, (pss_cons (ps_if (PW.pt (pw_or (pt_not (pt_val (C8.pe_c C_is_row hr (by decide) (by rfl) (pa_cons (pv 1) pa_nil)))) (pw_or1 (pt_not (pt_chain op_le op_le pe_int (pe_callB call_len_seq (by rfl) T.f_len boot_len (pa_cons (pv 1) pa_nil)) (C8.pe_gc (by rfl) T.i_MOST_NODES)))))) pss_never pss_nil)
        (pss_cons (ps_set (i := 2) sc_checked_lines.nd rfl (Or.inl rfl) (pe_lst pa_nil))
        (pss_cons (ps_for PassesOwn.never rfl (pi_seq (pv 1)) (pg_name (i := 3) sc_checked_lines.nd rfl (Or.inl rfl)) (pss_cons (ps_if (PW.pt (pw_or (pt_not (pt_val (C8.pe_c C_is_row hr (by decide) (by rfl) (pa_cons (pv 3) pa_nil)))) (pw_or1 (pt_not (pt_val (pe_callB (cr_all rfl) (by rfl) T.f_all boot_all (pa_cons (pe_lc (own := [("word", 4)]) (g := gName 4) (tt := tYes) (by rfl) sc_checked_lines.nd (pi_seq (pv 3)) (blkOk_by (own := [("word", 4)]) (N := ["view", "held", "lines", "item", "word"]) (sc := defScope s_checked_lines) (by decide +kernel)) (fun _ _ _ _ _ => (pg_name (i := 4) sc_checked_lines.nd rfl (Or.inl rfl))) (fun _ _ _ _ _ => pts_nil) (fun _ _ _ _ _ => (pe_and (C8.pe_c C_is_name hr (by decide) (by rfl) (pa_cons (pv 4) pa_nil)) (pe_one (pe_din hr (pv 4) (pe_fldK (K' := K) rfl (pv 0) rfl) (by with_unfolding_all rfl)))))) pa_nil))))))) pss_never pss_nil)
        (pss_one (ps_expr (pe_bm PySem.F.plainAttrs_list PySem.F.slot_list_append PySem.F.type_list_append mt_append (pv 2) (pa_cons (pe_callTy call_tuple_of (by rfl) T.f_tuple PyProof.Rows.boot_tuple (pa_cons (pe_callB (cr_sortedSS rfl) (by rfl) T.f_sorted boot_sorted (pa_cons (pe_callTy (cr_setOfS rfl) (by rfl) T.f_set boot_set (pa_cons (pv 3) pa_nil)) pa_nil)) pa_nil)) pa_nil))))))
        (pss_one (ps_ret (pv 2)))))), ?_⟩
  have hlen : as.length = held.length := Paired.length l2
  refine q_when (et_or (et_not (et_B (ev_call (ea_cons (ev_var rfl) ea_nil) (sv_row (k := false) l1)))) fun _ => et_not (et_chain ev_c (ev_lenK (ev_var rfl) (sqk_l l1)) rv_I0 ev_c rv_I0)) (fun e => ?_) fun _ H1 e1 => ?_
  · have h1 : (1 : Int) ≤ ((as.map V.ref).length : Int) := by rw [List.length_map]; omega
    have h2 : ((as.map V.ref).length : Int) ≤ 200 := by rw [List.length_map]; omega
    rw [decide_eq_true h1, decide_eq_true h2] at e
    cases e
  refine q_asgL (el_lst ea_nil (by decide)) fun p H2 hp e2 h2 => ?_
  have hz2 : ∀ b ws, H1 b = some (.tup ws) → b ≠ p := fun b ws h e => by rw [e, hp] at h; cases h
  refine q_forw (J := Itq false K l) (fun R q => f_seq (k := false) (ev_var rfl) (sqk_l (e2 _ _ (e1 _ _ l1))) q) (walk_seq (xs := as.map V.ref)) (fun i σ' H' => ∃ u v, σ' = [some (.ref x), some (.ref l), some (.ref p), u, v] ∧ Ex H1 H' ∧ ∃ ts : List Addr, H' p = some (.lst (ts.map V.ref)) ∧ Paired (LineAt H') ts (held.take i)) ?_ ?_ ?_ ?_
  · exact fun H3 e3 => ⟨_, _, rfl, e2.trans e3, [], e3 _ _ h2, .nil⟩
  · rintro i σ' H' _ ⟨u, v, _, e, _⟩
    exact sqk_l (e _ _ (e1 _ _ l1))
  · rintro i y σ' H3 H4 hi ⟨u, v, rfl, e3, ts, t1, t2⟩ ⟨rfl, ey⟩
    rw [List.length_map] at hi
    rw [List.getElem?_map] at ey
    obtain ⟨ai, hai, rfl⟩ := Option.map_eq_some_iff.mp ey
    obtain ⟨hs, hhs, hh⟩ := pair_at l2 hai
    have h1 : ∀ {H5}, Ex H4 H5 → H5 ai = some (.lst (hs.map V.str)) := fun e => e _ _ (e3 _ _ (e1 _ _ hh))
    obtain ⟨b1, b2⟩ := hall hs (List.mem_of_getElem? hhs)
    obtain ⟨dx, t, c, v1, v2, ks, c1, c2, c3, c4⟩ := hv.ex (e1.trans e3)
    refine q_when (et_or (et_not (et_B (ev_call (ea_cons (ev_var rfl) ea_nil) (sv_row (k := false) (h1 (Ex.refl _)))))) fun _ => et_not (et_B (ev_allT (el_lcS (k := false) (fun _ => .bl true) (ev_var rfl) (sqk_l (h1 (Ex.refl _))) (by rw [List.length_map]; omega) (fun _ => rfl) fun j y H5 hy e5 => ?_)))) (fun e => by cases e) fun _ H5 e5 => ?_
    · rw [List.getElem?_map] at hy
      obtain ⟨z, hz', rfl⟩ := Option.map_eq_some_iff.mp hy
      have hzz := b2 z (List.mem_of_getElem? hz')
      refine ev_is (ev_andV (ev_call (ea_cons (ev_var rfl) ea_nil) (sv_name (hz.1 z hzz))) fun _ => ev_din (k := Sum.inr z) (ev_var rfl) (ev_fld (ev_var rfl) (e5 _ _ v1) T.c_View T.n_can rfl) (e5 _ _ c4)) ?_
      rw [val_can, if_pos ((c2 z).mpr hzz)]
      rfl
    have hp5 : H5 p = some (.lst (ts.map V.ref)) := e5 _ _ t1
    refine ⟨_, rfl, .inl ⟨rfl, _, sq_of hp5⟩, _, rfl, ai, hs, rfl, sq_of (h1 e5), by omega, fun q hq => ?_⟩
    have al := addAll_len hs []
    rw [List.length_nil] at al
    refine ⟨q, addAll [] hs, rfl, upd_same, by omega, fun ys r hperm hnd hsrt hr2 => ?_⟩
    have e6 := (Ex.new hq (o := SetSO _ q (addAll [] hs))).trans (Ex.new hr2 (o := .lst (ys.map V.str)))
    refine ⟨r, ys.map V.str, rfl, .inl ⟨sq_of upd_same, fun t' ht' => ?_⟩⟩
    have e7 := e6.trans (Ex.new ht' (o := .tup (ys.map V.str)))
    have hpt : p ≠ t' := fun e => by
      have := e6 _ _ hp5
      rw [e, ht'] at this
      cases this
    refine ⟨p, _, _, rfl, rfl, e7 _ _ hp5, by rw [List.length_map, Paired.length t2, List.length_take]; exact sz_lt (by omega), _, _, rfl, (e3.trans (e5.trans e7)).mut hp, ts ++ [t'], ?_, ?_⟩
    · rw [upd_same, List.map_append]
      rfl
    · rw [take_snoc hhs]
      have up : ∀ {t hs}, LineAt H4 t hs → LineAt (upd (upd (upd (upd H5 q (SetSO _ q (addAll [] _))) r (.lst (ys.map V.str))) t' (.tup (ys.map V.str))) p (.lst (ts.map V.ref ++ [.ref t']))) t hs := fun {t hs} ⟨zs, z1, z2⟩ => ⟨zs, by
        rw [upd_ne (fun e => by rw [e, t1] at z1; cases z1)]
        exact e7 _ _ (e5 _ _ z1), z2⟩
      refine Paired.snoc (Paired.mapP t2 fun _ _ z => up z) ⟨ys, ?_, hnd, hsrt, fun z => ?_⟩
      · rw [upd_ne hpt.symm, upd_same]
      · rw [hperm.mem_iff, addAll_mem]
        simp
  · rintro σ' H3 ⟨u, v, rfl, e3, ts, t1, t2⟩
    rw [List.length_map, hlen, List.take_length] at t2
    exact ⟨_, rfl, k p H3 (fresh_back e1 hp) (e1.trans e3) ⟨ts, t1, t2⟩⟩
end
end K28
end

section
set_option Elab.async false
set_option maxRecDepth 100000
set_option maxHeartbeats 4000000
namespace K28
open PySem PySem.Spec PyProof.Rows L2 Evl
section
variable {P : Program} {w : World} {K : PySem.W.Frag} {mg : Str → Option Value} {base : Heap}
def RetG (P : Program) (w : World) (a : Ad) (p : Part) (H : Hp) (Q : VK) : Prop := ∀ x H2, H x = none → Ex H H2 → GuardAt P w a H2 x p → Q (.ref x) H2
def spGuardInit (P : Program) (w : World) (a : Ad) : Sp := fun vs H Q _ => ∃ x dx H0 v m l p, vs = [.ref x, .ref v, .ref m, .ref l] ∧ H x = some (.ins a.Guard dx []) ∧ H0 x = none ∧ Ex H0 H ∧ PartOk p ∧ ViewAt a.View H0 v p.tab p.holds ∧ NDk P w H0 m (movesK p.moves) ∧ HeldAt H0 l p.held ∧
  ∀ H2, Ex H0 H2 → GuardAt P w a H2 x p → Q .non H2
theorem sc_Guard_init : FnScope ["self", "view", "moves", "held"] ["self", "view", "moves", "held"] (defScope s_Guard_init) := ⟨rfl, rfl, rfl, by decide +kernel, rfl, by decide +kernel, by decide +kernel⟩
theorem ok_Guard_init {a : Ad} {f : Addr} {fd : FuncData} (T : TxC K mg a) (F : FunD K "__init__" "Guard.__init__" (defArgs s_Guard_init) (defBody s_Guard_init) (defScope s_Guard_init) [] [] f fd)
    (X_copy : C8.Met P w K mg base 6 a.View "copy" (spCopy a.View) []) (C_checked_lines : CalP P w K mg base 2 "checked_lines" (spLines a)) (C_checked_arrows : CalP P w K mg base 4 "checked_arrows" (spArrows P w a)) :
    FnOk P w K mg base L2.CX0 7 f fd ["self", "view", "moves", "held"] (spGuardInit P w a) := by
  refine fnOk_of F sc_Guard_init (fun vs H Q E h => by obtain ⟨_, _, _, _, _, _, _, rfl, _⟩ := h; rfl) fun f cdv A outer s H vs Q E hr h => ?_
  obtain ⟨x, dx, H0, v, m, l, p, rfl, hx, h0, e0, ⟨p1, p2, p3, p4, p5, p6, p7, p8⟩, hv, hm, hl, k⟩ := h
  refine ⟨_, (pss_cons (ps_if (pt_not (pt_val (pe_callB (C8.call_isC T.is_View) (by rfl) T.f_isinstance boot_isinstance (pa_cons (pv 1) (pa_cons (pe_glob (v := .ref a.View) (by rfl) T.g_View rfl) pa_nil))))) pss_never pss_nil)
        (pss_cons (ps_fld (pv 0) (C8.pe_mt0 X_copy hr (by decide) (pv 1)) rfl)
        (pss_cons (ps_fld (pv 0) (C8.pe_c C_checked_lines hr (by decide) (by rfl) (pa_cons (pe_fld (pv 0) rfl) (pa_cons (pv 3) pa_nil))) rfl)
        (pss_one (ps_fld (pv 0) (C8.pe_c C_checked_arrows hr (by decide) (by rfl) (pa_cons (pe_fld (pv 0) rfl) (pa_cons (pe_callB call_len_seq (by rfl) T.f_len boot_len (pa_cons (pe_fld (pv 0) rfl) pa_nil)) (pa_cons (pv 2) pa_nil)))) rfl))))), ?_⟩
  obtain ⟨dxv, tv, cv, w1, w2, w3⟩ := id hv
  refine q_when (et_not (et_B (ev_isC (ev_var rfl) ev_c (e0 _ _ w1)))) (fun e => by cases e) fun _ H1 e1 => ?_
  have hx1 := e1 _ _ hx
  have e01 := e0.trans e1
  refine ⟨_, rfl, v, dxv, _, rfl, e01 _ _ w1, rfl, ?_⟩
  refine ⟨v, p.tab, p.holds, rfl, p1, p3, hv.ex e01, fun o H2 ho e2 hov => ⟨_, rfl, x, a.Guard, dx, _, rfl, e2 _ _ hx1, T.c_Guard, T.n_own, (by decide : (0 : Nat) < 1000), ?_⟩⟩
  have e02 : Ex H0 (upd H2 x (.ins a.Guard dx (putF "own" (.ref o) []))) := (e01.trans e2).mut h0
  have hox : o ≠ x := fun e => by rw [e, hx1] at ho; cases ho
  -- the view stands though x is written
  have hov' : ViewAt a.View (upd H2 x (.ins a.Guard dx (putF "own" (.ref o) []))) o p.tab p.holds := by
    obtain ⟨d1, t1, c1, q1, q2, ks, q3, q4, q5, q6⟩ := hov
    have hx2 := e2 _ _ hx1
    refine ⟨d1, t1, c1, by rw [upd_ne hox]; exact q1, ?_, ks, q3, q4, q5, ?_⟩
    · rw [upd_ne (fun e => by rw [e, hx2] at q2; cases q2)]; exact q2
    · rw [upd_ne (fun e => by rw [e, hx2] at q6; cases q6)]; exact q6
  dsimp only
  refine ⟨_, rfl, x, a.Guard, dx, _, _, rfl, upd_same, T.c_Guard, T.n_own, rfl, _, rfl, ?_⟩
  refine ⟨o, l, p.tab, p.holds, p.held, rfl, p3, hov', hl.ex e02, p4, p5, p6, fun ll H3 hll e3 h3 => ⟨_, rfl, x, a.Guard, dx, _, rfl, e3 _ _ upd_same, T.c_Guard, T.n_lines, (by decide : (1 : Nat) < 1000), ?_⟩⟩
  have hx3 := e3 _ _ (upd_same (H := H2) (a := x) (o := .ins a.Guard dx (putF "own" (.ref o) [])))
  have hlx : ll ≠ x := fun e => by rw [e, upd_same] at hll; cases hll
  have hov3 : ViewAt a.View (upd H3 x (.ins a.Guard dx (putF "lines" (.ref ll) (putF "own" (.ref o) [])))) o p.tab p.holds := by
    obtain ⟨d1, t1, c1, q1, q2, ks, q3, q4, q5, q6⟩ := hov'.ex e3
    refine ⟨d1, t1, c1, by rw [upd_ne hox]; exact q1, ?_, ks, q3, q4, q5, ?_⟩
    · rw [upd_ne (fun e => by rw [e, hx3] at q2; cases q2)]; exact q2
    · rw [upd_ne (fun e => by rw [e, hx3] at q6; cases q6)]; exact q6
  have hln3 : LinesAt (upd H3 x (.ins a.Guard dx (putF "lines" (.ref ll) (putF "own" (.ref o) [])))) ll p.held := by
    obtain ⟨ts, t1, t2⟩ := h3
    refine ⟨ts, by rw [upd_ne hlx]; exact t1, Paired.mapP t2 fun t hs ⟨ys, y1, y2⟩ => ⟨ys, ?_, y2⟩⟩
    rw [upd_ne (fun e => by rw [e, hx3] at y1; cases y1)]
    exact y1
  have e03 : Ex H0 (upd H3 x (.ins a.Guard dx (putF "lines" (.ref ll) (putF "own" (.ref o) [])))) := (e02.trans e3).mut h0
  obtain ⟨ts, t1, t2⟩ := id hln3
  have hlen : ts.length = p.held.length := Paired.length t2
  dsimp only
  refine ⟨_, rfl, x, a.Guard, dx, _, _, rfl, upd_same, T.c_Guard, T.n_own, rfl, _, rfl, x, a.Guard, dx, _, _, rfl, upd_same, T.c_Guard, T.n_lines, rfl, ?_⟩
  refine ⟨ll, _, rfl, .inl (sq_of t1), _, rfl, ?_⟩
  have hms : p.moves.length ≤ 1000 := p7
  refine ⟨o, m, ((ts.map V.ref).length : Int), p.tab, p.holds, p.moves, rfl, p2, p1, hov3, hm.ex e03, p7, ?_, fun r H4 hr4 e4 nd => ⟨_, rfl, x, a.Guard, dx, _, rfl, e4 _ _ upd_same, T.c_Guard, T.n_arrows, (by decide : (2 : Nat) < 1000), ?_⟩⟩
  · rw [List.length_map, hlen]
    exact p8
  have hx4 := e4 _ _ (upd_same (H := H3) (a := x) (o := .ins a.Guard dx (putF "lines" (.ref ll) (putF "own" (.ref o) []))))
  have hrx : r ≠ x := fun e => by rw [e, upd_same] at hr4; cases hr4
  refine k _ ((e03.trans e4).mut h0) ⟨dx, o, ll, r, upd_same, ?_, ?_, nd.upd hrx (fun ws e => by rw [hx4] at e; cases e)⟩
  · obtain ⟨d1, t1, c1, q1, q2, ks, q3, q4, q5, q6⟩ := hov3.ex e4
    refine ⟨d1, t1, c1, by rw [upd_ne hox]; exact q1, ?_, ks, q3, q4, q5, ?_⟩
    · rw [upd_ne (fun e => by rw [e, hx4] at q2; cases q2)]; exact q2
    · rw [upd_ne (fun e => by rw [e, hx4] at q6; cases q6)]; exact q6
  · obtain ⟨ts, t1, t2⟩ := hln3.ex e4
    refine ⟨ts, by rw [upd_ne hlx]; exact t1, Paired.mapP t2 fun t hs ⟨ys, y1, y2⟩ => ⟨ys, ?_, y2⟩⟩
    rw [upd_ne (fun e => by rw [e, hx4] at y1; cases y1)]
    exact y1
/-- Guard(v, m, l) -/
theorem gd_make {a : Ad} {H H1 : Hp} {Q : VK} {v m l : Addr} {p : Part} {E : XK} (ok : PartOk p) (e : Ex H H1) (h1 : ViewAt a.View H1 v p.tab p.holds) (h2 : NDk P w H1 m (movesK p.moves)) (h3 : HeldAt H1 l p.held) (k : RetG P w a p H Q) : ∀ x dx, H1 x = none → H1 dx = none → dx ≠ x →
    spGuardInit P w a (.ref x :: ([.ref v, .ref m, .ref l] ++ [])) (upd (upd H1 dx (.own x)) x (.ins a.Guard dx [])) (fun v H2 => v = .non ∧ Q (.ref x) H2) E := fun x dx hx hdx _ =>
  ⟨x, dx, H1, v, m, l, p, rfl, upd_same, hx, (Ex.new hdx).mut hx, ok, h1, h2, h3, fun H2 e2 hg => ⟨rfl, k x H2 (fresh_back e hx) (e.trans e2) hg⟩⟩
end
end K28
end

section
set_option Elab.async false
set_option maxRecDepth 100000
set_option maxHeartbeats 4000000
namespace K28
open PySem PySem.Spec PyProof.Rows L2 Evl
abbrev Row : Type := Int × Str × Int
def RowAt (H : Hp) (t : Addr) (r : Row) : Prop := H t = some (.tup [.int r.1, .str r.2.1, .int r.2.2])
def RowOk (r : Row) : Prop := 0 ≤ r.1 ∧ r.1 ≤ 99 ∧ NameOk r.2.1 ∧ 0 ≤ r.2.2 ∧ r.2.2 ≤ 99
def cnt (rows : List Row) (s : Int) : Nat := (rows.filter fun r => decide (r.1 = s)).length
def RowsOk (rows : List Row) : Prop := 1 ≤ rows.length ∧ rows.length ≤ 12 ∧ rows.Nodup ∧ (∀ r ∈ rows, RowOk r) ∧ ∀ s, cnt rows s ≤ 8
def rk (r : Row) : List Key := [Sum.inl r.1, Sum.inr r.2.1, Sum.inl r.2.2]
theorem rk_inj {a b : Row} (h : rk a = rk b) : a = b := by
  injection h with h1 h2
  injection h2 with h2 h3
  injection h3 with h3 _
  injection h1 with h1
  injection h2 with h2
  injection h3 with h3
  exact Prod.ext h1 (Prod.ext h2 h3)
theorem cnt_snoc (rows : List Row) (r : Row) (s : Int) : cnt (rows ++ [r]) s = if r.1 = s then cnt rows s + 1 else cnt rows s := by
  unfold cnt
  rw [List.filter_append]
  by_cases h : r.1 = s
  · simp [h]
  · simp [h]
theorem cnt_take (rows : List Row) (i : Nat) (s : Int) : cnt (rows.take i) s ≤ cnt rows s := by
  unfold cnt
  exact (List.Sublist.filter _ (List.take_sublist i rows)).length_le
theorem take_notmem {α : Type} {l : List α} (hn : l.Nodup) {i : Nat} {p : α} (h : l[i]? = some p) : p ∉ l.take i := by
  intro hm
  obtain ⟨j, hj, ej⟩ := List.getElem_of_mem hm
  rw [List.length_take] at hj
  rw [List.getElem_take] at ej
  have h1 : l[j]? = some p := by rw [List.getElem?_eq_getElem (by omega), ej]
  have := (List.getElem?_inj (by omega) hn).mp (h1.trans h.symm)
  omega
def CntAt (H : Hp) (d : Addr) (rows : List Row) : Prop := ∃ kvs : List (Key × V), H d = some (.dK kvs) ∧ kvs.length ≤ rows.length ∧ ∀ s, valV kvs (Sum.inl s) = if cnt rows s = 0 then none else some (.int (cnt rows s : Nat))
section
variable {P : Program} {w : World} {K : PySem.W.Frag} {mg : Str → Option Value} {base : Heap}
def spStep : Sp := fun vs H Q _ => ∃ t r, vs = [.ref t] ∧ RowAt H t r ∧ RowOk r ∧ RetV (.bl true) H Q
theorem sc_is_step : FnScope ["value"] ["value"] (defScope s_is_step) := ⟨rfl, rfl, rfl, by decide +kernel, rfl, by decide +kernel, by decide +kernel⟩
theorem ok_is_step (T : Tx K mg) (D : Dfn K mg "is_step" s_is_step) (C_is_state : CalP P w K mg base 2 "is_state" spIsState) (C_is_name : CalP P w K mg base 1 "is_name" spIsName) : CalP P w K mg base 3 "is_step" spStep := by
  refine cal_of D sc_is_step (fun _ _ _ _ _ _ us hl => match us, hl with | [_], _ => rfl) (fun vs H Q E h => by obtain ⟨_, _, rfl, _⟩ := h; rfl) fun f cdv A outer s H vs Q E hr h => ?_
  obtain ⟨t, ⟨r1, r2, r3⟩, rfl, ht, ⟨b1, b2, b3, b4, b5⟩, k⟩ := h
  refine ⟨_, (pss_cons (ps_if (PW.pt (pw_or (pt_not (pt_val (pe_callB call_isi (by rfl) T.f_isinstance boot_isinstance (pa_cons (pv 0) (pa_cons (pe_bltn (v := .ty "tuple") (by rfl) T.f_tuple PyProof.Rows.boot_tuple rfl) pa_nil))))) (pw_or1 (pt_cmpR op_ne (pe_callB call_len_seq (by rfl) T.f_len boot_len (pa_cons (pv 0) pa_nil)) pe_int (nomark _))))) (pss_one (ps_ret pe_bl)) pss_nil)
        (pss_one (ps_ret (pe_and (C8.pe_c C_is_state hr (by decide) (by rfl) (pa_cons (pe_ix ix_tup (pv 0) pe_int (fun _ _ => rfl)) pa_nil)) (pe_and (C8.pe_c C_is_name hr (by decide) (by rfl) (pa_cons (pe_ix ix_tup (pv 0) pe_int (fun _ _ => rfl)) pa_nil)) (pe_one (C8.pe_c C_is_state hr (by decide) (by rfl) (pa_cons (pe_ix ix_tup (pv 0) pe_int (fun _ _ => rfl)) pa_nil)))))))), ?_⟩
  have ht' : H t = some (.tup [.int r1, .str r2, .int r3]) := ht
  refine q_when (et_or (et_not (et_B (ev_isi (b := true) (ev_var rfl) ev_c (fun _ e => .base (.tup (e _ _ ht'))) (by decide +kernel)))) fun _ => et_test (ev_op (ev_lenK (ev_var rfl) (sqk_t ht')) ev_c (rv_ne rfl))) (fun e => by cases e) fun _ H1 e1 => ?_
  refine s_ret (ev_andV (ev_call (ea_cons (ev_op (ev_var rfl) ev_c (rv_ixT (st_of (e1 _ _ ht')) (v := .int r1) rfl)) ea_nil) (sv_state b1 b2)) fun _ => ev_andV (ev_call (ea_cons (ev_op (ev_var rfl) ev_c (rv_ixT (st_of (e1 _ _ ht')) (v := .str r2) rfl)) ea_nil) (sv_name b3)) fun _ => ev_call (ea_cons (ev_op (ev_var rfl) ev_c (rv_ixT (st_of (e1 _ _ ht')) (v := .int r3) rfl)) ea_nil) (sv_state b4 b5)) fun H2 e2 => k H2 (e1.trans e2)
def spSteps : Sp := fun vs H Q _ => ∃ (l : Addr) (ts : List Addr) (rows : List Row), vs = [.ref l] ∧ RowsOk rows ∧ H l = some (.lst (ts.map V.ref)) ∧ Paired (RowAt H) ts rows ∧ RetL (ts.map V.ref) H Q
theorem sc_checked_steps : FnScope ["steps", "seen", "leaving", "rows", "at", "step"] ["steps"] (defScope s_checked_steps) := ⟨rfl, rfl, rfl, by decide +kernel, rfl, by decide +kernel, by decide +kernel⟩
theorem ok_checked_steps (T : Tx K mg) (D : Dfn K mg "checked_steps" s_checked_steps) (C_is_row : CalP P w K mg base 1 "is_row" (spIsRow K)) (C_is_step : CalP P w K mg base 3 "is_step" spStep) : CalP P w K mg base 4 "checked_steps" spSteps := by
  refine cal_of D sc_checked_steps (fun _ _ _ _ _ _ us hl => match us, hl with | [_], _ => rfl) (fun vs H Q E h => by obtain ⟨_, _, _, rfl, _⟩ := h; rfl) fun f cdv A outer s H vs Q E hr h => ?_
  obtain ⟨l, ts, rows, rfl, ⟨n1, n2, nd, hall, h8⟩, hl, hts, k⟩ := h
  refine ⟨_, (pss_cons (ps_if (PW.pt (pw_or (pt_not (pt_val (C8.pe_c C_is_row hr (by decide) (by rfl) (pa_cons (pv 0) pa_nil)))) (pw_or1 (pt_not (pt_chain op_le op_le pe_int (pe_callB call_len_seq (by rfl) T.f_len boot_len (pa_cons (pv 0) pa_nil)) (C8.pe_gc (by rfl) T.i_MOST_STEPS)))))) pss_never pss_nil)
        (pss_cons (ps_set (i := 1) sc_checked_steps.nd rfl (Or.inl rfl) (pe_callTy0 cr_tset0 (by rfl) T.f_set boot_set))
        (pss_cons (ps_set (i := 2) sc_checked_steps.nd rfl (Or.inl rfl) pe_dnewK)
        (pss_cons (ps_set (i := 3) sc_checked_steps.nd rfl (Or.inl rfl) (pe_lst pa_nil))
        (pss_cons (ps_for PassesOwn.never rfl (pi_enumA (by rfl) T.f_enumerate (pa_cons (pv 0) pa_nil)) (pg_tup rfl (pgs_cons (pg_name (i := 4) sc_checked_steps.nd rfl (Or.inl rfl)) (pgs_cons (pg_name (i := 5) sc_checked_steps.nd rfl (Or.inl rfl)) pgs_nil))) (pss_cons (ps_if (PW.pt (pw_or (pt_not (pt_val (C8.pe_c C_is_step hr (by decide) (by rfl) (pa_cons (pv 5) pa_nil)))) (pw_or1 (pt_cmpR (or_tin hr.units) (pv 5) (pv 1) (by with_unfolding_all rfl))))) pss_never pss_nil)
        (pss_cons (ps_dput (hu_of hr) (pv 2) (pe_ix ix_tup (pv 5) pe_int (fun _ _ => rfl)) (pe_op op_add (pe_dget2 (hu_of hr) (pv 2) (pe_ix ix_tup (pv 5) pe_int (fun _ _ => rfl)) pe_int ⟨by rfl, by rfl, by rfl, by rfl⟩) pe_int) rfl)
        (pss_cons (ps_if (pt_cmpR op_gt (pe_dget (hu_of hr) (pv 2) (pe_ix ix_tup (pv 5) pe_int (fun _ _ => rfl)) (fun _ _ => rfl)) (C8.pe_gc (by rfl) T.i_MOST_LEAVING) (nomark _)) pss_never pss_nil)
        (pss_cons (ps_expr (pe_tadd hr.units (pv 1) (pa_cons (pv 5) pa_nil)))
        (pss_one (ps_expr (pe_bm PySem.F.plainAttrs_list PySem.F.slot_list_append PySem.F.type_list_append mt_append (pv 3) (pa_cons (pv 5) pa_nil)))))))))
        (pss_one (ps_ret (pv 3)))))))), ?_⟩
  have hlen : ts.length = rows.length := Paired.length hts
  refine q_when (et_or (et_not (et_B (ev_call (ea_cons (ev_var rfl) ea_nil) (sv_row (k := false) hl)))) fun _ => et_not (et_chain ev_c (ev_lenK (ev_var rfl) (sqk_l hl)) rv_I0 ev_c rv_I0)) (fun e => ?_) fun _ H1 e1 => ?_
  · have h1 : (1 : Int) ≤ ((ts.map V.ref).length : Int) := by rw [List.length_map]; omega
    have h2 : ((ts.map V.ref).length : Int) ≤ 60 := by rw [List.length_map]; omega
    rw [decide_eq_true h1, decide_eq_true h2] at e
    cases e
  refine q_set ⟨rfl, fun s o hs t0 => ?_⟩
  refine q_set fun d hd => ?_
  refine q_asgL (el_lst ea_nil (by decide)) fun r H4 hr4 e4 h4 => ?_
  have hsd : s ≠ d := fun e => by rw [← e, upd_same] at hd; cases hd
  have hd1 : H1 d = none := by rw [upd_ne hsd.symm] at hd; exact hd
  have hsr : s ≠ r := fun e => by rw [← e, upd_ne hsd, upd_same] at hr4; cases hr4
  have hdr : d ≠ r := fun e => by rw [← e, upd_same] at hr4; cases hr4
  have hr1 : H1 r = none := by rw [upd_ne hdr.symm, upd_ne hsr.symm] at hr4; exact hr4
  have e14 : Ex H1 H4 := fun a u q => e4 a u (by rw [upd_ne (ne_new hd1 q), upd_ne (ne_new hs q)]; exact q)
  have ts4 : TSet P w H4 s [] := by
    refine TSet.mono (H := upd H1 s o) (TupIn.of_ex fun a u q => e4 a u ?_) (fun u q => e4 s u ?_) t0
    · rw [upd_ne (fun e => by rw [e, upd_ne hsd.symm, hd1] at q; cases q)]; exact q
    · rw [upd_ne hsd]; exact q
  have hd4 : H4 d = some (.dK []) := e4 d _ upd_same
  refine q_forw (J := IteK false K l) (fun R q => f_enum (k := false) (ea_cons (ev_var rfl) ea_nil) (sqk_l (e14 _ _ (e1 _ _ hl))) q) (walk_enumK (xs := ts.map V.ref))
    (fun i σ' H' => ∃ u v, σ' = [some (.ref l), some (.ref s), some (.ref d), some (.ref r), u, v] ∧ Ex H1 H' ∧ TSet P w H' s ((rows.take i).map rk).reverse ∧ CntAt H' d (rows.take i) ∧ H' r = some (.lst ((ts.take i).map V.ref))) ?_ ?_ ?_ ?_
  · exact fun H5 e5 => ⟨_, _, rfl, e14.trans e5, TSet.mono (TupIn.of_ex e5) (fun u q => e5 s u q) ts4, ⟨[], e5 _ _ hd4, Nat.le_refl _, fun s => rfl⟩, e5 _ _ h4⟩
  · rintro i σ' H' _ ⟨u, v, _, e, _⟩
    exact sqk_l (e _ _ (e1 _ _ hl))
  · rintro i y σ' H5 H6 hi ⟨u, v, rfl, e5, t5, ⟨kvs, c1, c2, c3⟩, r5⟩ ⟨tt, y1, y2, rfl, hnt, rfl, ey1, ey2⟩
    rw [List.length_map] at hi
    replace ey2 : (ts.map V.ref)[i]? = some y2 := ey2
    rw [List.getElem?_map] at ey2
    obtain ⟨ti, hti, rfl⟩ := Option.map_eq_some_iff.mp ey2
    cases ey1
    obtain ⟨row, hrow, hat⟩ := pair_at hts hti
    have e56 : Ex H5 (upd H5 tt (.tup [.int (i : Nat), .ref ti])) := Ex.new hnt
    have hat6 : RowAt (upd H5 tt (.tup [.int (i : Nat), .ref ti])) ti row := e56 _ _ (e5 _ _ (e1 _ _ hat))
    have hmem := List.mem_of_getElem? hrow
    have hnin : rk row ∉ ((rows.take i).map rk).reverse := fun hm => by
      rw [List.mem_reverse] at hm
      obtain ⟨q, hq, e⟩ := List.mem_map.mp hm
      exact take_notmem nd hrow (rk_inj e ▸ hq)
    refine ⟨tt, _, rfl, st_of upd_same, rfl, _, _, rfl, _, _, rfl, rfl, ?_⟩
    refine q_when (et_or (et_not (et_B (ev_call (ea_cons (ev_var rfl) ea_nil) (z := .bl true) fun H7 e7 Q q _ => ⟨ti, row, rfl, e7 _ _ hat6, hall row hmem, q⟩))) fun _ => et_test (ev_op (z := .bl false) (ev_var rfl) (ev_var rfl) fun H7 e7 Q q => ⟨ti, s, rk row, _, rfl, rfl, e7 _ _ hat6, TSet.mono (TupIn.of_ex (e56.trans e7)) (fun u q => (e56.trans e7) s u q) t5, hnin, q H7 (Ex.refl _)⟩)) (fun e => by cases e) fun _ H7 e7 => ?_
    have e57 := e56.trans e7
    have hat7 : H7 ti = some (.tup [.int row.1, .str row.2.1, .int row.2.2]) := e7 _ _ hat6
    have hx0 : ∀ {H'}, H' ti = some (.tup [.int row.1, .str row.2.1, .int row.2.2]) → SqT K H' ti [.int row.1, .str row.2.1, .int row.2.2] := fun h => st_of h
    -- the count
    have hc : ((valV kvs (Sum.inl row.1)).getD (.int 0)) = .int (cnt (rows.take i) row.1 : Nat) := by
      rw [c3]
      by_cases h : cnt (rows.take i) row.1 = 0
      · rw [if_pos h, h]; rfl
      · rw [if_neg h]; rfl
    refine ⟨_, rfl, d, rfl, .inl ⟨kvs, .inl (e57 _ _ c1)⟩, _, rfl, ti, _, 0, _, rfl, rfl, hx0 hat7, rfl, valV kvs (Sum.inl row.1), DGet.k (k := Sum.inl row.1) (e57 _ _ c1), ?_⟩
    rw [hc]
    refine ⟨_, _, rfl, rfl, _, rfl, _, rfl, ti, _, 0, _, rfl, rfl, hx0 hat7, rfl, d, _, rfl, DPut.k (k := Sum.inl row.1) (e57 _ _ c1) (sz_lt (by rw [List.length_take] at c2; omega)), ?_⟩
    dsimp only
    have hdti : d ≠ ti := fun e => by
      rw [e] at c1
      have := e57 _ _ c1
      rw [hat7] at this
      cases this
    have hat8 := hx0 (H' := upd H7 d (.dK (putK kvs (Sum.inl row.1) (.int ((cnt (rows.take i) row.1 : Nat) + 1))))) (by rw [upd_ne hdti.symm]; exact hat7)
    have hcnt : cnt (rows.take i) row.1 + 1 ≤ 8 := by
      have h1 := cnt_take rows (i + 1) row.1
      rw [take_snoc hrow, cnt_snoc, if_pos rfl] at h1
      exact Nat.le_trans h1 (h8 row.1)
    refine q_when (et_test (ev_op (ev_dget (k := Sum.inl row.1) (v := .int ((cnt (rows.take i) row.1 : Nat) + 1)) (ev_var rfl) (ev_op (ev_var rfl) ev_c (rv_ixT hat8 (v := .int row.1) rfl)) upd_same (by rw [valV_put, if_pos rfl])) ev_c rv_I0)) (fun e => ?_) fun _ H8 e8 => ?_
    · have := of_decide_eq_true e
      omega
    have ne_d : ∀ {a u}, H5 a = some u → a ≠ d → H8 a = some u := fun h hne => e8 _ _ (by rw [upd_ne hne]; exact e57 _ _ h)
    have e18 : Ex H1 H8 := fun a u q => e8 a u (by rw [upd_ne (ne_new hd1 q)]; exact e57 _ _ (e5 a u q))
    have t8 : TSet P w H8 s ((rows.take i).map rk).reverse := by
      refine TSet.mono (fun b ws hb => ne_d hb fun e => ?_) (fun u q => ne_d q hsd) t5
      rw [e, c1] at hb
      cases hb
    have hat9 : H8 ti = some (.tup [.int row.1, .str row.2.1, .int row.2.2]) := e8 _ _ (by rw [upd_ne hdti.symm]; exact hat7)
    have hd8 := e8 d _ upd_same
    have hr8 : H8 r = some (.lst ((ts.take i).map V.ref)) := ne_d r5 hdr.symm
    refine ⟨_, rfl, ⟨s, _, rfl, t8⟩, _, rfl, ti, s, rk row, _, rfl, rfl, hat9, t8, hnin, by rw [List.length_reverse, List.length_map, List.length_take]; omega, fun o' t9 => ?_⟩
    refine s_app (l := r) (xs := (ts.take i).map V.ref) (v := .ref ti) (by rw [upd_ne hsr.symm]; exact hr8) (ev_var rfl) (ev_var rfl) (by rw [List.length_map, List.length_take]; omega) fun H9 e9 => ⟨_, _, rfl, ?_, ?_, ⟨putK kvs (Sum.inl row.1) (.int ((cnt (rows.take i) row.1 : Nat) + 1)), ?_, ?_, fun s' => ?_⟩, ?_⟩
    · intro a u q
      rw [upd_ne (ne_new hr1 q)]
      exact e9 a u (by rw [upd_ne (ne_new hs q)]; exact e18 a u q)
    · rw [take_snoc hrow, List.map_append, List.reverse_append]
      have t10 : TSet P w H9 s (rk row :: ((rows.take i).map rk).reverse) := TSet.mono (TupIn.of_ex e9) (fun u q => e9 s u q) t9
      refine TSet.mono (TupIn.upd fun ws e => ?_) (fun u q => by rw [upd_ne hsr]; exact q) t10
      have := e9 r _ (by rw [upd_ne hsr.symm]; exact hr8)
      rw [this] at e
      cases e
    · rw [upd_ne hdr]
      exact e9 d _ (by rw [upd_ne hsd.symm]; exact hd8)
    · rw [take_snoc hrow, List.length_append]
      have := length_putK kvs (Sum.inl row.1) (.int ((cnt (rows.take i) row.1 : Nat) + 1))
      simp only [List.length_cons, List.length_nil]
      omega
    · rw [take_snoc hrow, cnt_snoc, valV_put]
      by_cases hs' : row.1 = s'
      · subst hs'
        rw [if_pos rfl, if_pos rfl, if_neg (by omega)]
        simp
      · rw [if_neg hs', if_neg (fun e => hs' (by injection e with e; exact e.symm)), c3]
    · rw [upd_same, take_snoc hti, List.map_append]
      rfl
  · rintro σ' H5 ⟨u, v, rfl, e5, t5, c5, r5⟩
    refine ⟨_, rfl, k r H5 (fresh_back e1 hr1) (e1.trans e5) ?_⟩
    rw [r5, List.length_map, List.take_length]
end
end K28
end

section
set_option Elab.async false
set_option maxRecDepth 100000
set_option maxHeartbeats 4000000
namespace K28
open PySem PySem.Spec PyProof.Rows L2 Evl
theorem nodup_len {α : Type} [DecidableEq α] : ∀ (l D : List α), l.Nodup → (∀ x ∈ l, x ∈ D) → l.length ≤ D.length
  | [], _, _, _ => Nat.zero_le _
  | x :: l, D, hn, hs => by
    obtain ⟨h1, h2⟩ := List.nodup_cons.mp hn
    have hx : x ∈ D := hs x List.mem_cons_self
    have ih := nodup_len l (D.erase x) h2 fun y hy => by
      have hne : y ≠ x := fun e => h1 (e ▸ hy)
      exact (List.mem_erase_of_ne hne).2 (hs y (List.mem_cons_of_mem _ hy))
    have e := List.length_erase_of_mem hx
    have hp : 0 < D.length := List.length_pos_of_mem hx
    rw [List.length_cons]
    omega
def rowAt (rows : List Row) (k : Nat) : Row := rows.getD k (0, Str.empty, 0)
/-- the numbers of the steps that leave a state -/
def nums (rows : List Row) (s : Int) : List Nat := (List.range rows.length).filter fun k => decide ((rowAt rows k).1 = s)
def lvK (ls : List (Int × Addr)) : List (Key × V) := ls.map fun q => (Sum.inl q.1, V.ref q.2)
def numV (ns : List Nat) : List V := ns.map fun k => V.int (k : Nat)
theorem val_lv (ls : List (Int × Addr)) (s : Int) : valV (lvK ls) (Sum.inl s) = (lk ls s).map V.ref := by
  induction ls with
  | nil => rfl
  | cons p r ih =>
    rw [lk_cons]
    by_cases e : p.1 = s
    · rw [if_pos e]
      exact valV_pos (p := (Sum.inl p.1, V.ref p.2)) (by rw [e])
    · rw [if_neg e, ← ih]
      exact valV_neg (p := (Sum.inl p.1, V.ref p.2)) (fun q => by injection q with q; exact e q)
theorem lk_none {α β : Type} [DecidableEq α] {l : List (α × β)} {a : α} (h : lk l a = none) : a ∉ l.map (·.1) := by
  induction l with
  | nil => simp
  | cons p r ih =>
    rw [lk_cons] at h
    by_cases e : p.1 = a
    · rw [if_pos e] at h
      cases h
    · rw [if_neg e] at h
      rw [List.map_cons, List.mem_cons, not_or]
      exact ⟨fun q => e q.symm, ih h⟩
/-- the dict of the steps by the state that they leave -/
def LeavAt (H : Hp) (d : Addr) (rows : List Row) : Prop := ∃ ls : List (Int × Addr), H d = some (.dK (lvK ls)) ∧ (∀ q ∈ ls, H q.2 = some (.lst (numV (nums rows q.1)))) ∧ ∀ s, s ∉ ls.map (·.1) → nums rows s = []
theorem LeavAt.ex {H H' : Hp} {d : Addr} {rows : List Row} (e : Ex H H') (h : LeavAt H d rows) : LeavAt H' d rows := let ⟨ls, a, b, c⟩ := h; ⟨ls, e _ _ a, fun q hq => e _ _ (b q hq), c⟩
def RowsAt (H : Hp) (l : Addr) (rows : List Row) : Prop := ∃ ts : List Addr, H l = some (.lst (ts.map V.ref)) ∧ Paired (RowAt H) ts rows
theorem RowsAt.ex {H H' : Hp} {d : Addr} {rows : List Row} (e : Ex H H') (h : RowsAt H d rows) : RowsAt H' d rows := let ⟨ls, a, b⟩ := h; ⟨ls, e _ _ a, Paired.mapP b fun _ _ q => e _ _ q⟩
theorem RowsAt.get {H : Hp} {l : Addr} {rows : List Row} (h : RowsAt H l rows) {k : Nat} (hk : k < rows.length) : ∃ ts : List Addr, ∃ t, H l = some (.lst (ts.map V.ref)) ∧ ts[k]? = some t ∧ RowAt H t (rowAt rows k) := by
  obtain ⟨ts, h1, h2⟩ := h
  have hl : ts.length = rows.length := Paired.length h2
  have hk2 : k < ts.length := by omega
  obtain ⟨r, e1, e2⟩ := pair_at h2 (List.getElem?_eq_getElem hk2)
  refine ⟨ts, _, h1, List.getElem?_eq_getElem hk2, ?_⟩
  have : rowAt rows k = r := by unfold rowAt; rw [List.getD_eq_getElem?_getD, e1]; rfl
  rw [this]
  exact e2
theorem mem_nums {rows : List Row} {s : Int} {k : Nat} : k ∈ nums rows s ↔ k < rows.length ∧ (rowAt rows k).1 = s := by
  unfold nums
  rw [List.mem_filter, List.mem_range, decide_eq_true_eq]
section
variable {P : Program} {w : World} {K : PySem.W.Frag} {mg : Str → Option Value} {base : Heap}
def RetM (ns : List Int) (H : Hp) (Q : VK) : Prop := ∀ (p : Addr) (H2 : Hp) (kvs : List (Key × V)), H p = none → Ex H H2 → H2 p = some (.dK kvs) → (∀ n, valV kvs (Sum.inl n) ≠ none → n ∈ ns) → Q (.ref p) H2
def spMarks : Sp := fun vs H Q _ => ∃ (l t : Addr) (ns : List Int) (c : Int) (kt : List (Key × V)), vs = [.ref l, .int c, .ref t] ∧ H l = some (.lst (ns.map V.int)) ∧ ns.Nodup ∧ ns.length ≤ 60 ∧ (∀ n ∈ ns, 0 ≤ n ∧ n < c) ∧ H t = some (.dK kt) ∧ (∀ n ∈ ns, valV kt (Sum.inl n) = none) ∧ RetM ns H Q
theorem sc_checked_marks : FnScope ["numbers", "count", "taken", "marks", "number"] ["numbers", "count", "taken"] (defScope s_checked_marks) := ⟨rfl, rfl, rfl, by decide +kernel, rfl, by decide +kernel, by decide +kernel⟩
theorem ok_checked_marks (T : Tx K mg) (D : Dfn K mg "checked_marks" s_checked_marks) (C_is_row : CalP P w K mg base 1 "is_row" (spIsRow K)) (C_is_number_below : CalP P w K mg base 2 "is_number_below" spBelow) : CalP P w K mg base 3 "checked_marks" spMarks := by
  refine cal_of D sc_checked_marks (fun _ _ _ _ _ _ us hl => match us, hl with | [_, _, _], _ => rfl) (fun vs H Q E h => by obtain ⟨_, _, _, _, _, rfl, _⟩ := h; rfl) fun f cdv A outer s H vs Q E hr h => ?_
  obtain ⟨l, t, ns, c, kt, rfl, hl, nd, n60, hall, ht, htn, k⟩ := h
  refine ⟨_, (pss_cons (ps_if (pt_not (pt_val (C8.pe_c C_is_row hr (by decide) (by rfl) (pa_cons (pv 0) pa_nil)))) pss_never pss_nil)
        (pss_cons (ps_set (i := 3) sc_checked_marks.nd rfl (Or.inl rfl) pe_dnewK)
        (pss_cons (ps_for PassesOwn.never rfl (pi_seq (pv 0)) (pg_name (i := 4) sc_checked_marks.nd rfl (Or.inl rfl)) (pss_cons (ps_if (PW.pt (pw_or (pt_not (pt_val (C8.pe_c C_is_number_below hr (by decide) (by rfl) (pa_cons (pv 4) (pa_cons (pv 1) pa_nil))))) (pw_or (pt_cmp (pc_din (hu_of hr) (pv 4) (pv 3)) (by with_unfolding_all rfl)) (pw_or1 (pt_cmp (pc_din (hu_of hr) (pv 4) (pv 2)) (by with_unfolding_all rfl)))))) pss_never pss_nil)
        (pss_one (ps_dput (hu_of hr) (pv 3) (pv 4) pe_bl rfl))))
        (pss_one (ps_ret (pv 3)))))), ?_⟩
  refine q_when (et_not (et_B (ev_call (ea_cons (ev_var rfl) ea_nil) (sv_row (k := false) hl)))) (fun e => by cases e) fun _ H1 e1 => ?_
  refine q_set fun m hm => ?_
  refine q_forw (J := Itq false K l) (fun R q => f_seq (k := false) (ev_var rfl) (sqk_l (Ex.new hm _ _ (e1 _ _ hl))) q) (walk_seq (xs := ns.map V.int))
    (fun i σ' H' => ∃ v, σ' = [some (.ref l), some (.int c), some (.ref t), some (.ref m), v] ∧ Ex H1 H' ∧ ∃ kvs : List (Key × V), H' m = some (.dK kvs) ∧ kvs.length ≤ i ∧ ∀ n, valV kvs (Sum.inl n) ≠ none → n ∈ ns.take i) ?_ ?_ ?_ ?_
  · exact fun H2 e2 => ⟨_, rfl, (Ex.new hm).trans e2, [], e2 _ _ upd_same, Nat.le_refl _, fun n h => absurd rfl h⟩
  · rintro i σ' H' _ ⟨v, _, e, _⟩
    exact sqk_l (e _ _ (e1 _ _ hl))
  · rintro i y σ' H3 H4 hi ⟨v, rfl, e3, kvs, k1, k2, k3⟩ ⟨rfl, ey⟩
    rw [List.length_map] at hi
    rw [List.getElem?_map] at ey
    obtain ⟨n, hn, rfl⟩ := Option.map_eq_some_iff.mp ey
    have hmem := List.mem_of_getElem? hn
    have hv : valV kvs (Sum.inl n) = none := by
      cases h : valV kvs (Sum.inl n) with
      | none => rfl
      | some x => exact absurd (k3 n (by rw [h]; simp)) (take_notmem nd hn)
    refine q_when (et_or (et_not (et_B (ev_call (ea_cons (ev_var rfl) (ea_cons (ev_var rfl) ea_nil)) (sv_below (hall n hmem).1 (hall n hmem).2)))) fun _ => et_or (et_B (ev_din (k := Sum.inl n) (ev_var rfl) (ev_var rfl) k1)) fun _ => et_B (ev_din (k := Sum.inl n) (ev_var rfl) (ev_var rfl) (e3 _ _ (e1 _ _ ht)))) (fun e => ?_) fun _ H5 e5 => ?_
    · rw [hv, htn n hmem] at e
      cases e
    refine ⟨_, rfl, _, rfl, m, _, rfl, DPut.k (k := Sum.inl n) (e5 _ _ k1) (sz_lt (by omega)), _, rfl, (e3.trans e5).mut hm, _, upd_same, ?_, fun n' h => ?_⟩
    · have := length_putK kvs (Sum.inl n) (.bl true)
      omega
    · rw [take_snoc hn]
      rw [valV_put] at h
      by_cases e : (Sum.inl n' : Key) = Sum.inl n
      · injection e with e
        rw [e]
        simp
      · rw [if_neg e] at h
        exact List.mem_append_left _ (k3 n' h)
  · rintro σ' H3 ⟨v, rfl, e3, kvs, k1, k2, k3⟩
    rw [List.length_map, List.take_length] at k3
    exact ⟨_, rfl, k m H3 kvs (fresh_back e1 hm) (e1.trans e3) k1 k3⟩
def spReached : Sp := fun vs H Q _ => ∃ (s0 : Int) (d r : Addr) (rows : List Row), vs = [.int s0, .ref d, .ref r] ∧ LeavAt H d rows ∧ RowsAt H r rows ∧ rows.length ≤ 12 ∧ ∀ p H2, H p = none → Ex H H2 → Q (.ref p) H2
def markK (fs : List Int) : List (Key × V) := fs.map fun n => (Sum.inl n, V.bl true)
theorem sc_reached_states : FnScope ["start", "leaving", "rows", "found", "queue", "state", "number", "end"] ["start", "leaving", "rows"] (defScope s_reached_states) := ⟨rfl, rfl, rfl, by decide +kernel, rfl, by decide +kernel, by decide +kernel⟩
theorem ok_reached_states (T : Tx K mg) (D : Dfn K mg "reached_states" s_reached_states) : CalP P w K mg base 1 "reached_states" spReached := by
  refine cal_of D sc_reached_states (fun _ _ _ _ _ _ us hl => match us, hl with | [_, _, _], _ => rfl) (fun vs H Q E h => by obtain ⟨_, _, _, _, rfl, _⟩ := h; rfl) fun f cdv A outer s H vs Q E hr h => ?_
  obtain ⟨s0, d, r, rows, rfl, hd, hrw, n12, k⟩ := h
  refine ⟨_, (pss_cons (ps_set (i := 3) sc_reached_states.nd rfl (Or.inl rfl) (pe_disp (pps_cons (pv 0) pe_bl pps_nil) (by rfl) (by rfl) (fun z => by cases z) (by decide)))
        (pss_cons (ps_set (i := 4) sc_reached_states.nd rfl (Or.inl rfl) (pe_lst (pa_cons (pv 0) pa_nil)))
        (pss_cons (ps_while PassesOwn.never (pt_truth (pv 4) (fun _ => rfl)) (pss_cons (ps_set (i := 5) sc_reached_states.nd rfl (Or.inl rfl) (pe_bm0 PySem.F.plainAttrs_list PySem.F.slot_list_pop PySem.F.type_list_pop mt_pop (pv 4)))
        (pss_one (ps_for PassesOwn.never rfl (pi_seq (pe_dget2 (hu_of hr) (pv 1) (pv 5) (pe_lst pa_nil) ⟨by rfl, by rfl, by rfl, by rfl⟩)) (pg_name (i := 6) sc_reached_states.nd rfl (Or.inl rfl)) (pss_cons (ps_set (i := 7) sc_reached_states.nd rfl (Or.inl rfl) (pe_ix ix_tup (pe_ix ix_list (pv 2) (pv 6) (fun _ _ => rfl)) pe_int (fun _ _ => rfl)))
        (pss_one (ps_if (pt_cmp (pc_dnotin (hu_of hr) (pv 7) (pv 3)) (by with_unfolding_all rfl)) (pss_cons (ps_dput (hu_of hr) (pv 3) (pv 7) pe_bl rfl)
        (pss_one (ps_expr (pe_bm PySem.F.plainAttrs_list PySem.F.slot_list_append PySem.F.type_list_append mt_append (pv 4) (pa_cons (pv 7) pa_nil))))) pss_nil)))))))
        (pss_one (ps_ret (pe_callB cr_sorted (by rfl) T.f_sorted boot_sorted (pa_cons (pe_callTy (call_listD rfl) (by rfl) T.f_list PyProof.Rows.boot_list (pa_cons (pv 3) pa_nil)) pa_nil))))))), ?_⟩
  refine q_set fun g hg => ⟨_, rfl, ?_⟩
  refine ⟨upd_same, [(Sum.inl s0, .bl true)], rfl, (by decide : (1 : Nat) ≤ 15), ?_⟩
  rw [upd_upd]
  refine q_asgL (el_lst (ea_cons (ev_var rfl) ea_nil) (by decide : (1 : Nat) ≤ 100000)) fun q H1 hq e1 h1 => ?_
  have hq0 : H q = none := fresh_back (Ex.new hg) hq
  have hgq : g ≠ q := fun e => by rw [← e, upd_same] at hq; cases hq
  have e01 : Ex H H1 := (Ex.new hg).trans e1
  refine q_while (fun m σ' H' => ∃ u v x, σ' = [some (.int s0), some (.ref d), some (.ref r), some (.ref g), some (.ref q), u, v, x] ∧ Ex H H' ∧ ∃ fs qs : List Int, H' g = some (.dK (markK fs)) ∧ fs.Nodup ∧ (∀ y ∈ fs, y ∈ s0 :: rows.map (·.2.2)) ∧ H' q = some (.lst (qs.map V.int)) ∧ qs.length + (1 + rows.length - fs.length) = m ∧ m ≤ 13) (1 + rows.length) ?_ ?_
  · refine ⟨_, _, _, rfl, e01, [s0], [s0], e1 _ _ upd_same, by simp, by simp, h1, ?_, by omega⟩
    simp only [List.length_cons, List.length_nil]
    omega
  · rintro m σ' H' ⟨u, v, x, rfl, e2, fs, qs, f1, f2, f3, f4, f5, f6⟩
    refine ⟨!(qs.map V.int).isEmpty, fun H2 e3 Q' q' => ⟨_, rfl, _, .inl ⟨_, sq_of (e3 _ _ f4), rfl⟩, q' H2 (Ex.refl _)⟩, fun hb H2 e3 => ?_, fun hb H2 e3 => ?_⟩
    · have hne : qs ≠ [] := fun e => by rw [e] at hb; cases hb
      have hlq : 1 ≤ qs.length := by
        cases qs with
        | nil => exact absurd rfl hne
        | cons _ _ => rw [List.length_cons]; omega
      -- one turn: what may be added is counted
      refine ⟨fun σ'' H'' => ∃ u v x, σ'' = [some (.int s0), some (.ref d), some (.ref r), some (.ref g), some (.ref q), u, v, x] ∧ Ex H H'' ∧ ∃ fs' qs' : List Int, H'' g = some (.dK (markK fs')) ∧ fs'.Nodup ∧ (∀ y ∈ fs', y ∈ s0 :: rows.map (·.2.2)) ∧ H'' q = some (.lst (qs'.map V.int)) ∧ qs'.length + (1 + rows.length - fs'.length) = m - 1, ?_, ?_⟩
      · rintro σ2 H3 ⟨u, v, x, e, e4, fs', qs', g1, g2, g3, g4, g5⟩
        exact ⟨m - 1, by omega, u, v, x, e, e4, fs', qs', g1, g2, g3, g4, g5, by omega⟩
      -- state = queue.pop()
      obtain ⟨st, hst⟩ : ∃ y, qs[qs.length - 1]? = some y := ⟨_, List.getElem?_eq_getElem (by omega)⟩
      refine q_set ⟨_, rfl, .inl ⟨rfl, _, sq_of (e3 _ _ f4)⟩, q, _, .int st, rfl, rfl, e3 _ _ f4, by rw [List.length_map, List.getElem?_map, hst]; rfl, ?_⟩
      have eq1 : (qs.map V.int).dropLast = (qs.dropLast).map V.int := by rw [List.map_dropLast]
      rw [eq1]
      have e24 : Ex H (upd H2 q (.lst (qs.dropLast.map V.int))) := (e2.trans e3).mut hq0
      have hd4 := hd.ex e24
      obtain ⟨ls, l1, l2, l3⟩ := hd4
      have hg4 : (upd H2 q (.lst (qs.dropLast.map V.int))) g = some (.dK (markK fs)) := by rw [upd_ne hgq]; exact e3 _ _ f1
      dsimp only
      refine s_for ?_
      refine ⟨_, rfl, d, rfl, .inl ⟨lvK ls, .inl l1⟩, _, rfl, by decide, fun p hp => ⟨_, DGet.k (k := Sum.inl st) (by rw [upd_ne (ne_new hp l1)]; exact l1), ?_⟩⟩
      obtain ⟨a, ha1, ha2, haq⟩ : ∃ a, (valV (lvK ls) (Sum.inl st)).getD (.ref p) = .ref a ∧ upd (upd H2 q (.lst (qs.dropLast.map V.int))) p (.lst []) a = some (.lst (numV (nums rows st))) ∧ a ≠ q := by
        rw [val_lv]
        cases hlk : lk ls st with
        | none =>
          refine ⟨p, rfl, ?_, fun e => by rw [e, upd_same] at hp; cases hp⟩
          rw [upd_same, l3 st (lk_none hlk)]
          rfl
        | some a =>
          have hm := l2 _ (lk_mem hlk)
          obtain ⟨ls0, m1, m2, m3⟩ := hd
          have e5 : ls0 = ls := by
            have z := e24 d _ m1
            rw [l1] at z
            injection z with z
            injection z with z
            have inj : ∀ {x y : List (Int × Addr)}, lvK x = lvK y → x = y := by
              intro x
              induction x with
              | nil =>
                intro y h
                cases y with
                | nil => rfl
                | cons _ _ => cases h
              | cons p x ih =>
                intro y h
                cases y with
                | nil => cases h
                | cons p' y =>
                  injection h with h1 h2
                  rw [ih h2]
                  injection h1 with h3 h4
                  injection h3 with h3
                  injection h4 with h4
                  rw [Prod.ext h3 h4]
            exact (inj z).symm
          subst e5
          have hm0 := m2 _ (lk_mem hlk)
          refine ⟨a, rfl, ?_, ne_new hq0 hm0⟩
          rw [upd_ne (ne_new hp hm)]
          exact hm
      rw [ha1]
      have hgp : g ≠ p := ne_new hp hg4
      have hqp : q ≠ p := fun e => by rw [← e, upd_same] at hp; cases hp
      refine ⟨false, a, _, rfl, sqk_l ha2, for_w (walk_seq (xs := numV (nums rows st))) (fun i σ'' H'' => ∃ u' x', σ'' = [some (.int s0), some (.ref d), some (.ref r), some (.ref g), some (.ref q), some (.int st), u', x'] ∧ Ex H H'' ∧ H'' a = some (.lst (numV (nums rows st))) ∧
        ∃ fs' qs' : List Int, H'' g = some (.dK (markK fs')) ∧ fs'.Nodup ∧ (∀ y ∈ fs', y ∈ s0 :: rows.map (·.2.2)) ∧ H'' q = some (.lst (qs'.map V.int)) ∧ qs'.length + (1 + rows.length - fs'.length) = m - 1) ?_ ?_ ?_ ?_⟩
      · refine ⟨_, _, rfl, e24.trans (Ex.new hp), ha2, fs, qs.dropLast, by rw [upd_ne hgp]; exact hg4, f2, f3, by rw [upd_ne hqp, upd_same], ?_⟩
        rw [List.length_dropLast]
        omega
      · rintro i σ'' H'' _ ⟨u', x', _, _, h, _⟩
        exact sqk_l h
      · rintro i y σ'' H5 H6 hi ⟨u', x', rfl, e5, a5, fs', qs', g1, g2, g3, g4, g5⟩ ⟨rfl, ey⟩
        unfold numV at ey
        rw [List.getElem?_map] at ey
        obtain ⟨n, hn, rfl⟩ := Option.map_eq_some_iff.mp ey
        obtain ⟨hn1, hn2⟩ := mem_nums.mp (List.mem_of_getElem? hn)
        obtain ⟨ts, t, r1, r2, r3⟩ := (hrw.ex e5).get hn1
        refine q_asg (v := .int (rowAt rows n).2.2) (ev_op (ev_op (ev_var rfl) (ev_var rfl) (rv_ixL (sq_of r1) (v := .ref t) (atI_nat (by rw [List.getElem?_map, r2]; rfl)))) ev_c (rv_ixT (st_of r3) rfl)) fun H7 e7 => ?_
        refine s_when (et_B (ev_dnotin (k := Sum.inl (rowAt rows n).2.2) (ev_var rfl) (ev_var rfl) (e7 _ _ g1))) (fun hb H8 e8 => ?_) fun hb H8 e8 => ?_
        · have hnew : valV (markK fs') (Sum.inl (rowAt rows n).2.2) = none := by
            cases h : valV (markK fs') (Sum.inl (rowAt rows n).2.2) with
            | none => rfl
            | some _ => rw [h] at hb; cases hb
          have hnotin : (rowAt rows n).2.2 ∉ fs' := fun hm => by
            have : valV (markK fs') (Sum.inl (rowAt rows n).2.2) = some (.bl true) := valV_in (by unfold markK; rw [List.map_map]; exact (List.pairwise_map.mpr (List.Pairwise.imp (fun hne e => hne (by injection e)) g2))) (List.mem_map.mpr ⟨_, hm, rfl⟩)
            rw [hnew] at this
            cases this
          have hfl : fs'.length + 1 ≤ 1 + rows.length := by
            have hnd : ((rowAt rows n).2.2 :: fs').Nodup := List.nodup_cons.mpr ⟨hnotin, g2⟩
            have := nodup_len _ (s0 :: rows.map (·.2.2)) hnd (fun y hy => by
              rcases List.mem_cons.mp hy with e | hy
              · rw [e]
                refine List.mem_cons_of_mem _ (List.mem_map.mpr ⟨rowAt rows n, ?_, rfl⟩)
                unfold rowAt
                rw [List.getD_eq_getElem?_getD, List.getElem?_eq_getElem hn1]
                exact List.getElem_mem hn1
              · exact g3 y hy)
            rw [List.length_cons, List.length_cons, List.length_map] at this
            omega
          have e78 := e7.trans e8
          refine ⟨_, rfl, _, rfl, g, _, rfl, DPut.k (k := Sum.inl (rowAt rows n).2.2) (e78 _ _ g1) (sz_lt (by unfold markK; rw [List.length_map]; omega)), ?_⟩
          rw [putK_new _ hnew]
          have hg8 := e78 _ _ g1
          dsimp only
          have hql : qs'.length < 100000 := by omega
          refine s_app (l := q) (xs := qs'.map V.int) (v := .int (rowAt rows n).2.2) (by rw [upd_ne hgq.symm]; exact e78 _ _ g4) (ev_var rfl) (ev_var rfl) (by rw [List.length_map]; exact hql) fun H9 e9 => ⟨_, _, rfl, ?_, ?_, fs' ++ [(rowAt rows n).2.2], qs' ++ [(rowAt rows n).2.2], ?_, ?_, fun y hy => ?_, ?_, ?_⟩
          · intro b o hb'
            rw [upd_ne (ne_new hq0 hb')]
            refine e9 b o ?_
            rw [upd_ne (ne_new hg hb')]
            exact e78 _ _ (e5 b o hb')
          · rw [upd_ne haq]
            refine e9 a _ ?_
            rw [upd_ne (fun e => by rw [e, g1] at a5; cases a5)]
            exact e78 _ _ a5
          · rw [upd_ne hgq]
            refine (e9 g _ upd_same).trans ?_
            unfold markK
            rw [List.map_append]
            rfl
          · rw [List.nodup_append]
            refine ⟨g2, by simp, fun a ha b hb e => ?_⟩
            rw [List.mem_singleton] at hb
            exact hnotin (hb ▸ e ▸ ha)
          · rcases List.mem_append.mp hy with hy | hy
            · exact g3 y hy
            · rw [List.mem_singleton] at hy
              rw [hy]
              refine List.mem_cons_of_mem _ (List.mem_map.mpr ⟨rowAt rows n, ?_, rfl⟩)
              unfold rowAt
              rw [List.getD_eq_getElem?_getD, List.getElem?_eq_getElem hn1]
              exact List.getElem_mem hn1
          · rw [upd_same, List.map_append]
            rfl
          · rw [List.length_append, List.length_append]
            simp only [List.length_cons, List.length_nil]
            omega
        · exact ⟨_, _, rfl, (e5.trans e7).trans e8, e8 _ _ (e7 _ _ a5), fs', qs', e8 _ _ (e7 _ _ g1), g2, g3, e8 _ _ (e7 _ _ g4), g5⟩
      · rintro σ'' H5 ⟨u', x', rfl, e5, a5, fs', qs', g1, g2, g3, g4, g5⟩
        exact ⟨_, _, _, rfl, e5, fs', qs', g1, g2, g3, g4, g5⟩
    · have hne : qs = [] := by
        cases qs with
        | nil => rfl
        | cons _ _ => cases hb
      have h64 : fs.length ≤ 13 := by
        have := nodup_len fs (s0 :: rows.map (·.2.2)) f2 f3
        rw [List.length_cons, List.length_map] at this
        omega
      refine ⟨_, rfl, g, markK fs, rfl, .inl (e3 _ _ f1), fun p hp => ?_⟩
      have em : (markK fs).map (fun kv => kV kv.1) = fs.map V.int := by unfold markK; rw [List.map_map]; rfl
      rw [em]
      refine ⟨p, fs, rfl, sq_of upd_same, by omega, fun ns' p' _ _ hp' => ?_⟩
      have e4 : Ex H (upd H2 p (.lst (fs.map V.int))) := (e2.trans e3).trans (Ex.new hp)
      exact k p' _ (fresh_back e4 hp') (e4.trans (Ex.new hp'))
end
end K28
end

section
set_option Elab.async false
set_option maxRecDepth 100000
set_option maxHeartbeats 4000000
namespace K28
open PySem PySem.Spec PyProof.Rows L2 Evl
/-- all but x stays -/
def Exx (x : Addr) (H H' : Hp) : Prop := ∀ a o, a ≠ x → H a = some o → H' a = some o
theorem Exx.of_ex {x : Addr} {H H' : Hp} (e : Ex H H') : Exx x H H' := fun a o _ h => e a o h
theorem Exx.trans {x : Addr} {H H1 H2 : Hp} (a : Exx x H H1) (b : Exx x H1 H2) : Exx x H H2 := fun c o n h => b c o n (a c o n h)
theorem Exx.upd {x : Addr} {H H' : Hp} {o : HO} (e : Exx x H H') : Exx x H (upd H' x o) := fun c u n h => by
  rw [upd_ne n]
  exact e c u n h
theorem Exx.mut {x p : Addr} {H H' : Hp} {o : HO} (e : Exx x H H') (hp : H p = none) : Exx x H (L2.upd H' p o) := fun c u n h => by
  rw [upd_ne (ne_new hp h)]
  exact e c u n h
theorem Exx.ex {x : Addr} {H H' : Hp} (e : Exx x H H') (h : H x = none) : Ex H H' := fun a o q => e a o (ne_new h q) q
def numsTo (rows : List Row) (i : Nat) (s : Int) : List Nat := (List.range i).filter fun k => decide ((rowAt rows k).1 = s)
theorem numsTo_succ (rows : List Row) (i : Nat) (s : Int) : numsTo rows (i + 1) s = if (rowAt rows i).1 = s then numsTo rows i s ++ [i] else numsTo rows i s := by
  unfold numsTo
  rw [List.range_succ, List.filter_append]
  by_cases h : (rowAt rows i).1 = s
  · simp [h]
  · simp [h]
theorem idx_get {α : Type} [BEq α] [LawfulBEq α] : ∀ {l : List α} {x : α}, x ∈ l → l[l.idxOf x]? = some x
  | y :: l, x, h => by
    rw [List.idxOf_cons]
    by_cases e : y = x
    · subst e
      simp
    · have e' : (y == x) = false := by simpa using e
      rcases List.mem_cons.mp h with h | h
      · exact absurd h.symm e
      · rw [e']
        simpa using idx_get h
theorem numsTo_len (rows : List Row) (i : Nat) (s : Int) : (numsTo rows i s).length ≤ i := by
  unfold numsTo
  have := List.length_filter_le (fun k => decide ((rowAt rows k).1 = s)) (List.range i)
  rw [List.length_range] at this
  exact this
/-- a plant: its first state, its steps -/
def PlantAt (a : Ad) (H : Hp) (x : Addr) (s0 : Int) (rows : List Row) : Prop := ∃ dx fs r d, H x = some (.ins a.Plant dx fs) ∧ fs.lookup ("first" : Str) = some (.int s0) ∧ fs.lookup ("rows" : Str) = some (.ref r) ∧ fs.lookup ("leaving" : Str) = some (.ref d) ∧ RowsAt H r rows ∧ LeavAt H d rows
theorem PlantAt.ex {a : Ad} {H H' : Hp} {x : Addr} {s0 : Int} {rows : List Row} (e : Ex H H') (h : PlantAt a H x s0 rows) : PlantAt a H' x s0 rows :=
  let ⟨dx, fs, r, d, h1, h2, h3, h4, h5, h6⟩ := h; ⟨dx, fs, r, d, e _ _ h1, h2, h3, h4, h5.ex e, h6.ex e⟩
/-- a value of which Pd is true -/
def EvP (te : TE) (σ : L2.St) (H : Hp) (Pd : V → Prop) : Prop := ∀ H1, Ex H H1 → ∀ Q : VK, (∀ v H2, Ex H1 H2 → Pd v → Q v H2) → te σ H1 Q
section
variable {P : Program} {w : World} {K : PySem.W.Frag} {mg : Str → Option Value} {base : Heap}
def ScW (X : PySem.World) (g : TG) (tt : TT) (te : TE) (vs : List Nat) (σ : L2.St) (Q : VK) (J : It) (H1 : Hp) : Prop := ∀ D, H1 D = none → ∃ W : Nat → Nat → Hp → Prop, (∃ m, W 0 m (upd H1 D (SetSO X D []))) ∧ ∀ i m H, W i m H →
  (J.stop i H ∧ Q (.ref D) H) ∨ (J.go i H ∧ ∃ Nx : Hp → Prop, (∀ H', Nx H' → ∃ m', m' < m ∧ W (i + 1) m' H') ∧ ∀ x H', J.yld i H x H' → g x (wipe σ vs) H' fun σ2 H2 => wipe σ2 vs = wipe σ vs ∧ tt σ2 H2 fun b H3 =>
    if b = true then te σ2 H3 fun y H4 => ∃ (c : Str) (ks : List Str), y = .str c ∧ H4 D = some (SetSO X D ks) ∧ ks.length + 1 < scanBound ∧ Nx (upd H4 D (SetSO X D (addS ks c))) else Nx H3)
theorem e_cbSc {X : PySem.World} {wi : TI} {g : TG} {tt : TT} {te : TE} {vs : List Nat} {σ : L2.St} {H : Hp} {Q : VK} {r : List V → Hp → VK → Prop} (h : wi σ H (ScW X g tt te vs σ fun x H1 => r [x] H1 Q)) : tCB r (tCons (tScS X wi g tt te vs) tNil) σ H Q := h
theorem len_scS {X : PySem.World} {k : Bool} {a : Addr} {xs : List V} {j : Nat} {te0 te : TE} {vs : List Nat} {σ : L2.St} {H : Hp} (h : Ev te0 σ H (.ref a)) (hq : SqK k K H a xs) (hn : xs.length ≤ 1000)
    (hw : ∀ x, wipe ((wipe σ vs).set j (some x)) vs = wipe σ vs) (he : ∀ (i : Nat) (x : V) (H1 : Hp), xs[i]? = some x → Ex H H1 → ∃ c, Ev te ((wipe σ vs).set j (some x)) H1 (.str c)) :
    EvP (tCB (rLenS2 X) (tCons (tScS X (iSeq K te0) (gName j) tYes te vs) tNil)) σ H (fun v => ∃ n : Nat, v = .int n ∧ n ≤ xs.length) := fun H1 e1 Q q =>
  e_cbSc (f_seq (h.mono e1) (hq.ex e1) fun H2 e2 D hD => scS_it (walk_seq (xs := xs)) (fun i H' => Ex H1 H' ∧ ∃ ks : List Str, ks.length ≤ i ∧ H' D = some (SetSO X D ks)) ⟨e2.mut (fresh_back e2 hD), [], Nat.le_refl _, upd_same⟩
    (fun i H' _ p => hq.ex (e1.trans p.1)) (fun i x H3 H4 hi p y => by
      obtain ⟨rfl, ex⟩ := y
      obtain ⟨e3, ks, k1, k2⟩ := p
      obtain ⟨c, hc⟩ := he i x _ ex (e1.trans e3)
      refine ⟨hw x, ?_⟩
      simp only [tYes, if_true]
      refine hc _ (Ex.refl _) _ fun H5 e5 => ⟨c, ks, rfl, e5 _ _ k2, by show ks.length + 1 < 4096; omega, (e3.trans e5).mut (fresh_back e2 hD), addS ks c, ?_, upd_same⟩
      have := addS_len ks c
      omega) fun H3 p => by
      obtain ⟨e3, ks, k1, k2⟩ := p
      exact ⟨D, ks, rfl, k2, q _ _ e3 ⟨ks.length, rfl, k1⟩⟩)
def spPlantInit (a : Ad) : Sp := fun vs H Q _ => ∃ (x dx : Addr) (H0 : Hp) (s0 : Int) (l wl bl : Addr) (ts : List Addr) (rows : List Row) (wn bn : List Int), vs = [.ref x, .int s0, .ref l, .ref wl, .ref bl] ∧ H x = some (.ins a.Plant dx []) ∧ H0 x = none ∧ Ex H0 H ∧
  0 ≤ s0 ∧ s0 ≤ 99 ∧ RowsOk rows ∧ H0 l = some (.lst (ts.map V.ref)) ∧ Paired (RowAt H0) ts rows ∧ H0 wl = some (.lst (wn.map V.int)) ∧ H0 bl = some (.lst (bn.map V.int)) ∧ wn.Nodup ∧ bn.Nodup ∧ wn.length ≤ 60 ∧ bn.length ≤ 60 ∧
  (∀ n ∈ wn, 0 ≤ n ∧ n < rows.length) ∧ (∀ n ∈ bn, 0 ≤ n ∧ n < rows.length) ∧ (∀ n ∈ bn, n ∉ wn) ∧ ∀ H2, Ex H0 H2 → PlantAt a H2 x s0 rows → Q .non H2
theorem sc_Plant_init : FnScope ["self", "start", "steps", "wanted", "barred", "rows", "number", "row"] ["self", "start", "steps", "wanted", "barred"] (defScope s_Plant_init) := ⟨rfl, rfl, rfl, by decide +kernel, rfl, by decide +kernel, by decide +kernel⟩
theorem ok_Plant_init {a : Ad} {f : Addr} {fd : FuncData} {dvs : List V} (T : TxC K mg a) (F : FunD K "__init__" "Plant.__init__" (defArgs s_Plant_init) (defBody s_Plant_init) (defScope s_Plant_init) dvs [] f fd)
    (C_is_state : CalP P w K mg base 2 "is_state" spIsState) (C_checked_steps : CalP P w K mg base 4 "checked_steps" spSteps) (C_checked_marks : CalP P w K mg base 3 "checked_marks" spMarks) (C_reached_states : CalP P w K mg base 1 "reached_states" spReached) :
    FnOk P w K mg base L2.CX0 5 f fd ["self", "start", "steps", "wanted", "barred"] (spPlantInit a) := by
  refine fnOk_of F sc_Plant_init (fun vs H Q E h => by obtain ⟨_, _, _, _, _, _, _, _, _, _, _, rfl, _⟩ := h; rfl) fun f cdv A outer s H vs Q E hr h => ?_
  obtain ⟨x, dx, H0, s0, l, wl, bl, ts, rows, wn, bn, rfl, hx, h0, e0, b1, b2, hrows, hl, hts, hwl, hbl, w1, w2, w3, w4, w5, w6, w7, k⟩ := h
  refine ⟨_, (pss_cons (ps_if (pt_not (pt_val (C8.pe_c C_is_state hr (by decide) (by rfl) (pa_cons (pv 1) pa_nil)))) pss_never pss_nil)
        (pss_cons (ps_set (i := 5) sc_Plant_init.nd rfl (Or.inl rfl) (C8.pe_c C_checked_steps hr (by decide) (by rfl) (pa_cons (pv 2) pa_nil)))
        (pss_cons (ps_if (pt_cmpR op_gt (pe_callB cr_lenSS (by rfl) T.f_len boot_len (pa_cons (pe_scS (own := [("row", 7)]) (g := gName 7) (tt := tYes) (by rfl) sc_Plant_init.nd (pi_seq (pv 5)) (blkOk_by (own := [("row", 7)]) (N := ["self", "start", "steps", "wanted", "barred", "rows", "number", "row"]) (sc := defScope s_Plant_init) (by decide +kernel)) (fun _ _ _ _ _ => (pg_name (i := 7) sc_Plant_init.nd rfl (Or.inl rfl))) (fun _ _ _ _ _ => pts_nil) (fun _ _ _ _ _ => (pe_ix (ix_tupK (K' := K) rfl) (pv 7) pe_int (fun _ _ => rfl)))) pa_nil)) (C8.pe_gc (by rfl) T.i_MOST_WORDS) (nomark _)) pss_never pss_nil)
        (pss_cons (ps_fld (pv 0) (C8.pe_c C_checked_marks hr (by decide) (by rfl) (pa_cons (pv 3) (pa_cons (pe_callB call_len_seq (by rfl) T.f_len boot_len (pa_cons (pv 5) pa_nil)) (pa_cons pe_dnewK pa_nil)))) rfl)
        (pss_cons (ps_fld (pv 0) (C8.pe_c C_checked_marks hr (by decide) (by rfl) (pa_cons (pv 4) (pa_cons (pe_callB call_len_seq (by rfl) T.f_len boot_len (pa_cons (pv 5) pa_nil)) (pa_cons (pe_fld (pv 0) rfl) pa_nil)))) rfl)
        (pss_cons (ps_fld (pv 0) (pv 1) rfl)
        (pss_cons (ps_fld (pv 0) (pv 5) rfl)
        (pss_cons (ps_fld (pv 0) pe_dnewK rfl)
        (pss_cons (ps_for PassesOwn.never rfl (pi_enumA (by rfl) T.f_enumerate (pa_cons (pv 5) pa_nil)) (pg_tup rfl (pgs_cons (pg_name (i := 6) sc_Plant_init.nd rfl (Or.inl rfl)) (pgs_cons (pg_name (i := 7) sc_Plant_init.nd rfl (Or.inl rfl)) pgs_nil))) (pss_one (ps_expr (pe_bm PySem.F.plainAttrs_list PySem.F.slot_list_append PySem.F.type_list_append mt_append (pe_dsetd (pe_fld (pv 0) rfl) (pe_ix ix_tup (pv 7) pe_int (fun _ _ => rfl)) (pe_lst pa_nil) ⟨by rfl, by rfl, by rfl, by rfl⟩) (pa_cons (pv 6) pa_nil)))))
        (pss_one (ps_fld (pv 0) (C8.pe_c C_reached_states hr (by decide) (by rfl) (pa_cons (pv 1) (pa_cons (pe_fld (pv 0) rfl) (pa_cons (pv 5) pa_nil)))) rfl))))))))))), ?_⟩
  obtain ⟨n1, n2, nd, hall, h8⟩ := id hrows
  have hlen : ts.length = rows.length := Paired.length hts
  refine q_when (et_not (et_B (ev_call (ea_cons (ev_var rfl) ea_nil) (sv_state b1 b2)))) (fun e => by cases e) fun _ H1 e1 => ?_
  have e01 := e0.trans e1
  refine q_set ⟨_, rfl, l, ts, rows, rfl, hrows, e01 _ _ hl, Paired.mapP hts fun _ _ q => e01 _ _ q, fun r H2 hr2 e2 h2 => ?_⟩
  have e02 := e01.trans e2
  have hts2 : Paired (RowAt H2) ts rows := Paired.mapP hts fun _ _ q => e02 _ _ q
  have hx2 := e2 _ _ (e1 _ _ hx)
  refine q_when (b := false) (fun H3 e3 Q' q' => len_scS (X := w) (k := false) (j := 7) (xs := ts.map V.ref) (ev_var rfl) (sqk_l h2) (by rw [List.length_map]; omega) (fun _ => rfl) (fun i y H4 hy e4 => ?_) H3 e3 _ fun v H4 e4 hv => ?_) (fun e => by cases e) fun _ H3 e3 => ?_
  · rw [List.getElem?_map] at hy
    obtain ⟨t, ht, rfl⟩ := Option.map_eq_some_iff.mp hy
    obtain ⟨row, _, hat⟩ := pair_at hts2 ht
    exact ⟨row.2.1, ev_op (ev_var rfl) ev_c (rv_ixT (st_of (e4 _ _ hat)) rfl)⟩
  · obtain ⟨n, rfl, hn⟩ := hv
    rw [List.length_map] at hn
    refine ⟨_, _, rfl, rfl, _, rfl, ?_⟩
    have : decide ((12 : Int) < (n : Nat)) = false := decide_eq_false (by omega)
    rw [this]
    exact q' _ e4
  have hx3 := e3 _ _ hx2
  have h3 := e3 _ _ h2
  have hrx : r ≠ x := fun e => by rw [e, e1 _ _ hx] at hr2; cases hr2
  have e03 := e02.trans e3
  -- self.wanted_at
  refine ⟨_, rfl, _, rfl, r, _, rfl, .inl (sq_of h3), fun t ht => ?_⟩
  have hl3 : ((ts.map V.ref).length : Int) = (rows.length : Int) := by rw [List.length_map, hlen]
  have e3t : Ex H3 (upd H3 t (.dK [])) := Ex.new ht
  refine ⟨wl, t, wn, ((ts.map V.ref).length : Int), [], rfl, e3t _ _ (e03 _ _ hwl), w1, w3, fun n hn => by rw [hl3]; exact w5 n hn, upd_same, fun _ _ => rfl, fun p H4 kvs hp e4 h4 hk => ?_⟩
  have hx4 := e4 _ _ (e3t _ _ hx3)
  refine ⟨_, rfl, x, a.Plant, dx, _, rfl, hx4, T.c_Plant, T.n_wanted_at, (by decide : (0 : Nat) < 1000), ?_⟩
  dsimp only
  have hpx : p ≠ x := fun e => by rw [e, e3t _ _ hx3] at hp; cases hp
  have x35 : Exx x H3 (upd H4 x (.ins a.Plant dx (putF "wanted_at" (.ref p) []))) := (Exx.of_ex (e3t.trans e4)).upd
  -- self.barred_at
  refine ⟨_, rfl, _, rfl, r, _, rfl, .inl (sq_of (x35 _ _ hrx h3)), _, rfl, x, a.Plant, dx, _, _, rfl, upd_same, T.c_Plant, T.n_wanted_at, rfl, ?_⟩
  have x05 : Exx x H0 (upd H4 x (.ins a.Plant dx (putF "wanted_at" (.ref p) []))) := (Exx.of_ex e03).trans x35
  refine ⟨bl, p, bn, ((ts.map V.ref).length : Int), kvs, rfl, x05 _ _ (ne_new h0 hbl) hbl, w2, w4, fun n hn => by rw [hl3]; exact w6 n hn, by rw [upd_ne hpx]; exact h4, fun n hn => ?_, fun p2 H6 kvs2 hp2 e6 h6 hk2 => ?_⟩
  · cases h : valV kvs (Sum.inl n) with
    | none => rfl
    | some y => exact absurd (hk n (by rw [h]; simp)) (w7 n hn)
  refine ⟨_, rfl, x, a.Plant, dx, _, rfl, e6 _ _ upd_same, T.c_Plant, T.n_barred_at, (by decide : (1 : Nat) < 1000), ?_⟩
  dsimp only
  refine ⟨_, rfl, _, rfl, x, a.Plant, dx, _, rfl, upd_same, T.c_Plant, T.n_first, (by decide : (2 : Nat) < 1000), ?_⟩
  dsimp only
  refine ⟨_, rfl, _, rfl, x, a.Plant, dx, _, rfl, upd_same, T.c_Plant, T.n_rows, (by decide : (3 : Nat) < 1000), ?_⟩
  dsimp only
  rw [upd_upd, upd_upd]
  obtain ⟨fs7, hf7⟩ : ∃ fs, fs = putF "rows" (.ref r) (putF "first" (.int s0) (putF "barred_at" (.ref p2) (putF "wanted_at" (.ref p) []))) := ⟨_, rfl⟩
  rw [← hf7]
  have x37 : Exx x H3 (upd H6 x (.ins a.Plant dx fs7)) := (x35.trans (Exx.of_ex e6)).upd
  obtain ⟨H7, hH7⟩ : ∃ H7, H7 = upd H6 x (.ins a.Plant dx fs7) := ⟨_, rfl⟩
  rw [← hH7] at x37 ⊢
  have hx7 : H7 x = some (.ins a.Plant dx fs7) := by rw [hH7]; exact upd_same
  -- self.leaving = {}
  intro d hd
  have hdx : d ≠ x := fun e => by rw [e, hx7] at hd; cases hd
  refine ⟨_, rfl, x, a.Plant, dx, _, rfl, by rw [upd_ne hdx.symm]; exact hx7, T.c_Plant, T.n_leaving, (by rw [hf7]; exact (by decide : (4 : Nat) < 1000)), ?_⟩
  dsimp only
  have hlv : (putF "leaving" (.ref d) fs7).lookup ("leaving" : Str) = some (.ref d) := by rw [lookup_putF, if_pos rfl]
  have hr7 : H7 r = some (.lst (ts.map V.ref)) := x37 _ _ hrx h3
  have ht7 : ∀ {t row}, RowAt H2 t row → RowAt H7 t row := fun {t row} h => by
    have := e3 _ _ h
    exact x37 _ _ (fun e => by rw [e, hx3] at this; cases this) this
  have hr9 : (upd (upd H7 d (.dK [])) x (.ins a.Plant dx (putF "leaving" (.ref d) fs7))) r = some (.lst (ts.map V.ref)) := by
    rw [upd_ne hrx, upd_ne (ne_new hd hr7)]
    exact hr7
  refine q_forw (J := IteK false K r) (fun R q => f_enum (k := false) (ea_cons (ev_var rfl) ea_nil) (sqk_l hr9) q) (walk_enumK (xs := ts.map V.ref))
    (fun i σ' H' => ∃ u v, σ' = [some (.ref x), some (.int s0), some (.ref l), some (.ref wl), some (.ref bl), some (.ref r), u, v] ∧ Exx x H7 H' ∧ H' x = some (.ins a.Plant dx (putF "leaving" (.ref d) fs7)) ∧
      ∃ ls : List (Int × Addr), H' d = some (.dK (lvK ls)) ∧ ls.length ≤ i ∧ (ls.map (·.1)).Nodup ∧ (ls.map (·.2)).Nodup ∧ (∀ q ∈ ls, H7 q.2 = none ∧ q.2 ≠ d ∧ q.2 ≠ x ∧ H' q.2 = some (.lst (numV (numsTo rows i q.1)))) ∧ ∀ s, s ∉ ls.map (·.1) → numsTo rows i s = []) ?_ ?_ ?_ ?_
  · intro H9 e9
    refine ⟨_, _, rfl, ((Exx.of_ex (Ex.new hd)).upd).trans (Exx.of_ex e9), e9 _ _ upd_same, [], e9 _ _ (by rw [upd_ne hdx, upd_same]; rfl), Nat.le_refl _, List.nodup_nil, List.nodup_nil, fun q hq => (by cases hq), fun s _ => rfl⟩
  · rintro i σ' H' _ ⟨u, v, _, e, _⟩
    exact sqk_l (e _ _ hrx hr7)
  · rintro i y σ' H9 H10 hi ⟨u, v, rfl, x9, hx9, ls, d9, l1, l2, l3, l4, l5⟩ ⟨tt, y1, y2, rfl, hnt, rfl, ey1, ey2⟩
    replace ey2 : (ts.map V.ref)[i]? = some y2 := ey2
    rw [List.length_map] at hi
    rw [List.getElem?_map] at ey2
    obtain ⟨ti, hti, rfl⟩ := Option.map_eq_some_iff.mp ey2
    cases ey1
    obtain ⟨row, hrow, hat⟩ := pair_at hts2 hti
    have hra : rowAt rows i = row := by unfold rowAt; rw [List.getD_eq_getElem?_getD, hrow]; rfl
    have eT : Ex H9 (upd H9 tt (.tup [.int (i : Nat), .ref ti])) := Ex.new hnt
    have hat7 := ht7 hat
    have hat9 : H9 ti = some (.tup [.int row.1, .str row.2.1, .int row.2.2]) := x9 _ _ (fun e => by
      have z : H7 ti = _ := hat7
      rw [e, hx7] at z
      cases z) hat7
    refine ⟨tt, _, rfl, st_of upd_same, rfl, _, _, rfl, _, _, rfl, rfl, ?_⟩
    have htx : tt ≠ x := fun e => by rw [e, hx9] at hnt; cases hnt
    have htd : tt ≠ d := fun e => by rw [e, d9] at hnt; cases hnt
    have eTx := eT _ _ hx9
    have eTd := eT _ _ d9
    refine ⟨_, rfl, x, a.Plant, dx, _, _, rfl, eTx, T.c_Plant, T.n_leaving, hlv, d, rfl, .inl ⟨_, .inl eTd⟩, _, rfl, ti, _, 0, _, rfl, rfl, st_of (eT _ _ hat9), rfl, by decide, fun p hp => ?_⟩
    have e9p : Ex H9 (upd (upd H9 tt (.tup [.int (i : Nat), .ref ti])) p (.lst [])) := eT.trans (Ex.new hp)
    have hdp := e9p _ _ d9
    have hpx9 : p ≠ x := fun e => by rw [e, eTx] at hp; cases hp
    have hpd9 : p ≠ d := fun e => by rw [e, eTd] at hp; cases hp
    have hp9 : H9 p = none := fresh_back eT hp
    have hp7 : H7 p = none := by
      cases h : H7 p with
      | none => rfl
      | some o => have := x9 _ _ hpx9 h; rw [hp9] at this; cases this
    have hlen2 : ls.length ≤ 12 := by omega
    refine ⟨lvK ls, Sum.inl row.1, hdp, rfl, sz_lt (by unfold lvK; rw [List.length_map]; omega), fun v hv => ?_, fun hv => ?_⟩
    · -- the state has a list
      rw [val_lv] at hv
      cases hlk : lk ls row.1 with
      | none => rw [hlk] at hv; cases hv
      | some al =>
        rw [hlk] at hv
        cases hv
        have hmem := lk_mem hlk
        obtain ⟨q1, q2, q3, q4⟩ := l4 _ hmem
        have hal := e9p _ _ q4
        refine ⟨.inl ⟨rfl, _, sq_of hal⟩, _, rfl, al, _, _, rfl, rfl, hal, sz_lt ?_, _, _, rfl, ?_, ?_, ls, ?_, by omega, l2, l3, fun q hq => ?_, fun s hs => ?_⟩
        · have h1 : (numsTo rows i (row.1, al).1).length ≤ i := numsTo_len rows i row.1
          unfold numV
          rw [List.length_map]
          omega
        · intro b o hb h
          rw [upd_ne (ne_new q1 h)]
          exact e9p _ _ (x9 b o hb h)
        · rw [upd_ne q3.symm]
          exact e9p _ _ hx9
        · rw [upd_ne q2.symm]
          exact hdp
        · obtain ⟨r1, r2, r3, r4⟩ := l4 q hq
          refine ⟨r1, r2, r3, ?_⟩
          by_cases hqa : q.2 = al
          · have hq1 : q.1 = row.1 := by
              have i1 : (ls.map (·.2))[ls.idxOf q]? = some al := by
                rw [List.getElem?_map, idx_get hq, ← hqa]
                rfl
              have i2 : (ls.map (·.2))[ls.idxOf (row.1, al)]? = some al := by
                rw [List.getElem?_map, idx_get hmem]
                rfl
              have i3 := (List.getElem?_inj (by rw [List.length_map]; exact List.idxOf_lt_length_of_mem hq) l3).mp (i1.trans i2.symm)
              have i4 : ls[ls.idxOf q]? = some q := idx_get hq
              rw [i3, idx_get hmem] at i4
              have := Option.some.inj i4
              rw [← this]
            rw [hqa, upd_same, numsTo_succ, hra, if_pos hq1.symm, hq1]
            unfold numV
            rw [List.map_append]
            rfl
          · have hq1 : ¬ row.1 = q.1 := fun e => by
              have i1 : (ls.map (·.1))[ls.idxOf q]? = some row.1 := by
                rw [List.getElem?_map, idx_get hq, e]
                rfl
              have i2 : (ls.map (·.1))[ls.idxOf (row.1, al)]? = some row.1 := by
                rw [List.getElem?_map, idx_get hmem]
                rfl
              have i3 := (List.getElem?_inj (by rw [List.length_map]; exact List.idxOf_lt_length_of_mem hq) l2).mp (i1.trans i2.symm)
              have i4 : ls[ls.idxOf q]? = some q := idx_get hq
              have i5 : ls[ls.idxOf q]? = some (row.1, al) := by rw [i3]; exact idx_get hmem
              have i6 : q = (row.1, al) := Option.some.inj (i4.symm.trans i5)
              exact hqa (by rw [i6])
            rw [upd_ne hqa, numsTo_succ, hra, if_neg hq1]
            exact e9p _ _ r4
        · have hne1 : ¬ row.1 = s := fun e => hs (by rw [← e]; exact List.mem_map.mpr ⟨_, hmem, rfl⟩)
          rw [numsTo_succ, hra, if_neg hne1, l5 s hs]
    · -- a new list
      rw [val_lv] at hv
      have hlk : lk ls row.1 = none := by
        cases h : lk ls row.1 with
        | none => rfl
        | some _ => rw [h] at hv; cases hv
      have hnin := lk_none hlk
      have hnew : valV (lvK ls) (Sum.inl row.1) = none := by rw [val_lv, hlk]; rfl
      have hp10 : (upd (upd (upd H9 tt (.tup [.int (i : Nat), .ref ti])) p (.lst [])) d (.dK (putK (lvK ls) (Sum.inl row.1) (.ref p)))) p = some (.lst []) := by rw [upd_ne hpd9, upd_same]
      refine ⟨.inl ⟨rfl, _, sq_of hp10⟩, _, rfl, p, _, _, rfl, rfl, hp10, by decide, _, _, rfl, ?_, ?_, ls ++ [(row.1, p)], ?_, by rw [List.length_append]; simp; omega, ?_, ?_, fun q hq => ?_, fun s hs => ?_⟩
      · intro b o hb h
        rw [upd_ne (ne_new hp7 h), upd_ne (ne_new hd h)]
        exact e9p _ _ (x9 b o hb h)
      · rw [upd_ne hpx9.symm, upd_ne hdx.symm]
        exact e9p _ _ hx9
      · rw [upd_ne hpd9.symm, upd_same, putK_new _ hnew]
        unfold lvK
        rw [List.map_append]
        rfl
      · rw [List.map_append, List.nodup_append]
        refine ⟨l2, by simp, fun b hb c hc e => hnin ?_⟩
        rw [List.map_cons, List.map_nil, List.mem_singleton] at hc
        rw [e, hc] at hb
        exact hb
      · rw [List.map_append, List.nodup_append]
        refine ⟨l3, by simp, fun b hb c hc e => ?_⟩
        rw [List.map_cons, List.map_nil, List.mem_singleton] at hc
        obtain ⟨q, hq, e2⟩ := List.mem_map.mp hb
        have := (l4 q hq).2.2.2
        rw [e2, e, hc, hp9] at this
        cases this
      · rcases List.mem_append.mp hq with hq | hq
        · obtain ⟨r1, r2, r3, r4⟩ := l4 q hq
          have hqp : q.2 ≠ p := fun e => by rw [e, hp9] at r4; cases r4
          have hq1 : ¬ row.1 = q.1 := fun e => hnin (e ▸ List.mem_map.mpr ⟨q, hq, rfl⟩)
          refine ⟨r1, r2, r3, ?_⟩
          rw [upd_ne hqp, upd_ne r2, numsTo_succ, hra, if_neg hq1]
          exact e9p _ _ r4
        · rw [List.mem_singleton] at hq
          rw [hq]
          refine ⟨hp7, hpd9, hpx9, ?_⟩
          show _ = some (HO.lst (numV (numsTo rows (i + 1) row.1)))
          rw [upd_same, numsTo_succ, hra, if_pos rfl, l5 _ hnin]
          rfl
      · rw [List.map_append, List.mem_append, not_or] at hs
        have h1 : ¬ row.1 = s := fun e => hs.2 (by rw [e]; simp)
        rw [numsTo_succ, hra, if_neg h1, l5 s hs.1]
  · rintro σ' H9 ⟨u, v, rfl, x9, hx9, ls, d9, l1, l2, l3, l4, l5⟩
    rw [List.length_map, hlen] at l4 l5
    have hr9' : H9 r = some (.lst (ts.map V.ref)) := x9 _ _ hrx hr7
    have ht9 : ∀ {t row}, RowAt H2 t row → H9 t = some (.tup [.int row.1, .str row.2.1, .int row.2.2]) := fun {t row} h => by
      have z : H7 t = some (.tup [.int row.1, .str row.2.1, .int row.2.2]) := ht7 h
      exact x9 _ _ (fun e => by rw [e, hx7] at z; cases z) z
    have hleav : LeavAt H9 d rows := ⟨ls, d9, fun q hq => (l4 q hq).2.2.2, l5⟩
    have hrowsAt : RowsAt H9 r rows := ⟨ts, hr9', Paired.mapP hts2 fun _ _ h => ht9 h⟩
    refine ⟨_, rfl, _, rfl, x, a.Plant, dx, _, _, rfl, hx9, T.c_Plant, T.n_leaving, hlv, _, rfl, ?_⟩
    refine ⟨s0, d, r, rows, rfl, hleav, hrowsAt, n2, fun q H10 hq e10 => ⟨_, rfl, x, a.Plant, dx, _, rfl, e10 _ _ hx9, T.c_Plant, T.n_reached, (by rw [hf7]; exact (by decide : (5 : Nat) < 1000)), ?_⟩⟩
    have hne : ∀ {b : Addr} {o : HO}, H9 b = some o → (∀ C dx fs, o ≠ .ins C dx fs) → b ≠ x := fun h hn e => by
      rw [e, hx9] at h
      cases h
      exact hn _ _ _ rfl
    refine k _ ?_ ⟨dx, _, r, d, upd_same, by rw [hf7]; rfl, by rw [hf7]; rfl, by rw [hf7]; rfl, ⟨ts, ?_, Paired.mapP hts2 fun t row h => ?_⟩, ls, ?_, fun q hq => ?_, l5⟩
    · refine Exx.ex (x := x) (Exx.upd ((Exx.of_ex e03).trans (x37.trans (x9.trans (Exx.of_ex e10))))) h0
    · rw [upd_ne hrx]
      exact e10 _ _ hr9'
    · have z := e10 _ _ (ht9 h)
      show upd H10 x _ t = _
      rw [upd_ne (hne (ht9 h) fun _ _ _ e => by cases e)]
      exact z
    · rw [upd_ne hdx]
      exact e10 _ _ d9
    · have z := (l4 q hq).2.2.2
      rw [upd_ne ((l4 q hq).2.2.1)]
      exact e10 _ _ z
end
end K28
end

section
set_option Elab.async false
set_option maxRecDepth 100000
set_option maxHeartbeats 4000000
namespace K28
open PySem PySem.Spec PyProof.Rows L2 Evl
abbrev Pls : Type := List (Option Int)
def heldAll (ps : List Part) (pls : Pls) (z : Str) : Bool := (ps.zip pls).any fun q => heldP q.1 q.2 z
def afterAll (ps : List Part) (pls : Pls) (z : Str) : Pls := (ps.zip pls).map fun q => afterP q.1 q.2 z
def zeros (ps : List Part) : Pls := ps.map fun _ => some 0
theorem zeros_len (ps : List Part) : (zeros ps).length = ps.length := List.length_map _
theorem after_len {ps : List Part} {pls : Pls} (h : ps.length = pls.length) (z : Str) : (afterAll ps pls z).length = ps.length := by
  unfold afterAll
  rw [List.length_map, List.length_zip, ← h, Nat.min_self]
def PlsOk (ps : List Part) (pls : Pls) : Prop := ps.length = pls.length ∧ ∀ q ∈ ps.zip pls, PlOk q.1 q.2
def PartsOk (ps : List Part) : Prop := 1 ≤ ps.length ∧ ps.length ≤ 3 ∧ ∀ p ∈ ps, PartOk p
theorem zip_map_self {α β : Type} (f : α → β → β) : ∀ {l : List α} {m : List β}, ∀ q ∈ l.zip ((l.zip m).map fun q => f q.1 q.2), ∃ r ∈ l.zip m, q.1 = r.1 ∧ q.2 = f r.1 r.2
  | [], _, q, h => by simp at h
  | _ :: _, [], q, h => by simp at h
  | a :: l, b :: m, q, h => by
    simp only [List.zip_cons_cons, List.map_cons, List.mem_cons] at h
    rcases h with h | h
    · exact ⟨(a, b), by simp, by rw [h], by rw [h]⟩
    · obtain ⟨r, h1, h2⟩ := zip_map_self f q h
      exact ⟨r, by simp [h1], h2⟩
theorem pls_after {ps : List Part} (ok : PartsOk ps) {pls : Pls} (h : PlsOk ps pls) (z : Str) : PlsOk ps (afterAll ps pls z) := by
  refine ⟨(after_len h.1 z).symm, fun q hq => ?_⟩
  obtain ⟨r, h1, h2, h3⟩ := zip_map_self (fun p pl => afterP p pl z) q hq
  rw [h2, h3]
  exact after_ok (ok.2.2 _ (List.of_mem_zip h1).1) (h.2 r h1) z
theorem pls_zeros {ps : List Part} (ok : PartsOk ps) : PlsOk ps (zeros ps) := by
  refine ⟨(zeros_len ps).symm, fun q hq i e => ?_⟩
  obtain ⟨h1, h2⟩ := List.of_mem_zip hq
  unfold zeros at h2
  obtain ⟨_, _, e2⟩ := List.mem_map.mp h2
  rw [← e2] at e
  cases e
  have := (ok.2.2 _ h1).2.2.2.1
  exact ⟨Int.le_refl _, by omega⟩
/-! ### runs -/
def stS (rows : List Row) (s0 : Int) (run : List Nat) : Int := run.foldl (fun _ k => (rowAt rows k).2.2) s0
def plS (rows : List Row) (ps : List Part) (run : List Nat) : Pls := run.foldl (fun pl k => afterAll ps pl (rowAt rows k).2.1) (zeros ps)
theorem stS_snoc (rows : List Row) (s0 : Int) (run : List Nat) (k : Nat) : stS rows s0 (run ++ [k]) = (rowAt rows k).2.2 := by
  unfold stS
  rw [List.foldl_append]
  rfl
theorem plS_snoc (rows : List Row) (ps : List Part) (run : List Nat) (k : Nat) : plS rows ps (run ++ [k]) = afterAll ps (plS rows ps run) (rowAt rows k).2.1 := by
  unfold plS
  rw [List.foldl_append]
  rfl
theorem list_snoc {α : Type} (P : List α → Prop) (h0 : P []) (h1 : ∀ l x, P l → P (l ++ [x])) : ∀ l, P l := by
  intro l
  have key : ∀ n, ∀ l : List α, l.length = n → P l := by
    intro n
    induction n with
    | zero =>
      intro l h
      rw [List.length_eq_zero_iff.mp h]
      exact h0
    | succ n ih =>
      intro l h
      have hne : l ≠ [] := fun e => by rw [e] at h; cases h
      rw [← List.dropLast_concat_getLast hne]
      exact h1 _ _ (ih _ (by rw [List.length_dropLast]; omega))
  exact key _ l rfl
theorem pls_run {ps : List Part} (ok : PartsOk ps) (rows : List Row) (run : List Nat) : PlsOk ps (plS rows ps run) :=
  list_snoc (fun run => PlsOk ps (plS rows ps run)) (pls_zeros ok) (fun l x h => by rw [plS_snoc]; exact pls_after ok h _) run
/-- a run of the plant that each guard lets -/
def Valid (rows : List Row) (ps : List Part) (s0 : Int) (run : List Nat) : Prop :=
  ∀ i k, run[i]? = some k → k < rows.length ∧ (rowAt rows k).1 = stS rows s0 (run.take i) ∧ heldAll ps (plS rows ps (run.take i)) (rowAt rows k).2.1 = false
theorem valid_snoc {rows : List Row} {ps : List Part} {s0 : Int} {run : List Nat} {k : Nat} (h : Valid rows ps s0 run) (h1 : k < rows.length) (h2 : (rowAt rows k).1 = stS rows s0 run) (h3 : heldAll ps (plS rows ps run) (rowAt rows k).2.1 = false) : Valid rows ps s0 (run ++ [k]) := by
  intro i k' e
  by_cases hi : i < run.length
  · rw [List.getElem?_append_left hi] at e
    rw [List.take_append_of_le_length (Nat.le_of_lt hi)]
    exact h i k' e
  · have hi2 : i = run.length := by
      have := (List.getElem?_eq_some_iff.mp e).1
      rw [List.length_append, List.length_singleton] at this
      omega
    subst hi2
    rw [List.getElem?_append_right (Nat.le_refl _), Nat.sub_self] at e
    cases e
    rw [List.take_append_of_le_length (Nat.le_refl _), List.take_length]
    exact ⟨h1, h2, h3⟩
end K28
end

section
set_option Elab.async false
set_option maxRecDepth 100000
set_option maxHeartbeats 4000000
namespace K28
open PySem PySem.Spec PyProof.Rows L2 Evl
structure Node where
  st : Int
  pl : Pls
  run : List Nat
def nkey (n : Node) : Int × Pls := (n.st, n.pl)
def nxt (rows : List Row) (ps : List Part) (n : Node) (k : Nat) : Node := ⟨(rowAt rows k).2.2, afterAll ps n.pl (rowAt rows k).2.1, n.run ++ [k]⟩
def step1 (rows : List Row) (ps : List Part) (n : Node) (acc : List Node) (k : Nat) : List Node :=
  if (rowAt rows k).1 = n.st ∧ heldAll ps n.pl (rowAt rows k).2.1 = false ∧ nkey (nxt rows ps n k) ∉ acc.map nkey then acc ++ [nxt rows ps n k] else acc
def expand (rows : List Row) (ps : List Part) (n : Node) (acc : List Node) : List Node := (List.range rows.length).foldl (step1 rows ps n) acc
def start0 (ps : List Part) (s0 : Int) : Node := ⟨s0, zeros ps, []⟩
def qs (rows : List Row) (ps : List Part) (s0 : Int) : Nat → List Node
  | 0 => [start0 ps s0]
  | i + 1 => match (qs rows ps s0 i)[i]? with
    | some n => expand rows ps n (qs rows ps s0 i)
    | none => qs rows ps s0 i
/-- what stays true of the queue -/
structure QOk (rows : List Row) (ps : List Part) (s0 : Int) (m : Nat) (q : List Node) : Prop where
  good : ∀ n ∈ q, n.st = stS rows s0 n.run ∧ n.pl = plS rows ps n.run ∧ Valid rows ps s0 n.run ∧ n.run.length ≤ m
  keys : (q.map nkey).Nodup
theorem step1_ok {rows : List Row} {ps : List Part} {s0 : Int} {m : Nat} {q : List Node} {n : Node} {k : Nat} (hq : QOk rows ps s0 (m + 1) q) (hn : n.st = stS rows s0 n.run ∧ n.pl = plS rows ps n.run ∧ Valid rows ps s0 n.run ∧ n.run.length ≤ m) (hk : k < rows.length) : QOk rows ps s0 (m + 1) (step1 rows ps n q k) := by
  unfold step1
  split
  · rename_i h
    obtain ⟨h1, h2, h3⟩ := h
    refine ⟨fun x hx => ?_, ?_⟩
    · rcases List.mem_append.mp hx with hx | hx
      · exact hq.good x hx
      · rw [List.mem_singleton] at hx
        rw [hx]
        refine ⟨?_, ?_, valid_snoc hn.2.2.1 hk (h1.trans hn.1) (by rw [← hn.2.1]; exact h2), ?_⟩
        · show _ = stS rows s0 (n.run ++ [k])
          rw [stS_snoc]
          rfl
        · show _ = plS rows ps (n.run ++ [k])
          rw [plS_snoc, ← hn.2.1]
          rfl
        · show (n.run ++ [k]).length ≤ _
          rw [List.length_append]
          have := hn.2.2.2
          simp only [List.length_cons, List.length_nil]
          omega
    · rw [List.map_append, List.nodup_append]
      refine ⟨hq.keys, by simp, fun a ha b hb e => h3 ?_⟩
      rw [List.map_cons, List.map_nil, List.mem_singleton] at hb
      rw [e, hb] at ha
      exact ha
  · exact hq
theorem fold_qok {rows : List Row} {ps : List Part} {s0 : Int} {m : Nat} {n : Node} (hn : n.st = stS rows s0 n.run ∧ n.pl = plS rows ps n.run ∧ Valid rows ps s0 n.run ∧ n.run.length ≤ m) : ∀ (l : List Nat) (q : List Node), (∀ k ∈ l, k < rows.length) → QOk rows ps s0 (m + 1) q → QOk rows ps s0 (m + 1) (l.foldl (step1 rows ps n) q)
  | [], _, _, h => h
  | k :: l, q, hl, h => fold_qok hn l _ (fun x hx => hl x (List.mem_cons_of_mem _ hx)) (step1_ok h hn (hl k List.mem_cons_self))
theorem qs_ok (rows : List Row) (ps : List Part) (s0 : Int) : ∀ i, QOk rows ps s0 i (qs rows ps s0 i)
  | 0 => ⟨fun n hn => by
      rw [show qs rows ps s0 0 = [start0 ps s0] from rfl, List.mem_singleton] at hn
      rw [hn]
      exact ⟨rfl, rfl, fun i k e => by simp [start0] at e, Nat.le_refl _⟩, by simp [qs]⟩
  | i + 1 => by
    have ih := qs_ok rows ps s0 i
    have up : QOk rows ps s0 (i + 1) (qs rows ps s0 i) := ⟨fun n hn => let ⟨a, b, c, d⟩ := ih.good n hn; ⟨a, b, c, Nat.le_succ_of_le d⟩, ih.keys⟩
    show QOk rows ps s0 (i + 1) (match (qs rows ps s0 i)[i]? with | some n => expand rows ps n (qs rows ps s0 i) | none => qs rows ps s0 i)
    split
    · rename_i n hn
      exact fold_qok (ih.good n (List.mem_of_getElem? hn)) _ _ (fun k hk => List.mem_range.mp hk) up
    · exact up
/-! ### a bound -/
def allPls : List Part → List Pls
  | [] => [[]]
  | p :: ps => (allPls ps).flatMap fun r => (none :: r) :: (List.range p.held.length).map fun i => some ((i : Nat) : Int) :: r
theorem allPls_len : ∀ (ps : List Part), (∀ p ∈ ps, p.held.length ≤ 3) → (allPls ps).length ≤ 4 ^ ps.length
  | [], _ => by simp [allPls]
  | p :: ps, h => by
    have ih := allPls_len ps fun x hx => h x (List.mem_cons_of_mem _ hx)
    have hp := h p List.mem_cons_self
    have key : ∀ l : List Pls, (l.flatMap fun r => (none :: r) :: (List.range p.held.length).map fun i => some ((i : Nat) : Int) :: r).length ≤ 4 * l.length := by
      intro l
      induction l with
      | nil => simp
      | cons r l ih2 =>
        rw [List.flatMap_cons, List.length_append, List.length_cons, List.length_map, List.length_range, List.length_cons]
        omega
    have := key (allPls ps)
    show ((allPls ps).flatMap _).length ≤ _
    rw [List.length_cons, Nat.pow_succ]
    omega
theorem allPls_mem : ∀ {ps : List Part} {pls : Pls}, PlsOk ps pls → pls ∈ allPls ps
  | [], [], _ => by simp [allPls]
  | [], _ :: _, h => by have := h.1; simp at this
  | _ :: _, [], h => by have := h.1; simp at this
  | p :: ps, pl :: pls, h => by
    have ih : pls ∈ allPls ps := allPls_mem ⟨by have := h.1; simpa using this, fun q hq => h.2 q (by rw [List.zip_cons_cons]; exact List.mem_cons_of_mem _ hq)⟩
    have hp := h.2 (p, pl) (by rw [List.zip_cons_cons]; exact List.mem_cons_self)
    show pl :: pls ∈ (allPls ps).flatMap _
    rw [List.mem_flatMap]
    refine ⟨pls, ih, ?_⟩
    cases pl with
    | none => exact List.mem_cons_self
    | some i =>
      obtain ⟨i0, i1⟩ := hp i rfl
      refine List.mem_cons_of_mem _ (List.mem_map.mpr ⟨i.toNat, List.mem_range.mpr ?_, ?_⟩)
      · have h2 : i < (p.held.length : Int) := i1
        omega
      · rw [Int.toNat_of_nonneg i0]
def allKeys (rows : List Row) (ps : List Part) (s0 : Int) : List (Int × Pls) := (s0 :: rows.map (·.2.2)).flatMap fun s => (allPls ps).map fun pl => (s, pl)
theorem allKeys_len {rows : List Row} {ps : List Part} {s0 : Int} (hr : rows.length ≤ 12) (ok : PartsOk ps) : (allKeys rows ps s0).length ≤ 832 := by
  have h1 : (allPls ps).length ≤ 64 := by
    refine Nat.le_trans (allPls_len ps fun p hp => (ok.2.2 p hp).2.2.2.2.1) ?_
    have h3 := ok.2.1
    exact Nat.le_trans (Nat.pow_le_pow_right (by decide) h3) (by decide)
  have key : ∀ l : List Int, (l.flatMap fun s => (allPls ps).map fun pl => (s, pl)).length ≤ l.length * 64 := by
    intro l
    induction l with
    | nil => simp
    | cons s l ih =>
      rw [List.flatMap_cons, List.length_append, List.length_map, List.length_cons]
      omega
  refine Nat.le_trans (key _) ?_
  rw [List.length_cons, List.length_map]
  omega
theorem stS_mem {rows : List Row} {ps : List Part} {s0 : Int} : ∀ {run : List Nat}, Valid rows ps s0 run → stS rows s0 run ∈ s0 :: rows.map (·.2.2) := by
  intro run
  refine list_snoc (fun run => Valid rows ps s0 run → stS rows s0 run ∈ s0 :: rows.map (·.2.2)) (fun _ => List.mem_cons_self) (fun l x _ hv => ?_) run
  rw [stS_snoc]
  have hx := (hv l.length x (by simp)).1
  refine List.mem_cons_of_mem _ (List.mem_map.mpr ⟨rowAt rows x, ?_, rfl⟩)
  unfold rowAt
  rw [List.getD_eq_getElem?_getD, List.getElem?_eq_getElem hx]
  exact List.getElem_mem hx
theorem QOk.len {rows : List Row} {ps : List Part} {s0 : Int} {m : Nat} {q : List Node} (h : QOk rows ps s0 m q) (hr : rows.length ≤ 12) (ok : PartsOk ps) : q.length ≤ 832 := by
  have h1 := nodup_len (q.map nkey) (allKeys rows ps s0) h.keys fun x hx => by
    obtain ⟨n, hn, e⟩ := List.mem_map.mp hx
    obtain ⟨a, b, c, _⟩ := h.good n hn
    rw [← e]
    unfold allKeys
    rw [List.mem_flatMap]
    refine ⟨n.st, by rw [a]; exact stS_mem c, List.mem_map.mpr ⟨n.pl, allPls_mem (by rw [b]; exact pls_run ok rows n.run), rfl⟩⟩
  rw [List.length_map] at h1
  exact Nat.le_trans h1 (allKeys_len hr ok)
/-! ### the end of the search -/
theorem qs_stop {rows : List Row} {ps : List Part} {s0 : Int} {i : Nat} (h : (qs rows ps s0 i).length ≤ i) : ∀ j, i ≤ j → qs rows ps s0 j = qs rows ps s0 i := by
  intro j hj
  induction j with
  | zero =>
    have : i = 0 := by omega
    rw [this]
  | succ j ih =>
    by_cases e : i = j + 1
    · rw [e]
    · have h2 := ih (by omega)
      show (match (qs rows ps s0 j)[j]? with | some n => expand rows ps n (qs rows ps s0 j) | none => qs rows ps s0 j) = _
      rw [h2, List.getElem?_eq_none (by omega)]
def met (rows : List Row) (ps : List Part) (s0 : Int) : List Node := qs rows ps s0 833
theorem met_of {rows : List Row} {ps : List Part} {s0 : Int} (hr : rows.length ≤ 12) (ok : PartsOk ps) {i : Nat} (h : (qs rows ps s0 i).length ≤ i) (hi : i ≤ 833) : met rows ps s0 = qs rows ps s0 i := qs_stop h 833 hi
theorem foldl_filter' {α β : Type} (f : β → α → β) (p : α → Bool) (h : ∀ b x, p x = false → f b x = b) : ∀ (l : List α) (b : β), (l.filter p).foldl f b = l.foldl f b
  | [], _ => rfl
  | x :: l, b => by
    rw [List.filter_cons]
    cases hx : p x with
    | true =>
      rw [if_pos rfl, List.foldl_cons, List.foldl_cons]
      exact foldl_filter' f p h l _
    | false =>
      rw [if_neg Bool.false_ne_true, List.foldl_cons, h b x hx]
      exact foldl_filter' f p h l b
theorem expand_nums (rows : List Row) (ps : List Part) (n : Node) (acc : List Node) : (nums rows n.st).foldl (step1 rows ps n) acc = expand rows ps n acc :=
  foldl_filter' _ _ (fun b x hx => by
    unfold step1
    have h1 : ¬ (rowAt rows x).1 = n.st := of_decide_eq_false hx
    rw [if_neg (fun h => h1 h.1)]) _ _
/-- what is due -/
def due (rows : List Row) (ps : List Part) (s0 : Int) (k : Nat) : Option (List Nat) :=
  ((met rows ps s0).find? fun n => decide (n.st = (rowAt rows k).1) && !heldAll ps n.pl (rowAt rows k).2.1).map fun n => n.run ++ [k]
theorem due_valid {rows : List Row} {ps : List Part} {s0 : Int} {k : Nat} (hk : k < rows.length) {run : List Nat} (h : due rows ps s0 k = some run) : Valid rows ps s0 run ∧ run.length ≤ 834 := by
  unfold due at h
  obtain ⟨n, h1, rfl⟩ := Option.map_eq_some_iff.mp h
  have hm := List.mem_of_find?_eq_some h1
  have hp := List.find?_some h1
  rw [Bool.and_eq_true, decide_eq_true_eq, Bool.not_eq_true'] at hp
  obtain ⟨a, b, c, d⟩ := (qs_ok rows ps s0 833).good n hm
  refine ⟨valid_snoc c hk (by rw [← hp.1, a]) (by rw [← b]; exact hp.2), ?_⟩
  rw [List.length_append]
  simp only [List.length_cons, List.length_nil]
  omega
end K28
end

section
set_option Elab.async false
set_option maxRecDepth 100000
set_option maxHeartbeats 4000000
namespace K28
open PySem PySem.Spec PyProof.Rows L2 Evl
def GsAt (P : Program) (w : World) (a : Ad) (H : Hp) (gl : Addr) (k : Bool) (ps : List Part) : Prop := ∃ gs : List Addr, H gl = some (if k then .tup (gs.map V.ref) else .lst (gs.map V.ref)) ∧ Paired (GuardAt P w a H) gs ps
theorem GsAt.ex {P : Program} {w : World} {a : Ad} {H H' : Hp} {gl : Addr} {k : Bool} {ps : List Part} (e : Ex H H') (h : GsAt P w a H gl k ps) : GsAt P w a H' gl k ps := let ⟨gs, h1, h2⟩ := h; ⟨gs, e _ _ h1, Paired.mapP h2 fun _ _ q => q.ex e⟩
theorem sqk_if {K : PySem.W.Frag} {H : Hp} {a : Addr} {k : Bool} {xs : List V} (h : H a = some (if k then .tup xs else .lst xs)) : SqK k K H a xs := by
  cases k
  · exact sqk_l h
  · exact sqk_t h
section
variable {P : Program} {w : World} {K : PySem.W.Frag} {mg : Str → Option Value} {base : Heap}
def spCheckG (P : Program) (w : World) (a : Ad) : Sp := fun vs H Q _ => ∃ gl k ps, vs = [.ref gl] ∧ GsAt P w a H gl k ps ∧ PartsOk ps ∧ RetV .non H Q
theorem sc_check_guards : FnScope ["guards", "at", "guard"] ["guards"] (defScope s_check_guards) := ⟨rfl, rfl, rfl, by decide +kernel, rfl, by decide +kernel, by decide +kernel⟩
theorem ok_check_guards {a : Ad} (T : TxC K mg a) (D : Dfn K mg "check_guards" s_check_guards) (C_is_row : CalP P w K mg base 1 "is_row" (spIsRow K)) : CalP P w K mg base 2 "check_guards" (spCheckG P w a) := by
  refine cal_of D sc_check_guards (fun _ _ _ _ _ _ us hl => match us, hl with | [_], _ => rfl) (fun vs H Q E h => by obtain ⟨_, _, _, rfl, _⟩ := h; rfl) fun f cdv A outer s H vs Q E hr h => ?_
  obtain ⟨gl, j, ps, rfl, ⟨gs, g1, g2⟩, ⟨n1, n3, _⟩, k⟩ := h
  refine ⟨_, (pss_cons (ps_if (PW.pt (pw_or (pt_not (pt_val (C8.pe_c C_is_row hr (by decide) (by rfl) (pa_cons (pv 0) pa_nil)))) (pw_or1 (pt_not (pt_chain op_le op_le pe_int (pe_callB call_len_seq (by rfl) T.f_len boot_len (pa_cons (pv 0) pa_nil)) (C8.pe_gc (by rfl) T.i_MOST_GUARDS)))))) pss_never pss_nil)
        (pss_one (ps_for PassesOwn.never rfl (pi_enumA (by rfl) T.f_enumerate (pa_cons (pv 0) pa_nil)) (pg_tup rfl (pgs_cons (pg_name (i := 1) sc_check_guards.nd rfl (Or.inl rfl)) (pgs_cons (pg_name (i := 2) sc_check_guards.nd rfl (Or.inl rfl)) pgs_nil))) (pss_one (ps_if (pt_not (pt_val (pe_callB (C8.call_isC T.is_Guard) (by rfl) T.f_isinstance boot_isinstance (pa_cons (pv 2) (pa_cons (pe_glob (v := .ref a.Guard) (by rfl) T.g_Guard rfl) pa_nil))))) pss_never pss_nil))))), ?_⟩
  have hlen : gs.length = ps.length := Paired.length g2
  refine q_when (et_or (et_not (et_B (ev_call (ea_cons (ev_var rfl) ea_nil) (sv_row (k := j) g1)))) fun _ => et_not (et_chain ev_c (ev_lenK (ev_var rfl) (sqk_if g1)) rv_I0 ev_c rv_I0)) (fun e => ?_) fun _ H1 e1 => ?_
  · have h1 : (1 : Int) ≤ ((gs.map V.ref).length : Int) := by rw [List.length_map]; omega
    have h2 : ((gs.map V.ref).length : Int) ≤ 3 := by rw [List.length_map]; omega
    rw [decide_eq_true h1, decide_eq_true h2] at e
    cases e
  refine s_forw (J := IteK j K gl) (fun R q => f_enum (ea_cons (ev_var rfl) ea_nil) (sqk_if (e1 _ _ g1)) q) (walk_enumK (xs := gs.map V.ref)) (fun i σ' H' => ∃ u v, σ' = [some (.ref gl), u, v] ∧ Ex H H') ?_ ?_ ?_ ?_
  · exact fun H2 e2 => ⟨_, _, rfl, e1.trans e2⟩
  · rintro i σ' H' _ ⟨u, v, _, e⟩
    exact sqk_if (e _ _ g1)
  · rintro i y σ' H3 H4 hi ⟨u, v, rfl, e3⟩ ⟨tt, y1, y2, rfl, hnt, rfl, ey1, ey2⟩
    replace ey2 : (gs.map V.ref)[i]? = some y2 := ey2
    rw [List.getElem?_map] at ey2
    obtain ⟨g, hg, rfl⟩ := Option.map_eq_some_iff.mp ey2
    obtain ⟨p, _, dx, o, l, r, q1, _⟩ := pair_at g2 hg
    have e4 : Ex H (upd H3 tt (.tup [y1, .ref g])) := e3.trans (Ex.new hnt)
    refine ⟨tt, _, rfl, st_of upd_same, rfl, _, _, rfl, _, _, rfl, rfl, ?_⟩
    exact s_when (et_not (et_B (ev_isC (ev_var rfl) ev_c (e4 _ _ q1)))) (fun e => by cases e) fun _ H5 e5 => ⟨_, _, rfl, e4.trans e5⟩
  · rintro σ' H3 ⟨u, v, rfl, e3⟩
    exact k H3 e3
def spHeldA (P : Program) (w : World) (a : Ad) : Sp := fun vs H Q _ => ∃ gl k nl z ps pls, vs = [.ref gl, .ref nl, .str z] ∧ GsAt P w a H gl k ps ∧ H nl = some (.tup (pls.map plV)) ∧ PlsOk ps pls ∧ RetV (.bl (heldAll ps pls z)) H Q
theorem sv_heldA {a : Ad} {H : Hp} {gl nl : Addr} {k : Bool} {z : Str} {ps : List Part} {pls : Pls} (h : GsAt P w a H gl k ps) (hn : H nl = some (.tup (pls.map plV))) (ok : PlsOk ps pls) : SpV (spHeldA P w a) [.ref gl, .ref nl, .str z] H (.bl (heldAll ps pls z)) :=
  fun _ e _ q _ => ⟨gl, k, nl, z, ps, pls, rfl, h.ex e, e _ _ hn, ok, q⟩
theorem zip_at {ps : List Part} {pls : Pls} {gs : List Addr} {a : Ad} {H : Hp} (h1 : Paired (GuardAt P w a H) gs ps) (hl : ps.length = pls.length) {i : Nat} {g : Addr} {v : V} (hg : gs[i]? = some g) (hv : (pls.map plV)[i]? = some v) :
    ∃ p pl, (ps.zip pls)[i]? = some (p, pl) ∧ v = plV pl ∧ GuardAt P w a H g p := by
  obtain ⟨p, hp, ga⟩ := pair_at h1 hg
  rw [List.getElem?_map] at hv
  obtain ⟨pl, hpl, rfl⟩ := Option.map_eq_some_iff.mp hv
  exact ⟨p, pl, by rw [List.getElem?_zip_eq_some]; exact ⟨hp, hpl⟩, rfl, ga⟩
theorem sc_is_held : FnScope ["guards", "nodes", "word", "guard", "node"] ["guards", "nodes", "word"] (defScope s_is_held) := ⟨rfl, rfl, rfl, by decide +kernel, rfl, by decide +kernel, by decide +kernel⟩
theorem ok_is_held {a : Ad} (T : TxC K mg a) (D : Dfn K mg "is_held" s_is_held) (C_holding : CalP P w K mg base 1 "holding" (spHolding P w a)) : CalP P w K mg base 2 "is_held" (spHeldA P w a) := by
  refine cal_of D sc_is_held (fun _ _ _ _ _ _ us hl => match us, hl with | [_, _, _], _ => rfl) (fun vs H Q E h => by obtain ⟨_, _, _, _, _, _, rfl, _⟩ := h; rfl) fun f cdv A outer s H vs Q E hr h => ?_
  obtain ⟨gl, j, nl, z, ps, pls, rfl, ⟨gs, g1, g2⟩, hn, ⟨hl, ok⟩, k⟩ := h
  refine ⟨_, (pss_cons (ps_for PassesOwn.never rfl (pi_zipM (by rfl) T.f_zip (pa_cons (pv 0) (pa_cons (pv 1) pa_nil))) (pg_tup rfl (pgs_cons (pg_name (i := 3) sc_is_held.nd rfl (Or.inl rfl)) (pgs_cons (pg_name (i := 4) sc_is_held.nd rfl (Or.inl rfl)) pgs_nil))) (pss_one (ps_if (pt_val (C8.pe_c C_holding hr (by decide) (by rfl) (pa_cons (pv 3) (pa_cons (pv 4) (pa_cons (pv 2) pa_nil))))) (pss_one (ps_ret pe_bl)) pss_nil)))
        (pss_one (ps_ret pe_bl))), ?_⟩
  have hlen : gs.length = ps.length := Paired.length g2
  refine q_forw (J := ItzK j true K gl nl) (fun R q => f_zip (ea_cons (ev_var rfl) (ea_cons (ev_var rfl) ea_nil)) (sqk_if g1) (sqk_t hn) q) (walk_zipK (xs := gs.map V.ref) (ys := pls.map plV) (by rw [List.length_map, List.length_map]; omega))
    (fun i σ' H' => ∃ u v, σ' = [some (.ref gl), some (.ref nl), some (.str z), u, v] ∧ Ex H H' ∧ ((ps.zip pls).take i).any (fun q => heldP q.1 q.2 z) = false) ?_ ?_ ?_ ?_
  · exact fun H2 e2 => ⟨_, _, rfl, e2, rfl⟩
  · rintro i σ' H' _ ⟨u, v, _, e, _⟩
    exact ⟨sqk_if (e _ _ g1), sqk_t (e _ _ hn)⟩
  · rintro i y σ' H3 H4 hi ⟨u, v, rfl, e3, hno⟩ ⟨tt, y1, y2, rfl, hnt, rfl, ey1, ey2⟩
    replace ey1 : (gs.map V.ref)[i]? = some y1 := ey1
    replace ey2 : (pls.map plV)[i]? = some y2 := ey2
    rw [List.getElem?_map] at ey1
    obtain ⟨g, hg, rfl⟩ := Option.map_eq_some_iff.mp ey1
    obtain ⟨p, pl, hz, rfl, ga⟩ := zip_at g2 hl hg ey2
    have e4 : Ex H (upd H3 tt (.tup [.ref g, plV pl])) := e3.trans (Ex.new hnt)
    refine ⟨tt, _, rfl, st_of upd_same, rfl, _, _, rfl, _, _, rfl, rfl, ?_⟩
    refine s_when (et_B (ev_call (ea_cons (ev_var rfl) (ea_cons (ev_var rfl) (ea_cons (ev_var rfl) ea_nil))) (sv_holding (ga.ex e4) (ok _ (List.mem_of_getElem? hz))))) (fun hb H5 e5 => ?_) fun hb H5 e5 => ⟨_, _, rfl, e4.trans e5, ?_⟩
    · refine s_ret ev_c fun H6 e6 => ?_
      have : heldAll ps pls z = true := List.any_eq_true.mpr ⟨(p, pl), List.mem_of_getElem? hz, hb⟩
      rw [this] at k
      exact k H6 ((e4.trans e5).trans e6)
    · rw [take_snoc hz, List.any_append, hno]
      simp [hb]
  · rintro σ' H3 ⟨u, v, rfl, e3, hno⟩
    have e : heldAll ps pls z = false := by
      unfold heldAll
      rw [← hno, List.take_of_length_le]
      rw [List.length_zip, List.length_map, hlen, hl, Nat.min_self]
      exact Nat.le_refl _
    rw [e] at k
    exact s_ret ev_c fun H4 e4 => k H4 (e3.trans e4)
def RetP (pls : Pls) (H : Hp) (Q : VK) : Prop := ∀ p H2, H p = none → Ex H H2 → H2 p = some (.tup (pls.map plV)) → Q (.ref p) H2
def spBehind (P : Program) (w : World) (a : Ad) : Sp := fun vs H Q _ => ∃ gl k nl z ps pls, vs = [.ref gl, .ref nl, .str z] ∧ GsAt P w a H gl k ps ∧ ps.length ≤ 3 ∧ H nl = some (.tup (pls.map plV)) ∧ ps.length = pls.length ∧ RetP (afterAll ps pls z) H Q
theorem sc_nodes_behind : FnScope ["guards", "nodes", "word", "guard", "node"] ["guards", "nodes", "word"] (defScope s_nodes_behind) := ⟨rfl, rfl, rfl, by decide +kernel, rfl, by decide +kernel, by decide +kernel⟩
theorem ok_nodes_behind {a : Ad} (T : TxC K mg a) (D : Dfn K mg "nodes_behind" s_nodes_behind) (C_moved : CalP P w K mg base 1 "moved" (spMoved P w a)) : CalP P w K mg base 2 "nodes_behind" (spBehind P w a) := by
  refine cal_of D sc_nodes_behind (fun _ _ _ _ _ _ us hl => match us, hl with | [_, _, _], _ => rfl) (fun vs H Q E h => by obtain ⟨_, _, _, _, _, _, rfl, _⟩ := h; rfl) fun f cdv A outer s H vs Q E hr h => ?_
  obtain ⟨gl, j, nl, z, ps, pls, rfl, ⟨gs, g1, g2⟩, n3, hn, hl, k⟩ := h
  refine ⟨_, (pss_one (ps_ret (pe_callTy call_tuple_of (by rfl) T.f_tuple PyProof.Rows.boot_tuple (pa_cons (pe_lc (own := [("guard", 3), ("node", 4)]) (tt := tYes) (by rfl) sc_nodes_behind.nd (pi_zipM (by rfl) T.f_zip (pa_cons (pv 0) (pa_cons (pv 1) pa_nil))) (blkOk_by (own := [("guard", 3), ("node", 4)]) (N := ["guards", "nodes", "word", "guard", "node"]) (sc := defScope s_nodes_behind) (by decide +kernel)) (fun _ _ _ _ _ => (pg_tupK (K' := K) rfl rfl (pgs_cons (pg_name (i := 3) sc_nodes_behind.nd rfl (Or.inl rfl)) (pgs_cons (pg_name (i := 4) sc_nodes_behind.nd rfl (Or.inl rfl)) pgs_nil)))) (fun _ _ _ _ _ => pts_nil) (fun _ _ _ _ _ => (C8.pe_c C_moved hr (by decide) (by rfl) (pa_cons (pv 3) (pa_cons (pv 4) (pa_cons (pv 2) pa_nil)))))) pa_nil)))), ?_⟩
  have hlen : gs.length = ps.length := Paired.length g2
  have hlz : (gs.map V.ref).length = (ps.zip pls).length := by rw [List.length_map, List.length_zip, hlen, ← hl, Nat.min_self]
  have key : EvL (tLc (iZipM K (tCons (tVar 0) (tCons (tVar 1) tNil))) (gTup K 2 (gCons (gName 3) (gCons (gName 4) gNil))) tYes (tCall (spMoved P w a) [] C8.E0 (tCons (tVar 3) (tCons (tVar 4) (tCons (tVar 2) tNil)))) [3, 4]) [some (.ref gl), some (.ref nl), some (.str z), none, none] H ((afterAll ps pls z).map plV) := by
    intro H1 e1 Q' q'
    refine e_lc (f_zip (j := j) (k := true) (ea_cons (ev_var rfl) (ea_cons (ev_var rfl) ea_nil)) (sqk_if (e1 _ _ g1)) (sqk_t (e1 _ _ hn)) fun H2 e2 => ?_)
    refine lc_all (walk_zipK (xs := gs.map V.ref) (ys := pls.map plV) (by rw [List.length_map, List.length_map]; omega)) (fun i => plV (((ps.zip pls).map fun q => afterP q.1 q.2 z).getD i none)) (by rw [List.length_map]; omega) (fun H3 e3 => ⟨sqk_if (e3 _ _ (e2 _ _ (e1 _ _ g1))), sqk_t (e3 _ _ (e2 _ _ (e1 _ _ hn)))⟩) (fun i x H3 H4 hi e3 y => ?_) (fun p H3 hp e3 h3 => ?_) gPair_mono
    · obtain ⟨tt, y1, y2, rfl, hnt, rfl, ey1, ey2⟩ := y
      replace ey1 : (gs.map V.ref)[i]? = some y1 := ey1
      replace ey2 : (pls.map plV)[i]? = some y2 := ey2
      rw [List.getElem?_map] at ey1
      obtain ⟨g, hg, rfl⟩ := Option.map_eq_some_iff.mp ey1
      obtain ⟨p, pl, hz, rfl, ga⟩ := zip_at g2 hl hg ey2
      have e4 := (e1.trans (e2.trans e3)).trans (Ex.new hnt (o := .tup [.ref g, plV pl]))
      refine ⟨tt, _, rfl, st_of upd_same, rfl, _, _, rfl, _, _, rfl, rfl, Ex.new hnt, rfl, ?_⟩
      have e5 : (((ps.zip pls).map fun q => afterP q.1 q.2 z).getD i none) = afterP p pl z := by rw [List.getD_eq_getElem?_getD, List.getElem?_map, hz]; rfl
      rw [e5]
      exact ev_call (ea_cons (ev_var rfl) (ea_cons (ev_var rfl) (ea_cons (ev_var rfl) ea_nil))) (sv_moved (ga.ex e4))
    · refine q' p H3 (fresh_back e2 hp) (e2.trans e3) ?_
      rw [h3, hlz]
      congr 2
      unfold afterAll
      refine List.ext_getElem? fun i => ?_
      rw [List.getElem?_map, List.getElem?_map]
      by_cases hi : i < (ps.zip pls).length
      · rw [List.getElem?_range hi, List.getElem?_map, List.getElem?_eq_getElem hi]
        simp [List.getD_eq_getElem?_getD, List.getElem?_eq_getElem hi]
      · rw [List.getElem?_eq_none (by rw [List.length_range]; omega), List.getElem?_eq_none (by rw [List.length_map]; omega)]
        rfl
  exact s_retU (eu_tuple key) fun p H1 hp e h => k p H1 hp e h
theorem row_ix {H : Hp} {r : Addr} {rows : List Row} {σ : L2.St} {te ti : TE} {k : Nat} (h : RowsAt H r rows) (hk : k < rows.length) (e1 : Ev te σ H (.ref r)) (e2 : Ev ti σ H (.int (k : Nat))) : ∃ t, Ev (tOp (rIxL K) te ti) σ H (.ref t) ∧ RowAt H t (rowAt rows k) := by
  obtain ⟨ts, t, h1, h2, h3⟩ := h.get hk
  exact ⟨t, ev_op e1 e2 (rv_ixL (sq_of h1) (atI_nat (by rw [List.getElem?_map, h2]; rfl))), h3⟩
theorem row_at0 {H : Hp} {t : Addr} {r : Row} {σ : L2.St} {te : TE} (h : RowAt H t r) (e1 : Ev te σ H (.ref t)) : Ev (tOp (rIxT K) te (tC (.int 0))) σ H (.int r.1) := ev_op e1 ev_c (rv_ixT (st_of h) rfl)
theorem row_at1 {H : Hp} {t : Addr} {r : Row} {σ : L2.St} {te : TE} (h : RowAt H t r) (e1 : Ev te σ H (.ref t)) : Ev (tOp (rIxT K) te (tC (.int 1))) σ H (.str r.2.1) := ev_op e1 ev_c (rv_ixT (st_of h) rfl)
theorem row_at2 {H : Hp} {t : Addr} {r : Row} {σ : L2.St} {te : TE} (h : RowAt H t r) (e1 : Ev te σ H (.ref t)) : Ev (tOp (rIxT K) te (tC (.int 2))) σ H (.int r.2.2) := ev_op e1 ev_c (rv_ixT (st_of h) rfl)
theorem rows_len {H : Hp} {r : Addr} {rows : List Row} {σ : L2.St} {te : TE} (h : RowsAt H r rows) (e1 : Ev te σ H (.ref r)) : Ev (tCB (rLenS K) (tCons te tNil)) σ H (.int (rows.length : Int)) := by
  obtain ⟨ts, h1, h2⟩ := h
  have := ev_lenK (K := K) (k := false) e1 (sqk_l h1)
  rw [List.length_map, Paired.length h2] at this
  exact this
def spWrong (a : Ad) : Sp := fun vs H Q _ => ∃ (x r : Addr) (s0 : Int) (rows : List Row) (ps : List Part) (run : List Nat), vs = [.ref x, .ref r] ∧ PlantAt a H x s0 rows ∧ H r = some (.tup (numV run)) ∧ Valid rows ps s0 run ∧ RetV .non H Q
theorem sc_wrong_place : FnScope ["plant", "run", "state", "at", "number"] ["plant", "run"] (defScope s_wrong_place) := ⟨rfl, rfl, rfl, by decide +kernel, rfl, by decide +kernel, by decide +kernel⟩
theorem ok_wrong_place {a : Ad} (T : TxC K mg a) (D : Dfn K mg "wrong_place" s_wrong_place) (C_is_number_below : CalP P w K mg base 2 "is_number_below" spBelow) : CalP P w K mg base 3 "wrong_place" (spWrong a) := by
  refine cal_of D sc_wrong_place (fun _ _ _ _ _ _ us hl => match us, hl with | [_, _], _ => rfl) (fun vs H Q E h => by obtain ⟨_, _, _, _, _, _, rfl, _⟩ := h; rfl) fun f cdv A outer s H vs Q E hr h => ?_
  obtain ⟨x, r, s0, rows, ps, run, rfl, ⟨dx, fs, rr, d, q1, q2, q3, q4, q5, q6⟩, hrun, hv, k⟩ := h
  refine ⟨_, (pss_cons (ps_if (pt_not (pt_val (pe_callB call_isi (by rfl) T.f_isinstance boot_isinstance (pa_cons (pv 1) (pa_cons (pe_bltn (v := .ty "tuple") (by rfl) T.f_tuple PyProof.Rows.boot_tuple rfl) pa_nil))))) (pss_one (ps_ret (pe_un un_neg pe_int))) pss_nil)
        (pss_cons (ps_set (i := 2) sc_wrong_place.nd rfl (Or.inl rfl) (pe_fld (pv 0) rfl))
        (pss_cons (ps_for PassesOwn.never rfl (pi_enumA (by rfl) T.f_enumerate (pa_cons (pv 1) pa_nil)) (pg_tup rfl (pgs_cons (pg_name (i := 3) sc_wrong_place.nd rfl (Or.inl rfl)) (pgs_cons (pg_name (i := 4) sc_wrong_place.nd rfl (Or.inl rfl)) pgs_nil))) (pss_cons (ps_if (PW.pt (pw_or (pt_not (pt_val (C8.pe_c C_is_number_below hr (by decide) (by rfl) (pa_cons (pv 4) (pa_cons (pe_callB call_len_seq (by rfl) T.f_len boot_len (pa_cons (pe_fld (pv 0) rfl) pa_nil)) pa_nil))))) (pw_or1 (pt_cmpR op_ne (pe_ix ix_tup (pe_ix ix_list (pe_fld (pv 0) rfl) (pv 4) (fun _ _ => rfl)) pe_int (fun _ _ => rfl)) (pv 2) (nomark _))))) (pss_one (ps_ret (pv 3))) pss_nil)
        (pss_one (ps_set (i := 2) sc_wrong_place.nd rfl (Or.inl rfl) (pe_ix ix_tup (pe_ix ix_list (pe_fld (pv 0) rfl) (pv 4) (fun _ _ => rfl)) pe_int (fun _ _ => rfl))))))
        (pss_one (ps_ret pe_non))))), ?_⟩
  refine q_when (et_not (et_B (ev_isi (b := true) (ev_var rfl) ev_c (fun _ e => .base (.tup (e _ _ hrun))) (by decide +kernel)))) (fun e => by cases e) fun _ H1 e1 => ?_
  refine q_asg (v := .int s0) (ev_fld (ev_var rfl) (e1 _ _ q1) T.c_Plant T.n_first q2) fun H2 e2 => ?_
  have e02 := e1.trans e2
  refine q_forw (J := IteK true K r) (fun R q => f_enum (k := true) (ea_cons (ev_var rfl) ea_nil) (sqk_t (e02 _ _ hrun)) q) (walk_enumK (xs := numV run)) (fun i σ' H' => ∃ u v, σ' = [some (.ref x), some (.ref r), some (.int (stS rows s0 (run.take i))), u, v] ∧ Ex H H') ?_ ?_ ?_ ?_
  · exact fun H3 e3 => ⟨_, _, rfl, e02.trans e3⟩
  · rintro i σ' H' _ ⟨u, v, _, e⟩
    exact sqk_t (e _ _ hrun)
  · rintro i y σ' H3 H4 hi ⟨u, v, rfl, e3⟩ ⟨tt, y1, y2, rfl, hnt, rfl, ey1, ey2⟩
    replace ey2 : (run.map fun k => V.int (k : Nat))[i]? = some y2 := ey2
    rw [List.getElem?_map] at ey2
    obtain ⟨n, hn, rfl⟩ := Option.map_eq_some_iff.mp ey2
    obtain ⟨v1, v2, v3⟩ := hv i n hn
    have e4 : Ex H (upd H3 tt (.tup [y1, .int (n : Nat)])) := e3.trans (Ex.new hnt)
    refine ⟨tt, _, rfl, st_of upd_same, rfl, _, _, rfl, _, _, rfl, rfl, ?_⟩
    have fld : ∀ {H' : Hp} {σ : L2.St} {te : TE}, Ex H H' → Ev te σ H' (.ref x) → Ev (tFld K te "rows") σ H' (.ref rr) := fun e h => ev_fld h (e _ _ q1) T.c_Plant T.n_rows q3
    obtain ⟨t, t1, t2⟩ := row_ix (K := K) (σ := [some (.ref x), some (.ref r), some (.int (stS rows s0 (run.take i))), some y1, some (.int (n : Nat))]) (q5.ex e4) v1 (fld (te := tVar 0) e4 (ev_var rfl)) (ev_var (i := 4) rfl)
    refine q_when (et_or (et_not (et_B (ev_call (ea_cons (ev_var rfl) (ea_cons (rows_len (q5.ex e4) (fld e4 (ev_var rfl))) ea_nil)) (sv_below (by omega) (by omega))))) fun _ => et_test (ev_op (row_at0 t2 t1) (ev_var rfl) (rv_ne rfl))) (fun e => ?_) fun _ H5 e5 => ?_
    · rw [v2] at e
      simp at e
    have t1' := t1.mono e5
    refine s_asg (row_at2 (show RowAt H5 t _ from e5 _ _ t2) t1') fun H6 e6 => ⟨some y1, some (.int (n : Nat)), ?_, e4.trans (e5.trans e6)⟩
    rw [take_snoc hn, stS_snoc]
    rfl
  · rintro σ' H3 ⟨u, v, rfl, e3⟩
    exact s_ret ev_c fun H4 e4 => k H4 (e3.trans e4)
theorem sv_wrong {a : Ad} {H : Hp} {x r : Addr} {s0 : Int} {rows : List Row} {ps : List Part} {run : List Nat} (h : PlantAt a H x s0 rows) (hr : H r = some (.tup (numV run))) (hv : Valid rows ps s0 run) : SpV (spWrong a) [.ref x, .ref r] H .non := fun _ e _ q _ => ⟨x, r, s0, rows, ps, run, rfl, h.ex e, e _ _ hr, hv, q⟩
theorem sc_check_run : FnScope ["plant", "run", "at"] ["plant", "run"] (defScope s_check_run) := ⟨rfl, rfl, rfl, by decide +kernel, rfl, by decide +kernel, by decide +kernel⟩
theorem ok_check_run {a : Ad} (T : TxC K mg a) (D : Dfn K mg "check_run" s_check_run) (C_wrong_place : CalP P w K mg base 3 "wrong_place" (spWrong a)) : CalP P w K mg base 4 "check_run" (spWrong a) := by
  refine cal_of D sc_check_run (fun _ _ _ _ _ _ us hl => match us, hl with | [_, _], _ => rfl) (fun vs H Q E h => by obtain ⟨_, _, _, _, _, _, rfl, _⟩ := h; rfl) fun f cdv A outer s H vs Q E hr h => ?_
  obtain ⟨x, r, s0, rows, ps, run, rfl, hp, hrun, hv, k⟩ := h
  refine ⟨_, (pss_cons (ps_set (i := 2) sc_check_run.nd rfl (Or.inl rfl) (C8.pe_c C_wrong_place hr (by decide) (by rfl) (pa_cons (pv 0) (pa_cons (pv 1) pa_nil))))
        (pss_one (ps_if (pt_cmpR op_notN (pv 2) pe_non (nomark _)) pss_never pss_nil))), ?_⟩
  refine q_asg (ev_call (ea_cons (ev_var rfl) (ea_cons (ev_var rfl) ea_nil)) (sv_wrong hp hrun hv)) fun H1 e1 => ?_
  exact s_when (b := false) (et_test (ev_op (ev_var rfl) ev_c (rv_val fun _ _ _ q => ⟨rfl, q⟩))) (fun e => by cases e) fun _ H2 e2 => k H2 (e1.trans e2)
def spLets (P : Program) (w : World) (a : Ad) (v : V) : Sp := fun vs H Q _ => ∃ (x r gl : Addr) (j : Bool) (s0 : Int) (rows : List Row) (ps : List Part) (run : List Nat), vs = [.ref x, .ref gl, .ref r] ∧ PlantAt a H x s0 rows ∧ GsAt P w a H gl j ps ∧ PartsOk ps ∧ H r = some (.tup (numV run)) ∧ Valid rows ps s0 run ∧ RetV v H Q
theorem map_zero {α : Type} (l : List α) : (List.range l.length).map (fun _ => V.int 0) = (l.map fun _ => some (0 : Int)).map plV := by
  rw [List.map_map]
  refine List.ext_getElem? fun i => ?_
  rw [List.getElem?_map, List.getElem?_map]
  by_cases hi : i < l.length
  · rw [List.getElem?_range hi, List.getElem?_eq_getElem hi]
    rfl
  · rw [List.getElem?_eq_none (by rw [List.length_range]; omega), List.getElem?_eq_none (by omega)]
    rfl
/-- (0, .., 0) -/
theorem eu_zeros {a : Ad} {H : Hp} {gl : Addr} {j : Bool} {ps : List Part} {σ : L2.St} {te0 : TE} {i : Nat} {vs : List Nat} (hg : GsAt P w a H gl j ps) (n3 : ps.length ≤ 3) (h : Ev te0 σ H (.ref gl)) (hw : ∀ x, wipe ((wipe σ vs).set i (some x)) vs = wipe σ vs) :
    EvU (tCB (rTupS K) (tCons (tLc (iSeq K te0) (gName i) tYes (tC (.int 0)) vs) tNil)) σ H ((zeros ps).map plV) := by
  obtain ⟨gs, g1, g2⟩ := hg
  have hlen : gs.length = ps.length := Paired.length g2
  have := el_lcS (K := K) (te := tC (.int 0)) (xs := gs.map V.ref) (fun _ => V.int 0) h (sqk_if g1) (by rw [List.length_map]; omega) hw (fun _ _ _ _ _ => ev_c)
  rw [List.length_map, hlen, map_zero ps] at this
  exact eu_tuple this
theorem sc_first_held : FnScope ["plant", "guards", "run", "nodes", "at", "number", "word", "guard"] ["plant", "guards", "run"] (defScope s_first_held) := ⟨rfl, rfl, rfl, by decide +kernel, rfl, by decide +kernel, by decide +kernel⟩
theorem ok_first_held {a : Ad} (T : TxC K mg a) (D : Dfn K mg "first_held" s_first_held) (C_check_guards : CalP P w K mg base 2 "check_guards" (spCheckG P w a)) (C_check_run : CalP P w K mg base 4 "check_run" (spWrong a))
    (C_is_held : CalP P w K mg base 2 "is_held" (spHeldA P w a)) (C_nodes_behind : CalP P w K mg base 2 "nodes_behind" (spBehind P w a)) : CalP P w K mg base 5 "first_held" (spLets P w a .non) := by
  refine cal_of D sc_first_held (fun _ _ _ _ _ _ us hl => match us, hl with | [_, _, _], _ => rfl) (fun vs H Q E h => by obtain ⟨_, _, _, _, _, _, _, _, rfl, _⟩ := h; rfl) fun f cdv A outer s H vs Q E hr h => ?_
  obtain ⟨x, r, gl, j, s0, rows, ps, run, rfl, hp, hg, ok, hrun, hv, k⟩ := h
  refine ⟨_, (pss_cons (ps_expr (C8.pe_c C_check_guards hr (by decide) (by rfl) (pa_cons (pv 1) pa_nil)))
        (pss_cons (ps_expr (C8.pe_c C_check_run hr (by decide) (by rfl) (pa_cons (pv 0) (pa_cons (pv 2) pa_nil))))
        (pss_cons (ps_set (i := 3) sc_first_held.nd rfl (Or.inl rfl) (pe_callTy call_tuple_of (by rfl) T.f_tuple PyProof.Rows.boot_tuple (pa_cons (pe_lc (own := [("guard", 7)]) (g := gName 7) (tt := tYes) (by rfl) sc_first_held.nd (pi_seq (pv 1)) (blkOk_by (own := [("guard", 7)]) (N := ["plant", "guards", "run", "nodes", "at", "number", "word", "guard"]) (sc := defScope s_first_held) (by decide +kernel)) (fun _ _ _ _ _ => (pg_name (i := 7) sc_first_held.nd rfl (Or.inl rfl))) (fun _ _ _ _ _ => pts_nil) (fun _ _ _ _ _ => pe_int)) pa_nil)))
        (pss_cons (ps_for PassesOwn.never rfl (pi_enumA (by rfl) T.f_enumerate (pa_cons (pv 2) pa_nil)) (pg_tup rfl (pgs_cons (pg_name (i := 4) sc_first_held.nd rfl (Or.inl rfl)) (pgs_cons (pg_name (i := 5) sc_first_held.nd rfl (Or.inl rfl)) pgs_nil))) (pss_cons (ps_set (i := 6) sc_first_held.nd rfl (Or.inl rfl) (pe_ix ix_tup (pe_ix ix_list (pe_fld (pv 0) rfl) (pv 5) (fun _ _ => rfl)) pe_int (fun _ _ => rfl)))
        (pss_cons (ps_if (pt_val (C8.pe_c C_is_held hr (by decide) (by rfl) (pa_cons (pv 1) (pa_cons (pv 3) (pa_cons (pv 6) pa_nil))))) (pss_one (ps_ret (pv 4))) pss_nil)
        (pss_one (ps_set (i := 3) sc_first_held.nd rfl (Or.inl rfl) (C8.pe_c C_nodes_behind hr (by decide) (by rfl) (pa_cons (pv 1) (pa_cons (pv 3) (pa_cons (pv 6) pa_nil)))))))))
        (pss_one (ps_ret pe_non)))))), ?_⟩
  refine q_drop (ev_call (ea_cons (ev_var rfl) ea_nil) (z := .non) fun H' e Q q _ => ⟨gl, j, ps, rfl, hg.ex e, ok, q⟩) fun H1 e1 => ?_
  refine q_drop (ev_call (ea_cons (ev_var rfl) (ea_cons (ev_var rfl) ea_nil)) (sv_wrong (hp.ex e1) (e1 _ _ hrun) hv)) fun H2 e2 => ?_
  have e02 := e1.trans e2
  refine q_asgU (eu_zeros (hg.ex e02) ok.2.1 (ev_var rfl) (fun _ => rfl)) fun n0 H3 hn0 e3 h3 => ?_
  have e03 := e02.trans e3
  refine q_forw (J := IteK true K r) (fun R q => f_enum (k := true) (ea_cons (ev_var rfl) ea_nil) (sqk_t (e03 _ _ hrun)) q) (walk_enumK (xs := numV run)) (fun i σ' H' => ∃ nn u v t, σ' = [some (.ref x), some (.ref gl), some (.ref r), some (.ref nn), u, v, t, none] ∧ Ex H H' ∧ H' nn = some (.tup ((plS rows ps (run.take i)).map plV))) ?_ ?_ ?_ ?_
  · exact fun H4 e4 => ⟨_, _, _, _, rfl, e03.trans e4, e4 _ _ h3⟩
  · rintro i σ' H' _ ⟨nn, u, v, t, _, e, _⟩
    exact sqk_t (e _ _ hrun)
  · rintro i y σ' H4 H5 hi ⟨nn, u, v, t, rfl, e4, h4⟩ ⟨tt, y1, y2, rfl, hnt, rfl, ey1, ey2⟩
    replace ey2 : (run.map fun k => V.int (k : Nat))[i]? = some y2 := ey2
    rw [List.getElem?_map] at ey2
    obtain ⟨n, hn, rfl⟩ := Option.map_eq_some_iff.mp ey2
    obtain ⟨v1, v2, v3⟩ := hv i n hn
    have e45 : Ex H4 (upd H4 tt (.tup [y1, .int (n : Nat)])) := Ex.new hnt
    have e5 := e4.trans e45
    refine ⟨tt, _, rfl, st_of upd_same, rfl, _, _, rfl, _, _, rfl, rfl, ?_⟩
    obtain ⟨dx, fs, rr, d, q1, q2, q3, q4, q5, q6⟩ := hp.ex e5
    obtain ⟨rt, t1, t2⟩ := row_ix (K := K) (σ := [some (.ref x), some (.ref gl), some (.ref r), some (.ref nn), some y1, some (.int (n : Nat)), t, none]) q5 v1 (ev_fld (ta := tVar 0) (ev_var rfl) q1 T.c_Plant T.n_rows q3) (ev_var (i := 5) rfl)
    refine q_asg (row_at1 t2 t1) fun H6 e6 => ?_
    have e06 := e5.trans e6
    have pk := pls_run ok rows (run.take i)
    refine q_when (et_B (ev_call (ea_cons (ev_var rfl) (ea_cons (ev_var rfl) (ea_cons (ev_var rfl) ea_nil))) (sv_heldA (hg.ex e06) (e6 _ _ (e45 _ _ h4)) pk))) (fun e => by rw [v3] at e; cases e) fun _ H7 e7 => ?_
    have e07 := e06.trans e7
    refine s_asgU (fun H' e' Q' q' => ⟨_, rfl, _, rfl, _, rfl, gl, j, nn, _, ps, _, rfl, hg.ex (e07.trans e'), ok.2.1, e' _ _ (e7 _ _ (e6 _ _ (e45 _ _ h4))), pk.1, fun p H8 hp8 e8 h8 => q' p H8 hp8 e8 h8⟩) fun p H8 hp8 e8 h8 => ⟨p, _, _, _, rfl, e07.trans e8, ?_⟩
    rw [take_snoc hn, plS_snoc]
    exact h8
  · rintro σ' H4 ⟨nn, u, v, t, rfl, e4, h4⟩
    exact s_ret ev_c fun H5 e5 => k H5 (e4.trans e5)
theorem sc_lets : FnScope ["plant", "guards", "run"] ["plant", "guards", "run"] (defScope s_lets) := ⟨rfl, rfl, rfl, by decide +kernel, rfl, by decide +kernel, by decide +kernel⟩
theorem ok_lets (D : Dfn K mg "lets" s_lets) {a : Ad} (C_first_held : CalP P w K mg base 5 "first_held" (spLets P w a .non)) : CalP P w K mg base 6 "lets" (spLets P w a (.bl true)) := by
  refine cal_of D sc_lets (fun _ _ _ _ _ _ us hl => match us, hl with | [_, _, _], _ => rfl) (fun vs H Q E h => by obtain ⟨_, _, _, _, _, _, _, _, rfl, _⟩ := h; rfl) fun f cdv A outer s H vs Q E hr h => ?_
  obtain ⟨x, r, gl, j, s0, rows, ps, run, rfl, hp, hg, ok, hrun, hv, k⟩ := h
  refine ⟨_, (pss_one (ps_ret (pe_cmpR op_isN (C8.pe_c C_first_held hr (by decide) (by rfl) (pa_cons (pv 0) (pa_cons (pv 1) (pa_cons (pv 2) pa_nil)))) pe_non (nomark _)))), ?_⟩
  exact s_ret (ev_op (x := .non) (ev_call (ea_cons (ev_var rfl) (ea_cons (ev_var rfl) (ea_cons (ev_var rfl) ea_nil))) fun H' e Q q _ => ⟨x, r, gl, j, s0, rows, ps, run, rfl, hp.ex e, hg.ex e, ok, e _ _ hrun, hv, q⟩) ev_c (rv_val fun _ _ _ q => ⟨rfl, q⟩)) k
end
end K28
end

section
set_option Elab.async false
set_option maxRecDepth 100000
set_option maxHeartbeats 4000000
namespace K28
open PySem PySem.Spec PyProof.Rows L2 Evl
def plN : Option Int → NK
  | none => .none
  | some i => .num i
theorem pl_atom (pl : Option Int) : AtomV (plN pl) (plV pl) := by cases pl <;> rfl
theorem plN_inj {a b : Option Int} (h : plN a = plN b) : a = b := by
  cases a <;> cases b
  · rfl
  · cases h
  · cases h
  · injection h with h
    rw [h]
theorem plNs_inj : ∀ {a b : Pls}, a.map plN = b.map plN → a = b
  | [], [], _ => rfl
  | [], _ :: _, h => by cases h
  | _ :: _, [], h => by cases h
  | x :: a, y :: b, h => by
    injection h with h1 h2
    rw [plN_inj h1, plNs_inj h2]
def fkey (k : Int × Pls) : NK := .tup [.num k.1, .tup (k.2.map plN)]
theorem fkey_inj {a b : Int × Pls} (h : fkey a = fkey b) : a = b := by
  injection h with h
  injection h with h1 h2
  injection h1 with h1
  injection h2 with h2 _
  injection h2 with h2
  exact Prod.ext h1 (plNs_inj h2)
theorem pls_atoms : ∀ (pls : Pls), Paired AtomV (pls.map plN) (pls.map plV)
  | [] => .nil
  | x :: r => .cons (pl_atom x) (pls_atoms r)
theorem fkey_keyV {H : Hp} {t p : Addr} {s : Int} {pls : Pls} (ht : H t = some (.tup [.int s, .ref p])) (hp : H p = some (.tup (pls.map plV))) : KeyV H (fkey (s, pls)) (.ref t) :=
  ⟨_, t, _, rfl, rfl, ht, .cons (.inl rfl) (.cons (.inr ⟨_, p, _, rfl, rfl, hp, pls_atoms pls⟩) .nil)⟩
def foundK (acc : List Node) : List (NK × V) := acc.map fun n => (fkey (nkey n), V.bl true)
theorem val_found (acc : List Node) (k : Int × Pls) : (valV (foundK acc) (fkey k)).isSome = decide (k ∈ acc.map nkey) := by
  induction acc with
  | nil => rfl
  | cons n r ih =>
    by_cases e : nkey n = k
    · rw [show valV (foundK (n :: r)) (fkey k) = some (.bl true) from valV_pos (p := (fkey (nkey n), V.bl true)) (by rw [e])]
      rw [List.map_cons, e]
      simp
    · rw [show valV (foundK (n :: r)) (fkey k) = valV (foundK r) (fkey k) from valV_neg (p := (fkey (nkey n), V.bl true)) (fun z => e (fkey_inj z)), ih, List.map_cons]
      simp [Ne.symm e]
/-- a meeting: its node, by the way back -/
inductive MeetAt (a : Ad) (H : Hp) : Addr → Node → Prop
  | start {x dx p : Addr} {st : Int} {pl : Pls} : H x = some (.ins a.Meeting dx [("state", .int st), ("nodes", .ref p), ("back", .non), ("number", .int 0)]) → H p = some (.tup (pl.map plV)) → MeetAt a H x ⟨st, pl, []⟩
  | next {x dx p b : Addr} {st : Int} {pl : Pls} {k : Nat} {n : Node} : H x = some (.ins a.Meeting dx [("state", .int st), ("nodes", .ref p), ("back", .ref b), ("number", .int (k : Nat))]) → H p = some (.tup (pl.map plV)) → MeetAt a H b n → MeetAt a H x ⟨st, pl, n.run ++ [k]⟩
theorem MeetAt.mono {a : Ad} {H H' : Hp} (e : ∀ b o, (∀ xs, o ≠ .lst xs) → (∀ φ, o ≠ .ext φ) → H b = some o → H' b = some o) {x : Addr} {n : Node} (h : MeetAt a H x n) : MeetAt a H' x n := by
  induction h with
  | start h1 h2 => exact .start (e _ _ (fun _ z => by cases z) (fun _ z => by cases z) h1) (e _ _ (fun _ z => by cases z) (fun _ z => by cases z) h2)
  | next h1 h2 _ ih => exact .next (e _ _ (fun _ z => by cases z) (fun _ z => by cases z) h1) (e _ _ (fun _ z => by cases z) (fun _ z => by cases z) h2) ih
theorem MeetAt.ex {a : Ad} {H H' : Hp} (e : Ex H H') {x : Addr} {n : Node} (h : MeetAt a H x n) : MeetAt a H' x n := h.mono fun b o _ _ q => e b o q
theorem MeetAt.look {a : Ad} {H : Hp} {x : Addr} {n : Node} (h : MeetAt a H x n) : ∃ dx p bv k, H x = some (.ins a.Meeting dx [("state", .int n.st), ("nodes", .ref p), ("back", bv), ("number", k)]) ∧ H p = some (.tup (n.pl.map plV)) := by
  cases h with
  | start h1 h2 => exact ⟨_, _, _, _, h1, h2⟩
  | next h1 h2 _ => exact ⟨_, _, _, _, h1, h2⟩
section
variable {P : Program} {w : World} {K : PySem.W.Frag} {mg : Str → Option Value} {base : Heap}
def spMeetInit (a : Ad) : Sp := fun vs H Q _ => ∃ (x dx : Addr) (H0 : Hp) (st k : Int) (p : Addr) (bv : V), vs = [.ref x, .int st, .ref p, bv, .int k] ∧ H x = some (.ins a.Meeting dx []) ∧ H0 x = none ∧ Ex H0 H ∧
  ∀ H2, Ex H0 H2 → H2 x = some (.ins a.Meeting dx [("state", .int st), ("nodes", .ref p), ("back", bv), ("number", .int k)]) → Q .non H2
theorem sc_Meeting_init : FnScope ["self", "state", "nodes", "back", "number"] ["self", "state", "nodes", "back", "number"] (defScope s_Meeting_init) := ⟨rfl, rfl, rfl, by decide +kernel, rfl, by decide +kernel, by decide +kernel⟩
theorem ok_Meeting_init {a : Ad} {f : Addr} {fd : FuncData} (T : TxC K mg a) (F : FunD K "__init__" "Meeting.__init__" (defArgs s_Meeting_init) (defBody s_Meeting_init) (defScope s_Meeting_init) [] [] f fd) :
    FnOk P w K mg base L2.CX0 1 f fd ["self", "state", "nodes", "back", "number"] (spMeetInit a) := by
  refine fnOk_of F sc_Meeting_init (fun vs H Q E h => by obtain ⟨_, _, _, _, _, _, _, rfl, _⟩ := h; rfl) fun f cdv A outer s H vs Q E hr h => ?_
  obtain ⟨x, dx, H0, st, kn, p, bv, rfl, hx, h0, e0, k⟩ := h
  refine ⟨_, (pss_cons (ps_fld (pv 0) (pv 1) rfl)
        (pss_cons (ps_fld (pv 0) (pv 2) rfl)
        (pss_cons (ps_fld (pv 0) (pv 3) rfl)
        (pss_one (ps_fld (pv 0) (pv 4) rfl))))), ?_⟩
  refine ⟨_, rfl, _, rfl, x, a.Meeting, dx, _, rfl, hx, T.c_Meeting, T.n_state, (by decide : (0 : Nat) < 1000), ?_⟩
  dsimp only
  refine ⟨_, rfl, _, rfl, x, a.Meeting, dx, _, rfl, upd_same, T.c_Meeting, T.n_nodes, (by decide : (1 : Nat) < 1000), ?_⟩
  dsimp only
  refine ⟨_, rfl, _, rfl, x, a.Meeting, dx, _, rfl, upd_same, T.c_Meeting, T.n_back, (by decide : (2 : Nat) < 1000), ?_⟩
  dsimp only
  refine ⟨_, rfl, _, rfl, x, a.Meeting, dx, _, rfl, upd_same, T.c_Meeting, T.n_number, (by decide : (3 : Nat) < 1000), ?_⟩
  exact k _ ((((e0.mut h0).mut h0).mut h0).mut h0) upd_same
/-- Meeting(..) -/
theorem mt_make {a : Ad} {H1 : Hp} {R : Addr → Hp → Prop} {st k : Int} {p : Addr} {bv : V} {E : XK} (h : ∀ x dx H2, H1 x = none → Ex H1 H2 → H2 x = some (.ins a.Meeting dx [("state", .int st), ("nodes", .ref p), ("back", bv), ("number", .int k)]) → R x H2) : ∀ x dx, H1 x = none → H1 dx = none → dx ≠ x →
    spMeetInit a (.ref x :: ([.int st, .ref p, bv, .int k] ++ [])) (upd (upd H1 dx (.own x)) x (.ins a.Meeting dx [])) (fun v H2 => v = .non ∧ R x H2) E := fun x dx hx hdx _ =>
  ⟨x, dx, H1, st, k, p, bv, rfl, upd_same, hx, (Ex.new hdx).mut hx, fun H2 e2 h2 => ⟨rfl, h x dx H2 hx e2 h2⟩⟩
theorem e_Meeting {a : Ad} {σ : L2.St} {ta : TA} {H : Hp} {Q : VK} {st k : Int} {p : Addr} {bv : V} {E : XK} (h : EvA ta σ H [.int st, .ref p, bv, .int k]) (kk : ∀ x dx H2, H x = none → Ex H H2 → H2 x = some (.ins a.Meeting dx [("state", .int st), ("nodes", .ref p), ("back", bv), ("number", .int k)]) → Q (.ref x) H2) :
    tMake a.Meeting (spMeetInit a) [] E ta σ H Q := h H (Ex.refl _) _ fun H1 e1 => mt_make (R := fun x H2 => Q (.ref x) H2) fun x dx H2 hx e2 h2 => kk x dx H2 (fresh_back e1 hx) (e1.trans e2) h2
def spRun (a : Ad) : Sp := fun vs H Q _ => ∃ x n, vs = [.ref x] ∧ MeetAt a H x n ∧ n.run.length ≤ 1000 ∧ ∀ p H2, H p = none → Ex H H2 → H2 p = some (.tup (numV n.run)) → Q (.ref p) H2
theorem sc_Meeting_run : FnScope ["self", "numbers", "here"] ["self"] (defScope s_Meeting_run) := ⟨rfl, rfl, rfl, by decide +kernel, rfl, by decide +kernel, by decide +kernel⟩
theorem ok_Meeting_run {a : Ad} {f : Addr} {fd : FuncData} (T : TxC K mg a) (F : FunD K "run" "Meeting.run" (defArgs s_Meeting_run) (defBody s_Meeting_run) (defScope s_Meeting_run) [] [] f fd) : FnOk P w K mg base L2.CX0 1 f fd ["self"] (spRun a) := by
  refine fnOk_of F sc_Meeting_run (fun vs H Q E h => by obtain ⟨_, _, rfl, _⟩ := h; rfl) fun f cdv A outer s H vs Q E hr h => ?_
  obtain ⟨x, n, rfl, hx, hn, k⟩ := h
  refine ⟨_, (pss_cons (ps_set (i := 1) sc_Meeting_run.nd rfl (Or.inl rfl) (pe_lst pa_nil))
        (pss_cons (ps_set (i := 2) sc_Meeting_run.nd rfl (Or.inl rfl) (pv 0))
        (pss_cons (ps_while PassesOwn.never (pt_cmpR op_notN (pe_fld (pv 2) rfl) pe_non (nomark _)) (pss_cons (ps_expr (pe_bm PySem.F.plainAttrs_list PySem.F.slot_list_append PySem.F.type_list_append mt_append (pv 1) (pa_cons (pe_fld (pv 2) rfl) pa_nil)))
        (pss_one (ps_set (i := 2) sc_Meeting_run.nd rfl (Or.inl rfl) (pe_fld (pv 2) rfl)))))
        (pss_one (ps_ret (pe_callTy call_tuple_of (by rfl) T.f_tuple PyProof.Rows.boot_tuple (pa_cons (pe_revL (pv 1)) pa_nil))))))), ?_⟩
  refine q_asgL (el_lst ea_nil (by decide)) fun l H1 hl e1 h1 => ?_
  refine q_asg (ev_var rfl) fun H2 e2 => ?_
  have e12 := e1.trans e2
  refine q_while (fun m σ' H' => ∃ y n', σ' = [some (.ref x), some (.ref l), some (.ref y)] ∧ Ex H H' ∧ MeetAt a H' y n' ∧ ∃ ks : List Nat, H' l = some (.lst (numV ks)) ∧ n.run = n'.run ++ ks.reverse ∧ n'.run.length = m) n.run.length ⟨x, n, rfl, e12, hx.ex e12, [], e2 _ _ h1, by simp, rfl⟩ ?_
  rintro m σ' H' ⟨y, n', rfl, e3, hy, ks, k1, k2, k3⟩
  have notN : ∀ {v : V} {H'' : Hp}, RV (fun x y H Q => y = .non ∧ Q (.bl (!decide (x = .non))) H) v .non H'' (.bl (!decide (v = .non))) := fun {v H''} => rv_val fun _ _ _ q => ⟨rfl, q⟩
  cases hy with
  | start q1 q2 =>
    refine ⟨false, et_is (et_test (ev_op (ev_fld (ev_var rfl) q1 T.c_Meeting T.n_back rfl) ev_c notN)) rfl, (fun hb => by cases hb), fun _ H4 e4 => ?_⟩
    have hk : n.run = ks.reverse := by simpa using k2
    refine s_retU (eu_tuple (xs := numV n.run) fun H5 e5 Q' q' => ⟨_, rfl, l, _, rfl, sq_of (e5 _ _ (e4 _ _ k1)), fun p hp => q' p _ hp (Ex.new hp) ?_⟩) fun p H5 hp e5 h5 => k p H5 (fresh_back (e3.trans e4) hp) ((e3.trans e4).trans e5) h5
    rw [upd_same, hk]
    unfold numV
    rw [List.map_reverse]
  | next q1 q2 q3 =>
    rename_i dx p b st pl kk nb
    refine ⟨true, et_is (et_test (ev_op (ev_fld (ev_var rfl) q1 T.c_Meeting T.n_back rfl) ev_c notN)) rfl, fun _ H4 e4 => ⟨fun σ2 H5 => ∃ y n', σ2 = [some (.ref x), some (.ref l), some (.ref y)] ∧ Ex H H5 ∧ MeetAt a H5 y n' ∧ ∃ ks : List Nat, H5 l = some (.lst (numV ks)) ∧ n.run = n'.run ++ ks.reverse ∧ n'.run.length + 1 = m, ?_, ?_⟩, (fun hb => by cases hb)⟩
    · rintro σ2 H5 ⟨y, n', e, e5, hy, ks, k1, k2, k3⟩
      exact ⟨n'.run.length, by omega, y, n', e, e5, hy, ks, k1, k2, rfl⟩
    have hl4 := e4 _ _ k1
    have hks : ks.length ≤ 1000 := by
      have := congrArg List.length k2
      rw [List.length_append, List.length_reverse] at this
      omega
    refine q_app (l := l) (xs := numV ks) (v := .int (kk : Nat)) hl4 (ev_var rfl) (ev_fld (ev_var rfl) (e4 _ _ q1) T.c_Meeting T.n_number rfl) (by unfold numV; rw [List.length_map]; omega) fun H5 e5 => ?_
    have hl0 : H l = none := hl
    have keep : ∀ {b' : Addr} {o : HO}, H' b' = some o → (∀ xs, o ≠ .lst xs) → (upd H5 l (.lst (numV ks ++ [.int (kk : Nat)]))) b' = some o := fun h hn => by
      have h5 := e5 _ _ (e4 _ _ h)
      rw [upd_ne (fun e => by rw [e, e5 _ _ hl4] at h5; cases h5; exact hn _ rfl)]
      exact h5
    refine s_asg (v := .ref b) (ev_fld (ev_var rfl) (keep q1 fun _ z => by cases z) T.c_Meeting T.n_back rfl) fun H6 e6 => ⟨b, nb, rfl, ?_, (q3.mono fun b' o n1 _ h => keep h n1).ex e6, ks ++ [kk], ?_, ?_, ?_⟩
    · exact (((e3.trans e4).trans e5).mut hl0).trans e6
    · refine e6 l _ ?_
      rw [upd_same]
      unfold numV
      rw [List.map_append]
      rfl
    · rw [k2, List.reverse_append]
      simp
    · rw [← k3, List.length_append]
      rfl
end
end K28
end

section
set_option Elab.async false
set_option maxRecDepth 100000
set_option maxHeartbeats 4000000
namespace K28
open PySem PySem.Spec PyProof.Rows L2 Evl
/-- what is no list and no told object stays -/
def Kp (H H' : Hp) : Prop := ∀ b o, (∀ xs, o ≠ .lst xs) → (∀ φ, o ≠ .ext φ) → H b = some o → H' b = some o
theorem Kp.of_ex {H H' : Hp} (e : Ex H H') : Kp H H' := fun b o _ _ h => e b o h
theorem Kp.trans {H H1 H2 : Hp} (a : Kp H H1) (b : Kp H1 H2) : Kp H H2 := fun c o n1 n2 h => b c o n1 n2 (a c o n1 n2 h)
theorem Kp.lst {H : Hp} {q : Addr} {xs : List V} {u : HO} (h : H q = some (.lst xs)) : Kp H (upd H q u) := fun b o n1 _ hb => by
  rw [upd_ne (fun e => by rw [e, h] at hb; cases hb; exact n1 _ rfl)]
  exact hb
theorem Kp.nd {P : Program} {w : World} {H : Hp} {q : Addr} {kvs : List (NK × V)} {u : HO} (h : NDk P w H q kvs) : Kp H (upd H q u) := fun b o _ n2 hb => by
  obtain ⟨_, ob, h1, _⟩ := h
  rw [upd_ne (fun e => by rw [e, h1] at hb; cases hb; exact n2 _ rfl)]
  exact hb
section
variable {P : Program} {w : World} {K : PySem.W.Frag} {mg : Str → Option Value} {base : Heap}
theorem eu_behind {a : Ad} {H : Hp} {σ : L2.St} {ta : TA} {E : XK} {gl nl : Addr} {j : Bool} {z : Str} {ps : List Part} {pls : Pls} (h : EvA ta σ H [.ref gl, .ref nl, .str z]) (hg : GsAt P w a H gl j ps) (n3 : ps.length ≤ 3) (hn : H nl = some (.tup (pls.map plV))) (hl : ps.length = pls.length) :
    EvU (tCall (spBehind P w a) [] E ta) σ H ((afterAll ps pls z).map plV) := fun H1 e1 Q q => h H1 e1 _ fun H2 e2 => ⟨gl, j, nl, z, ps, pls, rfl, hg.ex (e1.trans e2), n3, (e1.trans e2) _ _ hn, hl, fun p H3 hp e3 h3 => q p H3 (fresh_back e2 hp) (e2.trans e3) h3⟩
def RetMs (a : Ad) (q : List Node) (H : Hp) (Q : VK) : Prop := ∀ (p : Addr) (H2 : Hp) (ms : List Addr), H p = none → Ex H H2 → H2 p = some (.lst (ms.map V.ref)) → Paired (MeetAt a H2) ms q → Q (.ref p) H2
def spMeetings (P : Program) (w : World) (a : Ad) : Sp := fun vs H Q _ => ∃ (x gl : Addr) (j : Bool) (s0 : Int) (rows : List Row) (ps : List Part), vs = [.ref x, .ref gl] ∧ PlantAt a H x s0 rows ∧ rows.length ≤ 12 ∧ GsAt P w a H gl j ps ∧ PartsOk ps ∧ RetMs a (met rows ps s0) H Q
theorem sc_meetings : FnScope ["plant", "guards", "start", "found", "queue", "at", "here", "number", "row", "nodes", "guard"] ["plant", "guards"] (defScope s_meetings) := ⟨rfl, rfl, rfl, by decide +kernel, rfl, by decide +kernel, by decide +kernel⟩
theorem ok_meetings {a : Ad} (T : TxC K mg a) (D : Dfn K mg "meetings" s_meetings) (M_Meeting : C8.Mak P w K mg base 1 "Meeting" a.Meeting (spMeetInit a) []) (C_is_held : CalP P w K mg base 2 "is_held" (spHeldA P w a)) (C_nodes_behind : CalP P w K mg base 2 "nodes_behind" (spBehind P w a)) :
    CalP P w K mg base 3 "meetings" (spMeetings P w a) := by
  refine cal_of D sc_meetings (fun _ _ _ _ _ _ us hl => match us, hl with | [_, _], _ => rfl) (fun vs H Q E h => by obtain ⟨_, _, _, _, _, _, rfl, _⟩ := h; rfl) fun f cdv A outer s H vs Q E hr h => ?_
  obtain ⟨x, gl, j, s0, rows, ps, rfl, hp, n12, hg, ok, k⟩ := h
  refine ⟨_, (pss_cons (ps_set (i := 2) sc_meetings.nd rfl (Or.inl rfl) (C8.pe_mk M_Meeting hr (by decide) (by rfl) (pa_cons (pe_fld (pv 0) rfl) (pa_cons (pe_callTy call_tuple_of (by rfl) T.f_tuple PyProof.Rows.boot_tuple (pa_cons (pe_lc (own := [("guard", 10)]) (g := gName 10) (tt := tYes) (by rfl) sc_meetings.nd (pi_seq (pv 1)) (blkOk_by (own := [("guard", 10)]) (N := ["plant", "guards", "start", "found", "queue", "at", "here", "number", "row", "nodes", "guard"]) (sc := defScope s_meetings) (by decide +kernel)) (fun _ _ _ _ _ => (pg_name (i := 10) sc_meetings.nd rfl (Or.inl rfl))) (fun _ _ _ _ _ => pts_nil) (fun _ _ _ _ _ => pe_int)) pa_nil)) (pa_cons pe_non (pa_cons pe_int pa_nil))))))
        (pss_cons (ps_set (i := 3) sc_meetings.nd rfl (Or.inl rfl) (pe_ndisp1 hr.units (pe_tup (pa_cons (pe_fld (pv 2) rfl) (pa_cons (pe_fld (pv 2) rfl) pa_nil))) pe_bl))
        (pss_cons (ps_set (i := 4) sc_meetings.nd rfl (Or.inl rfl) (pe_lst (pa_cons (pv 2) pa_nil)))
        (pss_cons (ps_set (i := 5) sc_meetings.nd rfl (Or.inl rfl) pe_int)
        (pss_cons (ps_while PassesOwn.never (pt_cmpR op_lt (pv 5) (pe_callB call_len_seq (by rfl) T.f_len boot_len (pa_cons (pv 4) pa_nil)) (nomark _)) (pss_cons (ps_set (i := 6) sc_meetings.nd rfl (Or.inl rfl) (pe_ix ix_list (pv 4) (pv 5) (fun _ _ => rfl)))
        (pss_cons (ps_aug (i := 5) sc_meetings.nd rfl (Or.inl rfl) pe_int ip_add)
        (pss_one (ps_for PassesOwn.never rfl (pi_seq (pe_dget2 (hu_of hr) (pe_fld (pv 0) rfl) (pe_fld (pv 6) rfl) (pe_lst pa_nil) ⟨by rfl, by rfl, by rfl, by rfl⟩)) (pg_name (i := 7) sc_meetings.nd rfl (Or.inl rfl)) (pss_cons (ps_set (i := 8) sc_meetings.nd rfl (Or.inl rfl) (pe_ix ix_list (pe_fld (pv 0) rfl) (pv 7) (fun _ _ => rfl)))
        (pss_cons (ps_if (pt_val (C8.pe_c C_is_held hr (by decide) (by rfl) (pa_cons (pv 1) (pa_cons (pe_fld (pv 6) rfl) (pa_cons (pe_ix ix_tup (pv 8) pe_int (fun _ _ => rfl)) pa_nil))))) (pss_one (ps_continue)) pss_nil)
        (pss_cons (ps_set (i := 9) sc_meetings.nd rfl (Or.inl rfl) (C8.pe_c C_nodes_behind hr (by decide) (by rfl) (pa_cons (pv 1) (pa_cons (pe_fld (pv 6) rfl) (pa_cons (pe_ix ix_tup (pv 8) pe_int (fun _ _ => rfl)) pa_nil)))))
        (pss_cons (ps_if (pt_cmp (pc_nin hr.units (pe_tup (pa_cons (pe_ix ix_tup (pv 8) pe_int (fun _ _ => rfl)) (pa_cons (pv 9) pa_nil))) (pv 3)) (by with_unfolding_all rfl)) (pss_one (ps_continue)) pss_nil)
        (pss_cons (ps_nput hr.units (pv 3) (pe_tup (pa_cons (pe_ix ix_tup (pv 8) pe_int (fun _ _ => rfl)) (pa_cons (pv 9) pa_nil))) pe_bl rfl)
        (pss_cons (ps_expr (pe_bm PySem.F.plainAttrs_list PySem.F.slot_list_append PySem.F.type_list_append mt_append (pv 4) (pa_cons (C8.pe_mk M_Meeting hr (by decide) (by rfl) (pa_cons (pe_ix ix_tup (pv 8) pe_int (fun _ _ => rfl)) (pa_cons (pv 9) (pa_cons (pv 6) (pa_cons (pv 7) pa_nil))))) pa_nil)))
        (pss_one (ps_if (pt_cmpR op_gt (pe_callB call_len_seq (by rfl) T.f_len boot_len (pa_cons (pv 4) pa_nil)) (C8.pe_gc (by rfl) T.i_MOST_PLACES) (nomark _)) pss_never pss_nil)))))))))))))
        (pss_one (ps_ret (pv 4)))))))), ?_⟩
  obtain ⟨dx, fs, rr, d, q1, q2, q3, q4, q5, q6⟩ := id hp
  refine q_set ⟨_, rfl, x, a.Plant, dx, _, _, rfl, q1, T.c_Plant, T.n_first, q2, eu_zeros hg ok.2.1 (ev_var rfl) (fun _ => rfl) H (Ex.refl _) _ fun p0 H1a hp0 e1a h1a => (ea_cons (ev_c (v := .non)) (ea_cons (ev_c (v := .int 0)) ea_nil)) H1a (Ex.refl _) _ fun H1 e1b => mt_make fun st dxs H2 hst e2 h2 => ?_⟩
  have e1 := e1a.trans e1b
  have h1 := e1b _ _ h1a
  have e02 := e1.trans e2
  have hst0 : MeetAt a H2 st (start0 ps s0) := .start h2 (e2 _ _ h1)
  refine q_set fun g o hg0 nd0 => ?_
  have h2g : upd H2 g o st = some (.ins a.Meeting dxs [("state", .int s0), ("nodes", .ref p0), ("back", .non), ("number", .int 0)]) := by rw [upd_ne (ne_new hg0 h2)]; exact h2
  refine ⟨_, rfl, st, a.Meeting, dxs, _, _, rfl, h2g, T.c_Meeting, T.n_state, rfl, _, rfl, st, a.Meeting, dxs, _, _, rfl, h2g, T.c_Meeting, T.n_nodes, rfl, (by show 2 ≤ sizeLine; decide), fun t ht => ?_⟩
  refine ⟨fkey (s0, zeros ps), nd0.ex (Ex.new ht), fkey_keyV upd_same (by rw [upd_ne (ne_new ht (by rw [upd_ne (ne_new hg0 (e2 _ _ h1))]; exact e2 _ _ h1)), upd_ne (ne_new hg0 (e2 _ _ h1))]; exact e2 _ _ h1), fun o' nd1 => ?_⟩
  have hgt : g ≠ t := fun e => by rw [← e, upd_same] at ht; cases ht
  have ht2 : H2 t = none := by rw [upd_ne hgt.symm] at ht; exact ht
  have e2g : Ex H2 (upd (upd (upd H2 g o) t (.tup [.int s0, .ref p0])) g o') := ((Ex.new hg0).mut ht2).mut hg0
  refine q_asgL (el_lst (ea_cons (ev_var rfl) ea_nil) (by decide : (1 : Nat) ≤ 100000)) fun q H4 hq e4 h4 => ?_
  refine q_asg (ev_c (v := .int 0)) fun H5 e5 => ?_
  have e25 := e2g.trans (e4.trans e5)
  have e05 := e02.trans e25
  have hg00 : H g = none := fresh_back e02 hg0
  have hq00 : H q = none := fresh_back (e02.trans e2g) hq
  refine q_while (fun m σ' H' => ∃ (i : Nat) (v6 v7 v8 v9 : Option V), σ' = [some (.ref x), some (.ref gl), some (.ref st), some (.ref g), some (.ref q), some (.int (i : Nat)), v6, v7, v8, v9, none] ∧ Ex H H' ∧ NDk P w H' g (foundK (qs rows ps s0 i)) ∧
    (∃ ms : List Addr, H' q = some (.lst (ms.map V.ref)) ∧ Paired (MeetAt a H') ms (qs rows ps s0 i)) ∧ i ≤ (qs rows ps s0 i).length ∧ m + i = 833) 833 ⟨0, _, _, _, _, rfl, e05, nd1.ex (e4.trans e5), ⟨[st], e5 _ _ h4, .cons (hst0.ex e25) .nil⟩, Nat.zero_le _, rfl⟩ ?_
  rintro m σ' H' ⟨i, v6, v7, v8, v9, rfl, e6, nd6, ⟨ms, ms1, ms2⟩, hi, hm⟩
  have qok := qs_ok rows ps s0 i
  have hlen : ms.length = (qs rows ps s0 i).length := Paired.length ms2
  have h832 := qok.len n12 ok
  refine ⟨decide ((i : Int) < ((qs rows ps s0 i).length : Int)), et_test (ev_op (ev_var rfl) (by have := ev_lenK (K := K) (k := false) (σ := [some (.ref x), some (.ref gl), some (.ref st), some (.ref g), some (.ref q), some (.int (i : Nat)), v6, v7, v8, v9, none]) (ta := tVar 4) (ev_var rfl) (sqk_l ms1); rw [List.length_map, hlen] at this; exact this) rv_I0), fun hb H7 e7 => ?_, fun hb H7 e7 => ?_⟩
  · have hlt : i < (qs rows ps s0 i).length := by have := of_decide_eq_true hb; omega
    obtain ⟨n, hn⟩ : ∃ n, (qs rows ps s0 i)[i]? = some n := ⟨_, List.getElem?_eq_getElem hlt⟩
    obtain ⟨hm1, hhm⟩ : ∃ y, ms[i]? = some y := ⟨_, List.getElem?_eq_getElem (by omega)⟩
    have hmeet : MeetAt a H' hm1 n := by
      obtain ⟨n', e1, e2⟩ := pair_at ms2 hhm
      rw [hn] at e1
      cases e1
      exact e2
    refine ⟨fun σ2 H8 => ∃ (v6 v7 v8 v9 : Option V), σ2 = [some (.ref x), some (.ref gl), some (.ref st), some (.ref g), some (.ref q), some (.int ((i + 1 : Nat) : Int)), v6, v7, v8, v9, none] ∧ Ex H H8 ∧ NDk P w H8 g (foundK (qs rows ps s0 (i + 1))) ∧
      (∃ ms : List Addr, H8 q = some (.lst (ms.map V.ref)) ∧ Paired (MeetAt a H8) ms (qs rows ps s0 (i + 1))) ∧ i + 1 ≤ (qs rows ps s0 (i + 1)).length, ?_, ?_⟩
    · rintro σ2 H8 ⟨v6, v7, v8, v9, e, f1, f2, f3, f4⟩
      exact ⟨m - 1, by omega, i + 1, v6, v7, v8, v9, e, f1, f2, f3, f4, by omega⟩
    have hnext : qs rows ps s0 (i + 1) = expand rows ps n (qs rows ps s0 i) := by
      show (match (qs rows ps s0 i)[i]? with | some n => expand rows ps n (qs rows ps s0 i) | none => qs rows ps s0 i) = _
      rw [hn]
    refine q_asg (ev_op (ev_var rfl) (ev_var rfl) (rv_ixL (sq_of (e7 _ _ ms1)) (v := .ref hm1) (atI_nat (by rw [List.getElem?_map, hhm]; rfl)))) fun H8 e8 => ?_
    refine q_aug (b := 1) rfl ev_c fun H9 e9 => ?_
    have e69 := e7.trans (e8.trans e9)
    have e09 := e6.trans e69
    have hmeet9 := hmeet.ex e69
    obtain ⟨dm, pm, bm, km, l1, l2⟩ := hmeet9.look
    obtain ⟨ls, y1, y2, y3⟩ := q6.ex e09
    -- the steps that leave the state
    refine s_for ?_
    refine ⟨_, rfl, x, a.Plant, dx, _, _, rfl, e09 _ _ q1, T.c_Plant, T.n_leaving, q4, d, rfl, .inl ⟨_, .inl y1⟩, _, rfl, hm1, a.Meeting, dm, _, _, rfl, l1, T.c_Meeting, T.n_state, rfl, by decide, fun p hp9 => ⟨_, DGet.k (k := Sum.inl n.st) (by rw [upd_ne (ne_new hp9 y1)]; exact y1), ?_⟩⟩
    obtain ⟨al, ha1, ha2⟩ : ∃ al, (valV (lvK ls) (Sum.inl n.st)).getD (.ref p) = .ref al ∧ upd H9 p (.lst []) al = some (.lst (numV (nums rows n.st))) := by
      rw [val_lv]
      cases hlk : lk ls n.st with
      | none =>
        refine ⟨p, rfl, ?_⟩
        rw [upd_same, y3 n.st (lk_none hlk)]
        rfl
      | some al =>
        have hm := y2 _ (lk_mem hlk)
        exact ⟨al, rfl, by rw [upd_ne (ne_new hp9 hm)]; exact hm⟩
    rw [ha1]
    have e9p : Ex H9 (upd H9 p (.lst [])) := Ex.new hp9
    have hal_g : al ≠ g := fun e => by
      have z := (nd6.ex e69).ex e9p
      obtain ⟨_, ob, z1, _⟩ := z
      rw [e, z1] at ha2
      cases ha2
    have hq9 : H9 q = some (.lst (ms.map V.ref)) := e69 _ _ ms1
    have hal_q : al ≠ q := fun e => by
      rw [e, upd_ne (ne_new hp9 hq9), hq9] at ha2
      injection ha2 with z
      injection z with z
      have hne : ms ≠ [] := fun e => by rw [e] at hhm; simp at hhm
      unfold numV at z
      cases ms with
      | nil => exact hne rfl
      | cons y r =>
        cases hnn : nums rows n.st with
        | nil => rw [hnn] at z; cases z
        | cons _ _ => rw [hnn] at z; injection z with z _; cases z
    have good := qok.good n (List.mem_of_getElem? hn)
    have acc_ok : ∀ jj, QOk rows ps s0 (i + 1) (((nums rows n.st).take jj).foldl (step1 rows ps n) (qs rows ps s0 i)) := fun jj =>
      fold_qok good _ _ (fun y hy => (mem_nums.mp (List.mem_of_mem_take hy)).1) ⟨fun y hy => let ⟨a, b, c, d⟩ := qok.good y hy; ⟨a, b, c, Nat.le_succ_of_le d⟩, qok.keys⟩
    refine ⟨false, al, _, rfl, sqk_l ha2, for_w (walk_seq (xs := numV (nums rows n.st))) (fun jj σ'' H'' => ∃ (v7 v8 v9 : Option V), σ'' = [some (.ref x), some (.ref gl), some (.ref st), some (.ref g), some (.ref q), some (.int ((i : Int) + 1)), some (.ref hm1), v7, v8, v9, none] ∧ Ex H H'' ∧
      H'' al = some (.lst (numV (nums rows n.st))) ∧ MeetAt a H'' hm1 n ∧ NDk P w H'' g (foundK (((nums rows n.st).take jj).foldl (step1 rows ps n) (qs rows ps s0 i))) ∧
      ∃ ms' : List Addr, H'' q = some (.lst (ms'.map V.ref)) ∧ Paired (MeetAt a H'') ms' (((nums rows n.st).take jj).foldl (step1 rows ps n) (qs rows ps s0 i))) ?_ ?_ ?_ ?_⟩
    · exact ⟨_, _, _, rfl, e09.trans e9p, ha2, hmeet9.ex e9p, (nd6.ex e69).ex e9p, ms, e9p _ _ hq9, Paired.mapP ms2 fun _ _ z => z.ex (e69.trans e9p)⟩
    · rintro jj σ'' H'' _ ⟨_, _, _, _, _, h, _⟩
      exact sqk_l h
    · rintro jj y σ'' H10 H11 hjj ⟨v7, v8, v9, rfl, f1, f2, f3, f4, ms', f5, f6⟩ ⟨rfl, ey⟩
      unfold numV at ey
      rw [List.getElem?_map] at ey
      obtain ⟨kk, hkk, rfl⟩ := Option.map_eq_some_iff.mp ey
      obtain ⟨k1, k2⟩ := mem_nums.mp (List.mem_of_getElem? hkk)
      obtain ⟨acc, hacc⟩ : ∃ acc, acc = ((nums rows n.st).take jj).foldl (step1 rows ps n) (qs rows ps s0 i) := ⟨_, rfl⟩
      rw [← hacc] at f4 f6
      have hstep : ((nums rows n.st).take (jj + 1)).foldl (step1 rows ps n) (qs rows ps s0 i) = step1 rows ps n acc kk := by rw [take_snoc hkk, List.foldl_append, hacc]; rfl
      rw [hstep]
      have aok := acc_ok jj
      rw [← hacc] at aok
      have alen := aok.len n12 ok
      have hms' : ms'.length = acc.length := Paired.length f6
      obtain ⟨rt, t1, t2⟩ := row_ix (K := K) (σ := [some (.ref x), some (.ref gl), some (.ref st), some (.ref g), some (.ref q), some (.int ((i : Int) + 1)), some (.ref hm1), some (.int (kk : Nat)), v8, v9, none]) (q5.ex f1) k1 (ev_fld (ta := tVar 0) (ev_var rfl) (f1 _ _ q1) T.c_Plant T.n_rows q3) (ev_var (i := 7) rfl)
      refine q_asg t1 fun H12 e12 => ?_
      have g1 := f1.trans e12
      have t3 : RowAt H12 rt (rowAt rows kk) := e12 _ _ t2
      obtain ⟨dm, pm, bm, km, l1, l2⟩ := (f3.ex e12).look
      have pk : PlsOk ps n.pl := by rw [good.2.1]; exact pls_run ok rows n.run
      refine q_if (et_B (ev_call (ea_cons (ev_var rfl) (ea_cons (ev_fld (ev_var rfl) l1 T.c_Meeting T.n_nodes rfl) (ea_cons (row_at1 t3 (ev_var rfl)) ea_nil))) (sv_heldA (hg.ex g1) l2 pk))) (fun hb H13 e13 => ?_) fun hb H13 e13 => ?_
      · -- held: no step
        refine ⟨_, _, _, rfl, g1.trans e13, e13 _ _ (e12 _ _ f2), f3.ex (e12.trans e13), ?_⟩
        have hs : step1 rows ps n acc kk = acc := by
          unfold step1
          rw [if_neg (fun h => by rw [hb] at h; cases h.2.1)]
        rw [hs]
        exact ⟨f4.ex (e12.trans e13), ms', e13 _ _ (e12 _ _ f5), Paired.mapP f6 fun _ _ z => z.ex (e12.trans e13)⟩
      · have e23 := e12.trans e13
        have g2 := g1.trans e13
        have t4 : RowAt H13 rt (rowAt rows kk) := e13 _ _ t3
        refine q_asgU (eu_behind (z := (rowAt rows kk).2.1) (ea_cons (ev_var rfl) (ea_cons (ev_fld (ev_var rfl) (e13 _ _ l1) T.c_Meeting T.n_nodes rfl) (ea_cons (row_at1 t4 (ev_var rfl)) ea_nil))) (hg.ex g2) ok.2.1 (e13 _ _ l2) pk.1) fun nn H14 hnn e14 h14 => ?_
        have g3 := g2.trans e14
        have e24 := e23.trans e14
        have t5 : RowAt H14 rt (rowAt rows kk) := e14 _ _ t4
        have ndx := f4.ex e24
        have hkey : ∀ t H1, Ex H14 H1 → H1 t = some (.tup [.int (rowAt rows kk).2.2, .ref nn]) → KeyV H1 (fkey (nkey (nxt rows ps n kk))) (.ref t) := fun t H1 e h => fkey_keyV (pls := afterAll ps n.pl (rowAt rows kk).2.1) h (e _ _ h14)
        refine q_if (et_B (ev_ninU (eu_tup (ea_cons (row_at2 t5 (ev_var rfl)) (ea_cons (ev_var rfl) ea_nil)) (by decide : (2 : Nat) ≤ 100000)) (fun _ _ => ev_var rfl) ndx hkey)) (fun hb2 H15 e15 => ?_) fun hb2 H15 e15 => ?_
        · -- found already
          rw [val_found] at hb2
          refine ⟨_, _, _, rfl, g3.trans e15, e15 _ _ (e24 _ _ f2), f3.ex (e24.trans e15), ?_⟩
          have hs : step1 rows ps n acc kk = acc := by
            unfold step1
            rw [if_neg (fun h => h.2.2 (of_decide_eq_true hb2))]
          rw [hs]
          exact ⟨ndx.ex e15, ms', e15 _ _ (e24 _ _ f5), Paired.mapP f6 fun _ _ z => z.ex (e24.trans e15)⟩
        · -- a new place
          rw [val_found] at hb2
          have hnew := of_decide_eq_false hb2
          have hs : step1 rows ps n acc kk = acc ++ [nxt rows ps n kk] := by
            unfold step1
            rw [if_pos ⟨k2, hb, hnew⟩]
          rw [hs]
          have nok : QOk rows ps s0 (i + 1) (acc ++ [nxt rows ps n kk]) := by
            rw [← hs, ← hstep]
            exact acc_ok (jj + 1)
          have nlen := nok.len n12 ok
          rw [List.length_append] at nlen
          simp only [List.length_cons, List.length_nil] at nlen
          have e25' := e24.trans e15
          have g4 := g3.trans e15
          have t6 : RowAt H15 rt (rowAt rows kk) := e15 _ _ t5
          have nd15 := ndx.ex e15
          -- found[..] = True
          refine ⟨_, rfl, eu_tup (ea_cons (row_at2 t6 (ev_var rfl)) (ea_cons (ev_var (v := .ref nn) rfl) ea_nil)) (by decide : (2 : Nat) ≤ 100000) H15 (Ex.refl _) _ fun tt H16 htt e16 h16 => ?_⟩
          refine ⟨g, _, fkey (nkey (nxt rows ps n kk)), rfl, nd15.ex e16, hkey tt H16 (e15.trans e16) h16, (by unfold foundK; rw [List.length_map]; exact sz_lt (by omega)), fun o2 nd17 => ?_⟩
          have hvn : valV (foundK acc) (fkey (nkey (nxt rows ps n kk))) = none := by
            have := val_found acc (nkey (nxt rows ps n kk))
            rw [decide_eq_false hnew] at this
            cases h : valV (foundK acc) (fkey (nkey (nxt rows ps n kk))) with
            | none => rfl
            | some _ => rw [h] at this; cases this
          rw [putK_new _ hvn] at nd17
          dsimp only
          have nd16 := nd15.ex e16
          have kp17 : Kp H11 (upd H16 g o2) := ((Kp.of_ex (e25'.trans e16)).trans (Kp.nd nd16))
          have hq17 : upd H16 g o2 q = some (.lst (ms'.map V.ref)) := by
            rw [upd_ne (fun e => by
              obtain ⟨_, ob, z1, _⟩ := nd16
              have z := e16 _ _ (e15 _ _ (e24 _ _ f5))
              rw [e, z1] at z
              cases z)]
            exact e16 _ _ (e15 _ _ (e24 _ _ f5))
          have hgq2 : g ≠ q := fun e => by
            rw [← e] at hq17
            obtain ⟨_, ob, z1, _⟩ := nd17
            rw [z1] at hq17
            cases hq17
          have al17 : upd H16 g o2 al = some (.lst (numV (nums rows n.st))) := by rw [upd_ne hal_g]; exact e16 _ _ (e15 _ _ (e24 _ _ f2))
          have hrow17 : ∀ {b u}, H16 b = some u → (∀ φ, u ≠ .ext φ) → upd H16 g o2 b = some u := fun h hn' => by
            obtain ⟨_, ob, z1, _⟩ := nd16
            rw [upd_ne (fun e => by rw [e, z1] at h; cases h; exact hn' _ rfl)]
            exact h
          have t7 : RowAt (upd H16 g o2) rt (rowAt rows kk) := hrow17 (e16 _ _ t6) fun _ z => by cases z
          have h17n : upd H16 g o2 nn = some (.tup ((afterAll ps n.pl (rowAt rows kk).2.1).map plV)) := hrow17 (e16 _ _ (e15 _ _ h14)) fun _ z => by cases z
          -- queue.append(Meeting(..))
          refine q_stm ?_
          refine ⟨_, rfl, .inl ⟨rfl, _, sq_of hq17⟩, e_Meeting (ea_cons (row_at2 t7 (ev_var rfl)) (ea_cons (ev_var (v := .ref nn) rfl) (ea_cons (ev_var (v := .ref hm1) rfl) (ea_cons (ev_var (v := .int (kk : Nat)) rfl) ea_nil)))) fun xm dxm H19 hxm e79 h19 => ?_⟩
          refine ⟨q, _, _, rfl, rfl, e79 _ _ hq17, by rw [List.length_map, hms']; exact sz_lt (by omega), ?_⟩
          dsimp only
          have kp20 : Kp H11 (upd H19 q (.lst (ms'.map V.ref ++ [.ref xm]))) := (kp17.trans (Kp.of_ex e79)).trans (Kp.lst (e79 _ _ hq17))
          have hq20 : upd H19 q (.lst (ms'.map V.ref ++ [.ref xm])) q = some (.lst ((ms' ++ [xm]).map V.ref)) := by
            rw [upd_same, List.map_append]
            rfl
          have hxq : xm ≠ q := fun e => by rw [e, hq17] at hxm; cases hxm
          refine s_when (b := false) (et_test (ev_is (ev_op (by have := ev_lenK (K := K) (k := false) (σ := [some (.ref x), some (.ref gl), some (.ref st), some (.ref g), some (.ref q), some (.int ((i : Int) + 1)), some (.ref hm1), some (.int (kk : Nat)), some (.ref rt), some (.ref nn), none]) (ta := tVar 4) (ev_var rfl) (sqk_l hq20); exact this) ev_c rv_I0) ?_)) (fun e => by cases e) fun _ H21 e21 => ⟨_, _, _, rfl, ?_, ?_, ?_, ?_, ms' ++ [xm], e21 _ _ hq20, ?_⟩
          · rw [List.length_map, List.length_append, hms']
            simp only [List.length_cons, List.length_nil]
            exact congrArg V.bl (decide_eq_false (by omega))
          · intro b u hb'
            refine e21 b u ?_
            rw [upd_ne (ne_new hq00 hb')]
            refine e79 b u ?_
            rw [upd_ne (ne_new hg00 hb')]
            exact e16 b u (g4 b u hb')
          · refine e21 _ _ ?_
            rw [upd_ne hal_q]
            exact e79 _ _ al17
          · exact (f3.mono kp20).ex e21
          · refine NDk.ex e21 ?_
            have z := nd17.ex e79
            unfold foundK
            rw [List.map_append]
            exact z.upd hgq2 (fun ws e => by rw [e79 _ _ hq17] at e; cases e)
          · refine Paired.snoc (Paired.mapP f6 fun _ _ z => (z.mono kp20).ex e21) (MeetAt.ex e21 ?_)
            refine .next (dx := dxm) (p := nn) (b := hm1) (k := kk) (n := n) ?_ ?_ (f3.mono kp20)
            · rw [upd_ne hxq]
              exact h19
            · rw [upd_ne (fun e => by rw [e, hq17] at h17n; cases h17n)]
              exact e79 _ _ h17n
    · rintro σ'' H10 ⟨v7, v8, v9, rfl, f1, f2, f3, f4, ms', f5, f6⟩
      have hl : (numV (nums rows n.st)).length = (nums rows n.st).length := by unfold numV; rw [List.length_map]
      rw [hl, List.take_length, expand_nums, ← hnext] at f4 f6
      refine ⟨_, _, _, _, rfl, f1, f4, ⟨ms', f5, f6⟩, ?_⟩
      -- the queue doesn't shrink
      have grow : ∀ (l : List Nat) (b : List Node), b.length ≤ (l.foldl (step1 rows ps n) b).length := by
        intro l
        induction l with
        | nil => exact fun b => Nat.le_refl _
        | cons y l ih =>
          intro b
          refine Nat.le_trans ?_ (ih _)
          unfold step1
          split
          · rw [List.length_append]; omega
          · exact Nat.le_refl _
      have := grow (List.range rows.length) (qs rows ps s0 i)
      rw [hnext]
      exact Nat.le_trans hlt this
  · have hge : (qs rows ps s0 i).length ≤ i := by have := of_decide_eq_false hb; omega
    have hmet := met_of n12 ok hge (by omega)
    refine s_ret (ev_var (v := .ref q) rfl) fun H8 e8 => k q H8 ms hq00 ((e6.trans e7).trans e8) (e8 _ _ (e7 _ _ ms1)) ?_
    rw [hmet]
    exact Paired.mapP ms2 fun _ _ z => z.ex (e7.trans e8)
end
end K28
end

section
set_option Elab.async false
set_option linter.constructorNameAsVariable false
set_option maxRecDepth 100000
set_option maxHeartbeats 4000000
namespace K28
open PySem PySem.Spec PyProof.Rows L2 Evl
section
variable {P : Program} {w : World} {K : PySem.W.Frag} {mg : Str → Option Value} {base : Heap}
def RetDue (o : Option (List Nat)) (H : Hp) (Q : VK) : Prop := match o with
  | none => RetV .non H Q
  | some run => ∀ p H2, H p = none → Ex H H2 → H2 p = some (.tup (numV run)) → Q (.ref p) H2
def spShort (P : Program) (w : World) (a : Ad) : Sp := fun vs H Q _ => ∃ (x gl : Addr) (j : Bool) (s0 : Int) (rows : List Row) (ps : List Part) (n : Nat), vs = [.ref x, .ref gl, .int (n : Nat)] ∧ PlantAt a H x s0 rows ∧ rows.length ≤ 12 ∧ n < rows.length ∧ GsAt P w a H gl j ps ∧ PartsOk ps ∧ RetDue (due rows ps s0 n) H Q
theorem sc_shortest_let : FnScope ["plant", "guards", "number", "row", "here"] ["plant", "guards", "number"] (defScope s_shortest_let) := ⟨rfl, rfl, rfl, by decide +kernel, rfl, by decide +kernel, by decide +kernel⟩
theorem ok_shortest_let {a : Ad} (T : TxC K mg a) (D : Dfn K mg "shortest_let" s_shortest_let) (C_check_guards : CalP P w K mg base 2 "check_guards" (spCheckG P w a)) (C_is_number_below : CalP P w K mg base 2 "is_number_below" spBelow)
    (C_meetings : CalP P w K mg base 3 "meetings" (spMeetings P w a)) (C_is_held : CalP P w K mg base 2 "is_held" (spHeldA P w a)) (X_run : C8.Met P w K mg base 1 a.Meeting "run" (spRun a) []) :
    CalP P w K mg base 4 "shortest_let" (spShort P w a) := by
  refine cal_of D sc_shortest_let (fun _ _ _ _ _ _ us hl => match us, hl with | [_, _, _], _ => rfl) (fun vs H Q E h => by obtain ⟨_, _, _, _, _, _, _, rfl, _⟩ := h; rfl) fun f cdv A outer s H vs Q E hr h => ?_
  obtain ⟨x, gl, j, s0, rows, ps, n, rfl, hp, n12, hn, hg, ok, k⟩ := h
  refine ⟨_, (pss_cons (ps_expr (C8.pe_c C_check_guards hr (by decide) (by rfl) (pa_cons (pv 1) pa_nil)))
        (pss_cons (ps_if (pt_not (pt_val (C8.pe_c C_is_number_below hr (by decide) (by rfl) (pa_cons (pv 2) (pa_cons (pe_callB call_len_seq (by rfl) T.f_len boot_len (pa_cons (pe_fld (pv 0) rfl) pa_nil)) pa_nil))))) pss_never pss_nil)
        (pss_cons (ps_set (i := 3) sc_shortest_let.nd rfl (Or.inl rfl) (pe_ix ix_list (pe_fld (pv 0) rfl) (pv 2) (fun _ _ => rfl)))
        (pss_cons (ps_for PassesOwn.never rfl (pi_seq (C8.pe_c C_meetings hr (by decide) (by rfl) (pa_cons (pv 0) (pa_cons (pv 1) pa_nil)))) (pg_name (i := 4) sc_shortest_let.nd rfl (Or.inl rfl)) (pss_one (ps_if (PW.pt (pw_and (pt_cmpR op_eq (pe_fld (pv 4) rfl) (pe_ix ix_tup (pv 3) pe_int (fun _ _ => rfl)) (nomark _)) (pw_and1 (pt_not (pt_val (C8.pe_c C_is_held hr (by decide) (by rfl) (pa_cons (pv 1) (pa_cons (pe_fld (pv 4) rfl) (pa_cons (pe_ix ix_tup (pv 3) pe_int (fun _ _ => rfl)) pa_nil))))))))) (pss_one (ps_ret (pe_tup (StX.pa_star (C8.pe_mt0 X_run hr (by decide) (pv 4)) (pa_cons (pv 2) pa_nil))))) pss_nil)))
        (pss_one (ps_ret pe_non)))))), ?_⟩
  refine q_drop (ev_call (ea_cons (ev_var rfl) ea_nil) (z := .non) fun H' e Q q _ => ⟨gl, j, ps, rfl, hg.ex e, ok, q⟩) fun H1 e1 => ?_
  obtain ⟨dx, fs, rr, d, q1, q2, q3, q4, q5, q6⟩ := hp.ex e1
  refine q_when (et_not (et_B (ev_call (ea_cons (ev_var rfl) (ea_cons (rows_len q5 (ev_fld (ev_var rfl) q1 T.c_Plant T.n_rows q3)) ea_nil)) (sv_below (by omega) (by omega))))) (fun e => by cases e) fun _ H2 e2 => ?_
  obtain ⟨rt, t1, t2⟩ := row_ix (K := K) (σ := [some (.ref x), some (.ref gl), some (.int (n : Nat)), none, none]) (q5.ex e2) hn (ev_fld (ta := tVar 0) (ev_var rfl) (e2 _ _ q1) T.c_Plant T.n_rows q3) (ev_var (i := 2) rfl)
  refine q_asg t1 fun H3 e3 => ?_
  have e03 := e1.trans (e2.trans e3)
  have t3 : RowAt H3 rt (rowAt rows n) := e3 _ _ t2
  refine q_for ?_
  refine ⟨_, rfl, _, rfl, x, gl, j, s0, rows, ps, rfl, hp.ex e03, n12, hg.ex e03, ok, fun p H4 ms hp4 e4 h4 hms => ⟨false, p, _, rfl, sqk_l h4, for_w (walk_seq (xs := ms.map V.ref)) (fun i σ' H' => ∃ v, σ' = [some (.ref x), some (.ref gl), some (.int (n : Nat)), some (.ref rt), v] ∧ Ex H4 H' ∧
    ((met rows ps s0).take i).find? (fun y => decide (y.st = (rowAt rows n).1) && !heldAll ps y.pl (rowAt rows n).2.1) = none) ?_ ?_ ?_ ?_⟩⟩
  · exact ⟨_, rfl, Ex.refl _, rfl⟩
  · rintro i σ' H' _ ⟨v, _, e, _⟩
    exact sqk_l (e _ _ h4)
  · rintro i y σ' H5 H6 hi ⟨v, rfl, f1, f2⟩ ⟨rfl, ey⟩
    rw [List.getElem?_map] at ey
    obtain ⟨m, hm, rfl⟩ := Option.map_eq_some_iff.mp ey
    obtain ⟨nd, hnd, hmeet⟩ := pair_at hms hm
    have e04 := e03.trans (e4.trans f1)
    have t4 := f1 _ _ (e4 _ _ t3)
    have t5 : RowAt H6 rt (rowAt rows n) := t4
    have hmt := hmeet.ex f1
    obtain ⟨dm, pm, bm, km, l1, l2⟩ := hmt.look
    have good := (qs_ok rows ps s0 833).good nd (List.mem_of_getElem? hnd)
    have pk : PlsOk ps nd.pl := by rw [good.2.1]; exact pls_run ok rows nd.run
    have hpred : (decide (V.int nd.st = V.int (rowAt rows n).1) && !heldAll ps nd.pl (rowAt rows n).2.1) = (decide (nd.st = (rowAt rows n).1) && !heldAll ps nd.pl (rowAt rows n).2.1) := by
      by_cases h : nd.st = (rowAt rows n).1
      · rw [h]; simp
      · have h' : ¬ V.int nd.st = V.int (rowAt rows n).1 := fun e => h (by injection e)
        rw [decide_eq_false h, decide_eq_false h']
    refine s_when (et_and (et_test (ev_op (ev_fld (ev_var rfl) l1 T.c_Meeting T.n_state rfl) (row_at0 t5 (ev_var rfl)) (rv_eq rfl))) fun _ => et_not (et_B (ev_call (ea_cons (ev_var rfl) (ea_cons (ev_fld (ev_var rfl) l1 T.c_Meeting T.n_nodes rfl) (ea_cons (row_at1 t5 (ev_var rfl)) ea_nil))) (sv_heldA (hg.ex e04) l2 pk)))) (fun hb H7 e7 => ?_) fun hb H7 e7 => ⟨_, rfl, f1.trans e7, ?_⟩
    · rw [hpred] at hb
      have hdue : due rows ps s0 n = some (nd.run ++ [n]) := by
        unfold due
        have hf : (met rows ps s0).find? (fun y => decide (y.st = (rowAt rows n).1) && !heldAll ps y.pl (rowAt rows n).2.1) = some nd := by
          have hsp : met rows ps s0 = (met rows ps s0).take i ++ nd :: (met rows ps s0).drop (i + 1) := by
            have h1 : (met rows ps s0).drop i = nd :: (met rows ps s0).drop (i + 1) := by
              have hlt := (List.getElem?_eq_some_iff.mp hnd).1
              have hel := (List.getElem?_eq_some_iff.mp hnd).2
              rw [List.drop_eq_getElem_cons hlt]
              congr 1
            rw [← h1, List.take_append_drop]
          rw [hsp, List.find?_append, f2, Option.none_or, List.find?_cons]
          simp only [hb]
        rw [hf]
        rfl
      rw [hdue] at k
      refine ⟨_, rfl, m, dm, _, rfl, e7 _ _ l1, rfl, m, nd, rfl, hmt.ex e7, by have := good.2.2.2; omega, fun t H8 ht e8 h8 => ⟨t, numV nd.run, rfl, .inl (st_of h8), _, rfl, ?_, fun u hu => ?_⟩⟩
      · rw [List.length_append]
        unfold numV
        rw [List.length_map]
        have := good.2.2.2
        simp only [List.length_cons, List.length_nil]
        exact sz_of (by omega)
      · have e9 := (e04.trans e7).trans e8
        refine k u _ (fresh_back e9 hu) (e9.trans (Ex.new hu)) ?_
        rw [upd_same]
        unfold numV
        rw [List.map_append]
        rfl
    · rw [hpred] at hb
      rw [take_snoc hnd, List.find?_append, f2]
      simp only [Option.none_or]
      rw [List.find?_cons_of_neg (by rw [hb]; exact Bool.false_ne_true)]
      rfl
  · rintro σ' H5 ⟨v, rfl, f1, f2⟩
    have hlen : ms.length = (met rows ps s0).length := Paired.length hms
    rw [List.length_map, hlen, List.take_length] at f2
    have hdue : due rows ps s0 n = none := by
      unfold due
      rw [f2]
      rfl
    rw [hdue] at k
    exact k H5 (e03.trans (e4.trans f1))
end
end K28
end

section
set_option Elab.async false
set_option linter.constructorNameAsVariable false
set_option maxRecDepth 100000
set_option maxHeartbeats 4000000
namespace K28
open PySem PySem.Spec PyProof.Rows L2 Evl
/-- evaluates to something of S, leaving what is known -/
def EvS (te : TE) (σ : L2.St) (H : Hp) (S : V → Prop) : Prop := ∀ H1, Ex H H1 → ∀ Q : VK, (∀ v H2, S v → Ex H1 H2 → Q v H2) → te σ H1 Q
section
variable {σ : L2.St} {H H' : Hp} {ta tb tc te : TE} {x y z v : V} {r : R2} {S : V → Prop}
theorem EvS.mono (e : Ex H H') (h : EvS te σ H S) : EvS te σ H' S := fun H1 a Q q => h H1 (e.trans a) Q q
theorem evs_ev (h : Ev te σ H v) : EvS te σ H (· = v) := fun H1 e Q q => h H1 e Q fun H2 e2 => q v H2 rfl e2
theorem evs_op2 {f : V → V} (ha : Ev ta σ H x) (hb : EvS tb σ H S) (hr : ∀ y, S y → RV r x y H (f y)) : EvS (tOp r ta tb) σ H (fun z => ∃ y, S y ∧ z = f y) := fun H1 e Q q =>
  ha H1 e _ fun H2 e2 => hb H2 (e.trans e2) _ fun y H3 hy e3 => hr y hy H3 ((e.trans e2).trans e3) Q fun H4 e4 => q _ H4 ⟨y, hy, rfl⟩ ((e2.trans e3).trans e4)
theorem evs_op1 {f : V → V} (ha : EvS ta σ H S) (hb : Ev tb σ H y) (hr : ∀ x, S x → RV r x y H (f x)) : EvS (tOp r ta tb) σ H (fun z => ∃ x, S x ∧ z = f x) := fun H1 e Q q =>
  ha H1 e _ fun x H2 hx e2 => hb H2 (e.trans e2) _ fun H3 e3 => hr x hx H3 ((e.trans e2).trans e3) Q fun H4 e4 => q _ H4 ⟨x, hx, rfl⟩ ((e2.trans e3).trans e4)
theorem evs_op12 {S' : V → Prop} {f : V → V → V} (ha : EvS ta σ H S) (hb : EvS tb σ H S') (hr : ∀ x y, S x → S' y → RV r x y H (f x y)) : EvS (tOp r ta tb) σ H (fun z => ∃ x y, S x ∧ S' y ∧ z = f x y) := fun H1 e Q q =>
  ha H1 e _ fun x H2 hx e2 => hb H2 (e.trans e2) _ fun y H3 hy e3 => hr x y hx hy H3 ((e.trans e2).trans e3) Q fun H4 e4 => q _ H4 ⟨x, y, hx, hy, rfl⟩ ((e2.trans e3).trans e4)
theorem evs_cb1 {r : List V → Hp → VK → Prop} {f : V → V} (ha : EvS ta σ H S) (hr : ∀ x, S x → RC r [x] H (f x)) : EvS (tCB r (tCons ta tNil)) σ H (fun z => ∃ x, S x ∧ z = f x) := fun H1 e Q q =>
  ha H1 e _ fun x H2 hx e2 => hr x hx H2 (e.trans e2) Q fun H3 e3 => q _ H3 ⟨x, hx, rfl⟩ (e2.trans e3)
theorem EvS.weak {S' : V → Prop} (h : EvS te σ H S) (hs : ∀ x, S x → S' x) : EvS te σ H S' := fun H1 e Q q => h H1 e Q fun v H2 hv e2 => q v H2 (hs v hv) e2
theorem q_setS {i : Nat} {tz : TS} {D : Ends} (h : EvS te σ H S) (k : ∀ v H1, S v → Ex H H1 → tz D (σ.set i (some v)) H1) : tSeq (tAsg te (gName i)) tz D σ H := h H (Ex.refl _) _ k
theorem s_setS {i : Nat} {D : Ends} (h : EvS te σ H S) (k : ∀ v H1, S v → Ex H H1 → D.nx (σ.set i (some v)) H1) : tAsg te (gName i) D σ H := h H (Ex.refl _) _ k
theorem s_retS {D : Ends} (h : EvS te σ H S) (k : ∀ v H1, S v → Ex H H1 → D.rt v H1) : tRet te D σ H := h H (Ex.refl _) _ k
/-- an int of A -/
def IS (A : Int → Prop) (x : V) : Prop := ∃ i : Int, x = .int i ∧ A i
variable {A B Z : Int → Prop}
theorem evi_ev {n : Int} (h : Ev te σ H (.int n)) : EvS te σ H (IS (· = n)) := (evs_ev h).weak fun _ e => ⟨n, e, rfl⟩
theorem evi_op {C : Int → Int → Prop} {g : Int → Int → Int} (ha : EvS ta σ H (IS A)) (hb : EvS tb σ H (IS B)) (hz : ∀ i j, A i → B j → C i j ∧ Z (g i j)) : EvS (tOp (rI C fun i j => .int (g i j)) ta tb) σ H (IS Z) := fun H1 e Q q =>
  ha H1 e _ fun _ H2 hx e2 => hb H2 (e.trans e2) _ fun _ H3 hy e3 => by
    obtain ⟨i, rfl, a⟩ := hx
    obtain ⟨j, rfl, b⟩ := hy
    exact ⟨i, j, rfl, rfl, (hz i j a b).1, q _ H3 ⟨_, rfl, (hz i j a b).2⟩ (e2.trans e3)⟩
theorem evi_op0 {g : Int → Int → Int} (ha : EvS ta σ H (IS A)) (hb : EvS tb σ H (IS B)) (hz : ∀ i j, A i → B j → Z (g i j)) : EvS (tOp (rI0 fun i j => .int (g i j)) ta tb) σ H (IS Z) := fun H1 e Q q =>
  ha H1 e _ fun _ H2 hx e2 => hb H2 (e.trans e2) _ fun _ H3 hy e3 => by
    obtain ⟨i, rfl, a⟩ := hx
    obtain ⟨j, rfl, b⟩ := hy
    exact ⟨i, j, rfl, rfl, q _ H3 ⟨_, rfl, hz i j a b⟩ (e2.trans e3)⟩
theorem evi_cmp {g : Int → Int → Bool} (ha : EvS ta σ H (IS A)) (hb : EvS tb σ H (IS B)) : EvS (tOp (rI0 fun i j => .bl (g i j)) ta tb) σ H (fun z => ∃ b, z = .bl b) := fun H1 e Q q =>
  ha H1 e _ fun _ H2 hx e2 => hb H2 (e.trans e2) _ fun _ H3 hy e3 => by
    obtain ⟨i, rfl, a⟩ := hx
    obtain ⟨j, rfl, b⟩ := hy
    exact ⟨i, j, rfl, rfl, q _ H3 ⟨_, rfl⟩ (e2.trans e3)⟩
theorem evi_int (ha : EvS ta σ H (IS A)) : EvS (tCB (fun xs H Q => (∃ i, xs = [.int i] ∧ Q (.int i) H) ∨ ∃ k, xs = [.bl k] ∧ Q (.int (if k then 1 else 0)) H) (tCons ta tNil)) σ H (IS A) := fun H1 e Q q =>
  ha H1 e _ fun _ H2 hx e2 => by
    obtain ⟨i, rfl, a⟩ := hx
    exact .inl ⟨i, rfl, q _ H2 ⟨_, rfl, a⟩ e2⟩
theorem evi_ix3 {p : Addr} {i : Int} (hs : H p = some (StrmO p)) (ha : Ev ta σ H (.ref p)) (hb : Ev tb σ H (.int i)) (h0 : 0 ≤ i) (h3 : i < 3) : EvS (tOp rIx3 ta tb) σ H (IS fun _ => True) := fun H1 e Q q =>
  ha H1 e _ fun H2 e2 => hb H2 (e.trans e2) _ fun H3 e3 => ⟨p, i, rfl, rfl, (e.trans (e2.trans e3)) _ _ hs, h0, h3, fun n => q _ H3 ⟨n, rfl, True.intro⟩ (e2.trans e3)⟩
theorem q_whenS {tu tz : TS} {D : Ends} (h : EvS te σ H (fun x => ∃ b, x = .bl b)) (h1 : ∀ H1, Ex H H1 → tu { D with nx := tz D } σ H1) (h2 : ∀ H1, Ex H H1 → tz D σ H1) : tSeq (tIfS (tTest te) tu tNext) tz D σ H :=
  h H (Ex.refl _) _ fun v H1 hv e => by
    obtain ⟨b, rfl⟩ := hv
    refine ⟨b, rfl, ?_⟩
    cases b with
    | true => exact h1 H1 e
    | false => exact h2 H1 e
theorem q_set3 {tz : TS} {D : Ends} {p : Addr} {i : Int} (h : EvS te σ H (IS A)) (ho : Ev ta σ H (.ref p)) (hi : Ev tb σ H (.int i)) (hs : H p = some (StrmO p)) (h0 : 0 ≤ i) (h3 : i < 3) (k : ∀ H1, Ex H H1 → tz D σ H1) : tSeq (tAsg te (gSub ta tb rSet3)) tz D σ H :=
  h H (Ex.refl _) _ fun v H1 hv e => ho H1 e _ fun H2 e2 => hi H2 (e.trans e2) _ fun H3 e3 => by
    obtain ⟨n, rfl, _⟩ := hv
    exact ⟨p, i, n, rfl, rfl, rfl, (e.trans (e2.trans e3)) _ _ hs, h0, h3, k H3 (e.trans (e2.trans e3))⟩
theorem s_set3 {D : Ends} {p : Addr} {i : Int} (h : EvS te σ H (IS A)) (ho : Ev ta σ H (.ref p)) (hi : Ev tb σ H (.int i)) (hs : H p = some (StrmO p)) (h0 : 0 ≤ i) (h3 : i < 3) (k : ∀ H1, Ex H H1 → D.nx σ H1) : tAsg te (gSub ta tb rSet3) D σ H :=
  h H (Ex.refl _) _ fun v H1 hv e => ho H1 e _ fun H2 e2 => hi H2 (e.trans e2) _ fun H3 e3 => by
    obtain ⟨n, rfl, _⟩ := hv
    exact ⟨p, i, n, rfl, rfl, rfl, (e.trans (e2.trans e3)) _ _ hs, h0, h3, k H3 (e.trans (e2.trans e3))⟩
theorem s_retStrm {ta : TA} {D : Ends} {x y z : Int} (ha : EvA ta σ H [.int x, .int y, .int z]) (k : ∀ p H1, H p = none → Ex H H1 → H1 p = some (StrmO p) → D.rt (.ref p) H1) : tRet (tStrm ta) D σ H :=
  ha H (Ex.refl _) _ fun H1 e => ⟨x, y, z, rfl, fun p hp => k p _ (fresh_back e hp) (e.trans (Ex.new hp)) upd_same⟩
end
section
variable {P : Program} {w : World} {K : PySem.W.Frag} {mg : Str → Option Value} {base : Heap}
/-! ### the stream -/
def spStream (K : PySem.W.Frag) : Sp := fun vs H Q _ => ∃ (l : Addr) (ns : List Int) (j : Nat), vs = [.ref l, .int (j : Nat)] ∧ SqK false K H l (ns.map V.int) ∧ ∀ p H1, H p = none → Ex H H1 → H1 p = some (StrmO p) → Q (.ref p) H1
theorem cell_at {ns : List Int} {j : Nat} (h : j < ns.length) : ∃ n : Int, atI (ns.map V.int) (j : Int) = some (.int n) := by
  refine ⟨ns[j], ?_⟩
  unfold atI
  rw [List.length_map, ixN_nat h]
  show (ns.map V.int)[j]? = _
  rw [List.getElem?_map, List.getElem?_eq_getElem h]
  rfl
theorem small_mul {i j : Int} (h0 : 0 ≤ j) (h : j < 2 ^ 64) : CMul i j := .inr ⟨by omega, h⟩
theorem small_mul1 {i j : Int} (h0 : 0 ≤ i) (h : i < 2 ^ 64) : CMul i j := .inl ⟨by omega, h⟩
theorem rv_ixLk {H : Hp} {p : Addr} {xs : List V} {i : Int} {v : V} (h : SqK false K H p xs) (ha : atI xs i = some v) : RV (rIxL K) (.ref p) (.int i) H v := rv_ixL (show SqL K H p xs from h) ha
theorem sc_law_stream : FnScope ["_law_script", "_law_at", "_law_cell"] ["_law_script", "_law_at"] (defScope s_law_stream) := ⟨rfl, rfl, rfl, by decide +kernel, rfl, by decide +kernel, by decide +kernel⟩
theorem ok_law_stream (T : Tx K mg) (D : Dfn K mg "_law_stream" s_law_stream) : CalP P w K mg base 1 "_law_stream" (spStream K) := by
  refine cal_of D sc_law_stream (fun _ _ _ _ _ _ us hl => match us, hl with | [_, _], _ => rfl) (fun vs H Q E h => by obtain ⟨_, _, _, rfl, _⟩ := h; rfl) fun f cdv A outer s H vs Q E hr h => ?_
  obtain ⟨l, ns, j, rfl, hl, k⟩ := h
  refine ⟨_, (pss_cons (ps_set (i := 2) sc_law_stream.nd rfl (Or.inl rfl) pe_int)
        (pss_cons (ps_if (pt_cmpR op_lt (pv 1) (pe_callB call_len_seq (by rfl) T.f_len boot_len (pa_cons (pv 0) pa_nil)) (nomark _)) (pss_one (ps_set (i := 2) sc_law_stream.nd rfl (Or.inl rfl) (pe_ix ix_list (pv 0) (pv 1) (fun _ _ => rfl)))) pss_nil)
        (pss_cons (ps_if (pt_cmpR op_ge (pv 2) (pe_op op_pow pe_int pe_int) (nomark _)) (pss_one (ps_ret (pe_strm (pa_cons (pv 2) (pa_cons pe_int (pa_cons (pv 1) pa_nil)))))) pss_nil)
        (pss_one (ps_ret (pe_strm (pa_cons pe_int (pa_cons pe_int (pa_cons (pe_op op_mod (pe_callTy call_int1 (by rfl) T.f_int PyProof.Rows.boot_int (pa_cons (pe_op op_add (pe_op op_mul (pv 2) pe_int) (pe_op op_mul (pv 1) pe_int)) pa_nil)) pe_int) pa_nil))))))))), ?_⟩
  refine q_asg ev_c fun H1 e1 => ?_
  obtain ⟨c, hc1, hc2⟩ : ∃ c : Int, (j < ns.length → atI (ns.map V.int) (j : Int) = some (.int c)) ∧ (¬ j < ns.length → c = 0) := by
    by_cases h : j < ns.length
    · obtain ⟨c, hc⟩ := cell_at h
      exact ⟨c, fun _ => hc, fun z => absurd h z⟩
    · exact ⟨0, fun z => absurd z h, fun _ => rfl⟩
  refine q_ifAsg (v := .int c) (et_test (ev_op (ev_var rfl) (ev_lenK (ev_var rfl) (hl.ex e1)) rv_I0)) (fun h => ev_op (ev_var rfl) (ev_var rfl) (rv_ixLk (hl.ex e1) (hc1 ?_))) (fun h => ?_) fun H2 e2 => ?_
  · have := of_decide_eq_true h
    rw [List.length_map] at this
    omega
  · have := of_decide_eq_false h
    rw [List.length_map] at this
    rw [hc2 (by omega)]
    rfl
  have e02 := e1.trans e2
  refine q_when (et_test (ev_op (ev_var rfl) (ev_op ev_c ev_c (rv_I ⟨by decide, by decide, by decide⟩)) rv_I0)) (fun _ H3 e3 => ?_) fun _ H3 e3 => ?_
  · exact s_retStrm (ea_cons (ev_var rfl) (ea_cons ev_c (ea_cons (ev_var rfl) ea_nil))) fun p H4 hp e4 h4 => k p H4 (fresh_back (e02.trans e3) hp) ((e02.trans e3).trans e4) h4
  · refine s_retStrm (ea_cons ev_c (ea_cons ev_c (ea_cons (ev_op (ev_cb (ea_cons (ev_op (ev_op (ev_var rfl) ev_c (rv_I (small_mul (by decide) (by decide)))) (ev_op (ev_var rfl) ev_c (rv_I (small_mul (by decide) (by decide)))) rv_I0) ea_nil) fun H4 _ Q q => .inl ⟨_, rfl, q H4 (Ex.refl _)⟩) ev_c (rv_I (by decide))) ea_nil))) fun p H4 hp e4 h4 => k p H4 (fresh_back (e02.trans e3) hp) ((e02.trans e3).trans e4) h4
/-! ### a draw -/
def spDraw : Sp := fun vs H Q _ => ∃ (p : Addr) (n : Int), vs = [.ref p, .int n] ∧ H p = some (StrmO p) ∧ 0 < n ∧ n < 1000 ∧ ∀ (i : Nat) H1, (i : Int) < n → Ex H H1 → Q (.int (i : Nat)) H1
theorem sc_law_draw : FnScope ["_law_stream_here", "_law_limit", "_law_rest", "_law_number"] ["_law_stream_here", "_law_limit"] (defScope s_law_draw) := ⟨rfl, rfl, rfl, by decide +kernel, rfl, by decide +kernel, by decide +kernel⟩
theorem ok_law_draw (T : Tx K mg) (D : Dfn K mg "_law_draw" s_law_draw) : CalP P w K mg base 1 "_law_draw" spDraw := by
  refine cal_of D sc_law_draw (fun _ _ _ _ _ _ us hl => match us, hl with | [_, _], _ => rfl) (fun vs H Q E h => by obtain ⟨_, _, rfl, _⟩ := h; rfl) fun f cdv A outer s H vs Q E hr h => ?_
  obtain ⟨p, n, rfl, hp, h0, hn, k⟩ := h
  refine ⟨_, (pss_cons (ps_if (pt_cmpR op_gt (pe_ix ix_strm (pv 0) pe_int (fun _ _ => rfl)) pe_int (nomark _)) (pss_cons (ps_set (i := 2) sc_law_draw.nd rfl (Or.inl rfl) (pe_ix ix_strm (pv 0) pe_int (fun _ _ => rfl)))
        (pss_cons (ps_asg (pe_op op_fdiv (pv 2) (pv 1)) (pg_sub (pv 0) pe_int set_strm))
        (pss_one (ps_ret (pe_op op_mod (pe_callTy call_int1 (by rfl) T.f_int PyProof.Rows.boot_int (pa_cons (pv 2) pa_nil)) (pv 1)))))) pss_nil)
        (pss_cons (ps_asg (pe_op op_add (pe_ix ix_strm (pv 0) pe_int (fun _ _ => rfl)) pe_int) (pg_sub (pv 0) pe_int set_strm))
        (pss_cons (ps_set (i := 3) sc_law_draw.nd rfl (Or.inl rfl) (pe_op op_mod (pe_callTy call_int1 (by rfl) T.f_int PyProof.Rows.boot_int (pa_cons (pe_op op_add (pe_op op_add (pe_op op_mul (pe_ix ix_strm (pv 0) pe_int (fun _ _ => rfl)) pe_int) (pe_op op_mul (pe_ix ix_strm (pv 0) pe_int (fun _ _ => rfl)) pe_int)) pe_int) pa_nil)) pe_int))
        (pss_cons (ps_set (i := 3) sc_law_draw.nd rfl (Or.inl rfl) (pe_op op_mod (pe_callTy call_int1 (by rfl) T.f_int PyProof.Rows.boot_int (pa_cons (pe_op op_mul (pv 3) (pe_op op_add (pe_op op_fdiv (pv 3) pe_int) pe_int)) pa_nil)) pe_int))
        (pss_cons (ps_asg (pv 3) (pg_sub (pv 0) pe_int set_strm))
        (pss_one (ps_ret (pe_op op_mod (pe_callTy call_int1 (by rfl) T.f_int PyProof.Rows.boot_int (pa_cons (pe_op op_fdiv (pv 3) pe_int) pa_nil)) (pv 1))))))))), ?_⟩
  have fin : ∀ {te : TE} {σ : L2.St} {H1 : Hp} {D : Ends}, D.rt = Q → Ex H H1 → EvS te σ H1 (IS fun i => 0 ≤ i ∧ i < n) → tRet te D σ H1 := fun hD e h => s_retS h fun v H2 hv e2 => by
    obtain ⟨i, rfl, i0, i1⟩ := hv
    rw [hD, show i = ((i.toNat : Nat) : Int) by omega]
    exact k i.toNat H2 (by omega) (e.trans e2)
  have md : ∀ i : Int, 0 ≤ i % n ∧ i % n < n := fun i => ⟨Int.emod_nonneg _ (by omega), Int.emod_lt_of_pos _ h0⟩
  refine q_whenS (evi_cmp (evi_ix3 hp (ev_var rfl) ev_c (by decide) (by decide)) (evi_ev ev_c)) (fun H1 e1 => ?_) fun H1 e1 => ?_
  · refine q_setS (evi_ix3 (e1 _ _ hp) (ev_var rfl) ev_c (by decide) (by decide)) fun v H2 hv e2 => ?_
    obtain ⟨r, rfl, _⟩ := hv
    refine q_set3 (evi_op (Z := fun _ => True) (evi_ev (ev_var rfl)) (evi_ev (ev_var rfl)) fun i j hi hj => ⟨⟨by omega, by omega⟩, True.intro⟩) (ev_var rfl) ev_c ((e1.trans e2) _ _ hp) (by decide) (by decide) fun H3 e3 => ?_
    exact fin rfl (e1.trans (e2.trans e3)) (evi_op (evi_int (evi_ev (ev_var rfl))) (evi_ev (ev_var rfl)) fun i j hi hj => ⟨by omega, by subst hj; exact md i⟩)
  · refine q_set3 (evi_op0 (Z := fun _ => True) (evi_ix3 (e1 _ _ hp) (ev_var rfl) ev_c (by decide) (by decide)) (evi_ev ev_c) fun _ _ _ _ => True.intro) (ev_var rfl) ev_c (e1 _ _ hp) (by decide) (by decide) fun H2 e2 => ?_
    have hp2 := (e1.trans e2) _ _ hp
    refine q_setS (evi_op (Z := fun i => 0 ≤ i ∧ i < 2147483647) (evi_int (evi_op0 (Z := fun _ => True) (evi_op0 (Z := fun _ => True) (evi_op (Z := fun _ => True) (evi_ix3 hp2 (ev_var rfl) ev_c (by decide) (by decide)) (evi_ev ev_c) fun _ _ _ hj => ⟨by subst hj; exact small_mul (by decide) (by decide), True.intro⟩)
      (evi_op (Z := fun _ => True) (evi_ix3 hp2 (ev_var rfl) ev_c (by decide) (by decide)) (evi_ev ev_c) fun _ _ _ hj => ⟨by subst hj; exact small_mul (by decide) (by decide), True.intro⟩) fun _ _ _ _ => True.intro) (evi_ev ev_c) fun _ _ _ _ => True.intro)) (evi_ev ev_c)
      fun i j _ hj => ⟨by omega, by subst hj; exact ⟨Int.emod_nonneg _ (by decide), Int.emod_lt_of_pos _ (by decide)⟩⟩) fun v H3 hv e3 => ?_
    obtain ⟨m, rfl, m0, m1⟩ := hv
    refine q_setS (evi_op (Z := fun i => 0 ≤ i ∧ i < 2147483629) (evi_int (evi_op (Z := fun _ => True) (evi_ev (ev_var rfl)) (evi_op0 (Z := fun _ => True) (evi_op (Z := fun _ => True) (evi_ev (ev_var rfl)) (evi_ev ev_c) fun _ _ _ hj => ⟨⟨by omega, by omega⟩, True.intro⟩) (evi_ev ev_c) fun _ _ _ _ => True.intro) fun i j hi _ => ⟨by subst hi; exact small_mul1 m0 (by omega), True.intro⟩)) (evi_ev ev_c)
      fun i j _ hj => ⟨by omega, by subst hj; exact ⟨Int.emod_nonneg _ (by decide), Int.emod_lt_of_pos _ (by decide)⟩⟩) fun v H4 hv e4 => ?_
    obtain ⟨m', rfl, m2, m3⟩ := hv
    have e05 := e1.trans (e2.trans (e3.trans e4))
    refine q_set3 (evi_ev (ev_var rfl)) (ev_var rfl) ev_c (e05 _ _ hp) (by decide) (by decide) fun H5 e5 => ?_
    exact fin rfl (e05.trans e5) (evi_op (evi_int (evi_op (Z := fun _ => True) (evi_ev (ev_var rfl)) (evi_ev ev_c) fun _ _ _ hj => ⟨⟨by omega, by omega⟩, True.intro⟩)) (evi_ev (ev_var rfl)) fun i j hi hj => ⟨by omega, by subst hj; exact md i⟩)
end
end K28
end

section
set_option Elab.async false
set_option linter.constructorNameAsVariable false
set_option maxRecDepth 100000
set_option maxHeartbeats 4000000
namespace K28
open PySem PySem.Spec PyProof.Rows L2 Evl
section
variable {K : PySem.W.Frag} {σ : L2.St} {H H' : Hp} {ta tb tc te : TE} {t : TT} {x y z v : V} {r : R2} {A : Int → Prop}
theorem evs_draw {p : Addr} {n : Int} (hs : H p = some (StrmO p)) (ha : Ev ta σ H (.ref p)) (hb : Ev tb σ H (.int n)) (h0 : 0 < n) (hn : n < 1000) : EvS (tCall spDraw [] E0 (tCons ta (tCons tb tNil))) σ H (IS fun i => 0 ≤ i ∧ i < n) := fun H1 e Q q =>
  ha H1 e _ fun H2 e2 => hb H2 (e.trans e2) _ fun H3 e3 => ⟨p, n, rfl, (e.trans (e2.trans e3)) _ _ hs, h0, hn, fun i H4 hi e4 => q _ H4 ⟨_, rfl, by omega, hi⟩ ((e2.trans e3).trans e4)⟩
theorem f_rangeS {R : It → Hp → Prop} (h : EvS te σ H (IS A)) (hA : ∀ i, A i → 0 ≤ i ∧ i ≤ 100000) (q : ∀ (n : Nat) H1, A n → Ex H H1 → R (Itr 0 n) H1) : iRng1 (tCons te tNil) σ H R :=
  h H (Ex.refl _) _ fun v H1 hv e => by
    obtain ⟨i, rfl, hi⟩ := hv
    have := hA i hi
    refine ⟨i, rfl, by omega, by omega, q i.toNat H1 ?_ e⟩
    rw [show ((i.toNat : Nat) : Int) = i by omega]
    exact hi
theorem el_lcSt {k : Bool} {a : Addr} {xs : List V} {j : Nat} {te0 : TE} {vs : List Nat} (f : Nat → Bool) (v : Nat → V) (h : Ev te0 σ H (.ref a)) (hq : SqK k K H a xs) (hn : xs.length ≤ 40000) (hw : ∀ x, wipe ((wipe σ vs).set j (some x)) vs = wipe σ vs)
    (ht : ∀ i x H1, xs[i]? = some x → Ex H H1 → EvT t ((wipe σ vs).set j (some x)) H1 (f i)) (he : ∀ i x H1, xs[i]? = some x → Ex H H1 → f i = true → Ev te ((wipe σ vs).set j (some x)) H1 (v i)) : EvL (tLc (iSeq K te0) (gName j) t te vs) σ H (given xs.length f v) := fun H1 e1 Q q =>
  e_lc (f_seq (h.mono e1) (hq.ex e1) fun H2 e2 => lc_w (walk_seq (xs := xs)) (fun D i H3 => Cw H2 f v D i H3) (fun D hD => ⟨hD, Ex.new hD, upd_same⟩) (fun D i H3 _ _ p => hq.ex (e1.trans (e2.trans p.2.1))) (fun D i x H3 H' hD hi p y => by
    obtain ⟨rfl, ex⟩ := y
    exact ⟨hw x, cw_turn p (by omega) (ht i x H2 ex (e1.trans e2)) (fun hf => he i x H2 ex (e1.trans e2) hf)⟩) (fun D H3 hD p => q D H3 (fresh_back e2 hD) (e2.trans p.2.1) p.2.2))
end
section
variable {P : Program} {w : World} {K : PySem.W.Frag} {mg : Str → Option Value} {base : Heap}
/-! ### states -/
def StatesOk (ss : List Int) : Prop := ∀ s ∈ ss, 0 ≤ s ∧ s ≤ 99
def spStates : Sp := fun vs H Q _ => ∃ (p : Addr) (n : Nat), vs = [.ref p, .int (n : Nat)] ∧ H p = some (StrmO p) ∧ n ≤ 1000 ∧ ∀ (l : Addr) (H1 : Hp) (ss : List Int), H l = none → Ex H H1 → H1 l = some (.lst (ss.map V.int)) → ss.length = n → StatesOk ss → Q (.ref l) H1
theorem given_all (n : Nat) (v : Nat → V) : given n (fun _ => true) v = (List.range n).map v := by
  unfold given
  rw [List.filter_eq_self.mpr (fun _ _ => rfl)]
theorem sc_law_states : FnScope ["_law_stream_here", "_law_count", "_law_base", "_law_k"] ["_law_stream_here", "_law_count"] (defScope s_law_states) := ⟨rfl, rfl, rfl, by decide +kernel, rfl, by decide +kernel, by decide +kernel⟩
theorem ok_law_states (T : Tx K mg) (D : Dfn K mg "_law_states" s_law_states) (C_law_draw : CalP P w K mg base 1 "_law_draw" spDraw) : CalP P w K mg base 2 "_law_states" spStates := by
  refine cal_of D sc_law_states (fun _ _ _ _ _ _ us hl => match us, hl with | [_, _], _ => rfl) (fun vs H Q E h => by obtain ⟨_, _, rfl, _⟩ := h; rfl) fun f cdv A outer s H vs Q E hr h => ?_
  obtain ⟨p, n, rfl, hp, hn, k⟩ := h
  refine ⟨_, (pss_cons (ps_set (i := 2) sc_law_states.nd rfl (Or.inr rfl) (C8.pe_c C_law_draw hr (by decide) (by rfl) (pa_cons (pv 0) (pa_cons pe_int pa_nil))))
        (pss_one (ps_ret (pe_lc (own := [("_law_k", 3)]) (g := gName 3) (tt := tYes) (by rfl) sc_law_states.nd (pi_range1 (by rfl) T.f_range (pa_cons (pv 1) pa_nil)) (blkOk_by (own := [("_law_k", 3)]) (N := ["_law_stream_here", "_law_count", "_law_base", "_law_k"]) (sc := defScope s_law_states) (by decide +kernel)) (fun _ _ _ _ _ => (pg_name (i := 3) sc_law_states.nd rfl (Or.inl rfl))) (fun _ _ _ _ _ => pts_nil) (fun _ _ _ _ _ => (pe_op op_mod (pe_callTy call_int1 (by rfl) T.f_int PyProof.Rows.boot_int (pa_cons (pe_op op_add (pv 2) (pe_op op_mul pe_int (pv 3))) pa_nil)) pe_int)))))), ?_⟩
  refine q_setS (evs_draw hp (ev_var rfl) ev_c (by decide) (by decide)) fun v H1 hv e1 => ?_
  obtain ⟨b, rfl, b0, b1⟩ := hv
  refine s_retL (el_lcR1 (fun _ => true) (fun i => .int ((b + 37 * (i : Nat)) % 100)) (ea_cons (ev_var rfl) ea_nil) (by omega) (fun _ => rfl) (fun i H2 e2 hi H3 e3 Q q => q H3 (Ex.refl _)) fun i H2 e2 hi _ =>
    ev_op (ev_cb (ea_cons (ev_op (ev_var rfl) (ev_op ev_c (ev_var rfl) (rv_I (small_mul1 (by decide) (by decide)))) rv_I0) ea_nil) fun H4 _ Q q => .inl ⟨_, rfl, q H4 (Ex.refl _)⟩) ev_c (rv_I (by decide))) fun l H2 hl e2 h2 => ?_
  refine k l H2 ((List.range n).map fun i : Nat => (b + 37 * (i : Nat)) % 100) (fresh_back e1 hl) (e1.trans e2) ?_ (by rw [List.length_map, List.length_range]) ?_
  · rw [h2, given_all, List.map_map]
    rfl
  · intro s hs
    obtain ⟨i, _, rfl⟩ := List.mem_map.mp hs
    have := Int.emod_nonneg (b + 37 * (i : Nat)) (show (100 : Int) ≠ 0 by decide)
    have := Int.emod_lt_of_pos (b + 37 * (i : Nat)) (show (0 : Int) < 100 by decide)
    omega
/-! ### names -/
def spNames : Sp := fun vs H Q _ => ∃ (p : Addr) (n : Nat), vs = [.ref p, .int (n : Nat)] ∧ H p = some (StrmO p) ∧ n ≤ 12 ∧ ∀ (l : Addr) (H1 : Hp) (zs : List Str), H l = none → Ex H H1 → H1 l = some (.lst (zs.map V.str)) → zs.length = n → (∀ z ∈ zs, NameOk z) → Q (.ref l) H1
def LowOk (z : Str) : Prop := ∀ (i c : Nat), z.cps[i]? = some c → 97 ≤ c ∧ c ≤ 122
theorem low_app {a b : Str} (ha : LowOk a) (hb : LowOk b) : LowOk (a ++ b) := by
  intro i c h
  have e : (a ++ b).cps = a.cps ++ b.cps := rfl
  rw [e, Array.getElem?_append] at h
  split at h
  · exact ha _ _ h
  · exact hb _ _ h
theorem size_app {a b : Str} : (a ++ b).cps.size = a.cps.size + b.cps.size := by
  have e : (a ++ b).cps = a.cps ++ b.cps := rfl
  rw [e, Array.size_append]
def abc : Str := "abcdefghijklmnopqrstuvwxyz"
def abl : Str := "abcdefghijkl"
theorem abc_at : ∀ i : Fin 26, ∃ c : Fin 123, atI abc.cps.toList ((i.val : Nat) : Int) = some c.val ∧ 97 ≤ c.val := by decide +kernel
theorem abl_at : ∀ i : Fin 12, ∃ c : Fin 123, atI abl.cps.toList ((i.val : Nat) : Int) = some c.val ∧ 97 ≤ c.val := by decide +kernel
theorem low1 {c : Nat} (h1 : 97 ≤ c) (h2 : c ≤ 122) : LowOk ⟨#[c]⟩ := by
  intro i d h
  cases i with
  | zero =>
    have : d = c := by simpa using h.symm
    omega
  | succ i => simp at h
theorem flat_strs (zs : List Str) : (zs.map V.str).all flatV = true := by
  rw [List.all_eq_true]
  intro x hx
  obtain ⟨z, _, rfl⟩ := List.mem_map.mp hx
  rfl
theorem rv_adds {H : Hp} {i j : Str} (h : i.length + j.length ≤ 100000) : RV (fun x y H Q => ∃ i j, x = .str i ∧ y = .str j ∧ i.length + j.length ≤ sizeLine ∧ Q (.str (i ++ j)) H) (.str i) (.str j) H (.str (i ++ j)) := fun H1 _ _ q => ⟨i, j, rfl, rfl, sz_of h, q H1 (Ex.refl _)⟩
theorem sc_law_names : FnScope ["_law_stream_here", "_law_count", "_law_names_here", "_law_k", "_law_name", "_law_turn"] ["_law_stream_here", "_law_count"] (defScope s_law_names) := ⟨rfl, rfl, rfl, by decide +kernel, rfl, by decide +kernel, by decide +kernel⟩
theorem ok_law_names (T : Tx K mg) (D : Dfn K mg "_law_names" s_law_names) (C_law_draw : CalP P w K mg base 1 "_law_draw" spDraw) : CalP P w K mg base 2 "_law_names" spNames := by
  refine cal_of D sc_law_names (fun _ _ _ _ _ _ us hl => match us, hl with | [_, _], _ => rfl) (fun vs H Q E h => by obtain ⟨_, _, rfl, _⟩ := h; rfl) fun f cdv A outer s H vs Q E hr h => ?_
  obtain ⟨p, n, rfl, hp, hn, k⟩ := h
  refine ⟨_, (pss_cons (ps_set (i := 2) sc_law_names.nd rfl (Or.inl rfl) (pe_lst pa_nil))
        (pss_cons (ps_for PassesOwn.never rfl (pi_range1 (by rfl) T.f_range (pa_cons (pv 1) pa_nil)) (pg_name (i := 3) sc_law_names.nd rfl (Or.inl rfl)) (pss_cons (ps_set (i := 4) sc_law_names.nd rfl (Or.inl rfl) pe_str)
        (pss_cons (ps_for PassesOwn.never rfl (pi_range1 (by rfl) T.f_range (pa_cons (pe_op op_add pe_int (C8.pe_c C_law_draw hr (by decide) (by rfl) (pa_cons (pv 0) (pa_cons pe_int pa_nil)))) pa_nil)) (pg_name (i := 5) sc_law_names.nd rfl (Or.inl rfl)) (pss_one (ps_set (i := 4) sc_law_names.nd rfl (Or.inl rfl) (pe_op op_add_str (pv 4) (pe_ix ix_str pe_str (C8.pe_c C_law_draw hr (by decide) (by rfl) (pa_cons (pv 0) (pa_cons pe_int pa_nil))) (fun _ _ => rfl))))))
        (pss_cons (ps_if (pt_cmpR op_in_seq (pv 4) (pv 2) (by with_unfolding_all rfl)) (pss_one (ps_set (i := 4) sc_law_names.nd rfl (Or.inl rfl) (pe_op op_add_str pe_str (pe_ix ix_str pe_str (pv 3) (fun _ _ => rfl))))) pss_nil)
        (pss_one (ps_expr (pe_bm PySem.F.plainAttrs_list PySem.F.slot_list_append PySem.F.type_list_append mt_append (pv 2) (pa_cons (pv 4) pa_nil))))))))
        (pss_one (ps_ret (pv 2))))), ?_⟩
  refine q_asgL (xs := []) (el_lst ea_nil (by decide)) fun l H1 hl e1 h1 => ?_
  refine q_forw (fun R q => f_range (n := n) (ea_cons (ev_var rfl) ea_nil) (by omega) q) walk_range (fun i σ' H' => ∃ u v w, ∃ zs : List Str, σ' = [some (.ref p), some (.int (n : Nat)), some (.ref l), u, v, w] ∧ Ex H H' ∧ H' l = some (.lst (zs.map V.str)) ∧ zs.length = i ∧ ∀ z ∈ zs, NameOk z)
    (fun H2 e2 => ⟨_, _, _, [], rfl, e1.trans e2, e2 _ _ h1, rfl, fun z hz => by cases hz⟩) (fun _ _ _ _ _ => True.intro) ?_ ?_
  · rintro i x σ' H2 H3 hi ⟨u, v, w', zs, rfl, f1, f2, f3, f4⟩ ⟨rfl, rfl⟩
    refine q_asg ev_c fun H4 e4 => ?_
    have hp4 := (f1.trans e4) _ _ hp
    refine q_for (f_rangeS (A := fun i => 1 ≤ i ∧ i ≤ 3) (evi_op0 (evi_ev ev_c) (evs_draw hp4 (ev_var rfl) ev_c (by decide) (by decide)) fun i j hi hj => by omega) (fun i hi => by omega) fun m H5 hm e5 => for_w walk_range
      (fun i' σ' H' => ∃ z w', σ' = [some (.ref p), some (.int (n : Nat)), some (.ref l), some (.int (0 + (i : Nat))), some (.str z), w'] ∧ Ex H4 H' ∧ z.cps.size = i' ∧ LowOk z) ⟨_, _, rfl, e5, rfl, fun i c h => by rw [show (Str.ofString "").cps = #[] from rfl] at h; simp at h⟩ (fun _ _ _ _ _ => True.intro) ?_ ?_)
    · rintro i' x' σ' H6 H7 hi' ⟨z, w', rfl, g1, g2, g3⟩ ⟨rfl, rfl⟩
      refine s_setS (S := fun v => ∃ z' : Str, v = .str z' ∧ z'.cps.size = i' + 1 ∧ LowOk z') ?_ fun v H8 hv e8 => ?_
      · intro H8 e8 Q q
        refine ⟨_, rfl, ?_⟩
        refine evs_draw (n := 26) ((g1.trans e8) _ _ hp4) (ev_var rfl) ev_c (by decide) (by decide) H8 (Ex.refl _) _ fun v H9 hv e9 => ?_
        obtain ⟨j, rfl, j0, j1⟩ := hv
        obtain ⟨c, hc, c1⟩ := abc_at ⟨j.toNat, by omega⟩
        have ej : ((j.toNat : Nat) : Int) = j := by omega
        rw [show (((⟨j.toNat, by omega⟩ : Fin 26).val : Nat) : Int) = j from ej] at hc
        have c2 := c.isLt
        refine ⟨abc, j, c.val, rfl, rfl, by decide +kernel, hc, z, _, rfl, rfl, sz_of ?_, q _ H9 ⟨_, rfl, ?_, low_app g3 (low1 c1 (by omega))⟩ e9⟩
        · show z.cps.size + 1 ≤ _
          omega
        · rw [size_app, g2]
          rfl
      · obtain ⟨z', rfl, z1, z2⟩ := hv
        exact ⟨_, _, rfl, g1.trans e8, z1, z2⟩
    · rintro σ' H6 ⟨z, w', rfl, g1, g2, g3⟩
      have e06 := f1.trans (e4.trans g1)
      have h6 := (e4.trans g1) _ _ f2
      have hz : NameOk z := ⟨by omega, by omega, g3⟩
      have ap : ∀ {D : Ends} (z : Str) (H7 : Hp), NameOk z → Ex H6 H7 → (∀ (H8 : Hp) (zs' : List Str), Ex H H8 → H8 l = some (.lst (zs'.map V.str)) → zs'.length = i + 1 → (∀ z ∈ zs', NameOk z) → D.nx [some (.ref p), some (.int (n : Nat)), some (.ref l), some (.int (0 + (i : Nat))), some (.str z), w'] H8) →
          tDrop (tBM K "list" rAppend (tVar 2) (tCons (tVar 4) tNil)) D [some (.ref p), some (.int (n : Nat)), some (.ref l), some (.int (0 + (i : Nat))), some (.str z), w'] H7 := fun {D} z H7 hz e7 kk =>
        s_app (e7 _ _ h6) (ev_var rfl) (ev_var rfl) (by rw [List.length_map]; omega) fun H8 e8 => kk _ (zs ++ [z]) ((e06.trans (e7.trans e8)).mut hl) (by rw [upd_same, List.map_append]; rfl) (by rw [List.length_append, f3]; rfl) fun y hy => by
          rcases List.mem_append.mp hy with hy | hy
          · exact f4 y hy
          · rw [List.mem_singleton.mp hy]
            exact hz
      refine q_when (et_test (ev_op (ev_var rfl) (ev_var rfl) (rv_isL (sq_of h6) rfl (flat_strs zs)))) (fun _ H7 e7 => ?_) fun _ H7 e7 => ?_
      · obtain ⟨c, hc, c1⟩ := abl_at ⟨i, by omega⟩
        have c2 := c.isLt
        refine s_asg (v := .str ((Str.ofString "name") ++ ⟨#[c.val]⟩)) (ev_op ev_c (ev_op ev_c (ev_var rfl) (rv_ixS (w := abl) (c := c.val) (by decide +kernel) (by rw [Int.zero_add]; exact hc))) (rv_adds (by show 4 + 1 ≤ _; decide))) fun H8 e8 => ?_
        refine ap (Str.ofString "name" ++ ⟨#[c.val]⟩) H8 ⟨by rw [size_app]; exact Nat.le_add_left 1 _, by rw [size_app]; show 4 + 1 ≤ 12; decide, low_app ?_ (low1 c1 (by omega))⟩ (e7.trans e8) ?_
        rotate_left
        · exact fun H9 zs' g1 g2 g3 g4 => ⟨_, _, _, zs', rfl, g1, g2, g3, g4⟩
        intro j d hd
        have ej : (Str.ofString "name").cps = #[110, 97, 109, 101] := by decide +kernel
        rw [ej] at hd
        have : j < 4 := by
          have := (Array.getElem?_eq_some_iff.mp hd).1
          exact this
        have hj : j = 0 ∨ j = 1 ∨ j = 2 ∨ j = 3 := by omega
        rcases hj with hj | hj | hj | hj <;> subst hj <;> simp at hd <;> omega
      · refine ap z H7 hz e7 ?_
        exact fun H9 zs' g1 g2 g3 g4 => ⟨_, _, _, zs', rfl, g1, g2, g3, g4⟩
  · rintro σ' H2 ⟨u, v, w', zs, rfl, f1, f2, f3, f4⟩
    exact s_ret (ev_var rfl) fun H3 e3 => k l H3 zs hl (f1.trans e3) (e3 _ _ f2) f3 f4
end
end K28
end

section
set_option Elab.async false
set_option linter.constructorNameAsVariable false
set_option maxRecDepth 100000
set_option maxHeartbeats 4000000
namespace K28
open PySem PySem.Spec PyProof.Rows L2 Evl
section
variable {K : PySem.W.Frag} {σ : L2.St} {H H' : Hp} {ta tb tc te : TE} {t : TT} {x y z v : V} {r : R2} {A : Int → Prop}
theorem ev_opU1 {xs : List V} (ha : EvU ta σ H xs) (hb : ∀ H1, Ex H H1 → Ev tb σ H1 y) (hr : ∀ p H1, H1 p = some (.tup xs) → Ex H H1 → RV r (.ref p) y H1 z) : Ev (tOp r ta tb) σ H z := fun H1 e Q q =>
  ha H1 e _ fun p H2 _ e2 hp => hb H2 (e.trans e2) H2 (Ex.refl H2) _ fun H3 e3 => hr p H3 (e3 p _ hp) ((e.trans e2).trans e3) H3 (Ex.refl H3) Q fun H4 e4 => q H4 ((e2.trans e3).trans e4)
theorem evs_pick {sl : Addr} {xs : List V} (hl : SqK false K H sl xs) (ha : Ev ta σ H (.ref sl)) (hb : EvS tb σ H (IS fun i => 0 ≤ i ∧ i < (xs.length : Int))) : EvS (tOp (rIxL K) ta tb) σ H (fun v => v ∈ xs) := fun H1 e Q q =>
  ha H1 e _ fun H2 e2 => hb H2 (e.trans e2) _ fun _ H3 hv e3 => by
    obtain ⟨i, rfl, i0, i1⟩ := hv
    have hj : i.toNat < xs.length := by omega
    have ha : atI xs i = some xs[i.toNat] := by
      unfold atI
      have ei : ixN xs.length i = some i.toNat := by
        have := ixN_nat hj
        rwa [show ((i.toNat : Nat) : Int) = i by omega] at this
      rw [ei]
      exact List.getElem?_eq_getElem hj
    exact ⟨sl, xs, i, _, rfl, rfl, ex_l (e.trans (e2.trans e3)) (show SqL K H sl xs from hl), ha, q _ H3 (List.getElem_mem hj) (e2.trans e3)⟩
/-! ### a row as data -/
theorem u65b {k : Nat} {A : Around} (r : Room k A) : A.units + 65 < cLine := by have := r.un; omega
def rowD (r : Row) : PyData := .tuple [.int r.1, .str r.2.1, .int r.2.2]
theorem dp_row {a : Addr} {r : Row} (h : H a = some (.tup [.int r.1, .str r.2.1, .int r.2.2])) : Dp K H (.ref a) (rowD r) := .tup (st_of h) (.cons (.int _) (.cons (.str _) (.cons (.int _) .nil)))
theorem dpall_rows : ∀ {ts : List Addr} {rows : List Row}, Paired (RowAt H) ts rows → DpAll K H (ts.map V.ref) (rows.map rowD)
  | _, _, .nil => .nil
  | _, _, .cons h hs => .cons (dp_row h) (dpall_rows hs)
theorem eqv_row (r r' : Row) : PyData.eqv (rowD r) (rowD r') = decide (r = r') := by
  obtain ⟨a, b, c⟩ := r
  obtain ⟨a', b', c'⟩ := r'
  have h1 : PyData.eqv (rowD (a, b, c)) (rowD (a', b', c')) = (a == a' && (b == b' && (c == c' && true))) := by
    simp only [rowD, PyData.eqv, PyData.eqvAll]
  rw [h1]
  by_cases h : ((a, b, c) : Row) = (a', b', c')
  · injection h with e1 e2
    injection e2 with e2 e3
    subst e1 e2 e3
    simp
  · rw [decide_eq_false h]
    apply Bool.eq_false_iff.mpr
    intro hh
    simp only [Bool.and_eq_true, beq_iff_eq, and_true] at hh
    exact h (by rw [hh.1, hh.2.1, hh.2.2])
theorem any_row (rows : List Row) (r : Row) : ((rows.map rowD).any fun z => PyData.eqv z (rowD r)) = decide (r ∈ rows) := by
  induction rows with
  | nil => rfl
  | cons x xs ih =>
    rw [List.map_cons, List.any_cons, ih, eqv_row]
    by_cases h : x = r
    · subst h
      simp
    · have h' : ¬ r = x := fun e => h e.symm
      simp [h, h']
theorem name_strOk {z : Str} (h : NameOk z) : PyData.strOk z = true := by
  unfold PyData.strOk
  rw [Array.all_eq_true]
  intro i hi
  have := h.2.2 i z.cps[i] (Array.getElem?_eq_getElem hi)
  exact decide_eq_true (by omega)
theorem row_lay {r : Row} (h : RowOk r) : PyData.canLay0 (rowD r) = true := by
  simp only [rowD, PyData.canLay0, PyData.canLayAll0, name_strOk h.2.2.1, Bool.and_self]
theorem row_depth (r : Row) : PyData.depth (rowD r) = 1 := by
  simp only [rowD, PyData.depth, PyData.depthAll]
  rfl
theorem row_shaped {r : Row} (h : RowOk r) : SeqAt.shaped (rowD r) = true := by
  unfold SeqAt.shaped
  rw [row_lay h, row_depth]
  rfl
theorem rows_shaped {rows : List Row} (h : ∀ r ∈ rows, RowOk r) : SeqAt.shaped (.list (rows.map rowD)) = true := by
  have h1 : PyData.canLayAll0 (rows.map rowD) = true := by
    induction rows with
    | nil => rfl
    | cons x xs ih => rw [List.map_cons, PyData.canLayAll0, row_lay (h x List.mem_cons_self), ih fun r hr => h r (List.mem_cons_of_mem _ hr)]; rfl
  have h2 : PyData.depthAll (rows.map rowD) ≤ 1 := by
    clear h1 h
    induction rows with
    | nil => exact Nat.zero_le _
    | cons x xs ih => rw [List.map_cons, PyData.depthAll, row_depth]; omega
  unfold SeqAt.shaped
  rw [PyData.canLay0, h1, PyData.depth]
  exact decide_eq_true (by omega)
theorem RowAt.kp {a : Addr} {r : Row} (k : Kp H H') (h : RowAt H a r) : RowAt H' a r := k _ _ (fun _ e => by cases e) (fun _ e => by cases e) h
end
theorem given_cnt (rows : List Row) (s : Int) (v : Nat → V) : (given rows.length (fun i => decide ((rowAt rows i).1 = s)) v).length = cnt rows s := by
  have e : rows = (List.range rows.length).map (rowAt rows) := by
    apply List.ext_getElem
    · simp
    · intro i h1 h2
      simp only [List.getElem_map, List.getElem_range]
      unfold rowAt
      rw [List.getD_eq_getElem?_getD, List.getElem?_eq_getElem h1]
      rfl
  have e2 : cnt rows s = cnt ((List.range rows.length).map (rowAt rows)) s := by rw [← e]
  rw [e2]
  unfold cnt given
  rw [List.filter_map, List.length_map, List.length_map]
  rfl
section
variable {P : Program} {w : World} {K : PySem.W.Frag} {mg : Str → Option Value} {base : Heap}
def spLSteps (K : PySem.W.Frag) : Sp := fun vs H Q _ => ∃ (p sl wl : Addr) (ss : List Int) (zs : List Str), vs = [.ref p, .ref sl, .ref wl, .int 12] ∧ H p = some (StrmO p) ∧ H sl = some (.lst (ss.map V.int)) ∧ 1 ≤ ss.length ∧ ss.length < 1000 ∧ StatesOk ss ∧
  H wl = some (.lst (zs.map V.str)) ∧ 1 ≤ zs.length ∧ zs.length < 1000 ∧ (∀ z ∈ zs, NameOk z) ∧ ∀ (l : Addr) (H1 : Hp) (rows : List Row), H l = none → Ex H H1 → RowsAt H1 l rows → RowsOk rows → Q (.ref l) H1
theorem sc_law_steps : FnScope ["_law_stream_here", "_law_states_here", "_law_words", "_law_many", "_law_steps_here", "_law_turn", "_law_first", "_law_word", "_law_last", "_law_leaving", "_law_step"] ["_law_stream_here", "_law_states_here", "_law_words", "_law_many"] (defScope s_law_steps) := ⟨rfl, rfl, rfl, by decide +kernel, rfl, by decide +kernel, by decide +kernel⟩
theorem ok_law_steps (T : Tx K mg) (D : Dfn K mg "_law_steps" s_law_steps) (C_law_draw : CalP P w K mg base 1 "_law_draw" spDraw) : CalP P w K mg base 2 "_law_steps" (spLSteps K) := by
  refine cal_of D sc_law_steps (fun _ _ _ _ _ _ us hl => match us, hl with | [_, _, _, _], _ => rfl) (fun vs H Q E h => by obtain ⟨_, _, _, _, _, rfl, _⟩ := h; rfl) fun f cdv A outer s H vs Q E hr h => ?_
  obtain ⟨p, sl, wl, ss, zs, rfl, hp, hs, s1, s9, sok, hw, w1, w9, wok, k⟩ := h
  refine ⟨_, (pss_cons (ps_set (i := 4) sc_law_steps.nd rfl (Or.inl rfl) (pe_lst pa_nil))
        (pss_cons (ps_for PassesOwn.never rfl (pi_range1 (by rfl) T.f_range (pa_cons (pe_op op_add pe_int (C8.pe_c C_law_draw hr (by decide) (by rfl) (pa_cons (pv 0) (pa_cons (pv 3) pa_nil)))) pa_nil)) (pg_name (i := 5) sc_law_steps.nd rfl (Or.inl rfl)) (pss_cons (ps_set (i := 6) sc_law_steps.nd rfl (Or.inr rfl) (pe_ix ix_list (pv 1) (C8.pe_c C_law_draw hr (by decide) (by rfl) (pa_cons (pv 0) (pa_cons (pe_callB call_len_seq (by rfl) T.f_len boot_len (pa_cons (pv 1) pa_nil)) pa_nil))) (fun _ _ => rfl)))
        (pss_cons (ps_set (i := 7) sc_law_steps.nd rfl (Or.inl rfl) (pe_ix ix_list (pv 2) (C8.pe_c C_law_draw hr (by decide) (by rfl) (pa_cons (pv 0) (pa_cons (pe_callB call_len_seq (by rfl) T.f_len boot_len (pa_cons (pv 2) pa_nil)) pa_nil))) (fun _ _ => rfl)))
        (pss_cons (ps_set (i := 8) sc_law_steps.nd rfl (Or.inl rfl) (pe_ix ix_list (pv 1) (C8.pe_c C_law_draw hr (by decide) (by rfl) (pa_cons (pv 0) (pa_cons (pe_callB call_len_seq (by rfl) T.f_len boot_len (pa_cons (pv 1) pa_nil)) pa_nil))) (fun _ _ => rfl)))
        (pss_cons (ps_set (i := 9) sc_law_steps.nd rfl (Or.inl rfl) (pe_callB call_len_seq (by rfl) T.f_len boot_len (pa_cons (pe_lc (own := [("_law_step", 10)]) (g := gName 10) (by rfl) sc_law_steps.nd (pi_seq (pv 4)) (blkOk_by (own := [("_law_step", 10)]) (N := ["_law_stream_here", "_law_states_here", "_law_words", "_law_many", "_law_steps_here", "_law_turn", "_law_first", "_law_word", "_law_last", "_law_leaving", "_law_step"]) (sc := defScope s_law_steps) (by decide +kernel)) (fun _ _ _ _ _ => (pg_name (i := 10) sc_law_steps.nd rfl (Or.inl rfl))) (fun _ _ _ _ _ => (pts_one (pt_cmpR op_eq (pe_ix (ix_tupK (K' := K) rfl) (pv 10) pe_int (fun _ _ => rfl)) (pv 6) (nomark _)))) (fun _ _ _ _ _ => (pv 10))) pa_nil)))
        (pss_one (ps_if (PW.pt (pw_and (pt_cmpR (op_notInD (u65b hr)) (pe_tup (pa_cons (pv 6) (pa_cons (pv 7) (pa_cons (pv 8) pa_nil)))) (pv 4) (by with_unfolding_all rfl)) (pw_and1 (pt_cmpR op_lt (pv 9) pe_int (nomark _))))) (pss_one (ps_expr (pe_bm PySem.F.plainAttrs_list PySem.F.slot_list_append PySem.F.type_list_append mt_append (pv 4) (pa_cons (pe_tup (pa_cons (pv 6) (pa_cons (pv 7) (pa_cons (pv 8) pa_nil)))) pa_nil)))) pss_nil)))))))
        (pss_one (ps_ret (pv 4))))), ?_⟩
  refine q_asgL (xs := []) (el_lst ea_nil (by decide)) fun l H1 hl e1 h1 => ?_
  have pick : ∀ {H' : Hp} {σ : L2.St} {a : Addr} {j : Nat} {xs : List V}, Ex H H' → H' a = some (.lst xs) → σ[0]? = some (some (.ref p)) → σ[j]? = some (some (.ref a)) → 1 ≤ xs.length → xs.length < 1000 →
      EvS (tOp (rIxL K) (tVar j) (tCall spDraw [] E0 (tCons (tVar 0) (tCons (tCB (rLenS K) (tCons (tVar j) tNil)) tNil)))) σ H' (fun v => v ∈ xs) := fun e ha h0 hj x1 x9 =>
    evs_pick (sqk_l ha) (ev_var hj) (evs_draw (e _ _ hp) (ev_var h0) (ev_lenK (k := false) (ev_var hj) (sqk_l ha)) (by omega) (by omega))
  refine q_for (f_rangeS (A := fun i => 1 ≤ i ∧ i ≤ 12) (evi_op0 (evi_ev ev_c) (evs_draw (e1 _ _ hp) (ev_var rfl) (ev_var rfl) (by decide) (by decide)) fun i j hi hj => by omega) (fun i hi => by omega) fun m H2 hm e2 => for_w walk_range
      (fun i σ' H' => ∃ u1 u2 u3 u4 u5 u6, ∃ rows ts, σ' = [some (.ref p), some (.ref sl), some (.ref wl), some (.int 12), some (.ref l), u1, u2, u3, u4, u5, u6] ∧ Ex H H' ∧ H' l = some (.lst (ts.map V.ref)) ∧ Paired (RowAt H') ts rows ∧ rows.length ≤ i ∧ (1 ≤ i → 1 ≤ rows.length) ∧ rows.Nodup ∧ (∀ r ∈ rows, RowOk r) ∧ ∀ s, cnt rows s ≤ 8)
      ⟨_, _, _, _, _, _, [], [], rfl, e1.trans e2, e2 _ _ h1, .nil, Nat.le_refl _, fun h => absurd h (by decide), List.nodup_nil, fun r hr => by (cases hr), fun s => Nat.zero_le _⟩ (fun _ _ _ _ _ => True.intro) ?_ ?_)
  · rintro i x σ' H3 H4 hi ⟨u1, u2, u3, u4, u5, u6, rows, ts, rfl, f1, f2, f3, f4, f5, f6, f7, f8⟩ ⟨rfl, rfl⟩
    have q1 := pick (j := 1) f1 (f1 _ _ hs) (σ := [some (.ref p), some (.ref sl), some (.ref wl), some (.int 12), some (.ref l), some (.int (0 + (i : Nat))), u2, u3, u4, u5, u6]) rfl rfl (by rw [List.length_map]; omega) (by rw [List.length_map]; omega)
    refine q_setS q1 fun v H4 hv e4 => ?_
    obtain ⟨a, ha, rfl⟩ := List.mem_map.mp hv
    have e04 := f1.trans e4
    refine q_setS (pick (j := 2) e04 (e04 _ _ hw) rfl rfl (by rw [List.length_map]; omega) (by rw [List.length_map]; omega)) fun v H5 hv e5 => ?_
    obtain ⟨z, hz, rfl⟩ := List.mem_map.mp hv
    have e05 := e04.trans e5
    refine q_setS (pick (j := 1) e05 (e05 _ _ hs) rfl rfl (by rw [List.length_map]; omega) (by rw [List.length_map]; omega)) fun v H6 hv e6 => ?_
    obtain ⟨b, hb, rfl⟩ := List.mem_map.mp hv
    have e36 := e4.trans (e5.trans e6)
    have g2 := e36 _ _ f2
    have g3 : Paired (RowAt H6) ts rows := Paired.mapP f3 fun _ _ h => e36 _ _ h
    have rok : RowOk (a, z, b) := ⟨(sok a ha).1, (sok a ha).2, wok z hz, (sok b hb).1, (sok b hb).2⟩
    have hlen : ts.length = rows.length := Paired.length g3
    have lcs : EvL (tLc (iSeq K (tVar 4)) (gName 10) (tTest (tOp rEq (tOp (rIxT K) (tVar 10) (tC (.int 0))) (tVar 6))) (tVar 10) [10]) [some (.ref p), some (.ref sl), some (.ref wl), some (.int 12), some (.ref l), some (.int (0 + (i : Nat))), some (.int a), some (.str z), some (.int b), u5, u6] H6
        (given (ts.map V.ref).length (fun i => decide ((rowAt rows i).1 = a)) (fun i => (ts.map V.ref).getD i .non)) := by
      refine el_lcSt _ _ (ev_var rfl) (sqk_l g2) (by rw [List.length_map]; omega) (fun _ => rfl) (fun i x H7 hx e7 => ?_) (fun i x H7 hx e7 _ => ?_)
      · rw [List.getElem?_map] at hx
        obtain ⟨t, ht, rfl⟩ := Option.map_eq_some_iff.mp hx
        obtain ⟨r, hr, hrow⟩ := pair_at g3 ht
        have er : rowAt rows i = r := by
          unfold rowAt
          rw [List.getD_eq_getElem?_getD, hr]
          rfl
        have hb : decide (V.int r.1 = V.int a) = decide (r.1 = a) := decide_eq_decide.mpr ⟨fun h => by injection h, fun h => by rw [h]⟩
        rw [er, ← hb]
        exact et_test (ev_op (row_at0 (show RowAt H7 t r from e7 _ _ hrow) (ev_var rfl)) (ev_var rfl) (rv_eq rfl))
      · refine ev_is (ev_var rfl) ?_
        rw [List.getD_eq_getElem?_getD, hx]
        rfl
    have hgl : (given (ts.map V.ref).length (fun i => decide ((rowAt rows i).1 = a)) (fun i => (ts.map V.ref).getD i .non)).length = cnt rows a := by
      rw [List.length_map, hlen]
      exact given_cnt rows a _
    refine q_asg (ev_lenN lcs) fun H7 e7 => ?_
    rw [hgl]
    have g27 := e7 _ _ g2
    have g37 : Paired (RowAt H7) ts rows := Paired.mapP g3 fun _ _ h => e7 _ _ h
    refine s_when (et_and (et_test (ev_opU1 (eu_tup (ea_cons (ev_var rfl) (ea_cons (ev_var rfl) (ea_cons (ev_var rfl) ea_nil))) (by show 3 ≤ 100000; decide)) (fun H1 e => ev_var rfl) fun pp H8 hp8 e8 => rv_val fun H9 e9 Q q =>
      ⟨rowD (a, z, b), rows.map rowD, dp_row (e9 _ _ hp8), .lst (sq_of (e9 _ _ (e8 _ _ g27))) (dpall_rows (Paired.mapP g37 fun _ _ h => e9 _ _ (e8 _ _ h))), row_shaped rok, rows_shaped f7, by rw [any_row]; exact q⟩)) fun _ => et_test (ev_op (ev_var rfl) ev_c rv_I0)) (fun hb H8 e8 => ?_) fun hb H8 e8 => ?_
    · rw [Bool.and_eq_true, Bool.not_eq_true', decide_eq_false_iff_not, decide_eq_true_eq] at hb
      refine s_appU (e8 _ _ g27) (ev_var rfl) (eu_tup (ea_cons (ev_var rfl) (ea_cons (ev_var rfl) (ea_cons (ev_var rfl) ea_nil))) (by show 3 ≤ 100000; decide)) (by rw [List.length_map]; omega) fun t H9 ht e9 h9 => ?_
      have e39 := e36.trans (e7.trans (e8.trans e9))
      have hl9 := (e7.trans (e8.trans e9)) _ _ g2
      refine ⟨_, _, _, _, _, _, rows ++ [(a, z, b)], ts ++ [t], rfl, (f1.trans e39).mut hl, by rw [upd_same, List.map_append]; rfl, Paired.snoc (Paired.mapP g37 fun _ _ h => ((e8.trans e9) _ _ h : RowAt H9 _ _) |> RowAt.kp (Kp.lst hl9)) (RowAt.kp (Kp.lst hl9) (show RowAt H9 t (a, z, b) from h9)), by rw [List.length_append]; show _ + 1 ≤ _; omega, fun _ => by rw [List.length_append]; exact Nat.le_add_left 1 _, ?_, ?_, fun s => ?_⟩
      · rw [List.nodup_append]
        refine ⟨f6, List.nodup_cons.mpr ⟨List.not_mem_nil, List.nodup_nil⟩, fun x hx y hy e => ?_⟩
        rw [List.mem_singleton.mp hy] at e
        exact hb.1 (e ▸ hx)
      · intro r hr
        rcases List.mem_append.mp hr with hr | hr
        · exact f7 r hr
        · rw [List.mem_singleton.mp hr]
          exact rok
      · rw [cnt_snoc]
        split
        · rename_i e
          have e' : a = s := e
          subst e'
          have := hb.2
          omega
        · exact f8 s
    · have e38 := e36.trans (e7.trans e8)
      refine ⟨_, _, _, _, _, _, rows, ts, rfl, f1.trans e38, e38 _ _ f2, Paired.mapP f3 fun _ _ h => e38 _ _ h, by omega, fun _ => ?_, f6, f7, f8⟩
      cases rows with
      | nil => exact absurd hb (by rw [decide_eq_false (List.not_mem_nil (a := ((a, z, b) : Row)))]; show ¬ (!false && decide (((0 : Nat) : Int) < 8)) = false; decide)
      | cons r rs => exact Nat.succ_le_succ (Nat.zero_le _)
  · rintro σ' H3 ⟨u1, u2, u3, u4, u5, u6, rows, ts, rfl, f1, f2, f3, f4, f5, f6, f7, f8⟩
    exact s_ret (ev_var rfl) fun H4 e4 => k l H4 rows hl (f1.trans e4) ⟨ts, e4 _ _ f2, Paired.mapP f3 fun _ _ h => e4 _ _ h⟩ ⟨f5 (by omega), by omega, f6, f7, f8⟩
end
end K28
end

section
set_option Elab.async false
set_option linter.constructorNameAsVariable false
set_option maxRecDepth 100000
set_option maxHeartbeats 4000000
namespace K28
open PySem PySem.Spec PyProof.Rows L2 Evl
theorem put_map {α β κ : Type} [DecidableEq κ] (kf : α → κ) (vf : β → V) (inj : ∀ x y, kf x = kf y → x = y) (l : List (α × β)) (a : α) (b : β) :
    ∃ l' : List (α × β), putK (l.map fun p => (kf p.1, vf p.2)) (kf a) (vf b) = l'.map (fun p => (kf p.1, vf p.2)) ∧ ((l.map (·.1)).Nodup → (l'.map (·.1)).Nodup) ∧ (∀ p ∈ l', p ∈ l ∨ p = (a, b)) ∧ l'.length ≤ l.length + 1 := by
  by_cases h : ((l.map fun p => (kf p.1, vf p.2)).any fun kv => decide (kv.1 = kf a)) = true
  · refine ⟨l.map fun p => if kf p.1 = kf a then (p.1, b) else p, ?_, fun hn => ?_, fun p hp => ?_, by rw [List.length_map]; exact Nat.le_succ _⟩
    · unfold putK
      rw [if_pos h, List.map_map, List.map_map]
      refine List.map_congr_left fun p _ => ?_
      show (if kf p.1 = kf a then (kf p.1, vf b) else (kf p.1, vf p.2)) = (kf (if kf p.1 = kf a then (p.1, b) else p).1, vf (if kf p.1 = kf a then (p.1, b) else p).2)
      split <;> rfl
    · rw [List.map_map]
      have e : ((·.1) ∘ fun p : α × β => if kf p.1 = kf a then (p.1, b) else p) = (·.1) := by
        funext p
        show (if kf p.1 = kf a then (p.1, b) else p).1 = p.1
        split <;> rfl
      rw [e]
      exact hn
    · obtain ⟨q, hq, rfl⟩ := List.mem_map.mp hp
      by_cases e : kf q.1 = kf a
      · rw [if_pos e]
        exact .inr (by rw [inj _ _ e])
      · rw [if_neg e]
        exact .inl hq
  · refine ⟨l ++ [(a, b)], ?_, fun hn => ?_, fun p hp => ?_, by rw [List.length_append]; exact Nat.le_refl _⟩
    · unfold putK
      rw [if_neg h, List.map_append]
      rfl
    · rw [List.map_append, List.nodup_append]
      refine ⟨hn, List.nodup_cons.mpr ⟨List.not_mem_nil, List.nodup_nil⟩, fun x hx y hy e => ?_⟩
      have hy' : y = a := by simpa using hy
      obtain ⟨q, hq, rfl⟩ := List.mem_map.mp hx
      refine h (List.any_eq_true.mpr ⟨(kf q.1, vf q.2), List.mem_map.mpr ⟨q, hq, rfl⟩, ?_⟩)
      rw [e, hy']
      exact decide_eq_true rfl
    · rcases List.mem_append.mp hp with hp | hp
      · exact .inl hp
      · exact .inr (List.mem_singleton.mp hp)
section
variable {K : PySem.W.Frag} {σ : L2.St} {H H' : Hp} {ta tb tc te : TE} {t : TT} {x y z v : V} {r : R2} {A : Int → Prop}
theorem s_whenS {tu : TS} {D : Ends} (h : EvS te σ H (fun x => ∃ b, x = .bl b)) (h1 : ∀ H1, Ex H H1 → tu D σ H1) (h2 : ∀ H1, Ex H H1 → D.nx σ H1) : tIfS (tTest te) tu tNext D σ H :=
  h H (Ex.refl _) _ fun v H1 hv e => by
    obtain ⟨b, rfl⟩ := hv
    refine ⟨b, rfl, ?_⟩
    cases b with
    | true => exact h1 H1 e
    | false => exact h2 H1 e
theorem evi_eq {n : Int} (ha : EvS ta σ H (IS A)) (hb : Ev tb σ H (.int n)) : EvS (tOp rEq ta tb) σ H (fun x => ∃ b, x = .bl b) :=
  (evs_op1 (f := fun x => .bl (decide (x = .int n))) ha hb fun x hx => by
    obtain ⟨i, rfl, _⟩ := hx
    exact rv_eq rfl).weak fun z hz => by
      obtain ⟨x, _, e⟩ := hz
      exact ⟨_, e⟩
end
section
variable {P : Program} {w : World} {K : PySem.W.Frag} {mg : Str → Option Value} {base : Heap}
/-! ### marks -/
def MI (wl bl : Addr) (i : Nat) (wn bn : List Int) (H : Hp) : Prop := H wl = some (.lst (wn.map V.int)) ∧ H bl = some (.lst (bn.map V.int)) ∧ wn.Nodup ∧ bn.Nodup ∧ (∀ n ∈ wn, 0 ≤ n ∧ n < (i : Int)) ∧ (∀ n ∈ bn, 0 ≤ n ∧ n < (i : Int)) ∧ (∀ n ∈ bn, n ∉ wn) ∧ wn.length ≤ i ∧ bn.length ≤ i
theorem MI.ex {wl bl : Addr} {i : Nat} {wn bn : List Int} {H H' : Hp} (e : Ex H H') (h : MI wl bl i wn bn H) : MI wl bl i wn bn H' := ⟨e _ _ h.1, e _ _ h.2.1, h.2.2⟩
theorem MI.up {wl bl : Addr} {i : Nat} {wn bn : List Int} {H : Hp} (h : MI wl bl i wn bn H) : MI wl bl (i + 1) wn bn H := by
  obtain ⟨a, b, c, d, e, f, g, l1, l2⟩ := h
  exact ⟨a, b, c, d, fun n hn => by have := e n hn; omega, fun n hn => by have := f n hn; omega, g, by omega, by omega⟩
theorem nodup_snocI {ns : List Int} {n : Int} (h : ns.Nodup) (hn : n ∉ ns) : (ns ++ [n]).Nodup := by
  rw [List.nodup_append]
  refine ⟨h, List.nodup_cons.mpr ⟨List.not_mem_nil, List.nodup_nil⟩, fun x hx y hy e => ?_⟩
  rw [List.mem_singleton.mp hy] at e
  exact hn (e ▸ hx)
theorem MI.addW {wl bl : Addr} {i : Nat} {wn bn : List Int} {H : Hp} (ne : wl ≠ bl) (h : MI wl bl i wn bn H) : MI wl bl (i + 1) (wn ++ [(i : Int)]) bn (upd H wl (.lst (wn.map V.int ++ [V.int (i : Nat)]))) := by
  obtain ⟨a, b, c, d, e, f, g, l1, l2⟩ := h
  refine ⟨by rw [upd_same, List.map_append]; rfl, by rw [upd_ne ne.symm]; exact b, nodup_snocI c fun hn => by have := e _ hn; omega, d, fun n hn => ?_, fun n hn => by have := f n hn; omega, fun n hn hm => ?_, by rw [List.length_append]; show _ + 1 ≤ _; omega, by omega⟩
  · rcases List.mem_append.mp hn with hn | hn
    · have := e n hn
      omega
    · rw [List.mem_singleton.mp hn]
      omega
  · rcases List.mem_append.mp hm with hm | hm
    · exact g n hn hm
    · have := f n hn
      rw [List.mem_singleton.mp hm] at this
      omega
theorem MI.addB {wl bl : Addr} {i : Nat} {wn bn : List Int} {H : Hp} (ne : wl ≠ bl) (h : MI wl bl i wn bn H) : MI wl bl (i + 1) wn (bn ++ [(i : Int)]) (upd H bl (.lst (bn.map V.int ++ [V.int (i : Nat)]))) := by
  obtain ⟨a, b, c, d, e, f, g, l1, l2⟩ := h
  refine ⟨by rw [upd_ne ne]; exact a, by rw [upd_same, List.map_append]; rfl, c, nodup_snocI d fun hn => by have := f _ hn; omega, fun n hn => by have := e n hn; omega, fun n hn => ?_, fun n hn hm => ?_, by omega, by rw [List.length_append]; show _ + 1 ≤ _; omega⟩
  · rcases List.mem_append.mp hn with hn | hn
    · have := f n hn
      omega
    · rw [List.mem_singleton.mp hn]
      omega
  · rcases List.mem_append.mp hn with hn | hn
    · exact g n hn hm
    · have := e n hm
      rw [List.mem_singleton.mp hn] at this
      omega
def spLMarks (K : PySem.W.Frag) : Sp := fun vs H Q _ => ∃ (p l : Addr) (xs : List V), vs = [.ref p, .ref l] ∧ H p = some (StrmO p) ∧ H l = some (.lst xs) ∧ xs.length ≤ 12 ∧
  ∀ (q wl bl : Addr) (H1 : Hp) (wn bn : List Int), H q = none → Ex H H1 → H1 q = some (.tup [.ref wl, .ref bl]) → MI wl bl xs.length wn bn H1 → Q (.ref q) H1
theorem sc_law_marks : FnScope ["_law_stream_here", "_law_steps_here", "_law_wanted", "_law_barred", "_law_number", "_law_kind"] ["_law_stream_here", "_law_steps_here"] (defScope s_law_marks) := ⟨rfl, rfl, rfl, by decide +kernel, rfl, by decide +kernel, by decide +kernel⟩
theorem ok_law_marks (T : Tx K mg) (D : Dfn K mg "_law_marks" s_law_marks) (C_law_draw : CalP P w K mg base 1 "_law_draw" spDraw) : CalP P w K mg base 2 "_law_marks" (spLMarks K) := by
  refine cal_of D sc_law_marks (fun _ _ _ _ _ _ us hl => match us, hl with | [_, _], _ => rfl) (fun vs H Q E h => by obtain ⟨_, _, _, rfl, _⟩ := h; rfl) fun f cdv A outer s H vs Q E hr h => ?_
  obtain ⟨p, l, xs, rfl, hp, hl, hn, k⟩ := h
  refine ⟨_, (pss_cons (ps_set (i := 2) sc_law_marks.nd rfl (Or.inl rfl) (pe_lst pa_nil))
        (pss_cons (ps_set (i := 3) sc_law_marks.nd rfl (Or.inl rfl) (pe_lst pa_nil))
        (pss_cons (ps_for PassesOwn.never rfl (pi_range1 (by rfl) T.f_range (pa_cons (pe_callB call_len_seq (by rfl) T.f_len boot_len (pa_cons (pv 1) pa_nil)) pa_nil)) (pg_name (i := 4) sc_law_marks.nd rfl (Or.inl rfl)) (pss_cons (ps_set (i := 5) sc_law_marks.nd rfl (Or.inl rfl) (C8.pe_c C_law_draw hr (by decide) (by rfl) (pa_cons (pv 0) (pa_cons pe_int pa_nil))))
        (pss_cons (ps_if (pt_cmpR op_lt (pv 5) pe_int (nomark _)) (pss_one (ps_expr (pe_bm PySem.F.plainAttrs_list PySem.F.slot_list_append PySem.F.type_list_append mt_append (pv 2) (pa_cons (pv 4) pa_nil)))) pss_nil)
        (pss_one (ps_if (pt_cmpR op_eq (pv 5) pe_int (nomark _)) (pss_one (ps_expr (pe_bm PySem.F.plainAttrs_list PySem.F.slot_list_append PySem.F.type_list_append mt_append (pv 3) (pa_cons (pv 4) pa_nil)))) pss_nil)))))
        (pss_one (ps_ret (pe_tup (pa_cons (pv 2) (pa_cons (pv 3) pa_nil)))))))), ?_⟩
  refine q_asgL (xs := []) (el_lst ea_nil (by decide)) fun wl H1 hwl e1 h1 => ?_
  refine q_asgL (xs := []) (el_lst ea_nil (by decide)) fun bl H2 hbl e2 h2 => ?_
  have ne : wl ≠ bl := fun e => by rw [← e, h1] at hbl; cases hbl
  have hbl0 : H bl = none := fresh_back e1 hbl
  refine q_forw (fun R q => f_range (n := xs.length) (ea_cons (ev_lenK (k := false) (ev_var rfl) (sqk_l ((e1.trans e2) _ _ hl))) ea_nil) (by omega) q) walk_range
    (fun i σ' H' => ∃ u v, ∃ wn bn : List Int, σ' = [some (.ref p), some (.ref l), some (.ref wl), some (.ref bl), u, v] ∧ Ex H H' ∧ MI wl bl i wn bn H')
    (fun H3 e3 => ⟨_, _, [], [], rfl, (e1.trans e2).trans e3, e3 _ _ (e2 _ _ h1), e3 _ _ h2, List.nodup_nil, List.nodup_nil, fun _ h => (by cases h), fun _ h => (by cases h), fun _ h => (by cases h), Nat.le_refl _, Nat.le_refl _⟩) (fun _ _ _ _ _ => True.intro) ?_ ?_
  · rintro i x σ' H3 H4 hi ⟨u, v, wn, bn, rfl, f1, f2⟩ ⟨rfl, hx⟩
    have hx : x = V.int (i : Nat) := hx.trans (by show V.int (0 + _) = _; rw [Int.zero_add])
    subst hx
    refine q_setS (evs_draw (f1 _ _ hp) (ev_var rfl) ev_c (by decide) (by decide)) fun v' H5 hv e5 => ?_
    obtain ⟨c, rfl, c0, c1⟩ := hv
    have g2 := f2.ex e5
    have w1 := g2.2.2.2.2.2.2.2.1
    have w2 := g2.2.2.2.2.2.2.2.2
    refine q_when (et_test (ev_op (ev_var rfl) ev_c rv_I0)) (fun hb H6 e6 => ?_) fun hb H6 e6 => ?_
    · have hb' := of_decide_eq_true hb
      refine s_app (e6 _ _ g2.1) (ev_var rfl) (ev_var rfl) (by rw [List.length_map]; omega) fun H7 e7 => ?_
      refine s_when (et_test (ev_op (ev_var rfl) ev_c (rv_eq rfl))) (fun hb2 H8 e8 => ?_) fun _ H8 e8 => ?_
      · have hb3 := of_decide_eq_true hb2
        injection hb3 with hb3
        omega
      · refine ⟨_, _, wn ++ [(i : Int)], bn, rfl, (((f1.trans e5).trans (e6.trans e7)).mut hwl).trans e8, ?_⟩
        have := (((g2.ex e6).ex e7).addW ne).ex e8
        exact this
    · refine s_when (et_test (ev_op (ev_var rfl) ev_c (rv_eq rfl))) (fun hb2 H8 e8 => ?_) fun _ H8 e8 => ?_
      · refine s_app (e8 _ _ (e6 _ _ g2.2.1)) (ev_var rfl) (ev_var rfl) (by rw [List.length_map]; omega) fun H9 e9 => ?_
        refine ⟨_, _, wn, bn ++ [(i : Int)], rfl, ((f1.trans e5).trans (e6.trans (e8.trans e9))).mut hbl0, ?_⟩
        exact (((g2.ex e6).ex e8).ex e9).addB ne
      · exact ⟨_, _, wn, bn, rfl, (f1.trans e5).trans (e6.trans e8), ((g2.ex e6).ex e8).up⟩
  · rintro σ' H3 ⟨u, v, wn, bn, rfl, f1, f2⟩
    exact s_retU (eu_tup (ea_cons (ev_var rfl) (ea_cons (ev_var rfl) ea_nil)) (by show 2 ≤ 100000; decide)) fun q H4 hq e4 h4 => k q wl bl H4 wn bn (fresh_back f1 hq) (f1.trans e4) h4 (f2.ex e4)
/-! ### views -/
def spLView (K : PySem.W.Frag) : Sp := fun vs H Q _ => ∃ (p wl sl : Addr) (ws ss : List Str), vs = [.ref p, .ref wl, .ref sl] ∧ H p = some (StrmO p) ∧ H wl = some (.lst (ws.map V.str)) ∧ H sl = some (.lst (ss.map V.str)) ∧ ws.length ≤ 12 ∧ ss.length ≤ 12 ∧ (∀ z ∈ ws, NameOk z) ∧ (∀ z ∈ ss, NameOk z) ∧
  ∀ (q t h : Addr) (H1 : Hp) (tab : List (Str × Str)) (zs : List Str), H q = none → Ex H H1 → H1 q = some (.tup [.ref t, .ref h]) → H1 t = some (.dK (tabK tab)) → H1 h = some (.lst (zs.map V.str)) → TabOk' tab → tab.length ≤ 12 → NamesOk zs → zs.length ≤ 12 → H h = none → Q (.ref q) H1
theorem tab_putG (tab : List (Str × Str)) (k s : Str) : ∃ tab', putK (tabK tab) (Sum.inr k) (.str s) = tabK tab' ∧ ((tab.map (·.1)).Nodup → (tab'.map (·.1)).Nodup) ∧ (∀ p ∈ tab', p ∈ tab ∨ p = (k, s)) ∧ tab'.length ≤ tab.length + 1 :=
  put_map (κ := Key) Sum.inr V.str (fun x y e => by injection e) tab k s
theorem sc_law_view : FnScope ["_law_stream_here", "_law_words", "_law_sights", "_law_table", "_law_holds", "_law_word", "_law_kind"] ["_law_stream_here", "_law_words", "_law_sights"] (defScope s_law_view) := ⟨rfl, rfl, rfl, by decide +kernel, rfl, by decide +kernel, by decide +kernel⟩
theorem ok_law_view (T : Tx K mg) (D : Dfn K mg "_law_view" s_law_view) (C_law_draw : CalP P w K mg base 1 "_law_draw" spDraw) : CalP P w K mg base 2 "_law_view" (spLView K) := by
  refine cal_of D sc_law_view (fun _ _ _ _ _ _ us hl => match us, hl with | [_, _, _], _ => rfl) (fun vs H Q E h => by obtain ⟨_, _, _, _, _, rfl, _⟩ := h; rfl) fun f cdv A outer s H vs Q E hr h => ?_
  obtain ⟨p, wl, sl, ws, ss, rfl, hp, hw, hs, w9, s9, wok, sok, k⟩ := h
  refine ⟨_, (pss_cons (ps_set (i := 3) sc_law_view.nd rfl (Or.inl rfl) pe_dnewK)
        (pss_cons (ps_set (i := 4) sc_law_view.nd rfl (Or.inl rfl) (pe_lst pa_nil))
        (pss_cons (ps_for PassesOwn.never rfl (pi_seq (pv 1)) (pg_name (i := 5) sc_law_view.nd rfl (Or.inl rfl)) (pss_cons (ps_set (i := 6) sc_law_view.nd rfl (Or.inl rfl) (C8.pe_c C_law_draw hr (by decide) (by rfl) (pa_cons (pv 0) (pa_cons (pe_op op_add (pe_callB call_len_seq (by rfl) T.f_len boot_len (pa_cons (pv 2) pa_nil)) pe_int) pa_nil))))
        (pss_cons (ps_if (pt_cmpR op_gt (pv 6) pe_int (nomark _)) (pss_one (ps_dput (hu_of hr) (pv 3) (pv 5) (pe_ix ix_list (pv 2) (pe_op op_sub (pv 6) pe_int) (fun _ _ => rfl)) rfl)) pss_nil)
        (pss_one (ps_if (pt_cmpR op_eq (C8.pe_c C_law_draw hr (by decide) (by rfl) (pa_cons (pv 0) (pa_cons pe_int pa_nil))) pe_int (nomark _)) (pss_one (ps_expr (pe_bm PySem.F.plainAttrs_list PySem.F.slot_list_append PySem.F.type_list_append mt_append (pv 4) (pa_cons (pv 5) pa_nil)))) pss_nil)))))
        (pss_one (ps_ret (pe_tup (pa_cons (pv 3) (pa_cons (pv 4) pa_nil)))))))), ?_⟩
  intro t ht
  refine q_asgL (H := upd H t (.dK [])) (xs := []) (el_lst ea_nil (by decide)) fun h H1 hh e1 h1 => ?_
  have e01 : Ex H H1 := (Ex.new ht).trans e1
  have ht1 : H1 t = some (.dK []) := e1 _ _ upd_same
  have hh0 : H h = none := fresh_back (Ex.new ht) hh
  have ne : t ≠ h := fun e => by rw [← e, upd_same] at hh; cases hh
  refine q_forw (fun R q => f_seq (ev_var rfl) (sqk_l (e01 _ _ hw)) q) (walk_seq (xs := ws.map V.str))
    (fun i σ' H' => ∃ u v, ∃ tab : List (Str × Str), ∃ zs : List Str, σ' = [some (.ref p), some (.ref wl), some (.ref sl), some (.ref t), some (.ref h), u, v] ∧ Ex H H' ∧ H' t = some (.dK (tabK tab)) ∧ H' h = some (.lst (zs.map V.str)) ∧ (tab.map (·.1)).Nodup ∧ (∀ p ∈ tab, NameOk p.1 ∧ NameOk p.2) ∧ tab.length ≤ i ∧ (∀ z ∈ zs, NameOk z) ∧ zs.length ≤ i)
    (fun H2 e2 => ⟨_, _, [], [], rfl, e01.trans e2, e2 _ _ ht1, e2 _ _ h1, List.nodup_nil, fun _ h => (by cases h), Nat.le_refl _, fun _ h => (by cases h), Nat.le_refl _⟩) (fun i σ' H' _ ⟨_, _, _, _, _, e, _⟩ => sqk_l (e _ _ hw)) ?_ ?_
  · rintro i x σ' H3 H4 hi ⟨u, v, tab, zs, rfl, f1, f2, f3, f4, f5, f6, f7, f8⟩ ⟨rfl, ey⟩
    rw [List.getElem?_map] at ey
    obtain ⟨z, hz, rfl⟩ := Option.map_eq_some_iff.mp ey
    have zok : NameOk z := wok z (List.mem_of_getElem? hz)
    rw [List.length_map] at hi
    refine q_setS (evs_draw (n := (ss.length : Int) + 1) (f1 _ _ hp) (ev_var rfl) (ev_op (ev_is (ev_lenK (k := false) (ev_var rfl) (sqk_l (f1 _ _ hs))) (by rw [List.length_map])) ev_c rv_I0) (by omega) (by omega)) fun v' H5 hv e5 => ?_
    obtain ⟨c, rfl, c0, c1⟩ := hv
    have rest : ∀ {D : Ends} (H6 : Hp) (tab' : List (Str × Str)), Ex H H6 → H6 t = some (.dK (tabK tab')) → H6 h = some (.lst (zs.map V.str)) →
        (∀ (H7 : Hp) (zs' : List Str), Ex H H7 → H7 t = some (.dK (tabK tab')) → H7 h = some (.lst (zs'.map V.str)) → (∀ z ∈ zs', NameOk z) → zs'.length ≤ i + 1 → D.nx [some (.ref p), some (.ref wl), some (.ref sl), some (.ref t), some (.ref h), some (.str z), some (.int c)] H7) →
        tIfS (tTest (tOp rEq (tCall spDraw [] E0 (tCons (tVar 0) (tCons (tC (.int 2)) tNil))) (tC (.int 1)))) (tDrop (tBM K "list" rAppend (tVar 4) (tCons (tVar 5) tNil))) tNext D [some (.ref p), some (.ref wl), some (.ref sl), some (.ref t), some (.ref h), some (.str z), some (.int c)] H6 := by
      intro D H6 tab' g1 g2 g3 kk
      refine s_whenS (evi_eq (evs_draw (g1 _ _ hp) (ev_var rfl) ev_c (by decide) (by decide)) ev_c) (fun H7 e7 => ?_) fun H7 e7 => ?_
      · refine s_app (e7 _ _ g3) (ev_var rfl) (ev_var rfl) (by rw [List.length_map]; omega) fun H8 e8 => kk _ (zs ++ [z]) ((g1.trans (e7.trans e8)).mut hh0) (by rw [upd_ne ne]; exact e8 _ _ (e7 _ _ g2)) (by rw [upd_same, List.map_append]; rfl) (fun y hy => ?_) (by rw [List.length_append]; show _ + 1 ≤ _; omega)
        rcases List.mem_append.mp hy with hy | hy
        · exact f7 y hy
        · rw [List.mem_singleton.mp hy]
          exact zok
      · exact kk _ zs (g1.trans e7) (e7 _ _ g2) (e7 _ _ g3) f7 (by omega)
    refine q_when (et_test (ev_op (ev_var rfl) ev_c rv_I0)) (fun hb H6 e6 => ?_) fun hb H6 e6 => ?_
    · have hb' := of_decide_eq_true hb
      have e56 := e5.trans e6
      have hj : (c - 1).toNat < ss.length := by omega
      have hat : atI (ss.map V.str) (c - 1) = some (.str ss[(c - 1).toNat]) := by
        have := atI_nat (xs := ss.map V.str) (j := (c - 1).toNat) (v := .str ss[(c - 1).toNat]) (by rw [List.getElem?_map, List.getElem?_eq_getElem hj]; rfl)
        rwa [show (((c - 1).toNat : Nat) : Int) = c - 1 by omega] at this
      have sok1 := sok ss[(c - 1).toNat] (List.getElem_mem hj)
      refine (ev_op (ev_var rfl) (ev_op (ev_var rfl) ev_c rv_I0) (rv_ixLk (K := K) (sqk_l ((f1.trans e56) _ _ hs)) hat) : Ev _ _ H6 _) H6 (Ex.refl _) _ fun H7 e7 => ?_
      obtain ⟨tab', t1, t2, t3, t4⟩ := tab_putG tab z ss[(c - 1).toNat]
      refine ⟨_, rfl, _, rfl, t, _, rfl, DPut.k (k := Sum.inr z) ((e56.trans e7) _ _ f2) (by unfold tabK; rw [List.length_map]; exact sz_lt (by omega)), ?_⟩
      rw [t1]
      refine rest _ tab' ((f1.trans (e56.trans e7)).mut ht) upd_same (by rw [upd_ne ne.symm]; exact (e56.trans e7) _ _ f3) fun H8 zs' k1 k2 k3 k4 k5 => ⟨_, _, tab', zs', rfl, k1, k2, k3, t2 f4, fun q hq => ?_, by omega, k4, k5⟩
      rcases t3 q hq with hq | rfl
      · exact f5 q hq
      · exact ⟨zok, sok1⟩
    · exact rest H6 tab ((f1.trans e5).trans e6) ((e5.trans e6) _ _ f2) ((e5.trans e6) _ _ f3) fun H8 zs' k1 k2 k3 k4 k5 => ⟨_, _, tab, zs', rfl, k1, k2, k3, f4, f5, by omega, k4, k5⟩
  · rintro σ' H3 ⟨u, v, tab, zs, rfl, f1, f2, f3, f4, f5, f6, f7, f8⟩
    rw [List.length_map] at f6 f8
    exact s_retU (eu_tup (ea_cons (ev_var rfl) (ea_cons (ev_var rfl) ea_nil)) (by show 2 ≤ 100000; decide)) fun q H4 hq e4 h4 => k q t h H4 tab zs (fresh_back f1 hq) (f1.trans e4) h4 (e4 _ _ f2) (e4 _ _ f3) ⟨f4, f5, by omega⟩ (by omega) ⟨f7, by omega⟩ (by omega) hh0
end
end K28
end

section
set_option Elab.async false
set_option linter.constructorNameAsVariable false
set_option maxRecDepth 100000
set_option maxHeartbeats 4000000
namespace K28
open PySem PySem.Spec PyProof.Rows L2 Evl
/-- a new list, of S -/
def EvLS (te : TE) (σ : L2.St) (H : Hp) (S : List V → Prop) : Prop := ∀ H1, Ex H H1 → ∀ Q : VK, (∀ p H2 ys, H1 p = none → Ex H1 H2 → H2 p = some (.lst ys) → S ys → Q (.ref p) H2) → te σ H1 Q
section
variable {K : PySem.W.Frag} {σ : L2.St} {H H' : Hp} {ta tb tc te tt : TE} {t : TT} {x y z v : V} {r : R2} {A : Int → Prop}
theorem s_appLS {D : Ends} {S : List V → Prop} {l : Addr} {xs : List V} (hl : H l = some (.lst xs)) (ha : Ev ta σ H (.ref l)) (h : EvLS te σ H S) (hz : xs.length < 100000) (k : ∀ p H1 ys, H p = none → Ex H H1 → H1 p = some (.lst ys) → S ys → D.nx σ (upd H1 l (.lst (xs ++ [.ref p])))) :
    tDrop (tBM K "list" rAppend ta (tCons te tNil)) D σ H := ha H (Ex.refl H) _ fun H1 e1 =>
  ⟨Or.inl ⟨rfl, xs, sq_of (e1 l _ hl)⟩, h H1 e1 _ fun p H2 ys hp e2 h2 hs => ⟨l, xs, .ref p, rfl, rfl, e2 l _ (e1 l _ hl), sz_lt hz, k p H2 ys (fresh_back e1 hp) (e1.trans e2) h2 hs⟩⟩
theorem el_lcN {k : Bool} {a : Addr} {xs : List V} {j : Nat} {te0 : TE} {vs : List Nat} (h : Ev te0 σ H (.ref a)) (hq : SqK k K H a xs) (hn : xs.length ≤ 40000) (hw : ∀ x, wipe ((wipe σ vs).set j (some x)) vs = wipe σ vs)
    (ht : ∀ (x : V) H1, Ex H H1 → EvS tt ((wipe σ vs).set j (some x)) H1 (fun x => ∃ b, x = .bl b)) (he : ∀ x : V, ((wipe σ vs).set j (some x))[j]? = some (some x)) : EvLS (tLc (iSeq K te0) (gName j) (tTest tt) (tVar j) vs) σ H (fun ys => ys.length ≤ xs.length ∧ ∀ y ∈ ys, y ∈ xs) := fun H1 e1 Q q =>
  e_lc (f_seq (h.mono e1) (hq.ex e1) fun H2 e2 => lc_w (walk_seq (xs := xs)) (fun D i H3 => Ex H2 H3 ∧ ∃ ys, H3 D = some (.lst ys) ∧ ys.length ≤ i ∧ ∀ y ∈ ys, y ∈ xs) (fun D hD => ⟨Ex.new hD, [], upd_same, Nat.le_refl _, fun _ h => (by cases h)⟩) (fun D i H3 _ _ p => hq.ex (e1.trans (e2.trans p.1))) (fun D i x H3 H' hD hi p y => by
    obtain ⟨rfl, ex⟩ := y
    obtain ⟨f1, ys, f2, f3, f4⟩ := p
    refine ⟨hw x, ht x H' (e1.trans (e2.trans f1)) H' (Ex.refl _) _ fun bv H4 hb e4 => ?_⟩
    obtain ⟨b, rfl⟩ := hb
    refine ⟨b, rfl, ?_⟩
    cases b with
    | true =>
      refine iteT ?_
      refine ⟨x, he x, ys, e4 _ _ f2, sz_lt (by omega), ((f1.trans e4).mut hD), ys ++ [x], upd_same, by rw [List.length_append]; show _ + 1 ≤ _; omega, fun y hy => ?_⟩
      rcases List.mem_append.mp hy with hy | hy
      · exact f4 y hy
      · rw [List.mem_singleton.mp hy]
        exact List.mem_of_getElem? ex
    | false => exact iteF ⟨f1.trans e4, ys, e4 _ _ f2, by omega, f4⟩) (fun D H3 hD p => by
      obtain ⟨f1, ys, f2, f3, f4⟩ := p
      exact q D H3 ys (fresh_back e2 hD) (e2.trans f1) f2 ⟨f3, f4⟩))
end
theorem gen_heap {R : Hp → Prop} {H0 : Hp} {sl : Addr} {o : HO} {H : Hp} (e : Ex H H0) (hn : H0 sl = none) (k : ∀ H4, Ex H H4 → H4 sl = some o → R H4) : R (upd H0 sl o) := k _ (e.trans (Ex.new hn)) upd_same
theorem ne_of_none' {H : Hp} {p q : Addr} {o : HO} (h : H p = none) (e : H q = some o) : p ≠ q := fun z => by
  rw [z, e] at h
  cases h
theorem strs_of {ys : List V} {zs : List Str} (h : ∀ y ∈ ys, y ∈ zs.map V.str) : ∃ ws : List Str, ys = ws.map V.str ∧ ∀ z ∈ ws, z ∈ zs := by
  induction ys with
  | nil => exact ⟨[], rfl, fun _ h => by cases h⟩
  | cons y ys ih =>
    obtain ⟨ws, e, hw⟩ := ih fun u hu => h u (List.mem_cons_of_mem _ hu)
    obtain ⟨z, hz, ez⟩ := List.mem_map.mp (h y List.mem_cons_self)
    refine ⟨z :: ws, by rw [e, List.map_cons, ez], fun u hu => ?_⟩
    rcases List.mem_cons.mp hu with rfl | hu
    · exact hz
    · exact hw u hu
section
variable {P : Program} {w : World} {K : PySem.W.Frag} {mg : Str → Option Value} {base : Heap}
def MvOk (tab : List (Str × Str)) (n : Nat) (ms : List ((Int × Str) × Int)) : Prop := ∀ q ∈ ms, 0 ≤ q.1.1 ∧ q.1.1 < (n : Int) ∧ q.1.2 ∈ tab.map (·.2) ∧ 0 ≤ q.2 ∧ q.2 < (n : Int)
structure GI (P : Program) (w : World) (Hb : Hp) (m l : Addr) (n : Nat) (tab : List (Str × Str)) (zs : List Str) (b : Nat) (ms : List ((Int × Str) × Int)) (as : List Addr) (held : List (List Str)) (H' : Hp) : Prop where
  ex : Ex Hb H'
  nd : NDk P w H' m (movesK ms)
  hl : H' l = some (.lst (as.map V.ref))
  ne : ∀ a ∈ as, a ≠ l
  fr : ∀ a ∈ as, Hb a = none
  pr : Paired (fun a hs => H' a = some (.lst (hs.map V.str))) as held
  ho : ∀ hs ∈ held, hs.length ≤ 12 ∧ ∀ z ∈ hs, z ∈ zs
  le : ms.length ≤ b
  mv : MvOk tab n ms
theorem moves_putG (ms : List ((Int × Str) × Int)) (k : Int × Str) (v : Int) : ∃ ms', putK (movesK ms) (mkey k) (.int v) = movesK ms' ∧ ((ms.map (·.1)).Nodup → (ms'.map (·.1)).Nodup) ∧ (∀ p ∈ ms', p ∈ ms ∨ p = (k, v)) ∧ ms'.length ≤ ms.length + 1 :=
  put_map mkey V.int (fun x y e => by
    unfold mkey at e
    injection e with e
    injection e with e1 e
    injection e with e2 e
    injection e1 with e1
    injection e2 with e2
    exact Prod.ext e1 e2) ms k v
theorem pair_upd {H : Hp} {m : Addr} {o : HO} : ∀ {as : List Addr} {held : List (List Str)}, (∀ a ∈ as, a ≠ m) → Paired (fun a hs => H a = some (.lst (hs.map V.str))) as held → Paired (fun a hs => upd H m o a = some (.lst (hs.map V.str))) as held
  | _, _, _, .nil => .nil
  | _, _, h, .cons h1 hs => .cons (by rw [upd_ne (h _ List.mem_cons_self)]; exact h1) (pair_upd (fun a ha => h a (List.mem_cons_of_mem _ ha)) hs)
theorem pair_ne {H : Hp} {m : Addr} {o : HO} (hm : H m = some o) (ho : ∀ xs, o ≠ .lst xs) : ∀ {as : List Addr} {held : List (List Str)}, Paired (fun a hs => H a = some (.lst (hs.map V.str))) as held → ∀ a ∈ as, a ≠ m
  | _, _, .nil, _, ha => by cases ha
  | _, _, .cons h1 hs, a, ha => by
    rcases List.mem_cons.mp ha with rfl | ha
    · intro e
      rw [e, hm] at h1
      cases h1
      exact ho _ rfl
    · exact pair_ne hm ho hs a ha
theorem GI.exx {Hb : Hp} {m l : Addr} {n : Nat} {tab : List (Str × Str)} {zs : List Str} {b : Nat} {ms : List ((Int × Str) × Int)} {as : List Addr} {held : List (List Str)} {H H' : Hp} (g : GI P w Hb m l n tab zs b ms as held H) (e : Ex H H') : GI P w Hb m l n tab zs b ms as held H' :=
  ⟨g.ex.trans e, g.nd.ex e, e _ _ g.hl, g.ne, g.fr, Paired.mapP g.pr fun _ _ h => e _ _ h, g.ho, g.le, g.mv⟩
theorem GI.put {Hb : Hp} {m l : Addr} {n : Nat} {tab : List (Str × Str)} {zs : List Str} {b : Nat} {ms ms' : List ((Int × Str) × Int)} {as : List Addr} {held : List (List Str)} {H : Hp} {o : HO} (g : GI P w Hb m l n tab zs b ms as held H) (hm : Hb m = none)
    (nd : NDk P w (upd H m o) m (movesK ms')) (le : ms'.length ≤ b + 1) (mv : MvOk tab n ms') : GI P w Hb m l n tab zs (b + 1) ms' as held (upd H m o) := by
  obtain ⟨_, ob, z1, _⟩ := g.nd
  have hne : l ≠ m := fun e => by
    have := g.hl
    rw [e, z1] at this
    cases this
  exact ⟨g.ex.mut hm, nd, by rw [upd_ne hne]; exact g.hl, g.ne, g.fr, pair_upd (pair_ne z1 (fun _ e => by cases e) g.pr) g.pr, g.ho, le, mv⟩
theorem GI.app {Hb : Hp} {m l : Addr} {n : Nat} {tab : List (Str × Str)} {zs : List Str} {b : Nat} {ms : List ((Int × Str) × Int)} {as : List Addr} {held : List (List Str)} {H : Hp} {a : Addr} {hs : List Str} (g : GI P w Hb m l n tab zs b ms as held H) (hl : Hb l = none) (ha : H a = some (.lst (hs.map V.str))) (hal : a ≠ l) (haf : Hb a = none)
    (h1 : hs.length ≤ 12 ∧ ∀ z ∈ hs, z ∈ zs) : GI P w Hb m l n tab zs b ms (as ++ [a]) (held ++ [hs]) (upd H l (.lst (as.map V.ref ++ [V.ref a]))) := by
  obtain ⟨z0, ob, z1, z2⟩ := g.nd
  have hne : m ≠ l := fun e => by
    have := g.hl
    rw [← e, z1] at this
    cases this
  have ne' : ∀ x ∈ as ++ [a], x ≠ l := fun x hx => by
    rcases List.mem_append.mp hx with hx | hx
    · exact g.ne x hx
    · rw [List.mem_singleton.mp hx]
      exact hal
  refine ⟨g.ex.mut hl, NDk.upd ⟨z0, ob, z1, z2⟩ hne (fun ws e => by rw [g.hl] at e; cases e), by rw [upd_same, List.map_append]; rfl, ne', fun x hx => ?_, pair_upd ne' (Paired.snoc g.pr ha), fun x hx => ?_, g.le, g.mv⟩
  · rcases List.mem_append.mp hx with hx | hx
    · exact g.fr x hx
    · rw [List.mem_singleton.mp hx]
      exact haf
  rcases List.mem_append.mp hx with hx | hx
  · exact g.ho x hx
  · rw [List.mem_singleton.mp hx]
    exact h1
def spLGuard (P : Program) (w : World) : Sp := fun vs H Q _ => ∃ (p t h : Addr) (n : Nat) (tab : List (Str × Str)) (zs : List Str), vs = [.ref p, .ref t, .ref h, .int (n : Nat)] ∧ H p = some (StrmO p) ∧ H t = some (.dK (tabK tab)) ∧ H h = some (.lst (zs.map V.str)) ∧ tab.length ≤ 12 ∧ zs.length ≤ 12 ∧ n ≤ 3 ∧
  ∀ (q m l : Addr) (H1 : Hp) (ms : List ((Int × Str) × Int)) (held : List (List Str)), H q = none → Ex H H1 → H1 q = some (.tup [.ref m, .ref l]) → NDk P w H1 m (movesK ms) → (H l = none ∧ ∃ as : List Addr, H1 l = some (.lst (as.map V.ref)) ∧ Paired (fun a hs => H1 a = some (.lst (hs.map V.str))) as held ∧ ∀ a ∈ as, H a = none) → held.length = n → (∀ hs ∈ held, hs.length < 64 ∧ ∀ z ∈ hs, z ∈ zs) → ms.length ≤ 1000 → MvOk tab n ms → Q (.ref q) H1
theorem sc_law_guard : FnScope ["_law_stream_here", "_law_table", "_law_holds", "_law_size", "_law_sights", "_law_moves", "_law_held", "_law_node", "_law_sight", "_law_end", "_law_word"] ["_law_stream_here", "_law_table", "_law_holds", "_law_size"] (defScope s_law_guard) := ⟨rfl, rfl, rfl, by decide +kernel, rfl, by decide +kernel, by decide +kernel⟩
theorem ok_law_guard (T : Tx K mg) (D : Dfn K mg "_law_guard" s_law_guard) (C_law_draw : CalP P w K mg base 1 "_law_draw" spDraw) : CalP P w K mg base 2 "_law_guard" (spLGuard P w) := by
  refine cal_of D sc_law_guard (fun _ _ _ _ _ _ us hl => match us, hl with | [_, _, _, _], _ => rfl) (fun vs H Q E h => by obtain ⟨_, _, _, _, _, _, rfl, _⟩ := h; rfl) fun f cdv A outer s H vs Q E hr h => ?_
  obtain ⟨p, t, h, n, tab, zs, rfl, hp, ht, hh, t9, z9, n3, k⟩ := h
  refine ⟨_, (pss_cons (ps_set (i := 4) sc_law_guard.nd rfl (Or.inl rfl) (pe_callB (cr_sortedSS rfl) (by rfl) T.f_sorted boot_sorted (pa_cons (pe_callTy (cr_setOfS rfl) (by rfl) T.f_set boot_set (pa_cons (pe_listVals rfl (by rfl) T.f_list (pv 1)) pa_nil)) pa_nil)))
        (pss_cons (ps_set (i := 5) sc_law_guard.nd rfl (Or.inl rfl) pe_nnew)
        (pss_cons (ps_set (i := 6) sc_law_guard.nd rfl (Or.inl rfl) (pe_lst pa_nil))
        (pss_cons (ps_for PassesOwn.never rfl (pi_range1 (by rfl) T.f_range (pa_cons (pv 3) pa_nil)) (pg_name (i := 7) sc_law_guard.nd rfl (Or.inl rfl)) (pss_cons (ps_for PassesOwn.never rfl (pi_seq (pv 4)) (pg_name (i := 8) sc_law_guard.nd rfl (Or.inl rfl)) (pss_cons (ps_set (i := 9) sc_law_guard.nd rfl (Or.inl rfl) (C8.pe_c C_law_draw hr (by decide) (by rfl) (pa_cons (pv 0) (pa_cons (pe_op op_add (pv 3) pe_int) pa_nil))))
        (pss_one (ps_if (pt_cmpR op_lt (pv 9) (pv 3) (nomark _)) (pss_one (ps_nput hr.units (pv 5) (pe_tup (pa_cons (pv 7) (pa_cons (pv 8) pa_nil))) (pv 9) rfl)) pss_nil))))
        (pss_one (ps_expr (pe_bm PySem.F.plainAttrs_list PySem.F.slot_list_append PySem.F.type_list_append mt_append (pv 6) (pa_cons (pe_lc (own := [("_law_word", 10)]) (g := gName 10) (by rfl) sc_law_guard.nd (pi_seq (pv 2)) (blkOk_by (own := [("_law_word", 10)]) (N := ["_law_stream_here", "_law_table", "_law_holds", "_law_size", "_law_sights", "_law_moves", "_law_held", "_law_node", "_law_sight", "_law_end", "_law_word"]) (sc := defScope s_law_guard) (by decide +kernel)) (fun _ _ _ _ _ => (pg_name (i := 10) sc_law_guard.nd rfl (Or.inl rfl))) (fun _ _ _ _ _ => (pts_one (pt_cmpR op_eq (C8.pe_c C_law_draw hr (by decide) (by rfl) (pa_cons (pv 0) (pa_cons pe_int pa_nil))) pe_int (nomark _)))) (fun _ _ _ _ _ => (pv 10))) pa_nil))))))
        (pss_one (ps_ret (pe_tup (pa_cons (pv 5) (pa_cons (pv 6) pa_nil))))))))), ?_⟩
  refine q_set ?_
  refine ⟨_, rfl, t, tabK tab, rfl, .inl ht, fun p1 hp1 => ?_⟩
  have e1 : Ex H (upd H p1 (.lst ((tabK tab).map (·.2)))) := Ex.new hp1
  have e2 : (tabK tab).map (·.2) = (tab.map (·.2)).map V.str := by unfold tabK; rw [List.map_map, List.map_map]; rfl
  rw [e2] at e1 ⊢
  refine ⟨p1, tab.map (·.2), rfl, sq_of upd_same, by rw [List.length_map]; omega, fun q hq => ?_⟩
  have al := addAll_len (tab.map (·.2)) []
  rw [List.length_map, List.length_nil] at al
  refine ⟨q, addAll [] (tab.map (·.2)), rfl, upd_same, by omega, fun ys sl hp2 hn hs hr2 => ?_⟩
  have ymem : ∀ z ∈ ys, z ∈ tab.map (·.2) := fun z hz => by
    rw [hp2.mem_iff, addAll_mem] at hz
    simpa using hz
  have yl : ys.length ≤ 12 := by
    rw [hp2.length_eq]
    omega
  refine gen_heap (sl := sl) (e1.trans (Ex.new hq)) hr2 fun H4 e4 hsl => ?_
  refine q_set ?_
  intro m om hm4 nd0
  refine q_asgL (H := upd H4 m om) (xs := []) (el_lst ea_nil (by decide)) fun l H6 hl6 e6 h6 => ?_
  have hl4 : H4 l = none := fresh_back (Ex.new hm4) hl6
  refine q_forw (fun R q => f_range (n := n) (ea_cons (ev_var rfl) ea_nil) (by omega) q) walk_range
    (fun i σ' H' => ∃ u1 u2 u3 u4 ms as held, σ' = [some (.ref p), some (.ref t), some (.ref h), some (.int (n : Nat)), some (.ref sl), some (.ref m), some (.ref l), u1, u2, u3, u4] ∧ GI P w H4 m l n tab zs (i * 64) ms as held H' ∧ held.length = i)
    (fun H7 e7 => ⟨_, _, _, _, [], [], [], rfl, ⟨(Ex.new hm4).trans (e6.trans e7), (nd0.ex e6).ex e7, e7 _ _ h6, fun _ h => (by cases h), fun _ h => (by cases h), .nil, fun _ h => (by cases h), Nat.zero_le _, fun _ h => (by cases h)⟩, rfl⟩) (fun _ _ _ _ _ => True.intro) ?_ ?_
  · rintro i x σ' H7 H8 hi ⟨u1, u2, u3, u4, ms, as, held, rfl, g, hlen⟩ ⟨rfl, hx⟩
    have hx : x = V.int (i : Nat) := hx.trans (by show V.int (0 + _) = _; rw [Int.zero_add])
    subst hx
    refine q_forw (fun R q => f_seq (ev_var rfl) (sqk_l (g.ex _ _ hsl)) q) (walk_seq (xs := ys.map V.str))
      (fun j σ' H' => ∃ u2 u3 u4 ms, σ' = [some (.ref p), some (.ref t), some (.ref h), some (.int (n : Nat)), some (.ref sl), some (.ref m), some (.ref l), some (.int (i : Nat)), u2, u3, u4] ∧ GI P w H4 m l n tab zs (i * 64 + j) ms as held H')
      (fun H9 e9 => ⟨_, _, _, ms, rfl, g.exx e9⟩) (fun j σ' H' _ ⟨_, _, _, _, _, g⟩ => sqk_l (g.ex _ _ hsl)) ?_ ?_
    · rintro j x σ' H9 H10 hj ⟨u2, u3, u4, ms, rfl, g⟩ ⟨rfl, ey⟩
      rw [List.getElem?_map] at ey
      obtain ⟨z, hz, rfl⟩ := Option.map_eq_some_iff.mp ey
      have zm := ymem z (List.mem_of_getElem? hz)
      rw [List.length_map] at hj
      refine q_setS (evs_draw (n := (n : Int) + 1) (g.ex _ _ (e4 _ _ hp)) (ev_var rfl) (ev_op (ev_var rfl) ev_c rv_I0) (by omega) (by omega)) fun v' H11 hv e11 => ?_
      obtain ⟨c, rfl, c0, c1⟩ := hv
      have g11 := g.exx e11
      refine s_when (et_test (ev_op (ev_var rfl) (ev_var rfl) rv_I0)) (fun hb H12 e12 => ?_) fun _ H12 e12 => ?_
      · have hb' := of_decide_eq_true hb
        have g12 := g11.exx e12
        refine ⟨_, rfl, _, rfl, ?_⟩
        refine (eu_tup (ea_cons (ev_var rfl) (ea_cons (ev_var rfl) ea_nil)) (by show 2 ≤ 100000; decide) : EvU _ _ H12 _) H12 (Ex.refl _) _ fun kq H13 hkq e13 h13 => ?_
        have g13 := g12.exx e13
        have hle := g13.le
        refine ⟨m, _, mkey ((i : Int), z), rfl, g13.nd, mkey_keyV h13, by unfold movesK; rw [List.length_map]; exact sz_lt (by omega), fun o nd' => ?_⟩
        obtain ⟨ms', m1, m2, m3, m4⟩ := moves_putG ms ((i : Int), z) c
        rw [m1] at nd'
        refine ⟨_, _, _, ms', rfl, g13.put hm4 nd' (by omega) fun q hq => ?_⟩
        rcases m3 q hq with hq | rfl
        · exact g13.mv q hq
        · exact ⟨by show (0 : Int) ≤ (i : Nat); omega, by show ((i : Nat) : Int) < (n : Nat); omega, zm, c0, hb'⟩
      · have g12 := g11.exx e12
        exact ⟨_, _, _, ms, rfl, ⟨g12.ex, g12.nd, g12.hl, g12.ne, g12.fr, g12.pr, g12.ho, Nat.le_succ_of_le g12.le, g12.mv⟩⟩
    · rintro σ' H9 ⟨u2, u3, u4, ms, rfl, g⟩
      rw [List.length_map] at g
      refine s_appLS g.hl (ev_var rfl) (el_lcN (ev_var rfl) (sqk_l (g.ex _ _ (e4 _ _ hh))) (by rw [List.length_map]; omega) (fun _ => rfl) (fun x H10 e10 => evi_eq (evs_draw (e10 _ _ (g.ex _ _ (e4 _ _ hp))) (ev_var rfl) ev_c (by decide) (by decide)) ev_c) (fun _ => rfl)) (by
        have : as.length = held.length := Paired.length g.pr
        rw [List.length_map]
        omega) fun a H10 us ha e10 h10 hus => ?_
      obtain ⟨ws, rfl, hws⟩ := strs_of hus.2
      have g10 := g.exx e10
      have hl1 := hus.1
      rw [List.length_map, List.length_map] at hl1
      refine ⟨_, _, _, _, ms, as ++ [a], held ++ [ws], rfl, (fun (gg : GI P w H4 m l n tab zs _ ms (as ++ [a]) (held ++ [ws]) _) => ⟨gg.ex, gg.nd, gg.hl, gg.ne, gg.fr, gg.pr, gg.ho, by have := gg.le; omega, gg.mv⟩) (g10.app hl4 h10 (ne_of_none' ha g.hl) (fresh_back g.ex ha) ⟨by omega, hws⟩), by rw [List.length_append, hlen]; rfl⟩
  · rintro σ' H7 ⟨u1, u2, u3, u4, ms, as, held, rfl, g, hlen⟩
    refine s_retU (eu_tup (ea_cons (ev_var rfl) (ea_cons (ev_var rfl) ea_nil)) (by show 2 ≤ 100000; decide)) fun q H8 hq e8 h8 => ?_
    have g8 := g.exx e8
    have hle := g8.le
    exact k q m l H8 ms held (fresh_back (e4.trans g.ex) hq) (e4.trans g8.ex) h8 g8.nd ⟨fresh_back e4 hl4, as, g8.hl, g8.pr, fun a ha => fresh_back e4 (g8.fr a ha)⟩ hlen (fun x hx => ⟨by have := (g8.ho x hx).1; omega, (g8.ho x hx).2⟩) (by omega) g8.mv
end
end K28
end

section
set_option Elab.async false
set_option linter.constructorNameAsVariable false
set_option maxRecDepth 100000
set_option maxHeartbeats 4000000
namespace K28
open PySem PySem.Spec PyProof.Rows L2 Evl
section
variable {K : PySem.W.Frag} {σ : L2.St} {H H' : Hp} {te : TE} {tl th : TO} {lo hi : Option Int}
theorem el_slice {a : Addr} {xs : List V} (h : Ev te σ H (.ref a)) (hq : SqK false K H a xs) (hl : EvO tl σ H lo) (hh : EvO th σ H hi) : EvL (tSl (rSlL K) te tl th) σ H (cutV xs lo hi) := fun H1 e Q q =>
  h H1 e _ fun H2 e2 => hl H2 (e.trans e2) _ fun H3 e3 => hh H3 ((e.trans e2).trans e3) _ fun H4 e4 =>
    have e24 := e2.trans (e3.trans e4)
    ⟨a, xs, rfl, ex_l (e.trans e24) (show SqL K H a xs from hq), fun p hp => q p _ (fresh_back e24 hp) (e24.trans (Ex.new hp)) upd_same⟩
theorem eo_some {i : Int} (h : Ev te σ H (.int i)) : EvO (tPart te) σ H (some i) := fun H1 e Q q => h H1 e _ fun H2 e2 => ⟨i, rfl, q H2 e2⟩
theorem eo_none : EvO tNoPart σ H none := fun H1 e Q q => q H1 (Ex.refl _)
theorem cut13 (a b c d : Str) : cutV ([a, b, c, d].map V.str) (some 1) (some 3) = [b, c].map V.str := by rfl
theorem cut03 (a b c d : Str) : cutV ([a, b, c, d].map V.str) none (some 3) = [a, b, c].map V.str := by rfl
theorem four {zs : List Str} (h : zs.length = 4) : ∃ a b c d, zs = [a, b, c, d] := by
  match zs, h with
  | [a, b, c, d], _ => exact ⟨a, b, c, d, rfl⟩
end
/-! ### a part in the heap -/
def PartTup (P : Program) (w : World) (H : Hp) (t : Addr) (p : Part) : Prop := ∃ tb hl m ld, H t = some (.tup [.ref tb, .ref hl, .ref m, .ref ld]) ∧ H tb = some (.dK (tabK p.tab)) ∧ H hl = some (.lst (p.holds.map V.str)) ∧ NDk P w H m (movesK p.moves) ∧ HeldAt H ld p.held
def PartsAt (P : Program) (w : World) (H : Hp) (l : Addr) (ps : List Part) : Prop := ∃ ts : List Addr, H l = some (.lst (ts.map V.ref)) ∧ Paired (PartTup P w H) ts ps
theorem PartTup.ex {P : Program} {w : World} {H H' : Hp} {t : Addr} {p : Part} (e : Ex H H') (h : PartTup P w H t p) : PartTup P w H' t p := let ⟨tb, hl, m, ld, a, b, c, d, f⟩ := h; ⟨tb, hl, m, ld, e _ _ a, e _ _ b, e _ _ c, d.ex e, f.ex e⟩
theorem PartsAt.ex {P : Program} {w : World} {H H' : Hp} {l : Addr} {ps : List Part} (e : Ex H H') (h : PartsAt P w H l ps) : PartsAt P w H' l ps := let ⟨ts, a, b⟩ := h; ⟨ts, e _ _ a, Paired.mapP b fun _ _ q => q.ex e⟩
def PartN (P : Program) (w : World) (l : Addr) (H : Hp) (t : Addr) (p : Part) : Prop := ∃ tb hl m ld as, H t = some (.tup [.ref tb, .ref hl, .ref m, .ref ld]) ∧ H tb = some (.dK (tabK p.tab)) ∧ H hl = some (.lst (p.holds.map V.str)) ∧ NDk P w H m (movesK p.moves) ∧ H ld = some (.lst (List.map V.ref as)) ∧ Paired (fun a hs => H a = some (.lst (List.map V.str hs))) as p.held ∧ hl ≠ l ∧ ld ≠ l ∧ ∀ a ∈ as, a ≠ l
theorem PartN.tup {P : Program} {w : World} {l : Addr} {H : Hp} {t : Addr} {p : Part} (h : PartN P w l H t p) : PartTup P w H t p := let ⟨tb, hl, m, ld, as, a, b, c, d, e, f, _⟩ := h; ⟨tb, hl, m, ld, a, b, c, d, as, e, f⟩
theorem PartN.ex {P : Program} {w : World} {l : Addr} {H H' : Hp} {t : Addr} {p : Part} (e : Ex H H') (h : PartN P w l H t p) : PartN P w l H' t p :=
  let ⟨tb, hl, m, ld, as, a, b, c, d, f, g, n⟩ := h; ⟨tb, hl, m, ld, as, e _ _ a, e _ _ b, e _ _ c, d.ex e, e _ _ f, Paired.mapP g fun _ _ q => e _ _ q, n⟩
theorem PartN.upd {P : Program} {w : World} {l : Addr} {H : Hp} {t : Addr} {p : Part} {xs : List V} {o : HO} (hl : H l = some (.lst xs)) (h : PartN P w l H t p) : PartN P w l (upd H l o) t p := by
  obtain ⟨tb, hh, m, ld, as, a, b, c, d, f, g, n1, n2, n3⟩ := h
  have ne : ∀ {x : Addr} {u : HO}, H x = some u → (∀ ys, u ≠ .lst ys) → x ≠ l := fun hx hu e => by
    rw [e, hl] at hx
    cases hx
    exact hu _ rfl
  obtain ⟨z0, ob, z1, z2⟩ := d
  have nm : m ≠ l := ne z1 fun _ e => by cases e
  exact ⟨tb, hh, m, ld, as, by rw [upd_ne (ne a fun _ e => by cases e)]; exact a, by rw [upd_ne (ne b fun _ e => by cases e)]; exact b, by rw [upd_ne n1]; exact c, NDk.upd ⟨z0, ob, z1, z2⟩ nm (fun ws e => by rw [hl] at e; cases e), by rw [upd_ne n2]; exact f, pair_upd n3 g, n1, n2, n3⟩
section
variable {P : Program} {w : World} {K : PySem.W.Frag} {mg : Str → Option Value} {base : Heap}
def spLParts (P : Program) (w : World) : Sp := fun vs H Q _ => ∃ (p wl : Addr) (n : Nat) (ws : List Str), vs = [.ref p, .ref wl, .int (n : Nat), .int 3] ∧ H p = some (StrmO p) ∧ H wl = some (.lst (ws.map V.str)) ∧ ws.length = 4 ∧ (∀ z ∈ ws, NameOk z) ∧ 1 ≤ n ∧ n ≤ 3 ∧
  ∀ (l : Addr) (H1 : Hp) (ps : List Part), H l = none → Ex H H1 → PartsAt P w H1 l ps → PartsOk ps → Q (.ref l) H1
theorem sc_law_parts : FnScope ["_law_stream_here", "_law_words", "_law_many", "_law_size", "_law_parts_here", "_law_turn", "_law_table", "_law_holds", "_law_moves", "_law_held"] ["_law_stream_here", "_law_words", "_law_many", "_law_size"] (defScope s_law_parts) := ⟨rfl, rfl, rfl, by decide +kernel, rfl, by decide +kernel, by decide +kernel⟩
theorem ok_law_parts (T : Tx K mg) (D : Dfn K mg "_law_parts" s_law_parts) (C_law_draw : CalP P w K mg base 1 "_law_draw" spDraw) (C_law_view : CalP P w K mg base 2 "_law_view" (spLView K)) (C_law_guard : CalP P w K mg base 2 "_law_guard" (spLGuard P w)) :
    CalP P w K mg base 3 "_law_parts" (spLParts P w) := by
  refine cal_of D sc_law_parts (fun _ _ _ _ _ _ us hl => match us, hl with | [_, _, _, _], _ => rfl) (fun vs H Q E h => by obtain ⟨_, _, _, _, rfl, _⟩ := h; rfl) fun f cdv A outer s H vs Q E hr h => ?_
  obtain ⟨p, wl, n, ws, rfl, hp, hw, w4, wok, n1, n3, k⟩ := h
  obtain ⟨za, zb, zc, zd, rfl⟩ := four w4
  refine ⟨_, (pss_cons (ps_set (i := 4) sc_law_parts.nd rfl (Or.inl rfl) (pe_lst pa_nil))
        (pss_cons (ps_for PassesOwn.never rfl (pi_range1 (by rfl) T.f_range (pa_cons (pv 2) pa_nil)) (pg_name (i := 5) sc_law_parts.nd rfl (Or.inl rfl)) (pss_cons (ps_asg (C8.pe_c C_law_view hr (by decide) (by rfl) (pa_cons (pv 0) (pa_cons (pv 1) (pa_cons (pe_slice sl_list (pv 1) (po_some pe_int) (po_some pe_int)) pa_nil)))) (pg_tup rfl (pgs_cons (pg_name (i := 6) sc_law_parts.nd rfl (Or.inl rfl)) (pgs_cons (pg_name (i := 7) sc_law_parts.nd rfl (Or.inl rfl)) pgs_nil))))
        (pss_cons (ps_asg (C8.pe_c C_law_guard hr (by decide) (by rfl) (pa_cons (pv 0) (pa_cons (pv 6) (pa_cons (pv 7) (pa_cons (pe_op op_add pe_int (C8.pe_c C_law_draw hr (by decide) (by rfl) (pa_cons (pv 0) (pa_cons (pv 3) pa_nil)))) pa_nil))))) (pg_tup rfl (pgs_cons (pg_name (i := 8) sc_law_parts.nd rfl (Or.inl rfl)) (pgs_cons (pg_name (i := 9) sc_law_parts.nd rfl (Or.inl rfl)) pgs_nil))))
        (pss_one (ps_expr (pe_bm PySem.F.plainAttrs_list PySem.F.slot_list_append PySem.F.type_list_append mt_append (pv 4) (pa_cons (pe_tup (pa_cons (pv 6) (pa_cons (pv 7) (pa_cons (pv 8) (pa_cons (pv 9) pa_nil))))) pa_nil)))))))
        (pss_one (ps_ret (pv 4))))), ?_⟩
  refine q_asgL (xs := []) (el_lst ea_nil (by decide)) fun l H1 hl e1 h1 => ?_
  refine q_forw (fun R q => f_range (n := n) (ea_cons (ev_var rfl) ea_nil) (by omega) q) walk_range
    (fun i σ' H' => ∃ u1 u2 u3 u4 u5 ts ps, σ' = [some (.ref p), some (.ref wl), some (.int (n : Nat)), some (.int 3), some (.ref l), u1, u2, u3, u4, u5] ∧ Ex H H' ∧ H' l = some (.lst (List.map V.ref ts)) ∧ Paired (PartN P w l H') ts ps ∧ ps.length = i ∧ ∀ p ∈ ps, PartOk p)
    (fun H2 e2 => ⟨_, _, _, _, _, [], [], rfl, e1.trans e2, e2 _ _ h1, .nil, rfl, fun _ h => by cases h⟩) (fun _ _ _ _ _ => True.intro) ?_ ?_
  · rintro i x σ' H2 H3 hi ⟨u1, u2, u3, u4, u5, ts, ps, rfl, f1, f2, f3, f4, f5⟩ ⟨rfl, hx⟩
    refine q_stm ?_
    refine ⟨_, rfl, _, rfl, ?_⟩
    refine (el_slice (K := K) (ev_var rfl) (sqk_l (f1 _ _ hw)) (eo_some ev_c) (eo_some ev_c) : EvL _ _ H3 _) H3 (Ex.refl _) _ fun sl H4 hsl e4 h4 => ?_
    rw [cut13] at h4
    have e04 := f1.trans e4
    refine ⟨p, wl, sl, [za, zb, zc, zd], [zb, zc], rfl, e04 _ _ hp, e04 _ _ hw, h4, by show 4 ≤ 12; decide, by show 2 ≤ 12; decide, wok, fun z hz => wok z (List.mem_cons_of_mem _ ?_), fun q t h H5 tab zs hq e5 h5 ht5 hh5 tok t12 zok z12 hhn => ?_⟩
    · simp only [List.mem_cons] at hz ⊢
      rcases hz with rfl | rfl | hz
      · exact .inl rfl
      · exact .inr (.inl rfl)
      · cases hz
    refine ⟨q, _, rfl, st_of h5, rfl, _, _, rfl, _, _, rfl, rfl, ?_⟩
    refine q_stm ?_
    refine ⟨_, rfl, _, rfl, _, rfl, ?_⟩
    refine (evi_op0 (Z := fun i => 1 ≤ i ∧ i ≤ 3) (evi_ev ev_c) (evs_draw (n := 3) ((e04.trans e5) _ _ hp) (ev_var rfl) (ev_var rfl) (by decide) (by decide)) fun i j hi hj => by omega : EvS _ _ H5 _) H5 (Ex.refl _) _ fun v H6 hv e6 => ?_
    obtain ⟨c, rfl, c1, c3⟩ := hv
    have e46 := e5.trans e6
    refine ⟨p, t, h, c.toNat, tab, zs, by rw [show ((c.toNat : Nat) : Int) = c by omega]; rfl, (e04.trans e46) _ _ hp, e6 _ _ ht5, e6 _ _ hh5, t12, z12, by omega, fun q2 m ld H7 ms held hq2 e7 h7 nd7 hd7 hlen hhs hms hmv => ?_⟩
    obtain ⟨ld0, as, h7l, h7p, has⟩ := hd7
    refine ⟨q2, _, rfl, st_of h7, rfl, _, _, rfl, _, _, rfl, rfl, ?_⟩
    have e37 := e4.trans (e46.trans e7)
    have hlen2 : ts.length = ps.length := Paired.length f3
    refine s_appU (e37 _ _ f2) (ev_var rfl) (eu_tup (ea_cons (ev_var rfl) (ea_cons (ev_var rfl) (ea_cons (ev_var rfl) (ea_cons (ev_var rfl) ea_nil)))) (by show 4 ≤ 100000; decide)) (by rw [List.length_map]; omega) fun tt H8 htt e8 h8 => ?_
    have e38 := e37.trans e8
    have hl8 := e38 _ _ f2
    have hl6 := (e4.trans e46) _ _ f2
    have pn : PartN P w l H8 tt ⟨tab, zs, ms, held⟩ := ⟨t, h, m, ld, as, h8, (e6.trans (e7.trans e8)) _ _ ht5, (e6.trans (e7.trans e8)) _ _ hh5, nd7.ex e8, e8 _ _ h7l, Paired.mapP h7p fun _ _ q => e8 _ _ q,
      ne_of_none' hhn (e4 _ _ f2), ne_of_none' ld0 hl6, fun a ha => ne_of_none' (has a ha) hl6⟩
    have hheld : held.length = c.toNat := hlen
    refine ⟨_, _, _, _, _, ts ++ [tt], ps ++ [⟨tab, zs, ms, held⟩], rfl, (f1.trans e38).mut hl, by rw [upd_same, List.map_append]; rfl, Paired.snoc (Paired.mapP f3 fun _ _ q => (q.ex e38).upd hl8) (pn.upd hl8), by rw [List.length_append, f4]; rfl, fun x hx => ?_⟩
    rcases List.mem_append.mp hx with hx | hx
    · exact f5 x hx
    · rw [List.mem_singleton.mp hx]
      refine ⟨tok, by show tab.length < 64; omega, zok, by show 1 ≤ held.length; omega, by show held.length ≤ 3; omega, hhs, hms, fun q hq => ?_⟩
      have := hmv q hq
      show 0 ≤ q.1.1 ∧ q.1.1 < (held.length : Nat) ∧ q.1.2 ∈ tab.map (·.2) ∧ 0 ≤ q.2 ∧ q.2 < (held.length : Nat)
      rw [hheld]
      exact this
  · rintro σ' H2 ⟨u1, u2, u3, u4, u5, ts, ps, rfl, f1, f2, f3, f4, f5⟩
    exact s_ret (ev_var rfl) fun H3 e3 => k l H3 ps hl (f1.trans e3) ⟨ts, e3 _ _ f2, Paired.mapP f3 fun _ _ h => (h.ex e3).tup⟩ ⟨by omega, by omega, f5⟩
end
end K28
end

section
set_option Elab.async false
set_option linter.constructorNameAsVariable false
set_option maxRecDepth 100000
set_option maxHeartbeats 4000000
namespace K28
open PySem PySem.Spec PyProof.Rows L2 Evl
section
variable {P : Program} {w : World} {K : PySem.W.Frag} {σ : L2.St} {H H' : Hp} {ta tb td te : TE} {x y v : V}
theorem rv_isN : RV (fun x y H Q => y = .non ∧ Q (.bl (decide (x = .non))) H) x .non H (.bl (decide (x = .non))) := fun H1 _ _ q => ⟨rfl, q H1 (Ex.refl _)⟩
theorem rv_notN : RV (fun x y H Q => y = .non ∧ Q (.bl (!decide (x = .non))) H) x .non H (.bl (!decide (x = .non))) := fun H1 _ _ q => ⟨rfl, q H1 (Ex.refl _)⟩
theorem eu_catA {a : Addr} {xs : List V} (ha : Ev ta σ H (.ref a)) (hx : SqT K H a xs) (hb : Ev tb σ H v) (hz : xs.length < 100000) : EvU (tOp (rCatA K) ta (tTup (tCons tb tNil))) σ H (xs ++ [v]) := fun H1 e Q q =>
  ha H1 e _ fun H2 e2 => (eu_tup (ea_cons hb ea_nil) (by show 1 ≤ 100000; decide) : EvU _ _ H _) H2 (e.trans e2) _ fun t H3 ht e3 h3 => by
    have e13 := e2.trans e3
    refine ⟨a, t, xs, [v], rfl, rfl, ex_t (e.trans e13) hx, st_of h3, ?_, fun h0 => ?_, (fun _ h => by cases h), fun _ _ p hp => q p _ (fresh_back e13 hp) (e13.trans (Ex.new hp)) upd_same⟩
    · show xs.length + 1 ≤ sizeLine
      exact sz_of (by omega)
    · subst h0
      exact q t H3 (fresh_back e2 ht) e13 h3
theorem ev_ngetU {d : Addr} {kvs : List (NK × V)} {k : NK} {ws : List V} (hd : Ev td σ H (.ref d)) (ht : EvU ta σ H ws) (nd : NDk P w H d kvs) (hk : ∀ t H1, Ex H H1 → H1 t = some (.tup ws) → KeyV H1 k (.ref t)) (hv : valV kvs k = some v) : Ev (tNGet P w td ta) σ H v := fun H1 e1 Q q =>
  hd H1 e1 _ fun H2 e2 => ht H2 (e1.trans e2) _ fun t H3 _ e3 h3 => ⟨d, kvs, k, v, rfl, nd.ex ((e1.trans e2).trans e3), hk t H3 ((e1.trans e2).trans e3) h3, hv, q H3 (e2.trans e3)⟩
theorem ev_ninU2 {d : Addr} {kvs : List (NK × V)} {k : NK} {ws : List V} (ht : EvU te σ H ws) (hd : Ev td σ H (.ref d)) (nd : NDk P w H d kvs) (hk : ∀ t H1, Ex H H1 → H1 t = some (.tup ws) → KeyV H1 k (.ref t)) :
    Ev (tNNotIn P w te td) σ H (.bl (!(valV kvs k).isSome)) := fun H1 e1 Q q => ht H1 e1 _ fun t H2 _ e2 h2 => hd H2 (e1.trans e2) _ fun H3 e3 => ⟨d, kvs, k, rfl, nd.ex ((e1.trans e2).trans e3), hk t H3 ((e1.trans e2).trans e3) (e3 _ _ h2), q H3 (e2.trans e3)⟩
end
section
variable {P : Program} {w : World} {K : PySem.W.Frag} {mg : Str → Option Value} {base : Heap}
theorem zip_atL {ps : List Part} {pls : Pls} {ts : List Addr} {H : Hp} (h1 : Paired (PartTup P w H) ts ps) {i : Nat} {t : Addr} {v : V} (hg : ts[i]? = some t) (hv : (pls.map plV)[i]? = some v) :
    ∃ p pl, (ps.zip pls)[i]? = some (p, pl) ∧ v = plV pl ∧ PartTup P w H t p := by
  obtain ⟨p, hp, ga⟩ := pair_at h1 hg
  rw [List.getElem?_map] at hv
  obtain ⟨pl, hpl, rfl⟩ := Option.map_eq_some_iff.mp hv
  exact ⟨p, pl, by rw [List.getElem?_zip_eq_some]; exact ⟨hp, hpl⟩, rfl, ga⟩
def heldQ (p : Part) (z : Str) : Option Int → Bool
  | none => true
  | some i => decide (z ∈ p.held.getD i.toNat [])
theorem heldP_eq (p : Part) (pl : Option Int) (z : Str) : heldP p pl z = (inV (.str z) (p.holds.map V.str) && heldQ p z pl) := by
  rw [inV_str]
  cases pl <;> rfl
def spLHeld (P : Program) (w : World) : Sp := fun vs H Q _ => ∃ l nl z ps pls, vs = [.ref l, .ref nl, .str z] ∧ PartsAt P w H l ps ∧ H nl = some (.tup (pls.map plV)) ∧ PlsOk ps pls ∧ RetV (.bl (heldAll ps pls z)) H Q
theorem sv_lheld {H : Hp} {l nl : Addr} {z : Str} {ps : List Part} {pls : Pls} (h : PartsAt P w H l ps) (hn : H nl = some (.tup (pls.map plV))) (ok : PlsOk ps pls) : SpV (spLHeld P w) [.ref l, .ref nl, .str z] H (.bl (heldAll ps pls z)) :=
  fun _ e _ q _ => ⟨l, nl, z, ps, pls, rfl, h.ex e, e _ _ hn, ok, q⟩
theorem sc_law_is_held : FnScope ["_law_parts_here", "_law_places", "_law_word", "_law_part", "_law_place"] ["_law_parts_here", "_law_places", "_law_word"] (defScope s_law_is_held) := ⟨rfl, rfl, rfl, by decide +kernel, rfl, by decide +kernel, by decide +kernel⟩
theorem ok_law_is_held (T : Tx K mg) (D : Dfn K mg "_law_is_held" s_law_is_held) : CalP P w K mg base 1 "_law_is_held" (spLHeld P w) := by
  refine cal_of D sc_law_is_held (fun _ _ _ _ _ _ us hl => match us, hl with | [_, _, _], _ => rfl) (fun vs H Q E h => by obtain ⟨_, _, _, _, _, rfl, _⟩ := h; rfl) fun f cdv A outer s H vs Q E hr h => ?_
  obtain ⟨l, nl, z, ps, pls, rfl, ⟨ts, g1, g2⟩, hn, ⟨hl, ok⟩, k⟩ := h
  refine ⟨_, (pss_cons (ps_for PassesOwn.never rfl (pi_zipM (by rfl) T.f_zip (pa_cons (pv 0) (pa_cons (pv 1) pa_nil))) (pg_tup rfl (pgs_cons (pg_name (i := 3) sc_law_is_held.nd rfl (Or.inl rfl)) (pgs_cons (pg_name (i := 4) sc_law_is_held.nd rfl (Or.inl rfl)) pgs_nil))) (pss_one (ps_if (PW.pt (pw_and (pt_cmpR op_in_seq (pv 2) (pe_ix ix_tup (pv 3) pe_int (fun _ _ => rfl)) (by with_unfolding_all rfl)) (pw_and1 (PW.pt (pw_or (pt_cmpR op_isN (pv 4) pe_non (nomark _)) (pw_or1 (pt_cmpR op_in_seq (pv 2) (pe_ix ix_list (pe_ix ix_tup (pv 3) pe_int (fun _ _ => rfl)) (pv 4) (fun _ _ => rfl)) (by with_unfolding_all rfl)))))))) (pss_one (ps_ret pe_bl)) pss_nil)))
        (pss_one (ps_ret pe_bl))), ?_⟩
  have hlen : ts.length = ps.length := Paired.length g2
  refine q_forw (J := ItzK false true K l nl) (fun R q => f_zip (ea_cons (ev_var rfl) (ea_cons (ev_var rfl) ea_nil)) (sqk_l g1) (sqk_t hn) q) (walk_zipK (xs := ts.map V.ref) (ys := pls.map plV) (by rw [List.length_map, List.length_map]; omega))
    (fun i σ' H' => ∃ u v, σ' = [some (.ref l), some (.ref nl), some (.str z), u, v] ∧ Ex H H' ∧ ((ps.zip pls).take i).any (fun q => heldP q.1 q.2 z) = false) ?_ ?_ ?_ ?_
  · exact fun H2 e2 => ⟨_, _, rfl, e2, rfl⟩
  · rintro i σ' H' _ ⟨u, v, _, e, _⟩
    exact ⟨sqk_l (e _ _ g1), sqk_t (e _ _ hn)⟩
  · rintro i y σ' H3 H4 hi ⟨u, v, rfl, e3, hno⟩ ⟨tt, y1, y2, rfl, hnt, rfl, ey1, ey2⟩
    replace ey1 : (ts.map V.ref)[i]? = some y1 := ey1
    replace ey2 : (pls.map plV)[i]? = some y2 := ey2
    rw [List.getElem?_map] at ey1
    obtain ⟨t, ht, rfl⟩ := Option.map_eq_some_iff.mp ey1
    obtain ⟨p, pl, hz, rfl, ga⟩ := zip_atL g2 ht ey2
    have e4 : Ex H (upd H3 tt (.tup [.ref t, plV pl])) := e3.trans (Ex.new hnt)
    obtain ⟨tb, hh, m, ld, p1, p2, p3, p4, as, p5, p6⟩ := ga.ex e4
    have hpl : PlOk p pl := ok _ (List.mem_of_getElem? hz)
    refine ⟨tt, _, rfl, st_of upd_same, rfl, _, _, rfl, _, _, rfl, rfl, ?_⟩
    refine s_when (b := heldP p pl z) ?_ (fun hb H5 e5 => ?_) fun hb H5 e5 => ⟨_, _, rfl, e4.trans e5, ?_⟩
    · rw [heldP_eq]
      refine et_and (et_test (ev_op (ev_var rfl) (ev_op (ev_var rfl) ev_c (rv_ixT (st_of p1) rfl)) (rv_isL (sq_of p3) rfl (flat_strs _)))) fun _ => ?_
      cases pl with
      | none => exact et_or (a := true) (b := false) (et_test (ev_op (ev_var rfl) ev_c rv_isN)) fun h => by cases h
      | some i =>
        obtain ⟨i0, i1⟩ := hpl i rfl
        have hi2 : i.toNat < p.held.length := by omega
        have hlen2 : as.length = p.held.length := Paired.length p6
        have hi3 : i.toNat < as.length := by omega
        obtain ⟨hs, x1, x2⟩ := pair_at p6 (List.getElem?_eq_getElem hi3)
        have hat : atI (as.map V.ref) i = some (.ref as[i.toNat]) := by
          have := atI_nat (xs := as.map V.ref) (j := i.toNat) (by rw [List.getElem?_map, List.getElem?_eq_getElem hi3]; rfl)
          rw [Int.toNat_of_nonneg i0] at this
          exact this
        have eg : p.held.getD i.toNat [] = hs := by rw [List.getD_eq_getElem?_getD, x1]; rfl
        show EvT _ _ _ (decide (z ∈ p.held.getD i.toNat []))
        rw [eg, ← inV_str]
        exact et_or (a := false) (et_test (ev_op (ev_var rfl) ev_c rv_isN)) fun _ => et_test (ev_op (ev_var rfl) (ev_op (ev_op (ev_var rfl) ev_c (rv_ixT (st_of p1) rfl)) (ev_var rfl) (rv_ixL (sq_of p5) hat)) (rv_isL (sq_of x2) rfl (flat_strs _)))
    · refine s_ret ev_c fun H6 e6 => ?_
      have : heldAll ps pls z = true := List.any_eq_true.mpr ⟨(p, pl), List.mem_of_getElem? hz, hb⟩
      rw [this] at k
      exact k H6 ((e4.trans e5).trans e6)
    · rw [take_snoc hz, List.any_append, hno]
      simp [hb]
  · rintro σ' H3 ⟨u, v, rfl, e3, hno⟩
    have e : heldAll ps pls z = false := by
      unfold heldAll
      rw [← hno, List.take_of_length_le]
      rw [List.length_zip, List.length_map, hlen, hl, Nat.min_self]
      exact Nat.le_refl _
    rw [e] at k
    exact s_ret ev_c fun H4 e4 => k H4 (e3.trans e4)
def spLAfter (P : Program) (w : World) : Sp := fun vs H Q _ => ∃ l nl z ps pls, vs = [.ref l, .ref nl, .str z] ∧ PartsAt P w H l ps ∧ ps.length ≤ 3 ∧ H nl = some (.tup (pls.map plV)) ∧ ps.length = pls.length ∧ RetP (afterAll ps pls z) H Q
theorem eu_lafter {ta : TA} {σ : L2.St} {H : Hp} {l nl : Addr} {z : Str} {ps : List Part} {pls : Pls} {E : XK} (h : EvA ta σ H [.ref l, .ref nl, .str z]) (hp : PartsAt P w H l ps) (n3 : ps.length ≤ 3) (hn : H nl = some (.tup (pls.map plV))) (hl : ps.length = pls.length) :
    EvU (tCall (spLAfter P w) [] E ta) σ H ((afterAll ps pls z).map plV) := fun H1 e1 Q q => h H1 e1 _ fun H2 e2 => ⟨l, nl, z, ps, pls, rfl, hp.ex (e1.trans e2), n3, (e1.trans e2) _ _ hn, hl, fun p H3 hp e3 h3 => q p H3 (fresh_back e2 hp) (e2.trans e3) h3⟩
theorem sc_law_after : FnScope ["_law_parts_here", "_law_places", "_law_word", "_law_result", "_law_part", "_law_place"] ["_law_parts_here", "_law_places", "_law_word"] (defScope s_law_after) := ⟨rfl, rfl, rfl, by decide +kernel, rfl, by decide +kernel, by decide +kernel⟩
theorem ok_law_after (T : Tx K mg) (D : Dfn K mg "_law_after" s_law_after) : CalP P w K mg base 1 "_law_after" (spLAfter P w) := by
  refine cal_of D sc_law_after (fun _ _ _ _ _ _ us hl => match us, hl with | [_, _, _], _ => rfl) (fun vs H Q E h => by obtain ⟨_, _, _, _, _, rfl, _⟩ := h; rfl) fun f cdv A outer s H vs Q E hr h => ?_
  obtain ⟨l, nl, z, ps, pls, rfl, ⟨ts, g1, g2⟩, n3, hn, hl, k⟩ := h
  refine ⟨_, (pss_cons (ps_set (i := 3) sc_law_after.nd rfl (Or.inl rfl) (pe_lst pa_nil))
        (pss_cons (ps_for PassesOwn.never rfl (pi_zipM (by rfl) T.f_zip (pa_cons (pv 0) (pa_cons (pv 1) pa_nil))) (pg_tup rfl (pgs_cons (pg_name (i := 4) sc_law_after.nd rfl (Or.inl rfl)) (pgs_cons (pg_name (i := 5) sc_law_after.nd rfl (Or.inl rfl)) pgs_nil))) (pss_one (ps_if (pt_cmp (pc_dnotin (hu_of hr) (pv 2) (pe_ix ix_tup (pv 4) pe_int (fun _ _ => rfl))) (by with_unfolding_all rfl)) (pss_one (ps_expr (pe_bm PySem.F.plainAttrs_list PySem.F.slot_list_append PySem.F.type_list_append mt_append (pv 3) (pa_cons (pv 5) pa_nil)))) (pss_one (ps_if (PW.pt (pw_or (pt_cmpR op_isN (pv 5) pe_non (nomark _)) (pw_or1 (pt_cmp (pc_nnotin hr.units (pe_tup (pa_cons (pv 5) (pa_cons (pe_dget (hu_of hr) (pe_ix ix_tup (pv 4) pe_int (fun _ _ => rfl)) (pv 2) (fun _ _ => rfl)) pa_nil))) (pe_ix ix_tup (pv 4) pe_int (fun _ _ => rfl))) (by with_unfolding_all rfl))))) (pss_one (ps_expr (pe_bm PySem.F.plainAttrs_list PySem.F.slot_list_append PySem.F.type_list_append mt_append (pv 3) (pa_cons pe_non pa_nil)))) (pss_one (ps_expr (pe_bm PySem.F.plainAttrs_list PySem.F.slot_list_append PySem.F.type_list_append mt_append (pv 3) (pa_cons (pe_nget hr.units (pe_ix ix_tup (pv 4) pe_int (fun _ _ => rfl)) (pe_tup (pa_cons (pv 5) (pa_cons (pe_dget (hu_of hr) (pe_ix ix_tup (pv 4) pe_int (fun _ _ => rfl)) (pv 2) (fun _ _ => rfl)) pa_nil))) (fun _ _ => rfl)) pa_nil)))))))))
        (pss_one (ps_ret (pe_callTy call_tuple_of (by rfl) T.f_tuple PyProof.Rows.boot_tuple (pa_cons (pv 3) pa_nil)))))), ?_⟩
  have hlen : ts.length = ps.length := Paired.length g2
  have hlz : (ts.map V.ref).length = (ps.zip pls).length := by rw [List.length_map, List.length_zip, hlen, ← hl, Nat.min_self]
  refine q_asgL (xs := []) (el_lst ea_nil (by decide)) fun r H1 hr0 e1 h1 => ?_
  refine q_forw (J := ItzK false true K l nl) (fun R q => f_zip (ea_cons (ev_var rfl) (ea_cons (ev_var rfl) ea_nil)) (sqk_l (e1 _ _ g1)) (sqk_t (e1 _ _ hn)) q) (walk_zipK (xs := ts.map V.ref) (ys := pls.map plV) (by rw [List.length_map, List.length_map]; omega))
    (fun i σ' H' => ∃ u v, σ' = [some (.ref l), some (.ref nl), some (.str z), some (.ref r), u, v] ∧ Ex H H' ∧ H' r = some (.lst (((ps.zip pls).take i).map fun q => plV (afterP q.1 q.2 z)))) ?_ ?_ ?_ ?_
  · exact fun H2 e2 => ⟨_, _, rfl, e1.trans e2, e2 _ _ h1⟩
  · rintro i σ' H' _ ⟨u, v, _, e, _⟩
    exact ⟨sqk_l (e _ _ g1), sqk_t (e _ _ hn)⟩
  · rintro i y σ' H3 H4 hi ⟨u, v, rfl, e3, hr3⟩ ⟨tt, y1, y2, rfl, hnt, rfl, ey1, ey2⟩
    replace ey1 : (ts.map V.ref)[i]? = some y1 := ey1
    replace ey2 : (pls.map plV)[i]? = some y2 := ey2
    rw [List.getElem?_map] at ey1
    obtain ⟨t, ht, rfl⟩ := Option.map_eq_some_iff.mp ey1
    obtain ⟨p, pl, hz, rfl, ga⟩ := zip_atL g2 ht ey2
    have e4 : Ex H (upd H3 tt (.tup [.ref t, plV pl])) := e3.trans (Ex.new hnt)
    have hr4 := Ex.new hnt (o := .tup [.ref t, plV pl]) _ _ hr3
    obtain ⟨tb, hh, m, ld, p1, p2, p3, p4, as, p5, p6⟩ := ga.ex e4
    have fin : ∀ {D : Ends} {te : TE} {σ' : L2.St} {H5 : Hp}, Ex (upd H3 tt (.tup [.ref t, plV pl])) H5 → σ'[3]? = some (some (.ref r)) → Ev te σ' H5 (plV (afterP p pl z)) → (∀ H6, Ex H H6 → H6 r = some (.lst (((ps.zip pls).take (i + 1)).map fun q => plV (afterP q.1 q.2 z))) → D.nx σ' H6) → tDrop (tBM K "list" rAppend (tVar 3) (tCons te tNil)) D σ' H5 :=
      fun {D te σ' H5} e5 hs h kk => s_app (e5 _ _ hr4) (ev_var hs) h (by rw [List.length_map, List.length_take]; rw [hlz] at hi; have : (ps.zip pls).length ≤ 3 := by { rw [← hlz, List.length_map]; omega }; omega) fun H6 e6 => kk _ ((e4.trans (e5.trans e6)).mut hr0) (by rw [upd_same, take_snoc hz, List.map_append]; rfl)
    refine ⟨tt, _, rfl, st_of upd_same, rfl, _, _, rfl, _, _, rfl, rfl, ?_⟩
    have evtb : Ev (tOp (rIxT K) (tVar 4) (tC (.int 0))) [some (.ref l), some (.ref nl), some (.str z), some (.ref r), some (.ref t), some (plV pl)] (upd H3 tt (.tup [.ref t, plV pl])) (.ref tb) := ev_op (ev_var rfl) ev_c (rv_ixT (st_of p1) rfl)
    have evm : Ev (tOp (rIxT K) (tVar 4) (tC (.int 2))) [some (.ref l), some (.ref nl), some (.str z), some (.ref r), some (.ref t), some (plV pl)] (upd H3 tt (.tup [.ref t, plV pl])) (.ref m) := ev_op (ev_var rfl) ev_c (rv_ixT (st_of p1) rfl)
    refine s_if (et_test (ev_dnotin (k := Sum.inr z) (ev_var rfl) evtb p2)) (fun hb H5 e5 => ?_) fun hb H5 e5 => ?_
    · rw [val_tab] at hb
      have hlk : lk p.tab z = none := by
        cases h : lk p.tab z with
        | none => rfl
        | some y => rw [h] at hb; cases hb
      refine fin e5 rfl (ev_is (ev_var rfl) ?_) fun H6 e6 h6 => ⟨_, _, rfl, e6, h6⟩
      rw [show afterP p pl z = pl by simp [afterP, hlk]]
    · rw [val_tab] at hb
      obtain ⟨y, hlk⟩ : ∃ y, lk p.tab z = some y := by
        cases h : lk p.tab z with
        | none => rw [h] at hb; cases hb
        | some y => exact ⟨y, rfl⟩
      have evy : Ev (tDGet (tOp (rIxT K) (tVar 4) (tC (.int 0))) (tVar 2)) [some (.ref l), some (.ref nl), some (.str z), some (.ref r), some (.ref t), some (plV pl)] (upd H3 tt (.tup [.ref t, plV pl])) (.str y) :=
        ev_dget (k := Sum.inr z) evtb (ev_var rfl) p2 (by rw [val_tab, hlk]; rfl)
      have eut : EvU (tTup (tCons (tVar 5) (tCons (tDGet (tOp (rIxT K) (tVar 4) (tC (.int 0))) (tVar 2)) tNil))) [some (.ref l), some (.ref nl), some (.str z), some (.ref r), some (.ref t), some (plV pl)] (upd H3 tt (.tup [.ref t, plV pl])) [plV pl, .str y] :=
        eu_tup (ea_cons (ev_var rfl) (ea_cons evy ea_nil)) (by show 2 ≤ 100000; decide)
      cases pl with
      | none =>
        refine s_if (b := true) (et_or (a := true) (b := false) (et_test (ev_op (ev_var rfl) ev_c rv_isN)) fun h => by cases h) (fun _ H6 e6 => ?_) fun h => by cases h
        refine fin (e5.trans e6) rfl (ev_is ev_c ?_) fun H7 e7 h7 => ⟨_, _, rfl, e7, h7⟩
        rw [show afterP p none z = none by simp [afterP, hlk]]
        rfl
      | some i' =>
        have hkey : ∀ t' H1, Ex (upd H3 tt (.tup [.ref t, plV (some i')])) H1 → H1 t' = some (.tup [plV (some i'), .str y]) → KeyV H1 (mkey (i', y)) (.ref t') := fun t' H1 _ h => mkey_keyV (k := (i', y)) h
        have hval := val_moves p.moves (i', y)
        have haf : afterP p (some i') z = lk p.moves (i', y) := by simp [afterP, hlk]
        refine s_if (et_or (a := false) (et_test (ev_op (ev_var rfl) ev_c rv_isN)) fun _ => (et_test (ev_ninU2 eut evm p4 hkey)).mono e5) (fun hb2 H6 e6 => ?_) fun hb2 H6 e6 => ?_
        · have hm : lk p.moves (i', y) = none := by
            cases h : lk p.moves (i', y) with
            | none => rfl
            | some q => rw [hval, h] at hb2; cases hb2
          refine fin (e5.trans e6) rfl (ev_is ev_c ?_) fun H7 e7 h7 => ⟨_, _, rfl, e7, h7⟩
          rw [haf, hm]
          rfl
        · obtain ⟨q, hm⟩ : ∃ q, lk p.moves (i', y) = some q := by
            cases h : lk p.moves (i', y) with
            | none => rw [hval, h] at hb2; cases hb2
            | some q => exact ⟨q, rfl⟩
          refine fin (e5.trans e6) rfl (ev_is ((ev_ngetU evm eut p4 hkey (v := .int q) (by rw [hval, hm]; rfl)).mono (e5.trans e6)) ?_) fun H7 e7 h7 => ⟨_, _, rfl, e7, h7⟩
          rw [haf, hm]
          rfl
  · rintro σ' H3 ⟨u, v, rfl, e3, hr3⟩
    rw [hlz, List.take_length] at hr3
    refine ⟨_, rfl, r, _, rfl, .inl ⟨sq_of hr3, fun p hp => k p _ (fresh_back e3 hp) (e3.trans (Ex.new hp)) ?_⟩⟩
    rw [upd_same]
    unfold afterAll
    rw [List.map_map]
    rfl
end
end K28
end

section
set_option Elab.async false
set_option linter.constructorNameAsVariable false
set_option maxRecDepth 100000
set_option maxHeartbeats 4000000
namespace K28
open PySem PySem.Spec PyProof.Rows L2 Evl
def LNode (H : Hp) (t : Addr) (n : Node) : Prop := ∃ a b, H t = some (.tup [.int n.st, .ref a, .ref b]) ∧ H a = some (.tup (n.pl.map plV)) ∧ H b = some (.tup (numV n.run))
theorem LNode.kp {H H' : Hp} {t : Addr} {n : Node} (k : Kp H H') (h : LNode H t n) : LNode H' t n := let ⟨a, b, x, y, z⟩ := h
  ⟨a, b, k _ _ (fun _ e => by cases e) (fun _ e => by cases e) x, k _ _ (fun _ e => by cases e) (fun _ e => by cases e) y, k _ _ (fun _ e => by cases e) (fun _ e => by cases e) z⟩
theorem LNode.ex {H H' : Hp} {t : Addr} {n : Node} (e : Ex H H') (h : LNode H t n) : LNode H' t n := h.kp (Kp.of_ex e)
def MetAt (H : Hp) (l : Addr) (q : List Node) : Prop := ∃ ts : List Addr, H l = some (.lst (ts.map V.ref)) ∧ Paired (LNode H) ts q
theorem MetAt.ex {H H' : Hp} {l : Addr} {q : List Node} (e : Ex H H') (h : MetAt H l q) : MetAt H' l q := let ⟨ts, a, b⟩ := h; ⟨ts, e _ _ a, Paired.mapP b fun _ _ z => z.ex e⟩
section
variable {P : Program} {w : World} {K : PySem.W.Frag} {σ : L2.St} {H H' : Hp} {ta tb td te : TE} {x y v : V}
theorem ev_nnotin {d : Addr} {kvs : List (NK × V)} {k : NK} (hy : Ev ta σ H y) (hd : Ev td σ H (.ref d)) (nd : NDk P w H d kvs) (ky : KeyV H k y) : Ev (tNNotIn P w ta td) σ H (.bl (!(valV kvs k).isSome)) := fun H1 e1 Q q =>
  hy H1 e1 _ fun H2 e2 => hd H2 (e1.trans e2) _ fun H3 e3 => ⟨d, kvs, k, rfl, nd.ex ((e1.trans e2).trans e3), ky.mono (TupIn.of_ex ((e1.trans e2).trans e3)), q H3 (e2.trans e3)⟩
end
theorem zeros_list (ps : List Part) (n : Nat) (h : n = ps.length) : (List.range n).map (fun _ => V.int 0) = (zeros ps).map plV := by
  unfold zeros
  rw [List.map_map]
  apply List.ext_getElem
  · simp [h]
  · intro i h1 h2
    simp [plV]
theorem pred_node {ps : List Part} {n : Node} {s : Int} {z : Str} : (decide (V.int n.st = V.int s) && !heldAll ps n.pl z) = (decide (n.st = s) && !heldAll ps n.pl z) := by
  by_cases h : n.st = s
  · rw [h]
    simp
  · have h' : ¬ V.int n.st = V.int s := fun e => h (by injection e)
    rw [decide_eq_false h, decide_eq_false h']
section
variable {P : Program} {w : World} {K : PySem.W.Frag} {mg : Str → Option Value} {base : Heap}
def spLDue (P : Program) (w : World) : Sp := fun vs H Q _ => ∃ (sl ml pl : Addr) (s0 : Int) (rows : List Row) (ps : List Part) (n : Nat), vs = [.ref sl, .ref ml, .ref pl, .int (n : Nat)] ∧ RowsAt H sl rows ∧ n < rows.length ∧ MetAt H ml (met rows ps s0) ∧ PartsAt P w H pl ps ∧ PartsOk ps ∧ RetDue (due rows ps s0 n) H Q
theorem sc_law_due : FnScope ["_law_steps_here", "_law_met", "_law_parts_here", "_law_number", "_law_state", "_law_places", "_law_run"] ["_law_steps_here", "_law_met", "_law_parts_here", "_law_number"] (defScope s_law_due) := ⟨rfl, rfl, rfl, by decide +kernel, rfl, by decide +kernel, by decide +kernel⟩
theorem ok_law_due (T : Tx K mg) (D : Dfn K mg "_law_due" s_law_due) (C_law_is_held : CalP P w K mg base 1 "_law_is_held" (spLHeld P w)) : CalP P w K mg base 2 "_law_due" (spLDue P w) := by
  refine cal_of D sc_law_due (fun _ _ _ _ _ _ us hl => match us, hl with | [_, _, _, _], _ => rfl) (fun vs H Q E h => by obtain ⟨_, _, _, _, _, _, _, rfl, _⟩ := h; rfl) fun f cdv A outer s H vs Q E hr h => ?_
  obtain ⟨sl, ml, pl, s0, rows, ps, n, rfl, hs, hn, ⟨ts, m1, m2⟩, hp, ok, k⟩ := h
  refine ⟨_, (pss_cons (ps_for PassesOwn.never rfl (pi_seq (pv 1)) (pg_tup rfl (pgs_cons (pg_name (i := 4) sc_law_due.nd rfl (Or.inl rfl)) (pgs_cons (pg_name (i := 5) sc_law_due.nd rfl (Or.inl rfl)) (pgs_cons (pg_name (i := 6) sc_law_due.nd rfl (Or.inl rfl)) pgs_nil)))) (pss_one (ps_if (PW.pt (pw_and (pt_cmpR op_eq (pv 4) (pe_ix ix_tup (pe_ix ix_list (pv 0) (pv 3) (fun _ _ => rfl)) pe_int (fun _ _ => rfl)) (nomark _)) (pw_and1 (pt_not (pt_val (C8.pe_c C_law_is_held hr (by decide) (by rfl) (pa_cons (pv 2) (pa_cons (pv 5) (pa_cons (pe_ix ix_tup (pe_ix ix_list (pv 0) (pv 3) (fun _ _ => rfl)) pe_int (fun _ _ => rfl)) pa_nil))))))))) (pss_one (ps_ret (pe_op op_catA (pv 6) (pe_tup (pa_cons (pv 3) pa_nil))))) pss_nil)))
        (pss_one (ps_ret pe_non))), ?_⟩
  refine q_forw (fun R q => f_seq (ev_var rfl) (sqk_l m1) q) (walk_seq (xs := ts.map V.ref)) (fun i σ' H' => ∃ u v x, σ' = [some (.ref sl), some (.ref ml), some (.ref pl), some (.int (n : Nat)), u, v, x] ∧ Ex H H' ∧
    ((met rows ps s0).take i).find? (fun y => decide (y.st = (rowAt rows n).1) && !heldAll ps y.pl (rowAt rows n).2.1) = none) (fun H1 e1 => ⟨_, _, _, rfl, e1, rfl⟩) (fun i σ' H' _ ⟨_, _, _, _, e, _⟩ => sqk_l (e _ _ m1)) ?_ ?_
  · rintro i y σ' H1 H2 hi ⟨u, v, x, rfl, f1, f2⟩ ⟨rfl, ey⟩
    rw [List.getElem?_map] at ey
    obtain ⟨t, ht, rfl⟩ := Option.map_eq_some_iff.mp ey
    obtain ⟨nd, hnd, hnode⟩ := pair_at m2 ht
    obtain ⟨a, b, n1, n2, n3⟩ := hnode.ex f1
    have good := (qs_ok rows ps s0 833).good nd (List.mem_of_getElem? hnd)
    have pk : PlsOk ps nd.pl := by rw [good.2.1]; exact pls_run ok rows nd.run
    obtain ⟨rt, t1, t2⟩ := row_ix (K := K) (σ := [some (.ref sl), some (.ref ml), some (.ref pl), some (.int (n : Nat)), some (.int nd.st), some (.ref a), some (.ref b)]) (te := tVar 0) (ti := tVar 3) (hs.ex f1) hn (ev_var rfl) (ev_var rfl)
    refine ⟨t, _, rfl, st_of n1, rfl, _, _, rfl, _, _, rfl, _, _, rfl, rfl, ?_⟩
    refine s_when (et_and (et_test (ev_op (ev_var rfl) (row_at0 t2 t1) (rv_eq rfl))) fun _ => et_not (et_B (ev_call (ea_cons (ev_var rfl) (ea_cons (ev_var rfl) (ea_cons (row_at1 t2 t1) ea_nil))) (sv_lheld (hp.ex f1) n2 pk)))) (fun hb H3 e3 => ?_) fun hb H3 e3 => ⟨_, _, _, rfl, f1.trans e3, ?_⟩
    · rw [pred_node] at hb
      have hdue : due rows ps s0 n = some (nd.run ++ [n]) := by
        unfold due
        have hf : (met rows ps s0).find? (fun y => decide (y.st = (rowAt rows n).1) && !heldAll ps y.pl (rowAt rows n).2.1) = some nd := by
          have hsp : met rows ps s0 = (met rows ps s0).take i ++ nd :: (met rows ps s0).drop (i + 1) := by
            have h1 : (met rows ps s0).drop i = nd :: (met rows ps s0).drop (i + 1) := by
              have hlt := (List.getElem?_eq_some_iff.mp hnd).1
              have hel := (List.getElem?_eq_some_iff.mp hnd).2
              rw [List.drop_eq_getElem_cons hlt]
              congr 1
            rw [← h1, List.take_append_drop]
          rw [hsp, List.find?_append, f2, Option.none_or, List.find?_cons]
          simp only [hb]
        rw [hf]
        rfl
      rw [hdue] at k
      have hrun : nd.run.length ≤ 833 := good.2.2.2
      refine s_retU (eu_catA (ev_var rfl) (st_of (e3 _ _ n3)) (ev_var rfl) (by unfold numV; rw [List.length_map]; omega)) fun p H4 hp4 e4 h4 => k p H4 (fresh_back (f1.trans e3) hp4) (f1.trans (e3.trans e4)) ?_
      rw [h4]
      unfold numV
      rw [List.map_append]
      rfl
    · rw [pred_node] at hb
      rw [take_snoc hnd, List.find?_append, f2]
      simp only [Option.none_or]
      rw [List.find?_cons_of_neg (by rw [hb]; exact Bool.false_ne_true)]
      rfl
  · rintro σ' H1 ⟨u, v, x, rfl, f1, f2⟩
    have hlen : ts.length = (met rows ps s0).length := Paired.length m2
    rw [List.length_map, hlen, List.take_length] at f2
    have hdue : due rows ps s0 n = none := by
      unfold due
      rw [f2]
      rfl
    rw [hdue] at k
    exact s_ret ev_c fun H2 e2 => k H2 (f1.trans e2)
end
end K28
end

section
set_option Elab.async false
set_option linter.constructorNameAsVariable false
set_option maxRecDepth 100000
set_option maxHeartbeats 4000000
namespace K28
open PySem PySem.Spec PyProof.Rows L2 Evl
section
variable {P : Program} {w : World} {K : PySem.W.Frag} {mg : Str → Option Value} {base : Heap}
def spLMeet (P : Program) (w : World) : Sp := fun vs H Q _ => ∃ (sl pl : Addr) (s0 : Int) (rows : List Row) (ps : List Part), vs = [.ref sl, .int s0, .ref pl] ∧ RowsAt H sl rows ∧ rows.length ≤ 12 ∧ PartsAt P w H pl ps ∧ PartsOk ps ∧
  ∀ (l : Addr) (H1 : Hp), H l = none → Ex H H1 → MetAt H1 l (met rows ps s0) → Q (.ref l) H1
theorem eu_lzeros {H : Hp} {pl : Addr} {ps : List Part} {σ : L2.St} {te0 : TE} {i : Nat} {vs : List Nat} (hg : PartsAt P w H pl ps) (n3 : ps.length ≤ 3) (h : Ev te0 σ H (.ref pl)) (hw : ∀ x, wipe ((wipe σ vs).set i (some x)) vs = wipe σ vs) :
    EvU (tCB (rTupS K) (tCons (tLc (iSeq K te0) (gName i) tYes (tC (.int 0)) vs) tNil)) σ H ((zeros ps).map plV) := by
  obtain ⟨gs, g1, g2⟩ := hg
  have hlen : gs.length = ps.length := Paired.length g2
  have := el_lcS (K := K) (te := tC (.int 0)) (xs := gs.map V.ref) (fun _ => V.int 0) h (sqk_l g1) (by rw [List.length_map]; omega) hw (fun _ _ _ _ _ => ev_c)
  rw [List.length_map, zeros_list ps _ hlen] at this
  exact eu_tuple this
theorem grow_step (rows : List Row) (ps : List Part) (n : Node) : ∀ (l : List Nat) (b : List Node), b.length ≤ (l.foldl (step1 rows ps n) b).length := by
  intro l
  induction l with
  | nil => exact fun b => Nat.le_refl _
  | cons y l ih =>
    intro b
    refine Nat.le_trans ?_ (ih _)
    unfold step1
    split
    · rw [List.length_append]; omega
    · exact Nat.le_refl _
theorem sc_law_meet : FnScope ["_law_steps_here", "_law_start", "_law_parts_here", "_law_queue", "_law_found", "_law_at", "_law_state", "_law_places", "_law_run", "_law_number", "_law_step", "_law_key", "_law_part"] ["_law_steps_here", "_law_start", "_law_parts_here"] (defScope s_law_meet) := ⟨rfl, rfl, rfl, by decide +kernel, rfl, by decide +kernel, by decide +kernel⟩
theorem ok_law_meet (T : Tx K mg) (D : Dfn K mg "_law_meet" s_law_meet) (C_law_is_held : CalP P w K mg base 1 "_law_is_held" (spLHeld P w)) (C_law_after : CalP P w K mg base 1 "_law_after" (spLAfter P w)) :
    CalP P w K mg base 2 "_law_meet" (spLMeet P w) := by
  refine cal_of D sc_law_meet (fun _ _ _ _ _ _ us hl => match us, hl with | [_, _, _], _ => rfl) (fun vs H Q E h => by obtain ⟨_, _, _, _, _, rfl, _⟩ := h; rfl) fun f cdv A outer s H vs Q E hr h => ?_
  obtain ⟨sl, pl, s0, rows, ps, rfl, hs, n12, hp, ok, k⟩ := h
  refine ⟨_, (pss_cons (ps_set (i := 3) sc_law_meet.nd rfl (Or.inl rfl) (pe_lst (pa_cons (pe_tup (pa_cons (pv 1) (pa_cons (pe_callTy call_tuple_of (by rfl) T.f_tuple PyProof.Rows.boot_tuple (pa_cons (pe_lc (own := [("_law_part", 12)]) (g := gName 12) (tt := tYes) (by rfl) sc_law_meet.nd (pi_seq (pv 2)) (blkOk_by (own := [("_law_part", 12)]) (N := ["_law_steps_here", "_law_start", "_law_parts_here", "_law_queue", "_law_found", "_law_at", "_law_state", "_law_places", "_law_run", "_law_number", "_law_step", "_law_key", "_law_part"]) (sc := defScope s_law_meet) (by decide +kernel)) (fun _ _ _ _ _ => (pg_name (i := 12) sc_law_meet.nd rfl (Or.inl rfl))) (fun _ _ _ _ _ => pts_nil) (fun _ _ _ _ _ => pe_int)) pa_nil)) (pa_cons (pe_tup pa_nil) pa_nil)))) pa_nil)))
        (pss_cons (ps_set (i := 4) sc_law_meet.nd rfl (Or.inl rfl) (pe_ndisp1 hr.units (pe_tup (pa_cons (pe_ix ix_tup (pe_ix ix_list (pv 3) pe_int (fun _ _ => rfl)) pe_int (fun _ _ => rfl)) (pa_cons (pe_ix ix_tup (pe_ix ix_list (pv 3) pe_int (fun _ _ => rfl)) pe_int (fun _ _ => rfl)) pa_nil))) pe_bl))
        (pss_cons (ps_set (i := 5) sc_law_meet.nd rfl (Or.inl rfl) pe_int)
        (pss_cons (ps_while PassesOwn.never (pt_cmpR op_lt (pv 5) (pe_callB call_len_seq (by rfl) T.f_len boot_len (pa_cons (pv 3) pa_nil)) (nomark _)) (pss_cons (ps_asg (pe_ix ix_list (pv 3) (pv 5) (fun _ _ => rfl)) (pg_tup rfl (pgs_cons (pg_name (i := 6) sc_law_meet.nd rfl (Or.inl rfl)) (pgs_cons (pg_name (i := 7) sc_law_meet.nd rfl (Or.inl rfl)) (pgs_cons (pg_name (i := 8) sc_law_meet.nd rfl (Or.inl rfl)) pgs_nil)))))
        (pss_cons (ps_aug (i := 5) sc_law_meet.nd rfl (Or.inl rfl) pe_int ip_add)
        (pss_one (ps_for PassesOwn.never rfl (pi_range1 (by rfl) T.f_range (pa_cons (pe_callB call_len_seq (by rfl) T.f_len boot_len (pa_cons (pv 0) pa_nil)) pa_nil)) (pg_name (i := 9) sc_law_meet.nd rfl (Or.inl rfl)) (pss_cons (ps_set (i := 10) sc_law_meet.nd rfl (Or.inl rfl) (pe_ix ix_list (pv 0) (pv 9) (fun _ _ => rfl)))
        (pss_one (ps_if (PW.pt (pw_and (pt_cmpR op_eq (pe_ix ix_tup (pv 10) pe_int (fun _ _ => rfl)) (pv 6) (nomark _)) (pw_and1 (pt_not (pt_val (C8.pe_c C_law_is_held hr (by decide) (by rfl) (pa_cons (pv 2) (pa_cons (pv 7) (pa_cons (pe_ix ix_tup (pv 10) pe_int (fun _ _ => rfl)) pa_nil))))))))) (pss_cons (ps_set (i := 11) sc_law_meet.nd rfl (Or.inl rfl) (pe_tup (pa_cons (pe_ix ix_tup (pv 10) pe_int (fun _ _ => rfl)) (pa_cons (C8.pe_c C_law_after hr (by decide) (by rfl) (pa_cons (pv 2) (pa_cons (pv 7) (pa_cons (pe_ix ix_tup (pv 10) pe_int (fun _ _ => rfl)) pa_nil)))) pa_nil))))
        (pss_one (ps_if (pt_cmp (pc_nnotin hr.units (pv 11) (pv 4)) (by with_unfolding_all rfl)) (pss_cons (ps_nput hr.units (pv 4) (pv 11) pe_bl rfl)
        (pss_one (ps_expr (pe_bm PySem.F.plainAttrs_list PySem.F.slot_list_append PySem.F.type_list_append mt_append (pv 3) (pa_cons (pe_tup (pa_cons (pe_ix ix_tup (pv 11) pe_int (fun _ _ => rfl)) (pa_cons (pe_ix ix_tup (pv 11) pe_int (fun _ _ => rfl)) (pa_cons (pe_op op_catA (pv 8) (pe_tup (pa_cons (pv 9) pa_nil))) pa_nil)))) pa_nil))))) pss_nil))) pss_nil))))))))
        (pss_one (ps_ret (pv 3))))))), ?_⟩
  -- the first node
  refine q_set ?_
  refine ⟨_, rfl, ?_⟩
  refine (eu_lzeros (K := K) hp ok.2.1 (ev_var rfl) (fun _ => rfl) : EvU _ _ H _) H (Ex.refl _) _ fun p0 H1 hp0 e1 h1 => ?_
  refine (eu_tup ea_nil (by decide) : EvU _ _ H1 []) H1 (Ex.refl _) _ fun b0 H2 hb0 e2 h2 => ?_
  refine ⟨by show 3 ≤ sizeLine; decide, fun t0 ht0 => ?_⟩
  refine gen_heap (sl := t0) (Ex.refl H2) ht0 fun H3 e3 h3 => ?_
  refine ⟨by show 1 ≤ sizeLine; decide, fun q hq => ?_⟩
  refine gen_heap (sl := q) (Ex.refl H3) hq fun H4 e4 h4 => ?_
  refine q_set fun g o hg0 nd0 => ?_
  have e4g : Ex H4 (upd H4 g o) := Ex.new hg0
  have e04 : Ex H H4 := e1.trans (e2.trans (e3.trans e4))
  have hq00 : H q = none := fresh_back (e1.trans (e2.trans e3)) hq
  have hg00 : H g = none := fresh_back e04 hg0
  have n0 : LNode H4 t0 (start0 ps s0) := ⟨p0, b0, e4 _ _ h3, (e2.trans (e3.trans e4)) _ _ h1, (e3.trans e4) _ _ h2⟩
  refine (eu_tup (ea_cons (ev_op (ev_op (ev_var rfl) ev_c (rv_ixL (sq_of (e4g _ _ h4)) (v := .ref t0) rfl)) ev_c (rv_ixT (st_of (e4g _ _ (e4 _ _ h3))) (v := .int s0) rfl)) (ea_cons (ev_op (ev_op (ev_var rfl) ev_c (rv_ixL (sq_of (e4g _ _ h4)) (v := .ref t0) rfl)) ev_c (rv_ixT (st_of (e4g _ _ (e4 _ _ h3))) (v := .ref p0) rfl)) ea_nil)) (by show 2 ≤ 100000; decide) : EvU _ _ (upd H4 g o) [.int s0, .ref p0]) _ (Ex.refl _) _ fun kt H5 hkt e5 hk5 => ?_
  refine ⟨fkey (s0, zeros ps), nd0.ex e5, fkey_keyV hk5 ((e4g.trans e5) _ _ ((e2.trans (e3.trans e4)) _ _ h1)), fun o' nd1 => ?_⟩
  have hg4 : Ex H4 (upd H5 g o') := (e4g.trans e5).mut hg0
  refine q_asg (H := upd H5 g o') (ev_c (v := .int 0)) fun H6 e6 => ?_
  have e46 := hg4.trans e6
  refine q_while (fun m σ' H' => ∃ (i : Nat) (v6 v7 v8 v9 v10 v11 : Option V), σ' = [some (.ref sl), some (.int s0), some (.ref pl), some (.ref q), some (.ref g), some (.int (i : Nat)), v6, v7, v8, v9, v10, v11, none] ∧ Ex H H' ∧ NDk P w H' g (foundK (qs rows ps s0 i)) ∧
    (∃ ms : List Addr, H' q = some (.lst (ms.map V.ref)) ∧ Paired (LNode H') ms (qs rows ps s0 i)) ∧ i ≤ (qs rows ps s0 i).length ∧ m + i = 833) 833 ⟨0, _, _, _, _, _, _, rfl, e04.trans e46, nd1.ex e6, ⟨[t0], e46 _ _ h4, .cons (n0.ex e46) .nil⟩, Nat.zero_le _, rfl⟩ ?_
  rintro m σ' H' ⟨i, v6, v7, v8, v9, v10, v11, rfl, f1, nd6, ⟨ms, ms1, ms2⟩, hi, hm⟩
  have qok := qs_ok rows ps s0 i
  have hlen : ms.length = (qs rows ps s0 i).length := Paired.length ms2
  have h832 := qok.len n12 ok
  refine ⟨decide ((i : Int) < ((qs rows ps s0 i).length : Int)), et_test (ev_op (ev_var rfl) (by have := ev_lenK (K := K) (k := false) (σ := [some (.ref sl), some (.int s0), some (.ref pl), some (.ref q), some (.ref g), some (.int (i : Nat)), v6, v7, v8, v9, v10, v11, none]) (ta := tVar 3) (ev_var rfl) (sqk_l ms1); rw [List.length_map, hlen] at this; exact this) rv_I0), fun hb H7 e7 => ?_, fun hb H7 e7 => ?_⟩
  · have hlt : i < (qs rows ps s0 i).length := by have := of_decide_eq_true hb; omega
    obtain ⟨n, hn⟩ : ∃ n, (qs rows ps s0 i)[i]? = some n := ⟨_, List.getElem?_eq_getElem hlt⟩
    obtain ⟨hm1, hhm⟩ : ∃ y, ms[i]? = some y := ⟨_, List.getElem?_eq_getElem (by omega)⟩
    have hnode : LNode H' hm1 n := by
      obtain ⟨n', e1, e2⟩ := pair_at ms2 hhm
      rw [hn] at e1
      cases e1
      exact e2
    refine ⟨fun σ2 H8 => ∃ (v6 v7 v8 v9 v10 v11 : Option V), σ2 = [some (.ref sl), some (.int s0), some (.ref pl), some (.ref q), some (.ref g), some (.int ((i + 1 : Nat) : Int)), v6, v7, v8, v9, v10, v11, none] ∧ Ex H H8 ∧ NDk P w H8 g (foundK (qs rows ps s0 (i + 1))) ∧
      (∃ ms : List Addr, H8 q = some (.lst (ms.map V.ref)) ∧ Paired (LNode H8) ms (qs rows ps s0 (i + 1))) ∧ i + 1 ≤ (qs rows ps s0 (i + 1)).length, ?_, ?_⟩
    · rintro σ2 H8 ⟨v6, v7, v8, v9, v10, v11, e, g1, g2, g3, g4⟩
      exact ⟨m - 1, by omega, i + 1, v6, v7, v8, v9, v10, v11, e, g1, g2, g3, g4, by omega⟩
    have hnext : qs rows ps s0 (i + 1) = expand rows ps n (qs rows ps s0 i) := by
      show (match (qs rows ps s0 i)[i]? with | some n => expand rows ps n (qs rows ps s0 i) | none => qs rows ps s0 i) = _
      rw [hn]
    refine q_stm ?_
    refine (ev_op (ev_var rfl) (ev_var rfl) (rv_ixL (sq_of (e7 _ _ ms1)) (v := .ref hm1) (atI_nat (by rw [List.getElem?_map, hhm]; rfl))) : Ev _ _ H7 _) H7 (Ex.refl _) _ fun H8 e8 => ?_
    obtain ⟨pa, ra, l1, l2, l3⟩ := hnode.ex (e7.trans e8)
    refine ⟨hm1, _, rfl, st_of l1, rfl, _, _, rfl, _, _, rfl, _, _, rfl, rfl, ?_⟩
    refine q_aug (b := 1) rfl ev_c fun H9 e9 => ?_
    have e69 := e7.trans (e8.trans e9)
    have e09 := f1.trans e69
    have good := qok.good n (List.mem_of_getElem? hn)
    have hrun : n.run.length ≤ 833 := by have := good.2.2.2; omega
    have pk : PlsOk ps n.pl := by rw [good.2.1]; exact pls_run ok rows n.run
    have acc_ok : ∀ jj, QOk rows ps s0 (i + 1) (((List.range rows.length).take jj).foldl (step1 rows ps n) (qs rows ps s0 i)) := fun jj =>
      fold_qok good _ _ (fun y hy => List.mem_range.mp (List.mem_of_mem_take hy)) ⟨fun y hy => let ⟨a, b, c, d⟩ := qok.good y hy; ⟨a, b, c, Nat.le_succ_of_le d⟩, qok.keys⟩
    refine s_forw (fun R qq => f_range (n := rows.length) (ea_cons (rows_len (hs.ex e09) (ev_var rfl)) ea_nil) (by omega) qq) walk_range
      (fun jj σ'' H'' => ∃ (v9 v10 v11 : Option V), σ'' = [some (.ref sl), some (.int s0), some (.ref pl), some (.ref q), some (.ref g), some (.int ((i : Int) + 1)), some (.int n.st), some (.ref pa), some (.ref ra), v9, v10, v11, none] ∧ Ex H H'' ∧
        H'' pa = some (.tup (n.pl.map plV)) ∧ H'' ra = some (.tup (numV n.run)) ∧ NDk P w H'' g (foundK (((List.range rows.length).take jj).foldl (step1 rows ps n) (qs rows ps s0 i))) ∧
        ∃ ms' : List Addr, H'' q = some (.lst (ms'.map V.ref)) ∧ Paired (LNode H'') ms' (((List.range rows.length).take jj).foldl (step1 rows ps n) (qs rows ps s0 i))) ?_ (fun _ _ _ _ _ => True.intro) ?_ ?_
    · exact fun H10 e10 => ⟨_, _, _, rfl, e09.trans e10, (e9.trans e10) _ _ l2, (e9.trans e10) _ _ l3, nd6.ex (e69.trans e10), ms, (e69.trans e10) _ _ ms1, Paired.mapP ms2 fun _ _ z => z.ex (e69.trans e10)⟩
    · rintro jj y σ'' H10 H11 hjj ⟨v9, v10, v11, rfl, g1, g2, g3, g4, ms', g5, g6⟩ ⟨rfl, hy⟩
      have hy : y = V.int (jj : Nat) := hy.trans (by show V.int (0 + _) = _; rw [Int.zero_add])
      subst hy
      have hjr : (List.range rows.length)[jj]? = some jj := List.getElem?_range hjj
      obtain ⟨acc, hacc⟩ : ∃ acc, acc = ((List.range rows.length).take jj).foldl (step1 rows ps n) (qs rows ps s0 i) := ⟨_, rfl⟩
      rw [← hacc] at g4 g6
      have hstep : ((List.range rows.length).take (jj + 1)).foldl (step1 rows ps n) (qs rows ps s0 i) = step1 rows ps n acc jj := by rw [take_snoc hjr, List.foldl_append, hacc]; rfl
      rw [hstep]
      have aok := acc_ok jj
      rw [← hacc] at aok
      have alen := aok.len n12 ok
      have hms' : ms'.length = acc.length := Paired.length g6
      obtain ⟨rt, t1, t2⟩ := row_ix (K := K) (σ := [some (.ref sl), some (.int s0), some (.ref pl), some (.ref q), some (.ref g), some (.int ((i : Int) + 1)), some (.int n.st), some (.ref pa), some (.ref ra), some (.int (jj : Nat)), v10, v11, none]) (te := tVar 0) (ti := tVar 9) (hs.ex g1) hjj (ev_var rfl) (ev_var rfl)
      refine q_asg t1 fun H12 e12 => ?_
      have t3 : RowAt H12 rt (rowAt rows jj) := e12 _ _ t2
      have k1 := g1.trans e12
      refine s_when (et_and (et_test (ev_op (row_at0 t3 (ev_var rfl)) (ev_var rfl) (rv_eq rfl))) fun _ => et_not (et_B (ev_call (ea_cons (ev_var rfl) (ea_cons (ev_var rfl) (ea_cons (row_at1 t3 (ev_var rfl)) ea_nil))) (sv_lheld (hp.ex k1) (e12 _ _ g2) pk)))) (fun hb H13 e13 => ?_) fun hb H13 e13 => ?_
      · rw [Bool.and_eq_true, Bool.not_eq_true'] at hb
        have hst : (rowAt rows jj).1 = n.st := by
          have := of_decide_eq_true hb.1
          injection this
        have hheld := hb.2
        have e23 := e12.trans e13
        have t4 : RowAt H13 rt (rowAt rows jj) := e13 _ _ t3
        refine q_set ?_
        refine (row_at2 t4 (ev_var rfl) : Ev _ _ H13 _) H13 (Ex.refl _) _ fun H14 e14 => ?_
        have e24 := e23.trans e14
        refine (eu_lafter (z := (rowAt rows jj).2.1) (ea_cons (ev_var rfl) (ea_cons (ev_var rfl) (ea_cons (row_at1 (show RowAt H14 rt (rowAt rows jj) from e14 _ _ t4) (ev_var rfl)) ea_nil))) (hp.ex (g1.trans e24)) ok.2.1 (e24 _ _ g2) pk.1 : EvU _ _ H14 _) H14 (Ex.refl _) _ fun nn H15 hnn e15 h15 => ?_
        refine ⟨by show 2 ≤ sizeLine; decide, fun kt hkt => ?_⟩
        refine gen_heap (sl := kt) (Ex.refl H15) hkt fun H16 e16 h16 => ?_
        have e26 := e24.trans (e15.trans e16)
        have ndx := g4.ex e26
        have hkey : KeyV H16 (fkey (nkey (nxt rows ps n jj))) (.ref kt) := fkey_keyV (pls := afterAll ps n.pl (rowAt rows jj).2.1) h16 (e16 _ _ h15)
        refine s_when (et_B (ev_nnotin (ev_var rfl) (ev_var rfl) ndx hkey)) (fun hb2 H17 e17 => ?_) fun hb2 H17 e17 => ?_
        · rw [val_found, Bool.not_eq_true'] at hb2
          have hnew := of_decide_eq_false hb2
          have hs' : step1 rows ps n acc jj = acc ++ [nxt rows ps n jj] := by
            unfold step1
            rw [if_pos ⟨hst, hheld, hnew⟩]
          rw [hs']
          have nok : QOk rows ps s0 (i + 1) (acc ++ [nxt rows ps n jj]) := by
            rw [← hs', ← hstep]
            exact acc_ok (jj + 1)
          have nlen := nok.len n12 ok
          rw [List.length_append] at nlen
          simp only [List.length_cons, List.length_nil] at nlen
          have e27 := e26.trans e17
          have nd17 := ndx.ex e17
          -- found[key] = True
          refine ⟨_, rfl, _, rfl, g, _, fkey (nkey (nxt rows ps n jj)), rfl, nd17, hkey.mono (TupIn.of_ex e17), (by unfold foundK; rw [List.length_map]; exact sz_lt (by omega)), fun o2 nd18 => ?_⟩
          have hvn : valV (foundK acc) (fkey (nkey (nxt rows ps n jj))) = none := by
            have := val_found acc (nkey (nxt rows ps n jj))
            rw [decide_eq_false hnew] at this
            cases h : valV (foundK acc) (fkey (nkey (nxt rows ps n jj))) with
            | none => rfl
            | some _ => rw [h] at this; cases this
          rw [putK_new _ hvn] at nd18
          dsimp only
          have hup : ∀ {b u}, H17 b = some u → (∀ φ, u ≠ .ext φ) → upd H17 g o2 b = some u := fun h hn' => by
            obtain ⟨_, ob, z1, _⟩ := nd17
            rw [upd_ne (fun e => by rw [e, z1] at h; cases h; exact hn' _ rfl)]
            exact h
          have kp18 : Kp H11 (upd H17 g o2) := (Kp.of_ex e27).trans (Kp.nd nd17)
          have hq18 : upd H17 g o2 q = some (.lst (ms'.map V.ref)) := hup (e27 _ _ g5) fun _ z => by cases z
          have hgq : g ≠ q := fun e => by
            rw [← e] at hq18
            obtain ⟨_, ob, z1, _⟩ := nd18
            rw [z1] at hq18
            cases hq18
          have hkt18 : upd H17 g o2 kt = some (.tup [.int (rowAt rows jj).2.2, .ref nn]) := hup (e17 _ _ h16) fun _ z => by cases z
          have hnn18 : upd H17 g o2 nn = some (.tup ((afterAll ps n.pl (rowAt rows jj).2.1).map plV)) := hup (e17 _ _ (e16 _ _ h15)) fun _ z => by cases z
          have hra18 : upd H17 g o2 ra = some (.tup (numV n.run)) := hup (e27 _ _ g3) fun _ z => by cases z
          -- queue.append(..)
          refine ⟨_, rfl, .inl ⟨rfl, _, sq_of hq18⟩, ?_⟩
          refine (ev_op (ev_var rfl) ev_c (rv_ixT (st_of hkt18) (v := .int (rowAt rows jj).2.2) rfl) : Ev _ _ (upd H17 g o2) _) _ (Ex.refl _) _ fun H18 e18 => ?_
          refine (ev_op (ev_var rfl) ev_c (rv_ixT (st_of (e18 _ _ hkt18)) (v := .ref nn) rfl) : Ev _ _ H18 _) H18 (Ex.refl _) _ fun H19 e19 => ?_
          refine (eu_catA (ev_var rfl) (st_of (e19 _ _ (e18 _ _ hra18))) (ev_var (v := .int (jj : Nat)) rfl) (by unfold numV; rw [List.length_map]; omega) : EvU _ _ H19 _) H19 (Ex.refl _) _ fun rb H20 hrb e20 h20 => ?_
          refine ⟨by show 3 ≤ sizeLine; decide, fun xm hxm => ?_⟩
          have e8x : Ex (upd H17 g o2) (upd H20 xm (.tup [.int (rowAt rows jj).2.2, .ref nn, .ref rb])) := (e18.trans (e19.trans e20)).trans (Ex.new hxm)
          have hq21 := e8x _ _ hq18
          refine ⟨q, _, _, rfl, rfl, hq21, by rw [List.length_map, hms']; exact sz_lt (by omega), ?_⟩
          dsimp only
          have kp22 : Kp H11 (upd (upd H20 xm (.tup [.int (rowAt rows jj).2.2, .ref nn, .ref rb])) q (.lst (ms'.map V.ref ++ [.ref xm]))) := (kp18.trans (Kp.of_ex e8x)).trans (Kp.lst hq21)
          have kpq := Kp.lst (u := .lst (ms'.map V.ref ++ [.ref xm])) hq21
          refine ⟨_, _, _, rfl, ?_, ?_, ?_, ?_, ms' ++ [xm], ?_, ?_⟩
          · intro b u hb'
            rw [upd_ne (ne_new hq00 hb')]
            refine e8x b u ?_
            rw [upd_ne (ne_new hg00 hb')]
            exact e27 b u (g1 b u hb')
          · exact kp22 _ _ (fun _ z => by cases z) (fun _ z => by cases z) g2
          · exact kp22 _ _ (fun _ z => by cases z) (fun _ z => by cases z) g3
          · have z := nd18.ex e8x
            unfold foundK
            rw [List.map_append]
            exact z.upd hgq (fun ws e => by rw [hq21] at e; cases e)
          · rw [upd_same, List.map_append]
            rfl
          · refine Paired.snoc (Paired.mapP g6 fun _ _ z => z.kp kp22) ⟨nn, rb, ?_, ?_, ?_⟩
            · exact kpq _ _ (fun _ z => by cases z) (fun _ z => by cases z) upd_same
            · exact kpq _ _ (fun _ z => by cases z) (fun _ z => by cases z) (e8x _ _ hnn18)
            · refine kpq _ _ (fun _ z => by cases z) (fun _ z => by cases z) ?_
              show _ = some (HO.tup (numV (n.run ++ [jj])))
              rw [upd_ne (ne_new hxm h20), h20]
              unfold numV
              rw [List.map_append]
              rfl
        · rw [val_found, Bool.not_eq_false'] at hb2
          have hfound := of_decide_eq_true hb2
          have e27 := e26.trans e17
          have hs' : step1 rows ps n acc jj = acc := by
            unfold step1
            rw [if_neg (fun h => h.2.2 hfound)]
          rw [hs']
          exact ⟨_, _, _, rfl, g1.trans e27, e27 _ _ g2, e27 _ _ g3, ndx.ex e17, ms', e27 _ _ g5, Paired.mapP g6 fun _ _ z => z.ex e27⟩
      · have e23 := e12.trans e13
        refine ⟨_, _, _, rfl, g1.trans e23, e23 _ _ g2, e23 _ _ g3, ?_⟩
        have hs' : step1 rows ps n acc jj = acc := by
          unfold step1
          rw [if_neg (fun h => ?_)]
          rw [Bool.and_eq_false_iff] at hb
          rcases hb with hb | hb
          · exact absurd (by rw [h.1] : V.int (rowAt rows jj).1 = V.int n.st) (of_decide_eq_false hb)
          · rw [h.2.1] at hb
            cases hb
        rw [hs']
        exact ⟨g4.ex e23, ms', e23 _ _ g5, Paired.mapP g6 fun _ _ z => z.ex e23⟩
    · rintro σ'' H10 ⟨v9, v10, v11, rfl, g1, g2, g3, g4, ms', g5, g6⟩
      have hl : (List.range rows.length).take rows.length = List.range rows.length := List.take_of_length_le (by rw [List.length_range]; exact Nat.le_refl _)
      rw [hl] at g4 g6
      rw [hnext]
      exact ⟨_, _, _, _, _, _, rfl, g1, g4, ⟨ms', g5, g6⟩, Nat.le_trans hlt (grow_step rows ps n (List.range rows.length) (qs rows ps s0 i))⟩
  · have hge : (qs rows ps s0 i).length ≤ i := by have := of_decide_eq_false hb; omega
    have hmet := met_of n12 ok hge (by omega)
    refine s_ret (ev_var (v := .ref q) rfl) fun H8 e8 => k q H8 hq00 ((f1.trans e7).trans e8) ⟨ms, e8 _ _ (e7 _ _ ms1), ?_⟩
    rw [hmet]
    exact Paired.mapP ms2 fun _ _ z => z.ex (e7.trans e8)
end
end K28
end

section
set_option Elab.async false
set_option linter.constructorNameAsVariable false
set_option maxRecDepth 100000
set_option maxHeartbeats 4000000
namespace K28
open PySem PySem.Spec PyProof.Rows L2 Evl
/-- two views of the same -/
def VEq (C : Addr) (a b : Addr) (H : Hp) : Prop := ∃ tab zs, (tab.map (·.1)).Nodup ∧ ViewAt C H a tab zs ∧ ViewAt C H b tab zs
def GEq (P : Program) (w : World) (a : Ad) (x y : Addr) (H : Hp) : Prop := ∃ p, PartOk p ∧ GuardAt P w a H x p ∧ GuardAt P w a H y p
theorem ext_ex {H H' : Hp} (e : Ext H H') : Ex H H' := e
theorem VEq.mon {C : Addr} : ∀ a b H H', Ext H H' → VEq C a b H → VEq C a b H' := fun a b H H' e ⟨tab, zs, hn, h1, h2⟩ => ⟨tab, zs, hn, h1.ex e, h2.ex e⟩
theorem GEq.mon {P : Program} {w : World} {a : Ad} : ∀ x y H H', Ext H H' → GEq P w a x y H → GEq P w a x y H' := fun x y H H' e ⟨p, ok, h1, h2⟩ => ⟨p, ok, h1.ex e, h2.ex e⟩
section
variable {X : Cx} {k j : Nat} {C : Addr} {R : Addr → Addr → Hp → Prop}
theorem rcG_met (c : C8.Met X.prog X.w X.K X.mg X.base k C "__eq__" (spEq R) []) : RcG X k (DIns C R) := by
  obtain ⟨f, fd, ps, ds, hc, hm, F, b, d⟩ := c.ex
  cases d
  exact rcG_ins F hm.at_ hm.fn b (C8.pass0 (E := C8.E0))
theorem op_eqI (c : C8.Met X.prog X.w X.K X.mg X.base k C "__eq__" (spEq R) []) (hr : Room j X.A) (hk : k ≤ j) : OpR X (compareOp .Eq) (rEqG (DIns C R)) := op_eqG (rcG_met c) (hr.mono hk)
theorem op_eqLI (hR : ∀ a b H H', Ext H H' → R a b H → R a b H') (c : C8.Met X.prog X.w X.K X.mg X.base k C "__eq__" (spEq R) []) (hr : Room j X.A) (hk : k + 1 ≤ j) : OpR X (compareOp .Eq) (rEqG (DList (DIns C R))) :=
  op_eqG (rcG_list (mon_ins hR) ((rcG_met c).eqG fun _ _ _ d => let ⟨a, b, _, _, _, _, hx, hy, _⟩ := d; ⟨a, b, hx, hy⟩)) (hr.mono hk)
end
section
variable {P : Program} {w : World} {K : PySem.W.Frag} {mg : Str → Option Value} {base : Heap}
theorem ev_tt {σ : L2.St} {H : Hp} {ta tb : TE} (h1 : Ev ta σ H (.bl true)) (h2 : Ev tb σ H (.bl true)) : Ev (tAndV ta tb) σ H (.bl true) := ev_andV h1 fun _ => h2
theorem tab_self {tab : List (Str × Str)} (hn : (tab.map (·.1)).Nodup) : ∀ p ∈ tabK tab, valV (tabK tab) p.1 = some p.2 ∧ flatB p.2 = true := by
  intro p hp
  unfold tabK at hp
  obtain ⟨q, hq, rfl⟩ := List.mem_map.mp hp
  refine ⟨?_, rfl⟩
  show valV (tabK tab) (Sum.inr q.1) = some (.str q.2)
  rw [val_tab]
  have : lk tab q.1 = some q.2 := by
    induction tab with
    | nil => cases hq
    | cons t r ih =>
      rw [List.map_cons, List.nodup_cons] at hn
      unfold lk
      rw [List.find?_cons]
      rcases List.mem_cons.mp hq with rfl | hq
      · simp
      · have ne : ¬ t.1 = q.1 := fun e => hn.1 (e ▸ List.mem_map.mpr ⟨q, hq, rfl⟩)
        rw [decide_eq_false ne]
        exact ih hn.2 hq (List.mem_map.mpr ⟨q, hq, rfl⟩)
  rw [this]
  rfl
theorem can_same {ks ls : List Str} (h1 : ks.Nodup) (h2 : ls.Nodup) (h : ∀ z, z ∈ ks ↔ z ∈ ls) : (canK ks).length = (canK ls).length ∧ ∀ p ∈ canK ks, valV (canK ls) p.1 = some p.2 ∧ flatB p.2 = true := by
  refine ⟨?_, fun p hp => ?_⟩
  · unfold canK
    rw [List.length_map, List.length_map]
    exact ((List.perm_ext_iff_of_nodup h1 h2).mpr h).length_eq
  · unfold canK at hp
    obtain ⟨z, hz, rfl⟩ := List.mem_map.mp hp
    refine ⟨?_, rfl⟩
    show valV (canK ls) (Sum.inr z) = some (.bl true)
    rw [val_can, if_pos ((h z).mp hz)]
theorem sc_View_eq : FnScope ["self", "other"] ["self", "other"] (defScope s_View_eq) := ⟨rfl, rfl, rfl, by decide +kernel, rfl, by decide +kernel, by decide +kernel⟩
theorem ok_View_eq {a : Ad} {f : Addr} {fd : FuncData} (T : TxC K mg a) (F : FunD K "__eq__" "View.__eq__" (defArgs s_View_eq) (defBody s_View_eq) (defScope s_View_eq) [] [] f fd) : FnOk P w K mg base L2.CX0 1 f fd ["self", "other"] (spEq (VEq a.View)) := by
  refine fnOk_of F sc_View_eq (fun vs H Q E h => by obtain ⟨_, _, rfl, _⟩ := h; rfl) fun f cdv A outer s H vs Q E hr h => ?_
  obtain ⟨x, y, rfl, ⟨tab, zs, hn, ⟨dx, t, c, x1, x2, ks, k1, k2, k3, k4⟩, ⟨dy, t', c', y1, y2, ls, l1, l2, l3, l4⟩⟩, k⟩ := h
  refine ⟨_, (pss_one (ps_ret (pe_and (pe_callB (C8.call_isC T.is_View) (by rfl) T.f_isinstance boot_isinstance (pa_cons (pv 1) (pa_cons (pe_glob (v := .ref a.View) (by rfl) T.g_View rfl) pa_nil))) (pe_and (pe_cmpR (op_eq_dictA hr.units0) (pe_fld (pv 0) rfl) (pe_fld (pv 1) rfl) (nomark _)) (pe_one (pe_cmpR (op_eq_dictA hr.units0) (pe_fld (pv 0) rfl) (pe_fld (pv 1) rfl) (nomark _))))))), ?_⟩
  have cs := can_same k1 l1 fun z => (k2 z).trans (l2 z).symm
  have r1 : RV rEqDA (.ref t) (.ref t') H (.bl true) := rv_val fun H1 e Q q => ⟨t, t', _, _, rfl, rfl, e _ _ x2, e _ _ y2, rfl, tab_self hn, q⟩
  have r2 : RV rEqDA (.ref c) (.ref c') H (.bl true) := rv_val fun H1 e Q q => ⟨c, c', _, _, rfl, rfl, e _ _ k4, e _ _ l4, cs.1, cs.2, q⟩
  exact s_ret (v := .bl true) (ev_tt (ev_isC (ev_var rfl) (ev_c (v := .ref a.View)) y1) (ev_tt (ev_op (ev_fld (ev_var rfl) x1 T.c_View T.n_table rfl) (ev_fld (ev_var rfl) y1 T.c_View T.n_table rfl) r1)
    (ev_op (ev_fld (ev_var rfl) x1 T.c_View T.n_can rfl) (ev_fld (ev_var rfl) y1 T.c_View T.n_can rfl) r2))) fun H1 e1 => k H1 e1
theorem moves_self {ms : List ((Int × Str) × Int)} (hn : ((movesK ms).map (·.1)).Nodup) : ∀ p ∈ movesK ms, ∃ i : Int, p.2 = .int i ∧ valV (movesK ms) p.1 = some (.int i) := by
  intro p hp
  have h := moves_nodup hn
  unfold movesK at hp
  obtain ⟨q, hq, rfl⟩ := List.mem_map.mp hp
  refine ⟨q.2, rfl, ?_⟩
  show valV (movesK ms) (mkey q.1) = _
  rw [val_moves]
  have : lk ms q.1 = some q.2 := by
    clear hp hn
    induction ms with
    | nil => cases hq
    | cons t r ih =>
      rw [List.map_cons, List.nodup_cons] at h
      unfold lk
      rw [List.find?_cons]
      rcases List.mem_cons.mp hq with rfl | hq
      · simp
      · have ne : ¬ t.1 = q.1 := fun e => h.1 (e ▸ List.mem_map.mpr ⟨q, hq, rfl⟩)
        rw [decide_eq_false ne]
        exact ih h.2 hq
  rw [this]
  rfl
theorem rising_le : ∀ (l : List Str) (p : Str), risingS p l = true → ∀ z ∈ l, p.cps.toList ≤ z.cps.toList
  | [], _, _, _, hz => by cases hz
  | x :: r, p, h, z, hz => by
    have h' : (!ltCps x.cps.toList p.cps.toList && risingS x r) = true := h
    rw [Bool.and_eq_true, ltCps_eq, Bool.not_eq_true', decide_eq_false_iff_not] at h'
    have h1 : p.cps.toList ≤ x.cps.toList := List.not_lt.mp h'.1
    rcases List.mem_cons.mp hz with rfl | hz
    · exact h1
    · exact List.le_trans h1 (rising_le r x h'.2 z hz)
theorem sorted_tail {x : Str} {r : List Str} (h : sortedS (x :: r) = true) : sortedS r = true := by
  cases r with
  | nil => rfl
  | cons y r =>
    have h' : (!ltCps y.cps.toList x.cps.toList && risingS y r) = true := h
    exact (Bool.and_eq_true_iff.mp h').2
theorem str_ext {x y : Str} (h : x.cps.toList = y.cps.toList) : x = y := by
  obtain ⟨⟨a⟩⟩ := x
  obtain ⟨⟨b⟩⟩ := y
  have h' : a = b := h
  rw [h']
theorem sorted_same : ∀ {xs ys : List Str}, sortedS xs = true → sortedS ys = true → xs.Nodup → ys.Nodup → (∀ z, z ∈ xs ↔ z ∈ ys) → xs = ys
  | [], [], _, _, _, _, _ => rfl
  | [], y :: ys, _, _, _, _, h => by cases (h y).mpr List.mem_cons_self
  | x :: xs, [], _, _, _, _, h => by cases (h x).mp List.mem_cons_self
  | x :: xs, y :: ys, h1, h2, n1, n2, h => by
    have e : x = y := by
      have a1 := (h x).mp List.mem_cons_self
      have a2 := (h y).mpr List.mem_cons_self
      rcases List.mem_cons.mp a1 with a1 | a1
      · exact a1
      · rcases List.mem_cons.mp a2 with a2 | a2
        · exact a2.symm
        · exact str_ext (List.le_antisymm (rising_le xs x h1 y a2) (rising_le ys y h2 x a1))
    subst e
    rw [List.nodup_cons] at n1 n2
    congr 1
    refine sorted_same (sorted_tail h1) (sorted_tail h2) n1.2 n2.2 fun z => ⟨fun hz => ?_, fun hz => ?_⟩
    · rcases List.mem_cons.mp ((h z).mp (List.mem_cons_of_mem _ hz)) with rfl | q
      · exact absurd hz n1.1
      · exact q
    · rcases List.mem_cons.mp ((h z).mpr (List.mem_cons_of_mem _ hz)) with rfl | q
      · exact absurd hz n2.1
      · exact q
theorem strs_lay : ∀ {ys : List Str}, (∀ z ∈ ys, NameOk z) → PyData.canLayAll0 (ys.map PyData.str) = true ∧ PyData.depthAll (ys.map PyData.str) = 0
  | [], _ => ⟨rfl, rfl⟩
  | y :: ys, h => by
    obtain ⟨a, b⟩ := strs_lay (ys := ys) fun z hz => h z (List.mem_cons_of_mem _ hz)
    refine ⟨?_, ?_⟩
    · rw [List.map_cons, PyData.canLayAll0, a, PyData.canLay0, name_strOk (h y List.mem_cons_self)]
      rfl
    · rw [List.map_cons, PyData.depthAll, b]
      rfl
theorem dp_strs {H : Hp} : ∀ ys : List Str, DpAll K H (ys.map V.str) (ys.map PyData.str)
  | [] => .nil
  | y :: ys => .cons (.str y) (dp_strs ys)
theorem lines_go {H : Hp} : ∀ {held : List (List Str)} {ts us : List Addr}, (∀ hs ∈ held, ∀ z ∈ hs, NameOk z) → Paired (LineAt H) ts held → Paired (LineAt H) us held →
    ∃ ds : List PyData, (∀ H', Ex H H' → DpAll K H' (ts.map V.ref) ds) ∧ (∀ H', Ex H H' → DpAll K H' (us.map V.ref) ds) ∧ PyData.canLayAll0 ds = true ∧ PyData.depthAll ds ≤ 1
  | _, _, _, _, .nil, .nil => ⟨[], fun _ _ => .nil, fun _ _ => .nil, rfl, Nat.zero_le _⟩
  | _, _, _, ok, .cons (l₁ := ts) h1 p1, .cons (l₁ := us) h2 p2 => by
    obtain ⟨ds, a, b, c, d⟩ := lines_go (fun hs hh => ok hs (List.mem_cons_of_mem _ hh)) p1 p2
    obtain ⟨ys, y1, y2, y3, y4⟩ := h1
    obtain ⟨zs, z1, z2, z3, z4⟩ := h2
    have e := sorted_same y3 z3 y2 z2 fun z => (y4 z).trans (z4 z).symm
    subst e
    obtain ⟨l1, l2⟩ := strs_lay (ys := ys) fun z hz => ok _ List.mem_cons_self z ((y4 z).mp hz)
    refine ⟨.tuple (ys.map PyData.str) :: ds, fun H' e => .cons (.tup (st_of (e _ _ y1)) (dp_strs ys)) (a H' e), fun H' e => .cons (.tup (st_of (e _ _ z1)) (dp_strs ys)) (b H' e), ?_, ?_⟩
    · rw [PyData.canLayAll0, c, PyData.canLay0, l1]
      rfl
    · rw [PyData.depthAll, PyData.depth, l2]
      omega
theorem lines_data {p : Part} (ok : PartOk p) {H : Hp} {ts us : List Addr} (h1 : Paired (LineAt H) ts p.held) (h2 : Paired (LineAt H) us p.held) :
    ∃ ds : List PyData, (∀ H', Ex H H' → DpAll K H' (ts.map V.ref) ds) ∧ (∀ H', Ex H H' → DpAll K H' (us.map V.ref) ds) ∧ SeqAt.shaped (.list ds) = true := by
  obtain ⟨ds, a, b, c, d⟩ := lines_go (K := K) (fun hs hh z hz => ok.2.2.1.1 z ((ok.2.2.2.2.2.1 hs hh).2 z hz)) h1 h2
  refine ⟨ds, a, b, ?_⟩
  unfold SeqAt.shaped
  rw [PyData.canLay0, c, PyData.depth]
  exact decide_eq_true (by omega)
theorem sc_Guard_eq : FnScope ["self", "other"] ["self", "other"] (defScope s_Guard_eq) := ⟨rfl, rfl, rfl, by decide +kernel, rfl, by decide +kernel, by decide +kernel⟩
theorem ok_Guard_eq {a : Ad} {f : Addr} {fd : FuncData} (T : TxC K mg a) (F : FunD K "__eq__" "Guard.__eq__" (defArgs s_Guard_eq) (defBody s_Guard_eq) (defScope s_Guard_eq) [] [] f fd) (X_eq : C8.Met P w K mg base 1 a.View "__eq__" (spEq (VEq a.View)) []) :
    FnOk P w K mg base L2.CX0 2 f fd ["self", "other"] (spEq (GEq P w a)) := by
  refine fnOk_of F sc_Guard_eq (fun vs H Q E h => by obtain ⟨_, _, rfl, _⟩ := h; rfl) fun f cdv A outer s H vs Q E hr h => ?_
  obtain ⟨x, y, rfl, ⟨p, ok, ⟨dx, o, l, r, x1, x2, x3, x4⟩, ⟨dy, o', l', r', y1, y2, y3, y4⟩⟩, k⟩ := h
  refine ⟨_, (pss_one (ps_ret (pe_and (pe_callB (C8.call_isC T.is_Guard) (by rfl) T.f_isinstance boot_isinstance (pa_cons (pv 1) (pa_cons (pe_glob (v := .ref a.Guard) (by rfl) T.g_Guard rfl) pa_nil))) (pe_and (pe_cmpR (op_eqI X_eq hr (by decide)) (pe_fld (pv 0) rfl) (pe_fld (pv 1) rfl) (nomark _)) (pe_and (pe_cmpR (op_eqD hr.units) (pe_fld (pv 0) rfl) (pe_fld (pv 1) rfl) (nomark _)) (pe_one (pe_cmpR (op_eqN hr.units) (pe_fld (pv 0) rfl) (pe_fld (pv 1) rfl) (nomark _)))))))), ?_⟩
  obtain ⟨ts, l1, l2⟩ := x3
  obtain ⟨us, m1, m2⟩ := y3
  obtain ⟨ds, d1, d2, d3⟩ := lines_data (K := K) ok l2 m2
  have vx : ∃ dv fs, H o = some (.ins a.View dv fs) := let ⟨dv, _, _, v1, _⟩ := x2; ⟨dv, _, v1⟩
  have vy : ∃ dv fs, H o' = some (.ins a.View dv fs) := let ⟨dv, _, _, v1, _⟩ := y2; ⟨dv, _, v1⟩
  obtain ⟨dv, fv, v1⟩ := vx
  obtain ⟨dw, fw, w1⟩ := vy
  have r1 : RV (rEqG (DIns a.View (VEq a.View))) (.ref o) (.ref o') H (.bl true) := fun H1 e Q q => ⟨⟨o, o', dv, dw, fv, fw, rfl, rfl, e _ _ v1, e _ _ w1, p.tab, p.holds, ok.1.1, x2.ex e, y2.ex e⟩, fun H2 e2 => q H2 e2⟩
  have r2 : RV (rEqD K) (.ref l) (.ref l') H (.bl true) := rv_val fun H1 e Q q => ⟨.list ds, .list ds, .lst (sq_of (e _ _ l1)) (d1 H1 e), .lst (sq_of (e _ _ m1)) (d2 H1 e), d3, d3, by rw [SeqAt.eqv_refl_plain _ (PyData.plain_of_canLay0 _ (SeqAt.canLay_of_shaped d3))]; exact q⟩
  have r3 : RV (rEqN P w) (.ref r) (.ref r') H (.bl true) := rv_val fun H1 e Q q => ⟨r, r', _, _, rfl, rfl, x4.ex e, y4.ex e, rfl, moves_self (nd_nodup x4), q⟩
  exact s_ret (v := .bl true) (ev_tt (ev_isC (ev_var rfl) (ev_c (v := .ref a.Guard)) y1) (ev_tt (ev_op (ev_fld (ev_var rfl) x1 T.c_Guard T.n_own rfl) (ev_fld (ev_var rfl) y1 T.c_Guard T.n_own rfl) r1) (ev_tt
    (ev_op (ev_fld (ev_var rfl) x1 T.c_Guard T.n_lines rfl) (ev_fld (ev_var rfl) y1 T.c_Guard T.n_lines rfl) r2) (ev_op (ev_fld (ev_var rfl) x1 T.c_Guard T.n_arrows rfl) (ev_fld (ev_var rfl) y1 T.c_Guard T.n_arrows rfl) r3)))) fun H1 e1 => k H1 e1
end
end K28
end

section
set_option Elab.async false
set_option linter.constructorNameAsVariable false
set_option maxRecDepth 100000
set_option maxHeartbeats 4000000
namespace K28
open PySem PySem.Spec PyProof.Rows L2 Evl
section
variable {P : Program} {w : World} {K : PySem.W.Frag} {mg : Str → Option Value} {base : Heap}
theorem e_Guard {a : Ad} {σ : L2.St} {H : Hp} {Q : VK} {E : XK} {tv t2 t3 : TE} {m ld : Addr} {p : Part} (ok : PartOk p) (hv : ∀ R : VK, (∀ v H5, H v = none → Ex H H5 → ViewAt a.View H5 v p.tab p.holds → R (.ref v) H5) → tv σ H R) (h2 : Ev t2 σ H (.ref m)) (h3 : Ev t3 σ H (.ref ld)) (nd : NDk P w H m (movesK p.moves)) (hd : HeldAt H ld p.held) (k : RetG P w a p H Q) :
    tMake a.Guard (spGuardInit P w a) [] E (tCons tv (tCons t2 (tCons t3 tNil))) σ H Q := hv _ fun v H5 _ e5 hva => h2 H5 e5 _ fun H6 e6 => h3 H6 (e5.trans e6) _ fun H7 e7 => gd_make ok (e5.trans (e6.trans e7)) (hva.ex (e6.trans e7)) (nd.ex (e5.trans (e6.trans e7))) (hd.ex (e5.trans (e6.trans e7))) k
theorem guard_upd {a : Ad} {H : Hp} {x D : Addr} {p : Part} {gs : List Addr} {o : HO} (ok : PartOk p) (g : GuardAt P w a H x p) (hD : H D = some (.lst (gs.map V.ref))) (hg : ∀ y ∈ gs, ∃ C dx fs, H y = some (.ins C dx fs)) : GuardAt P w a (upd H D o) x p := by
  obtain ⟨dx, o', l, r, h1, ⟨dv, t, c, v1, v2, ks, k1, k2, k3, k4⟩, ⟨ts, l1, l2⟩, h4⟩ := g
  have ne : ∀ {y : Addr} {u : HO}, H y = some u → (∀ ys, u ≠ .lst ys) → y ≠ D := fun hx hu e => by
    rw [e, hD] at hx
    cases hx
    exact hu _ rfl
  have hl : l ≠ D := fun e => by
    rw [e, hD] at l1
    injection l1 with l1
    injection l1 with l1
    have hh := ok.2.2.2.1
    generalize p.held = held at l2 hh
    cases l2 with
    | nil => exact absurd hh (by decide)
    | cons q1 q2 =>
      cases gs with
      | nil => cases l1
      | cons y gs =>
        rw [List.map_cons, List.map_cons] at l1
        injection l1 with l1 _
        injection l1 with l1
        obtain ⟨C, dy, fs, hy⟩ := hg y List.mem_cons_self
        obtain ⟨ys, q, _⟩ := q1
        rw [← l1, hy] at q
        cases q
  obtain ⟨z0, ob, z1, z2⟩ := h4
  refine ⟨dx, o', l, r, by rw [upd_ne (ne h1 fun _ e => by cases e)]; exact h1, ⟨dv, t, c, by rw [upd_ne (ne v1 fun _ e => by cases e)]; exact v1, by rw [upd_ne (ne v2 fun _ e => by cases e)]; exact v2, ks, k1, k2, k3, by rw [upd_ne (ne k4 fun _ e => by cases e)]; exact k4⟩,
    ⟨ts, by rw [upd_ne hl]; exact l1, Paired.mapP l2 fun t hs ⟨ys, y1, y2⟩ => ⟨ys, by rw [upd_ne (ne y1 fun _ e => by cases e)]; exact y1, y2⟩⟩, NDk.upd ⟨z0, ob, z1, z2⟩ (ne z1 fun _ e => by cases e) fun ws e => by rw [hD] at e; cases e⟩
theorem guards_ins {a : Ad} {H : Hp} : ∀ {gs : List Addr} {ps : List Part}, Paired (fun x p => PartOk p ∧ GuardAt P w a H x p) gs ps → ∀ y ∈ gs, ∃ C dx fs, H y = some (.ins C dx fs)
  | _, _, .nil, _, h => by cases h
  | _, _, .cons ⟨_, g⟩ hs, y, h => by
    rcases List.mem_cons.mp h with rfl | h
    · obtain ⟨dx, o', l, r, h1, _⟩ := g
      exact ⟨_, _, _, h1⟩
    · exact guards_ins hs y h
theorem el_guards {a : Ad} {E : XK} {te0 : TE} {pl : Addr} {ps : List Part} {H : Hp} {σ : L2.St} {j : Nat} {vs : List Nat} (h : Ev te0 σ H (.ref pl)) (hp : PartsAt P w H pl ps) (ok : PartsOk ps) (hw : ∀ x, wipe ((wipe σ vs).set j (some x)) vs = wipe σ vs) (hσ : ∀ x : V, ((wipe σ vs).set j (some x))[j]? = some (some x))
    {H1 : Hp} (e1 : Ex H H1) {Q : VK} (q : ∀ (l : Addr) (H2 : Hp), H1 l = none → Ex H1 H2 → GsAt P w a H2 l false ps → Q (.ref l) H2) :
    tLc (iSeq K te0) (gName j) tYes (tMake a.Guard (spGuardInit P w a) [] E (tCons (tMake a.View (spViewInit a.View) [] E (tCons (tOp (rIxT K) (tVar j) (tC (.int 0))) (tCons (tOp (rIxT K) (tVar j) (tC (.int 1))) tNil))) (tCons (tOp (rIxT K) (tVar j) (tC (.int 2))) (tCons (tOp (rIxT K) (tVar j) (tC (.int 3))) tNil)))) vs σ H1 Q := by
  obtain ⟨ts, p1, p2⟩ := hp
  have hlen : ts.length = ps.length := Paired.length p2
  have n3 := ok.2.1
  refine e_lc (f_seq (h.mono e1) (sqk_l (e1 _ _ p1)) fun H2 e2 => lc_w (walk_seq (xs := ts.map V.ref)) (fun D i H3 => Ex H2 H3 ∧ ∃ gs : List Addr, H3 D = some (.lst (gs.map V.ref)) ∧ Paired (fun x p => PartOk p ∧ GuardAt P w a H3 x p) gs (ps.take i)) (fun D hD => ⟨Ex.new hD, [], upd_same, by rw [List.take_zero]; exact .nil⟩) (fun D i H3 _ _ p => sqk_l (p.1 _ _ (e2 _ _ (e1 _ _ p1)))) (fun D i x H3 H' hD hi p y => ?_) (fun D H3 hD p => ?_))
  · obtain ⟨rfl, ey⟩ := y
    obtain ⟨f1, gs, f2, f3⟩ := p
    rw [List.getElem?_map] at ey
    obtain ⟨t, ht, rfl⟩ := Option.map_eq_some_iff.mp ey
    obtain ⟨p, hpi, pt⟩ := pair_at p2 ht
    have e03 := e1.trans (e2.trans f1)
    obtain ⟨tb, hh, m, ld, t1, t2, t3, t4, t5⟩ := pt.ex e03
    have pok : PartOk p := ok.2.2 p (List.mem_of_getElem? hpi)
    refine ⟨hw _, ?_⟩
    simp only [tYes, if_true]
    refine e_Guard (m := m) (ld := ld) pok (fun R hR => e_View (ea_cons (ev_op (ev_var (hσ _)) ev_c (rv_ixT (st_of t1) (i := 0) (v := .ref tb) rfl)) (ea_cons (ev_op (ev_var (hσ _)) ev_c (rv_ixT (st_of t1) (i := 1) (v := .ref hh) rfl)) ea_nil)) pok.1 pok.2.2.1 t2 t3 fun v H5 hv e5 hva => hR v H5 hv e5 hva)
      (ev_op (ev_var (hσ _)) ev_c (rv_ixT (st_of t1) (i := 2) (v := .ref m) rfl)) (ev_op (ev_var (hσ _)) ev_c (rv_ixT (st_of t1) (i := 3) (v := .ref ld) rfl)) t4 t5 fun x H8 hx e8 hg8 => ?_
    have f3' := Paired.mapP f3 fun _ _ z => (⟨z.1, z.2.ex e8⟩ : PartOk _ ∧ GuardAt P w a H8 _ _)
    have hD8 := e8 _ _ f2
    have hlg : gs.length ≤ 3 := by
      have := Paired.length f3
      rw [List.length_take] at this
      omega
    refine ⟨gs.map V.ref, hD8, by rw [List.length_map]; exact sz_lt (by omega), (f1.trans e8).mut hD, gs ++ [x], by rw [upd_same, List.map_append]; rfl, ?_⟩
    rw [take_snoc hpi]
    have hins := guards_ins f3'
    exact Paired.snoc (Paired.mapP f3' fun _ _ z => ⟨z.1, guard_upd z.1 z.2 hD8 hins⟩) ⟨pok, guard_upd pok hg8 hD8 hins⟩
  · obtain ⟨f1, gs, f2, f3⟩ := p
    rw [List.length_map, hlen, List.take_length] at f3
    exact q D H3 (fresh_back e2 hD) (e2.trans f1) ⟨gs, f2, Paired.mapP f3 fun _ _ z => z.2⟩
theorem e_Plant {a : Ad} {ta : TA} {σ : L2.St} {H : Hp} {Q : VK} {E : XK} {s0 : Int} {l wl bl : Addr} {rows : List Row} {wn bn : List Int} (h : EvA ta σ H [.int s0, .ref l, .ref wl, .ref bl]) (b0 : 0 ≤ s0) (b9 : s0 ≤ 99) (ok : RowsOk rows) (hr : RowsAt H l rows) (mi : MI wl bl rows.length wn bn H)
    (k : ∀ x H2, H x = none → Ex H H2 → PlantAt a H2 x s0 rows → Q (.ref x) H2) : tMake a.Plant (spPlantInit a) [] E ta σ H Q := h H (Ex.refl _) _ fun H1 e1 x dx hx hdx _ => by
  obtain ⟨ts, r1, r2⟩ := hr
  obtain ⟨m1, m2, m3, m4, m5, m6, m7, m8, m9⟩ := mi
  have n12 := ok.2.1
  exact ⟨x, dx, H1, s0, l, wl, bl, ts, rows, wn, bn, rfl, upd_same, hx, (Ex.new hdx).mut hx, b0, b9, ok, e1 _ _ r1, Paired.mapP r2 fun _ _ z => e1 _ _ z, e1 _ _ m1, e1 _ _ m2, m3, m4, by omega, by omega, m5, m6, m7, fun H2 e2 hv => ⟨rfl, k x H2 (fresh_back e1 hx) (e1.trans e2) hv⟩⟩
def numD (run : List Nat) : PyData := .tuple (run.map fun k => PyData.int (k : Nat))
theorem dp_nums {H : Hp} : ∀ run : List Nat, DpAll K H (numV run) (run.map fun k => PyData.int (k : Nat))
  | [] => .nil
  | k :: r => .cons (.int (k : Nat)) (dp_nums r)
theorem nums_lay : ∀ run : List Nat, PyData.canLayAll0 (run.map fun k => PyData.int (k : Nat)) = true ∧ PyData.depthAll (run.map fun k => PyData.int (k : Nat)) = 0
  | [] => ⟨rfl, rfl⟩
  | k :: r => by
    obtain ⟨a, b⟩ := nums_lay r
    refine ⟨?_, ?_⟩
    · rw [List.map_cons, PyData.canLayAll0, a]
      rfl
    · rw [List.map_cons, PyData.depthAll, b]
      rfl
theorem numD_shaped (run : List Nat) : SeqAt.shaped (numD run) = true := by
  unfold SeqAt.shaped numD
  rw [PyData.canLay0, (nums_lay run).1, PyData.depth, (nums_lay run).2]
  rfl
theorem rv_neNums {H : Hp} {p q : Addr} {run : List Nat} (hp : H p = some (.tup (numV run))) (hq : H q = some (.tup (numV run))) : RV (rNeD K) (.ref p) (.ref q) H (.bl false) := rv_val fun H1 e Q k =>
  ⟨numD run, numD run, .tup (st_of (e _ _ hp)) (dp_nums run), .tup (st_of (e _ _ hq)) (dp_nums run), numD_shaped run, numD_shaped run, by rw [SeqAt.eqv_refl_plain _ (PyData.plain_of_canLay0 _ (SeqAt.canLay_of_shaped (numD_shaped run)))]; exact k⟩
theorem paired_prs {a : Ad} {H : Hp} {gs gs2 : List Addr} {ps : List Part} (ok : PartsOk ps) (h1 : Paired (GuardAt P w a H) gs ps) (h2 : Paired (GuardAt P w a H) gs2 ps) : Prs (DIns a.Guard (GEq P w a)) (gs.map V.ref) (gs2.map V.ref) H := by
  refine ⟨by rw [List.length_map, List.length_map, Paired.length h1, Paired.length h2], fun i x y hx hy => ?_⟩
  rw [List.getElem?_map] at hx hy
  obtain ⟨g, hg, rfl⟩ := Option.map_eq_some_iff.mp hx
  obtain ⟨g2, hg2, rfl⟩ := Option.map_eq_some_iff.mp hy
  obtain ⟨p, hp, a1⟩ := pair_at h1 hg
  obtain ⟨p2, hp2, a2⟩ := pair_at h2 hg2
  rw [hp] at hp2
  cases hp2
  have w1 : ∃ dx fs, H g = some (.ins a.Guard dx fs) := let ⟨dx, _, _, _, h, _⟩ := a1; ⟨dx, _, h⟩
  have w2 : ∃ dx fs, H g2 = some (.ins a.Guard dx fs) := let ⟨dx, _, _, _, h, _⟩ := a2; ⟨dx, _, h⟩
  obtain ⟨dx, fs, v1⟩ := w1
  obtain ⟨dy, fs', v2⟩ := w2
  exact ⟨g, g2, dx, dy, fs, fs', rfl, rfl, v1, v2, p, ok.2.2 p (List.mem_of_getElem? hp), a1, a2⟩
theorem due_len {rows : List Row} {ps : List Part} {s0 : Int} {k : Nat} (hk : k < rows.length) {run : List Nat} (h : due rows ps s0 k = some run) : (numV run).length ≤ 50000 := by
  have := (due_valid hk h).2
  unfold numV
  rw [List.length_map]
  omega
def spLaw (K : PySem.W.Frag) : Sp := fun vs H Q _ => ∃ (l : Addr) (ns : List Int), vs = [.ref l] ∧ SqK false K H l (ns.map V.int) ∧ ∀ H', Q (.bl true) H'
theorem sc_law : FnScope ["_law_script", "_law_stream_here", "_law_states_here", "_law_words", "_law_steps_here", "_law_wanted", "_law_barred", "_law_plant", "_law_draws", "_law_parts_here", "_law_guards", "_law_met", "_law_number", "_law_due_here", "_law_told", "_law_part", "_law_item"] ["_law_script"] (defScope s_law) := ⟨rfl, rfl, rfl, by decide +kernel, rfl, by decide +kernel, by decide +kernel⟩
theorem ok_law {a : Ad} {f : Addr} {fd : FuncData} (T : TxC K mg a) (F : FunD K "law" "law" (defArgs s_law) (defBody s_law) (defScope s_law) [] [] f fd)
    (C_law_stream : CalP P w K mg base 1 "_law_stream" (spStream K)) (C_law_draw : CalP P w K mg base 1 "_law_draw" spDraw) (C_law_states : CalP P w K mg base 2 "_law_states" spStates)
    (C_law_names : CalP P w K mg base 2 "_law_names" spNames) (C_law_steps : CalP P w K mg base 2 "_law_steps" (spLSteps K)) (C_law_marks : CalP P w K mg base 2 "_law_marks" (spLMarks K))
    (C_law_parts : CalP P w K mg base 3 "_law_parts" (spLParts P w)) (C_law_meet : CalP P w K mg base 2 "_law_meet" (spLMeet P w)) (C_law_due : CalP P w K mg base 2 "_law_due" (spLDue P w))
    (C_law_is_integer : CalP P w K mg base 1 "_law_is_integer" spIsInt) (C_shortest_let : CalP P w K mg base 4 "shortest_let" (spShort P w a)) (C_lets : CalP P w K mg base 6 "lets" (spLets P w a (.bl true)))
    (M_Plant : C8.Mak P w K mg base 5 "Plant" a.Plant (spPlantInit a) []) (M_View : C8.Mak P w K mg base 4 "View" a.View (spViewInit a.View) []) (M_Guard : C8.Mak P w K mg base 7 "Guard" a.Guard (spGuardInit P w a) [])
    (X_geq : C8.Met P w K mg base 2 a.Guard "__eq__" (spEq (GEq P w a)) []) : FnOk P w K mg base L2.CX0 9 f fd ["_law_script"] (spLaw K) := by
  refine fnOk_of F sc_law (fun vs H Q E h => by obtain ⟨_, _, rfl, _⟩ := h; rfl) fun f cdv A outer s H vs Q E hr h => ?_
  obtain ⟨l, ns, rfl, hl, k⟩ := h
  refine ⟨_, (pss_cons (ps_set (i := 1) sc_law.nd rfl (Or.inl rfl) (C8.pe_c C_law_stream hr (by decide) (by rfl) (pa_cons (pv 0) (pa_cons pe_int pa_nil))))
        (pss_cons (ps_set (i := 2) sc_law.nd rfl (Or.inl rfl) (C8.pe_c C_law_states hr (by decide) (by rfl) (pa_cons (pv 1) (pa_cons (pe_op op_add pe_int (C8.pe_c C_law_draw hr (by decide) (by rfl) (pa_cons (pv 1) (pa_cons pe_int pa_nil)))) pa_nil))))
        (pss_cons (ps_set (i := 3) sc_law.nd rfl (Or.inl rfl) (C8.pe_c C_law_names hr (by decide) (by rfl) (pa_cons (pv 1) (pa_cons pe_int pa_nil))))
        (pss_cons (ps_set (i := 4) sc_law.nd rfl (Or.inl rfl) (C8.pe_c C_law_steps hr (by decide) (by rfl) (pa_cons (pv 1) (pa_cons (pv 2) (pa_cons (pe_slice sl_list (pv 3) po_none (po_some pe_int)) (pa_cons pe_int pa_nil))))))
        (pss_cons (ps_asg (C8.pe_c C_law_marks hr (by decide) (by rfl) (pa_cons (C8.pe_c C_law_stream hr (by decide) (by rfl) (pa_cons (pv 0) (pa_cons pe_int pa_nil))) (pa_cons (pv 4) pa_nil))) (pg_tup rfl (pgs_cons (pg_name (i := 5) sc_law.nd rfl (Or.inl rfl)) (pgs_cons (pg_name (i := 6) sc_law.nd rfl (Or.inl rfl)) pgs_nil))))
        (pss_cons (ps_set (i := 7) sc_law.nd rfl (Or.inl rfl) (C8.pe_mk M_Plant hr (by decide) (by rfl) (pa_cons (pe_ix ix_list (pv 2) pe_int (fun _ _ => rfl)) (pa_cons (pv 4) (pa_cons (pv 5) (pa_cons (pv 6) pa_nil))))))
        (pss_cons (ps_set (i := 8) sc_law.nd rfl (Or.inl rfl) (C8.pe_c C_law_stream hr (by decide) (by rfl) (pa_cons (pv 0) (pa_cons pe_int pa_nil))))
        (pss_cons (ps_set (i := 9) sc_law.nd rfl (Or.inl rfl) (C8.pe_c C_law_parts hr (by decide) (by rfl) (pa_cons (pv 8) (pa_cons (pv 3) (pa_cons (pe_op op_add pe_int (C8.pe_c C_law_draw hr (by decide) (by rfl) (pa_cons (pv 8) (pa_cons pe_int pa_nil)))) (pa_cons pe_int pa_nil))))))
        (pss_cons (ps_setLc (i := 10) (own := [("_law_part", 15)]) (g := gName 15) (tt := tYes) (by rfl) sc_law.nd rfl rfl (sw_true rfl rfl rfl (by decide +kernel)) (pi_seq (pv 9)) (blkOk_by (own := [("_law_part", 15)]) (N := ["_law_script", "_law_stream_here", "_law_states_here", "_law_words", "_law_steps_here", "_law_wanted", "_law_barred", "_law_plant", "_law_draws", "_law_parts_here", "_law_guards", "_law_met", "_law_number", "_law_due_here", "_law_told", "_law_part", "_law_item"]) (sc := defScope s_law) (by decide +kernel)) (fun _ _ _ _ _ => (pg_name (i := 15) sc_law.nd rfl (Or.inl rfl))) (fun _ _ _ _ _ => pts_nil) (fun _ _ _ _ _ => (C8.pe_mk M_Guard hr (by decide) (by rfl) (pa_cons (C8.pe_mk M_View hr (by decide) (by rfl) (pa_cons (pe_ix (ix_tupK (K' := K) rfl) (pv 15) pe_int (fun _ _ => rfl)) (pa_cons (pe_ix (ix_tupK (K' := K) rfl) (pv 15) pe_int (fun _ _ => rfl)) pa_nil))) (pa_cons (pe_ix (ix_tupK (K' := K) rfl) (pv 15) pe_int (fun _ _ => rfl)) (pa_cons (pe_ix (ix_tupK (K' := K) rfl) (pv 15) pe_int (fun _ _ => rfl)) pa_nil))))))
        (pss_cons (ps_set (i := 11) sc_law.nd rfl (Or.inl rfl) (C8.pe_c C_law_meet hr (by decide) (by rfl) (pa_cons (pv 4) (pa_cons (pe_ix ix_list (pv 2) pe_int (fun _ _ => rfl)) (pa_cons (pv 9) pa_nil)))))
        (pss_cons (ps_for PassesOwn.never rfl (pi_range1 (by rfl) T.f_range (pa_cons (pe_callB call_len_seq (by rfl) T.f_len boot_len (pa_cons (pv 4) pa_nil)) pa_nil)) (pg_name (i := 12) sc_law.nd rfl (Or.inl rfl)) (pss_cons (ps_set (i := 13) sc_law.nd rfl (Or.inl rfl) (C8.pe_c C_law_due hr (by decide) (by rfl) (pa_cons (pv 4) (pa_cons (pv 11) (pa_cons (pv 9) (pa_cons (pv 12) pa_nil))))))
        (pss_cons (ps_set (i := 14) sc_law.nd rfl (Or.inl rfl) (C8.pe_c C_shortest_let hr (by decide) (by rfl) (pa_cons (pv 7) (pa_cons (pv 10) (pa_cons (pv 12) pa_nil)))))
        (pss_cons (ps_if (pt_cmpR op_isN (pv 13) pe_non (nomark _)) (pss_cons (ps_if (pt_cmpR op_notN (pv 14) pe_non (nomark _)) (pss_one (ps_ret pe_bl)) pss_nil)
        (pss_one (ps_continue))) pss_nil)
        (pss_cons (ps_if (PW.pt (pw_or (pt_not (pt_val (pe_callB call_isi (by rfl) T.f_isinstance boot_isinstance (pa_cons (pv 14) (pa_cons (pe_bltn (v := .ty "tuple") (by rfl) T.f_tuple PyProof.Rows.boot_tuple rfl) pa_nil))))) (pw_or (pt_cmpR (op_neD hr.units) (pv 14) (pv 13) (nomark _)) (pw_or1 (pt_not (pt_val (pe_callB (cr_all rfl) (by rfl) T.f_all boot_all (pa_cons (pe_lc (own := [("_law_item", 16)]) (g := gName 16) (tt := tYes) (by rfl) sc_law.nd (pi_seq (pv 14)) (blkOk_by (own := [("_law_item", 16)]) (N := ["_law_script", "_law_stream_here", "_law_states_here", "_law_words", "_law_steps_here", "_law_wanted", "_law_barred", "_law_plant", "_law_draws", "_law_parts_here", "_law_guards", "_law_met", "_law_number", "_law_due_here", "_law_told", "_law_part", "_law_item"]) (sc := defScope s_law) (by decide +kernel)) (fun _ _ _ _ _ => (pg_name (i := 16) sc_law.nd rfl (Or.inl rfl))) (fun _ _ _ _ _ => pts_nil) (fun _ _ _ _ _ => (C8.pe_c C_law_is_integer hr (by decide) (by rfl) (pa_cons (pv 16) pa_nil)))) pa_nil)))))))) (pss_one (ps_ret pe_bl)) pss_nil)
        (pss_one (ps_if (PW.pt (pw_or (pt_not (pt_val (C8.pe_c C_lets hr (by decide) (by rfl) (pa_cons (pv 7) (pa_cons (pv 10) (pa_cons (pv 14) pa_nil)))))) (pw_or1 (pt_cmpR (op_neD hr.units) (C8.pe_c C_shortest_let hr (by decide) (by rfl) (pa_cons (pv 7) (pa_cons (pe_callTy call_tuple_of (by rfl) T.f_tuple PyProof.Rows.boot_tuple (pa_cons (pv 10) pa_nil)) (pa_cons (pv 12) pa_nil)))) (pv 13) (nomark _))))) (pss_one (ps_ret pe_bl)) pss_nil)))))))
        (pss_one (ps_ret (pe_cmpR (op_eqLI GEq.mon X_geq hr (by decide)) (pv 10) (pe_lc (own := [("_law_part", 15)]) (g := gName 15) (tt := tYes) (by rfl) sc_law.nd (pi_seq (pv 9)) (blkOk_by (own := [("_law_part", 15)]) (N := ["_law_script", "_law_stream_here", "_law_states_here", "_law_words", "_law_steps_here", "_law_wanted", "_law_barred", "_law_plant", "_law_draws", "_law_parts_here", "_law_guards", "_law_met", "_law_number", "_law_due_here", "_law_told", "_law_part", "_law_item"]) (sc := defScope s_law) (by decide +kernel)) (fun _ _ _ _ _ => (pg_name (i := 15) sc_law.nd rfl (Or.inl rfl))) (fun _ _ _ _ _ => pts_nil) (fun _ _ _ _ _ => (C8.pe_mk M_Guard hr (by decide) (by rfl) (pa_cons (C8.pe_mk M_View hr (by decide) (by rfl) (pa_cons (pe_ix (ix_tupK (K' := K) rfl) (pv 15) pe_int (fun _ _ => rfl)) (pa_cons (pe_ix (ix_tupK (K' := K) rfl) (pv 15) pe_int (fun _ _ => rfl)) pa_nil))) (pa_cons (pe_ix (ix_tupK (K' := K) rfl) (pv 15) pe_int (fun _ _ => rfl)) (pa_cons (pe_ix (ix_tupK (K' := K) rfl) (pv 15) pe_int (fun _ _ => rfl)) pa_nil)))))) (nomark _))))))))))))))), ?_⟩
  -- the stream, the states
  refine q_set ⟨_, rfl, l, ns, 0, rfl, hl, fun p H1 hp e1 h1 => ?_⟩
  refine q_set ⟨_, rfl, (evi_op0 (Z := fun i => 1 ≤ i ∧ i ≤ 3) (evi_ev ev_c) (evs_draw (n := 3) h1 (ev_var rfl) ev_c (by decide) (by decide)) fun i j hi hj => by omega : EvS _ _ H1 _) H1 (Ex.refl _) _ fun v H2 hv e2 => ?_⟩
  obtain ⟨c, rfl, c1, c3⟩ := hv
  refine ⟨p, c.toNat, by rw [show ((c.toNat : Nat) : Int) = c by omega]; rfl, e2 _ _ h1, by omega, fun sl H3 ss hsl e3 h3 hss sok => ?_⟩
  have e13 := e2.trans e3
  obtain ⟨s0, ss', rfl⟩ : ∃ s0 ss', ss = s0 :: ss' := by
    cases ss with
    | nil => exact absurd hss (by rw [List.length_nil]; omega)
    | cons x y => exact ⟨x, y, rfl⟩
  have hs0 := sok s0 List.mem_cons_self
  have hat0 : atI ((s0 :: ss').map V.int) 0 = some (.int s0) := atI_nat (j := 0) rfl
  -- the words, the steps
  refine q_set ⟨_, rfl, p, 4, rfl, e13 _ _ h1, by decide, fun wl H4 ws hwl e4 h4 hws wok => ?_⟩
  obtain ⟨za, zb, zc, zd, rfl⟩ := four hws
  refine q_set ⟨_, rfl, _, rfl, (el_slice (K := K) (ev_var rfl) (sqk_l h4) eo_none (eo_some ev_c) : EvL _ _ H4 _) H4 (Ex.refl _) _ fun w3 H5 hw3 e5 h5 => ?_⟩
  rw [cut03] at h5
  have e35 := e4.trans e5
  refine ⟨p, sl, w3, s0 :: ss', [za, zb, zc], rfl, (e13.trans e35) _ _ h1, e35 _ _ h3, by rw [List.length_cons]; omega, by omega, sok, h5, by show 1 ≤ 3; decide, by show 3 < 1000; decide, fun z hz => wok z ?_, fun tl H6 rows htl e6 hrows rok => ?_⟩
  · simp only [List.mem_cons] at hz ⊢
    rcases hz with rfl | rfl | rfl | hz
    · exact .inl rfl
    · exact .inr (.inl rfl)
    · exact .inr (.inr (.inl rfl))
    · cases hz
  have e06 : Ex H H6 := e1.trans (e13.trans (e35.trans e6))
  have n12 := rok.2.1
  obtain ⟨ts, ts1, ts2⟩ := id hrows
  have hlen : ts.length = rows.length := Paired.length ts2
  -- the marks, the plant
  refine q_stm ?_
  refine ⟨_, rfl, l, ns, 1, rfl, hl.ex e06, fun p2 H7 hp2 e7 h7 => ?_⟩
  refine ⟨_, rfl, p2, tl, ts.map V.ref, rfl, h7, e7 _ _ ts1, by rw [List.length_map]; omega, fun mq wq bq H8 wn bn hmq e8 h8 mi => ?_⟩
  rw [List.length_map, hlen] at mi
  refine ⟨mq, _, rfl, st_of h8, rfl, _, _, rfl, _, _, rfl, rfl, ?_⟩
  have e68 := e7.trans e8
  have h38 := (e35.trans (e6.trans e68)) _ _ h3
  refine q_set (e_Plant (ea_cons (ev_op (ev_var rfl) ev_c (rv_ixL (sq_of h38) hat0)) (ea_cons (ev_var rfl) (ea_cons (ev_var rfl) (ea_cons (ev_var rfl) ea_nil)))) hs0.1 hs0.2 rok (hrows.ex e68) mi fun pt H9 hpt e9 hplant => ?_)
  have e69 := e68.trans e9
  -- the parts
  refine q_set ⟨_, rfl, l, ns, 2, rfl, hl.ex (e06.trans e69), fun p3 H10 hp3 e10 h10 => ?_⟩
  have e6a := e69.trans e10
  refine q_set ⟨_, rfl, _, rfl, (evi_op0 (Z := fun i => 1 ≤ i ∧ i ≤ 3) (evi_ev ev_c) (evs_draw (n := 3) h10 (ev_var rfl) ev_c (by decide) (by decide)) fun i j hi hj => by omega : EvS _ _ H10 _) H10 (Ex.refl _) _ fun v H11 hv e11 => ?_⟩
  obtain ⟨d, rfl, d1, d3⟩ := hv
  refine ⟨p3, wl, d.toNat, [za, zb, zc, zd], by rw [show ((d.toNat : Nat) : Int) = d by omega]; rfl, e11 _ _ h10, (e5.trans (e6.trans (e6a.trans e11))) _ _ h4, rfl, wok, by omega, by omega, fun pl H12 ps hpl e12 hparts pok => ?_⟩
  have e6c := e6a.trans (e11.trans e12)
  -- the guards, what is met
  refine q_set (el_guards (K := K) (ev_var rfl) hparts pok (fun _ => rfl) (fun _ => rfl) (Ex.refl _) fun gl H13 hgl e13' hgs => ?_)
  have e6d := e6c.trans e13'
  refine q_set ⟨_, rfl, (ev_op (ev_var rfl) ev_c (rv_ixL (sq_of ((e35.trans (e6.trans e6d)) _ _ h3)) hat0) : Ev _ _ H13 _) H13 (Ex.refl _) _ fun H14 e14 => ?_⟩
  refine ⟨_, rfl, tl, pl, s0, rows, ps, rfl, hrows.ex (e6d.trans e14), n12, hparts.ex (e13'.trans e14), pok, fun ml H15 hml e15 hmet => ?_⟩
  have e9f : Ex H9 H15 := e10.trans (e11.trans (e12.trans (e13'.trans (e14.trans e15))))
  have hrows15 := hrows.ex (e6d.trans (e14.trans e15))
  have hparts15 := hparts.ex (e13'.trans (e14.trans e15))
  have hgs15 := hgs.ex (e14.trans e15)
  have hplant15 := hplant.ex e9f
  refine q_forw (fun R q => f_range (n := rows.length) (ea_cons (rows_len hrows15 (ev_var rfl)) ea_nil) (by omega) q) walk_range
    (fun i σ' H' => ∃ u1 u2 u3, σ' = [some (.ref l), some (.ref p), some (.ref sl), some (.ref wl), some (.ref tl), some (.ref wq), some (.ref bq), some (.ref pt), some (.ref p3), some (.ref pl), some (.ref gl), some (.ref ml), u1, u2, u3, none, none] ∧ Ex H15 H')
    (fun H16 e16 => ⟨_, _, _, rfl, e16⟩) (fun _ _ _ _ _ => True.intro) ?_ ?_
  · rintro i x σ' H16 H17 hi ⟨u1, u2, u3, rfl, f1⟩ ⟨rfl, hx⟩
    have hx : x = V.int (i : Nat) := hx.trans (by show V.int (0 + _) = _; rw [Int.zero_add])
    subst hx
    refine q_set ⟨_, rfl, _, rfl, _, rfl, _, rfl, tl, ml, pl, s0, rows, ps, i, rfl, hrows15.ex f1, hi, hmet.ex f1, hparts15.ex f1, pok, ?_⟩
    cases hdue : due rows ps s0 i with
    | none =>
      intro H18 e18
      have g1 := f1.trans e18
      refine q_set ⟨_, rfl, _, rfl, _, rfl, pt, gl, false, s0, rows, ps, i, rfl, hplant15.ex g1, n12, hi, hgs15.ex g1, pok, ?_⟩
      rw [hdue]
      intro H19 e19
      refine q_when (b := true) (et_test (ev_op (ev_var rfl) ev_c rv_isN)) (fun _ H20 e20 => ?_) (fun h => by cases h)
      refine q_when (b := false) (et_test (ev_op (ev_var rfl) ev_c rv_notN)) (fun h => by cases h) fun _ H21 e21 => ?_
      exact ⟨_, _, _, rfl, g1.trans (e19.trans (e20.trans e21))⟩
    | some run =>
      intro r1 H18 hr1 e18 h18
      have g1 := f1.trans e18
      refine q_set ⟨_, rfl, _, rfl, _, rfl, pt, gl, false, s0, rows, ps, i, rfl, hplant15.ex g1, n12, hi, hgs15.ex g1, pok, ?_⟩
      rw [hdue]
      intro r2 H19 hr2 e19 h19
      have h189 := e19 _ _ h18
      have hlr := due_len hi hdue
      refine q_when (b := false) (et_test (ev_op (ev_var rfl) ev_c rv_isN)) (fun h => by cases h) fun _ H20 e20 => ?_
      refine q_when (b := (!true || (false || !true))) (et_or (et_not (et_B (ev_isi (b := true) (ev_var rfl) ev_c (fun _ e => .base (.tup (e _ _ (e20 _ _ h19)))) (by decide +kernel)))) fun _ => et_or (a := false) (et_test (ev_op (ev_var rfl) (ev_var rfl) (rv_neNums (e20 _ _ h19) (e20 _ _ h189)))) fun _ =>
        et_not (et_B (ev_allT (n := (numV run).length) (el_lcS (fun _ => .bl true) (ev_var rfl) (sqk_t (e20 _ _ h19)) hlr (fun _ => rfl) fun j x H1 hx e => ?_)))) (fun h => absurd h (by decide)) fun _ H21 e21 => ?_
      · unfold numV at hx
        rw [List.getElem?_map] at hx
        obtain ⟨kk, _, rfl⟩ := Option.map_eq_some_iff.mp hx
        exact ev_call (ea_cons (ev_var rfl) ea_nil) sv_int
      have g2 := g1.trans (e19.trans (e20.trans e21))
      have h1821 := (e20.trans e21) _ _ h189
      have h1921 := (e20.trans e21) _ _ h19
      have eu : EvU (tCall (spShort P w a) [] C8.E0 (tCons (tVar 7) (tCons (tCB (rTupS K) (tCons (tVar 10) tNil)) (tCons (tVar 12) tNil)))) [some (.ref l), some (.ref p), some (.ref sl), some (.ref wl), some (.ref tl), some (.ref wq), some (.ref bq), some (.ref pt), some (.ref p3), some (.ref pl), some (.ref gl), some (.ref ml), some (.int (i : Nat)), some (.ref r1), some (.ref r2), none, none] H21 (numV run) := by
        intro Ha ea Q' q'
        obtain ⟨gs, y1, y2⟩ := (hgs15.ex g2).ex ea
        refine ⟨_, rfl, _, rfl, gl, gs.map V.ref, rfl, .inl ⟨sq_of y1, fun t ht => ⟨_, rfl, pt, t, true, s0, rows, ps, i, rfl, (hplant15.ex (g2.trans ea)).ex (Ex.new ht), n12, hi, ⟨gs, upd_same, Paired.mapP y2 fun _ _ z => z.ex (Ex.new ht)⟩, pok, ?_⟩⟩⟩
        rw [hdue]
        exact fun r3 Hb hr3 eb h3 => q' r3 Hb (fresh_back (Ex.new ht) hr3) ((Ex.new ht).trans eb) h3
      refine s_when (b := (!true || false)) (et_or (et_not (et_B (ev_call (z := .bl true) (ea_cons (ev_var rfl) (ea_cons (ev_var rfl) (ea_cons (ev_var rfl) ea_nil))) fun H' e Q q _ => ⟨pt, r2, gl, false, s0, rows, ps, run, rfl, hplant15.ex (g2.trans e), hgs15.ex (g2.trans e), pok, e _ _ h1921, (due_valid hi hdue).1, q⟩))) fun _ =>
        et_test (ev_opU1 eu (fun _ _ => ev_var rfl) fun pp Hb hb eb => rv_neNums hb (eb _ _ h1821))) (fun h => absurd h (by decide)) fun _ H22 e22 => ?_
      exact ⟨_, _, _, rfl, g2.trans e22⟩
  · rintro σ' H16 ⟨u1, u2, u3, rfl, f1⟩
    refine ⟨_, rfl, el_guards (K := K) (ev_var rfl) (hparts15.ex f1) pok (fun _ => rfl) (fun _ => rfl) (Ex.refl _) fun gl2 H17 hgl2 e17 hgs2 => ?_⟩
    obtain ⟨gs, y1, y2⟩ := (hgs15.ex f1).ex e17
    obtain ⟨gs2, z1, z2⟩ := hgs2
    exact ⟨⟨gl, gl2, _, _, rfl, rfl, y1, z1, paired_prs pok y2 z2⟩, fun H' _ => k H'⟩
end
end K28
end

section
set_option Elab.async false
set_option linter.constructorNameAsVariable false
set_option maxRecDepth 100000
set_option maxHeartbeats 4000000
namespace K28
open PySem PySem.Spec PyProof.Rows L2 Evl
def adOf (K : PySem.W.Frag) : Ad := ⟨He.ga K "View", He.ga K "Guard", He.ga K "Meeting", He.ga K "Plant"⟩
theorem int_of {mg : Str → Option Value} {x : Str} {i : Int} (h : ∃ t, mg x = some (.int i t)) : ∃ u, mg x = some u ∧ RelV (.int i) u := let ⟨t, e⟩ := h; ⟨_, e, t, rfl⟩
theorem tx_of {K : PySem.W.Frag} {h : Heap} {mg : Str → Option Value} (X : K.In h) (G : h.Ns mainGlobals mg) (c : He.SaysD fa fn K) (ex : exB K = true) : TxC K mg (adOf K) where
  f_isinstance := He.free_ok X G (c.fact 47 (f := .free "isinstance") rfl)
  f_int := He.free_ok X G (c.fact 48 (f := .free "int") rfl)
  f_bool := He.free_ok X G (c.fact 49 (f := .free "bool") rfl)
  f_len := He.free_ok X G (c.fact 50 (f := .free "len") rfl)
  f_list := He.free_ok X G (c.fact 51 (f := .free "list") rfl)
  f_tuple := He.free_ok X G (c.fact 52 (f := .free "tuple") rfl)
  f_str := He.free_ok X G (c.fact 53 (f := .free "str") rfl)
  f_dict := He.free_ok X G (c.fact 54 (f := .free "dict") rfl)
  f_set := He.free_ok X G (c.fact 55 (f := .free "set") rfl)
  f_sorted := He.free_ok X G (c.fact 56 (f := .free "sorted") rfl)
  f_all := He.free_ok X G (c.fact 57 (f := .free "all") rfl)
  f_enumerate := He.free_ok X G (c.fact 58 (f := .free "enumerate") rfl)
  f_zip := He.free_ok X G (c.fact 59 (f := .free "zip") rfl)
  f_range := He.free_ok X G (c.fact 60 (f := .free "range") rfl)
  i_MOST_LETTERS := int_of (He.int_ok X G (c.fact 61 (f := .int "MOST_LETTERS" 12) rfl))
  i_MOST_STATE := int_of (He.int_ok X G (c.fact 62 (f := .int "MOST_STATE" 99) rfl))
  i_MOST_NODES := int_of (He.int_ok X G (c.fact 63 (f := .int "MOST_NODES" 200) rfl))
  i_MOST_GUARDS := int_of (He.int_ok X G (c.fact 64 (f := .int "MOST_GUARDS" 3) rfl))
  i_MOST_PLACES := int_of (He.int_ok X G (c.fact 65 (f := .int "MOST_PLACES" 5000) rfl))
  i_MOST_STEPS := int_of (He.int_ok X G (c.fact 66 (f := .int "MOST_STEPS" 60) rfl))
  i_MOST_LEAVING := int_of (He.int_ok X G (c.fact 67 (f := .int "MOST_LEAVING" 8) rfl))
  i_MOST_WORDS := int_of (He.int_ok X G (c.fact 68 (f := .int "MOST_WORDS" 12) rfl))
  g_View := He.glo_ok X G (c.fact 43 (f := .glo "View") rfl)
  g_Guard := He.glo_ok X G (c.fact 44 (f := .glo "Guard") rfl)
  c_View := He.cls_ok (c.fact 69 (f := .cls "View") rfl)
  c_Guard := He.cls_ok (c.fact 73 (f := .cls "Guard") rfl)
  c_Meeting := He.cls_ok (c.fact 78 (f := .cls "Meeting") rfl)
  c_Plant := He.cls_ok (c.fact 84 (f := .cls "Plant") rfl)
  n_table := He.noat_ok (c.fact 71 (f := .noat "View" "table") rfl)
  n_can := He.noat_ok (c.fact 72 (f := .noat "View" "can") rfl)
  n_own := He.noat_ok (c.fact 75 (f := .noat "Guard" "own") rfl)
  n_lines := He.noat_ok (c.fact 76 (f := .noat "Guard" "lines") rfl)
  n_arrows := He.noat_ok (c.fact 77 (f := .noat "Guard" "arrows") rfl)
  n_state := He.noat_ok (c.fact 80 (f := .noat "Meeting" "state") rfl)
  n_nodes := He.noat_ok (c.fact 81 (f := .noat "Meeting" "nodes") rfl)
  n_back := He.noat_ok (c.fact 82 (f := .noat "Meeting" "back") rfl)
  n_number := He.noat_ok (c.fact 83 (f := .noat "Meeting" "number") rfl)
  n_wanted_at := He.noat_ok (c.fact 86 (f := .noat "Plant" "wanted_at") rfl)
  n_barred_at := He.noat_ok (c.fact 87 (f := .noat "Plant" "barred_at") rfl)
  n_first := He.noat_ok (c.fact 88 (f := .noat "Plant" "first") rfl)
  n_rows := He.noat_ok (c.fact 89 (f := .noat "Plant" "rows") rfl)
  n_leaving := He.noat_ok (c.fact 90 (f := .noat "Plant" "leaving") rfl)
  n_reached := He.noat_ok (c.fact 91 (f := .noat "Plant" "reached") rfl)
  is_View := insB_ok (He.cls_ok (c.fact 69 (f := .cls "View") rfl)) (He.ba ex).1
  is_Guard := insB_ok (He.cls_ok (c.fact 73 (f := .cls "Guard") rfl)) (He.ba ex).2
theorem facts {P : Program} {w : World} {K : PySem.W.Frag} {h : Heap} {mg : Str → Option Value} {fx : Addr} (X : K.In h) (G : h.Ns mainGlobals mg) (hfa : mg ("law" : Str) = some (.ref fx)) (c : He.SaysD fa fn K) (ex : exB K = true) :
    ∃ fd : FuncData, (∀ (s : Shared) (v : Value), BindsTo s fd ⟨[v], []⟩ [("_law_script", v)]) ∧ ∀ base : Heap, K.In base → base.Ns mainGlobals mg → FnOk P w K mg base L2.CX0 9 fx fd ["_law_script"] (spLaw K) := by
  have T := tx_of X G c ex
  have D_is_integer : Dfn K mg "is_integer" s_is_integer := let ⟨fd, F⟩ := c.def_ 0 (d := d_is_integer) rfl; ⟨_, fd, F, He.glo_ok X G (c.fact 0 (f := .glo "is_integer") rfl)⟩
  have D_law_is_integer : Dfn K mg "_law_is_integer" s_law_is_integer := let ⟨fd, F⟩ := c.def_ 38 (d := d_law_is_integer) rfl; ⟨_, fd, F, He.glo_ok X G (c.fact 30 (f := .glo "_law_is_integer") rfl)⟩
  have D_is_row : Dfn K mg "is_row" s_is_row := let ⟨fd, F⟩ := c.def_ 1 (d := d_is_row) rfl; ⟨_, fd, F, He.glo_ok X G (c.fact 1 (f := .glo "is_row") rfl)⟩
  have D_is_name : Dfn K mg "is_name" s_is_name := let ⟨fd, F⟩ := c.def_ 2 (d := d_is_name) rfl; ⟨_, fd, F, He.glo_ok X G (c.fact 2 (f := .glo "is_name") rfl)⟩
  have D_is_state : Dfn K mg "is_state" s_is_state := let ⟨fd, F⟩ := c.def_ 3 (d := d_is_state) rfl; ⟨_, fd, F, He.glo_ok X G (c.fact 3 (f := .glo "is_state") rfl)⟩
  have D_is_number_below : Dfn K mg "is_number_below" s_is_number_below := let ⟨fd, F⟩ := c.def_ 4 (d := d_is_number_below) rfl; ⟨_, fd, F, He.glo_ok X G (c.fact 4 (f := .glo "is_number_below") rfl)⟩
  have D_first_other : Dfn K mg "first_other" s_first_other := let ⟨fd, F⟩ := c.def_ 5 (d := d_first_other) rfl; ⟨_, fd, F, He.glo_ok X G (c.fact 5 (f := .glo "first_other") rfl)⟩
  have D_checked_sights : Dfn K mg "checked_sights" s_checked_sights := let ⟨fd, F⟩ := c.def_ 8 (d := d_checked_sights) rfl; ⟨_, fd, F, He.glo_ok X G (c.fact 8 (f := .glo "checked_sights") rfl)⟩
  have D_checked_words : Dfn K mg "checked_words" s_checked_words := let ⟨fd, F⟩ := c.def_ 9 (d := d_checked_words) rfl; ⟨_, fd, F, He.glo_ok X G (c.fact 9 (f := .glo "checked_words") rfl)⟩
  have D_marked : Dfn K mg "marked" s_marked := let ⟨fd, F⟩ := c.def_ 10 (d := d_marked) rfl; ⟨_, fd, F, He.glo_ok X G (c.fact 10 (f := .glo "marked") rfl)⟩
  obtain ⟨fd_View_init, F_View_init⟩ := c.def_ 11 (d := d_View_init) rfl
  obtain ⟨fd_View_copy, F_View_copy⟩ := c.def_ 12 (d := d_View_copy) rfl
  have D_sights_told : Dfn K mg "sights_told" s_sights_told := let ⟨fd, F⟩ := c.def_ 14 (d := d_sights_told) rfl; ⟨_, fd, F, He.glo_ok X G (c.fact 11 (f := .glo "sights_told") rfl)⟩
  have D_holding : Dfn K mg "holding" s_holding := let ⟨fd, F⟩ := c.def_ 20 (d := d_holding) rfl; ⟨_, fd, F, He.glo_ok X G (c.fact 15 (f := .glo "holding") rfl)⟩
  have D_moved : Dfn K mg "moved" s_moved := let ⟨fd, F⟩ := c.def_ 21 (d := d_moved) rfl; ⟨_, fd, F, He.glo_ok X G (c.fact 16 (f := .glo "moved") rfl)⟩
  have D_is_place : Dfn K mg "is_place" s_is_place := let ⟨fd, F⟩ := c.def_ 16 (d := d_is_place) rfl; ⟨_, fd, F, He.glo_ok X G (c.fact 13 (f := .glo "is_place") rfl)⟩
  have D_checked_arrows : Dfn K mg "checked_arrows" s_checked_arrows := let ⟨fd, F⟩ := c.def_ 17 (d := d_checked_arrows) rfl; ⟨_, fd, F, He.glo_ok X G (c.fact 14 (f := .glo "checked_arrows") rfl)⟩
  have D_checked_lines : Dfn K mg "checked_lines" s_checked_lines := let ⟨fd, F⟩ := c.def_ 15 (d := d_checked_lines) rfl; ⟨_, fd, F, He.glo_ok X G (c.fact 12 (f := .glo "checked_lines") rfl)⟩
  obtain ⟨fd_Guard_init, F_Guard_init⟩ := c.def_ 18 (d := d_Guard_init) rfl
  have D_is_step : Dfn K mg "is_step" s_is_step := let ⟨fd, F⟩ := c.def_ 31 (d := d_is_step) rfl; ⟨_, fd, F, He.glo_ok X G (c.fact 24 (f := .glo "is_step") rfl)⟩
  have D_checked_steps : Dfn K mg "checked_steps" s_checked_steps := let ⟨fd, F⟩ := c.def_ 32 (d := d_checked_steps) rfl; ⟨_, fd, F, He.glo_ok X G (c.fact 25 (f := .glo "checked_steps") rfl)⟩
  have D_checked_marks : Dfn K mg "checked_marks" s_checked_marks := let ⟨fd, F⟩ := c.def_ 33 (d := d_checked_marks) rfl; ⟨_, fd, F, He.glo_ok X G (c.fact 26 (f := .glo "checked_marks") rfl)⟩
  have D_reached_states : Dfn K mg "reached_states" s_reached_states := let ⟨fd, F⟩ := c.def_ 34 (d := d_reached_states) rfl; ⟨_, fd, F, He.glo_ok X G (c.fact 27 (f := .glo "reached_states") rfl)⟩
  obtain ⟨fd_Plant_init, F_Plant_init⟩ := c.def_ 35 (d := d_Plant_init) rfl
  have D_check_guards : Dfn K mg "check_guards" s_check_guards := let ⟨fd, F⟩ := c.def_ 22 (d := d_check_guards) rfl; ⟨_, fd, F, He.glo_ok X G (c.fact 17 (f := .glo "check_guards") rfl)⟩
  have D_is_held : Dfn K mg "is_held" s_is_held := let ⟨fd, F⟩ := c.def_ 23 (d := d_is_held) rfl; ⟨_, fd, F, He.glo_ok X G (c.fact 18 (f := .glo "is_held") rfl)⟩
  have D_nodes_behind : Dfn K mg "nodes_behind" s_nodes_behind := let ⟨fd, F⟩ := c.def_ 24 (d := d_nodes_behind) rfl; ⟨_, fd, F, He.glo_ok X G (c.fact 19 (f := .glo "nodes_behind") rfl)⟩
  have D_wrong_place : Dfn K mg "wrong_place" s_wrong_place := let ⟨fd, F⟩ := c.def_ 6 (d := d_wrong_place) rfl; ⟨_, fd, F, He.glo_ok X G (c.fact 6 (f := .glo "wrong_place") rfl)⟩
  have D_check_run : Dfn K mg "check_run" s_check_run := let ⟨fd, F⟩ := c.def_ 7 (d := d_check_run) rfl; ⟨_, fd, F, He.glo_ok X G (c.fact 7 (f := .glo "check_run") rfl)⟩
  have D_first_held : Dfn K mg "first_held" s_first_held := let ⟨fd, F⟩ := c.def_ 25 (d := d_first_held) rfl; ⟨_, fd, F, He.glo_ok X G (c.fact 20 (f := .glo "first_held") rfl)⟩
  have D_lets : Dfn K mg "lets" s_lets := let ⟨fd, F⟩ := c.def_ 26 (d := d_lets) rfl; ⟨_, fd, F, He.glo_ok X G (c.fact 21 (f := .glo "lets") rfl)⟩
  obtain ⟨fd_Meeting_init, F_Meeting_init⟩ := c.def_ 27 (d := d_Meeting_init) rfl
  obtain ⟨fd_Meeting_run, F_Meeting_run⟩ := c.def_ 28 (d := d_Meeting_run) rfl
  have D_meetings : Dfn K mg "meetings" s_meetings := let ⟨fd, F⟩ := c.def_ 29 (d := d_meetings) rfl; ⟨_, fd, F, He.glo_ok X G (c.fact 22 (f := .glo "meetings") rfl)⟩
  have D_shortest_let : Dfn K mg "shortest_let" s_shortest_let := let ⟨fd, F⟩ := c.def_ 30 (d := d_shortest_let) rfl; ⟨_, fd, F, He.glo_ok X G (c.fact 23 (f := .glo "shortest_let") rfl)⟩
  have D_law_stream : Dfn K mg "_law_stream" s_law_stream := let ⟨fd, F⟩ := c.def_ 36 (d := d_law_stream) rfl; ⟨_, fd, F, He.glo_ok X G (c.fact 28 (f := .glo "_law_stream") rfl)⟩
  have D_law_draw : Dfn K mg "_law_draw" s_law_draw := let ⟨fd, F⟩ := c.def_ 37 (d := d_law_draw) rfl; ⟨_, fd, F, He.glo_ok X G (c.fact 29 (f := .glo "_law_draw") rfl)⟩
  have D_law_states : Dfn K mg "_law_states" s_law_states := let ⟨fd, F⟩ := c.def_ 40 (d := d_law_states) rfl; ⟨_, fd, F, He.glo_ok X G (c.fact 32 (f := .glo "_law_states") rfl)⟩
  have D_law_names : Dfn K mg "_law_names" s_law_names := let ⟨fd, F⟩ := c.def_ 39 (d := d_law_names) rfl; ⟨_, fd, F, He.glo_ok X G (c.fact 31 (f := .glo "_law_names") rfl)⟩
  have D_law_steps : Dfn K mg "_law_steps" s_law_steps := let ⟨fd, F⟩ := c.def_ 41 (d := d_law_steps) rfl; ⟨_, fd, F, He.glo_ok X G (c.fact 33 (f := .glo "_law_steps") rfl)⟩
  have D_law_marks : Dfn K mg "_law_marks" s_law_marks := let ⟨fd, F⟩ := c.def_ 42 (d := d_law_marks) rfl; ⟨_, fd, F, He.glo_ok X G (c.fact 34 (f := .glo "_law_marks") rfl)⟩
  have D_law_view : Dfn K mg "_law_view" s_law_view := let ⟨fd, F⟩ := c.def_ 43 (d := d_law_view) rfl; ⟨_, fd, F, He.glo_ok X G (c.fact 35 (f := .glo "_law_view") rfl)⟩
  have D_law_guard : Dfn K mg "_law_guard" s_law_guard := let ⟨fd, F⟩ := c.def_ 44 (d := d_law_guard) rfl; ⟨_, fd, F, He.glo_ok X G (c.fact 36 (f := .glo "_law_guard") rfl)⟩
  have D_law_parts : Dfn K mg "_law_parts" s_law_parts := let ⟨fd, F⟩ := c.def_ 45 (d := d_law_parts) rfl; ⟨_, fd, F, He.glo_ok X G (c.fact 37 (f := .glo "_law_parts") rfl)⟩
  have D_law_is_held : Dfn K mg "_law_is_held" s_law_is_held := let ⟨fd, F⟩ := c.def_ 46 (d := d_law_is_held) rfl; ⟨_, fd, F, He.glo_ok X G (c.fact 38 (f := .glo "_law_is_held") rfl)⟩
  have D_law_after : Dfn K mg "_law_after" s_law_after := let ⟨fd, F⟩ := c.def_ 47 (d := d_law_after) rfl; ⟨_, fd, F, He.glo_ok X G (c.fact 39 (f := .glo "_law_after") rfl)⟩
  have D_law_due : Dfn K mg "_law_due" s_law_due := let ⟨fd, F⟩ := c.def_ 49 (d := d_law_due) rfl; ⟨_, fd, F, He.glo_ok X G (c.fact 41 (f := .glo "_law_due") rfl)⟩
  have D_law_meet : Dfn K mg "_law_meet" s_law_meet := let ⟨fd, F⟩ := c.def_ 48 (d := d_law_meet) rfl; ⟨_, fd, F, He.glo_ok X G (c.fact 40 (f := .glo "_law_meet") rfl)⟩
  obtain ⟨fd_View_eq, F_View_eq⟩ := c.def_ 13 (d := d_View_eq) rfl
  obtain ⟨fd_Guard_eq, F_Guard_eq⟩ := c.def_ 19 (d := d_Guard_eq) rfl
  obtain ⟨fd_law, F_law⟩ := c.def_ 50 (d := d_law) rfl
  have e := hfa.symm.trans (He.glo_ok X G (c.fact 42 (f := .glo "law") rfl))
  cases e
  have b := FunD.bindsA (ps := ["_law_script"]) F_law fun _ _ _ _ _ _ us hl => match us, hl with | [_], _ => rfl
  refine ⟨fd_law, fun s v => b s [v] rfl, fun base _ _ => ?_⟩
  have C_is_integer := ok_is_integer (P := P) (w := w) (base := base) T.toTx D_is_integer
  have C_law_is_integer := ok_law_is_integer (P := P) (w := w) (base := base) T.toTx D_law_is_integer
  have C_is_row := ok_is_row (P := P) (w := w) (base := base) T.toTx D_is_row
  have C_is_name := ok_is_name (P := P) (w := w) (base := base) T.toTx D_is_name
  have C_is_state := ok_is_state (P := P) (w := w) (base := base) T.toTx D_is_state C_is_integer
  have C_is_number_below := ok_is_number_below (P := P) (w := w) (base := base) T.toTx D_is_number_below C_is_integer
  have C_first_other := ok_first_other (P := P) (w := w) (base := base) T.toTx D_first_other C_is_name
  have C_checked_sights := ok_checked_sights (P := P) (w := w) (base := base) T.toTx D_checked_sights C_is_name
  have C_checked_words := ok_checked_words (P := P) (w := w) (base := base) T.toTx D_checked_words C_is_row C_first_other
  have C_marked := ok_marked (P := P) (w := w) (base := base) T.toTx D_marked
  have K_View_init := ok_View_init (P := P) (w := w) (base := base) T F_View_init C_checked_sights C_checked_words C_marked
  obtain ⟨ds_View_init, v_View_init, b_View_init⟩ := F_View_init.binds1 (ps := ["self", "sights", "holds"]) 3 2 (fun z => by cases z) rfl fun _ _ _ _ _ _ _ us its h1 h2 => match us, its, h1, h2 with | [_, _, _], [_, _], _, _ => ⟨_, rfl, rfl⟩
  cases v_View_init
  have M_View : C8.Mak P w K mg base 4 "View" (adOf K).View (spViewInit (adOf K).View) [] := ⟨_, _, _, _, He.mkr_ok (c.fact 70 (f := .mkr "View") rfl), K_View_init, He.glo_ok X G (c.fact 43 (f := .glo "View") rfl), b_View_init, .nil⟩
  have K_View_copy := ok_View_copy (P := P) (w := w) (base := base) T F_View_copy M_View
  have X_copy : C8.Met P w K mg base 6 (adOf K).View "copy" (spCopy (adOf K).View) [] := ⟨_, _, _, _, T.c_View, He.meth_ok (c.fact 92 (f := .meth "View" "copy") rfl), K_View_copy, (F_View_copy.bindsN fun _ _ _ _ _ _ us hl => match us, hl with | [_], _ => rfl), .nil⟩
  have C_sights_told := ok_sights_told (P := P) (w := w) (base := base) T D_sights_told
  have C_holding := ok_holding (P := P) (w := w) (base := base) T D_holding
  have C_moved := ok_moved (P := P) (w := w) (base := base) T D_moved
  have C_is_place := ok_is_place (P := P) (w := w) (base := base) T.toTx D_is_place C_is_number_below C_is_name
  have C_checked_arrows := ok_checked_arrows (P := P) (w := w) (base := base) T D_checked_arrows C_sights_told C_is_place C_is_number_below
  have C_checked_lines := ok_checked_lines (P := P) (w := w) (base := base) T D_checked_lines C_is_row C_is_name
  have K_Guard_init := ok_Guard_init (P := P) (w := w) (base := base) T F_Guard_init X_copy C_checked_lines C_checked_arrows
  have M_Guard : C8.Mak P w K mg base 7 "Guard" (adOf K).Guard (spGuardInit P w (adOf K)) [] := ⟨_, _, _, _, He.mkr_ok (c.fact 74 (f := .mkr "Guard") rfl), K_Guard_init, He.glo_ok X G (c.fact 44 (f := .glo "Guard") rfl), (F_Guard_init.bindsN fun _ _ _ _ _ _ us hl => match us, hl with | [_, _, _, _], _ => rfl), .nil⟩
  have C_is_step := ok_is_step (P := P) (w := w) (base := base) T.toTx D_is_step C_is_state C_is_name
  have C_checked_steps := ok_checked_steps (P := P) (w := w) (base := base) T.toTx D_checked_steps C_is_row C_is_step
  have C_checked_marks := ok_checked_marks (P := P) (w := w) (base := base) T.toTx D_checked_marks C_is_row C_is_number_below
  have C_reached_states := ok_reached_states (P := P) (w := w) (base := base) T.toTx D_reached_states
  have K_Plant_init := ok_Plant_init (P := P) (w := w) (base := base) T F_Plant_init C_is_state C_checked_steps C_checked_marks C_reached_states
  obtain ⟨ds_Plant_init, v_Plant_init, b_Plant_init⟩ := F_Plant_init.binds1 (ps := ["self", "start", "steps", "wanted", "barred"]) 5 1 (fun z => by cases z) rfl fun _ _ _ _ _ _ _ us its h1 h2 => match us, its, h1, h2 with | [_, _, _, _, _], [_], _, _ => ⟨_, rfl, rfl⟩
  cases v_Plant_init
  have M_Plant : C8.Mak P w K mg base 5 "Plant" (adOf K).Plant (spPlantInit (adOf K)) [] := ⟨_, _, _, _, He.mkr_ok (c.fact 85 (f := .mkr "Plant") rfl), K_Plant_init, He.glo_ok X G (c.fact 46 (f := .glo "Plant") rfl), b_Plant_init, .nil⟩
  have C_check_guards := ok_check_guards (P := P) (w := w) (base := base) T D_check_guards C_is_row
  have C_is_held := ok_is_held (P := P) (w := w) (base := base) T D_is_held C_holding
  have C_nodes_behind := ok_nodes_behind (P := P) (w := w) (base := base) T D_nodes_behind C_moved
  have C_wrong_place := ok_wrong_place (P := P) (w := w) (base := base) T D_wrong_place C_is_number_below
  have C_check_run := ok_check_run (P := P) (w := w) (base := base) T D_check_run C_wrong_place
  have C_first_held := ok_first_held (P := P) (w := w) (base := base) T D_first_held C_check_guards C_check_run C_is_held C_nodes_behind
  have C_lets := ok_lets (P := P) (w := w) (base := base) D_lets C_first_held
  have K_Meeting_init := ok_Meeting_init (P := P) (w := w) (base := base) T F_Meeting_init
  have M_Meeting : C8.Mak P w K mg base 1 "Meeting" (adOf K).Meeting (spMeetInit (adOf K)) [] := ⟨_, _, _, _, He.mkr_ok (c.fact 79 (f := .mkr "Meeting") rfl), K_Meeting_init, He.glo_ok X G (c.fact 45 (f := .glo "Meeting") rfl), (F_Meeting_init.bindsN fun _ _ _ _ _ _ us hl => match us, hl with | [_, _, _, _, _], _ => rfl), .nil⟩
  have K_Meeting_run := ok_Meeting_run (P := P) (w := w) (base := base) T F_Meeting_run
  have X_run : C8.Met P w K mg base 1 (adOf K).Meeting "run" (spRun (adOf K)) [] := ⟨_, _, _, _, T.c_Meeting, He.meth_ok (c.fact 95 (f := .meth "Meeting" "run") rfl), K_Meeting_run, (F_Meeting_run.bindsN fun _ _ _ _ _ _ us hl => match us, hl with | [_], _ => rfl), .nil⟩
  have C_meetings := ok_meetings (P := P) (w := w) (base := base) T D_meetings M_Meeting C_is_held C_nodes_behind
  have C_shortest_let := ok_shortest_let (P := P) (w := w) (base := base) T D_shortest_let C_check_guards C_is_number_below C_meetings C_is_held X_run
  have C_law_stream := ok_law_stream (P := P) (w := w) (base := base) T.toTx D_law_stream
  have C_law_draw := ok_law_draw (P := P) (w := w) (base := base) T.toTx D_law_draw
  have C_law_states := ok_law_states (P := P) (w := w) (base := base) T.toTx D_law_states C_law_draw
  have C_law_names := ok_law_names (P := P) (w := w) (base := base) T.toTx D_law_names C_law_draw
  have C_law_steps := ok_law_steps (P := P) (w := w) (base := base) T.toTx D_law_steps C_law_draw
  have C_law_marks := ok_law_marks (P := P) (w := w) (base := base) T.toTx D_law_marks C_law_draw
  have C_law_view := ok_law_view (P := P) (w := w) (base := base) T.toTx D_law_view C_law_draw
  have C_law_guard := ok_law_guard (P := P) (w := w) (base := base) T.toTx D_law_guard C_law_draw
  have C_law_parts := ok_law_parts (P := P) (w := w) (base := base) T.toTx D_law_parts C_law_draw C_law_view C_law_guard
  have C_law_is_held := ok_law_is_held (P := P) (w := w) (base := base) T.toTx D_law_is_held
  have C_law_after := ok_law_after (P := P) (w := w) (base := base) T.toTx D_law_after
  have C_law_due := ok_law_due (P := P) (w := w) (base := base) T.toTx D_law_due C_law_is_held
  have C_law_meet := ok_law_meet (P := P) (w := w) (base := base) T.toTx D_law_meet C_law_is_held C_law_after
  have K_View_eq := ok_View_eq (P := P) (w := w) (base := base) T F_View_eq
  have X_eq : C8.Met P w K mg base 1 (adOf K).View "__eq__" (spEq (VEq (adOf K).View)) [] := ⟨_, _, _, _, T.c_View, He.meth_ok (c.fact 93 (f := .meth "View" "__eq__") rfl), K_View_eq, (F_View_eq.bindsN fun _ _ _ _ _ _ us hl => match us, hl with | [_, _], _ => rfl), .nil⟩
  have K_Guard_eq := ok_Guard_eq (P := P) (w := w) (base := base) T F_Guard_eq X_eq
  have X_geq : C8.Met P w K mg base 2 (adOf K).Guard "__eq__" (spEq (GEq P w (adOf K))) [] := ⟨_, _, _, _, T.c_Guard, He.meth_ok (c.fact 94 (f := .meth "Guard" "__eq__") rfl), K_Guard_eq, (F_Guard_eq.bindsN fun _ _ _ _ _ _ us hl => match us, hl with | [_, _], _ => rfl), .nil⟩
  exact ok_law (P := P) (w := w) (base := base) T F_law C_law_stream C_law_draw C_law_states C_law_names C_law_steps C_law_marks C_law_parts C_law_meet C_law_due C_law_is_integer C_shortest_let C_lets M_Plant M_View M_Guard X_geq
end K28
end

section
set_option Elab.async false
set_option maxRecDepth 100000
set_option maxHeartbeats 0
open PySem PySem.W PySem.Calls PyProof.Rows
theorem PySem.Challenge.cw_leastguards_k28_whole_shortest_let_runs_holds : PySem.Challenge.rw_leastguards_k28_whole_shortest_let_runs.Holds := by
  w_on; o_law
  refine HandSHeadRun.head_any (r := K28.R) (q := view K28.R.prog [83]) (H := K28.hk) (ob := K28.ob) (M := 10000) (loose := K28.loose) (d := HandSHeadRun.topDef K28.R.prog 83) (kwd := []) K28.ob_eq
    (by kernel_rfl) (fun s => by kernel_rfl) K28.run (by kernel_rfl) (by kernel_rfl) (by kernel_rfl) (by rfl) (by first | assumption | decide +kernel) (by decide +kernel) ⟨rfl, rfl, rfl, rfl, rfl, by decide +kernel⟩ ?hw ?hc
  case hw => w_witness2
  case hc =>
    refine L2.walk_ofE (l := PySem.Challenge.rw_leastguards_k28_whole_shortest_let_runs) (n := 63) (k := 9) (x := "_law_script") (CX := L2.CX0) rfl (by decide) (by kernel_rfl) ⟨rfl, by decide, by decide⟩ ?F (fun _ _ _ _ z => z)
    intro w mg fx h Y G hmg0
    obtain ⟨K, KX, c, ex⟩ := Y
    have hmg : mg ("law" : PySem.Str) = some (.ref fx) := by
      have e : (HandSHeadRun.topDef K28.R.prog 83).name = ("law" : PySem.Str) := by kernel_rfl
      rw [← e]
      exact hmg0
    obtain ⟨fd, hb, hF⟩ := K28.facts (P := (PySem.Challenge.rw_leastguards_k28_whole_shortest_let_runs).prog) (w := w) KX G hmg c ex
    exact ⟨K, fd, K28.spLaw K, KX, hb, fun H a ns hl _ hS => ⟨a, ns, rfl, hS, fun _ => rfl⟩, hF⟩
end
