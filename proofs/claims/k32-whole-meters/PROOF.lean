import PyProof.Rows.All
import Wide.All
import OpenK.AllK
import Wide.FinOn
import KE.KStateDown
import Lean
import HandS.ForMost
import HandS.Exc
import HandS.ExcOwn
import HandS.ExcIs
import HandS.Defaults
import HandS.Head0
import HandS.Head1
import HandS.Head2
import HandS.HeadEnd
import HandS.HeadHook1
import HandS.HeadHook2
import HandS.HeadHook3
import HandS.HeadHook4
import PySem.Challenge.RW_toldwhensure_k32_whole_meters_through_li
import HandS.Walk
import HandS.Zip
import HandS.Deep
import HandS.TupAny
import HandS.Style
import HandS.Flow
import HandS.SetKeys
import HandS.More
import HandS.TupSets
import HandS.SortOrd
import HandS.TupLe
import HandS.HotCalls
import KE.GoesEnum
import PyProof.DictMoreH
import HandS.SortInts
import HandS.Small
import HandS.Strs
import HandS.SetTxt0
import HandS.SetFor
import HandS.Text
set_option Elab.async false
set_option linter.all false
set_option maxRecDepth 100000
section
set_option maxHeartbeats 4000000
namespace Tw
open PySem L2

def top (i : Nat) : Stmt := PySem.Challenge.pw_toldwhensure_k32_whole_meters_through_li.main.body.getD i (.Pass ⟨0, 0, 0, 0⟩)
abbrev s_Line_init : Stmt := inClass (top 13) 0
abbrev s_Line_need : Stmt := inClass (top 13) 1
abbrev s_Line_send : Stmt := inClass (top 13) 2
abbrev s_Line_waiting : Stmt := inClass (top 13) 3
abbrev s_Line_deliver : Stmt := inClass (top 13) 4
abbrev s_Line_lose : Stmt := inClass (top 13) 5
abbrev s_Line_double : Stmt := inClass (top 13) 6
abbrev s_meter_of : Stmt := top 15
abbrev s_Source_init : Stmt := inClass (top 17) 0
abbrev s_Source_make : Stmt := inClass (top 17) 1
abbrev s_Source_is_value : Stmt := inClass (top 17) 2
abbrev s_Source_need : Stmt := inClass (top 17) 3
abbrev s_Source_record : Stmt := inClass (top 17) 4
abbrev s_Source_need_open : Stmt := inClass (top 17) 5
abbrev s_Source_add : Stmt := inClass (top 17) 6
abbrev s_Source_correct : Stmt := inClass (top 17) 7
abbrev s_Source_take_back : Stmt := inClass (top 17) 8
abbrev s_Source_close : Stmt := inClass (top 17) 9
abbrev s_Source_check : Stmt := inClass (top 17) 10
abbrev s_Source_log : Stmt := inClass (top 17) 11
abbrev s_Source_due : Stmt := inClass (top 17) 12
abbrev s_Source_acknowledge : Stmt := inClass (top 17) 13
abbrev s_versions_right : Stmt := top 19
abbrev s_slots_right : Stmt := top 20
abbrev s_is_history : Stmt := top 21
abbrev s_is_read : Stmt := top 22
abbrev s_is_closed : Stmt := top 23
abbrev s_is_true : Stmt := top 24
abbrev s_agrees : Stmt := top 25
abbrev s_reads_of : Stmt := top 26
abbrev s_reads_about : Stmt := top 28
abbrev s_received_of : Stmt := top 29
abbrev s_closes_of : Stmt := top 30
abbrev s_offsets_of : Stmt := top 31
abbrev s_limits_of : Stmt := top 32
abbrev s_slots_within : Stmt := top 33
abbrev s_hidden_in : Stmt := top 34
abbrev s_reads_right : Stmt := top 36
abbrev s_closes_right : Stmt := top 37
abbrev s_stamps_right : Stmt := top 38
abbrev s_meter_possible : Stmt := top 39
abbrev s_is_possible : Stmt := top 40
abbrev s_law_draws : Stmt := top 42
abbrev s_law_take : Stmt := top 43
abbrev s_law_cell : Stmt := top 44
abbrev s_law_word : Stmt := top 45
abbrev s_law_some_word : Stmt := top 46
abbrev s_law_reading : Stmt := top 48
abbrev s_law_plan : Stmt := top 49
abbrev s_law_error_name : Stmt := top 50
abbrev s_law_do : Stmt := top 55
abbrev s_law_stamp : Stmt := top 56
abbrev s_law_entry : Stmt := top 57
abbrev s_law_deed : Stmt := top 58
abbrev s_law_offset : Stmt := top 59
abbrev s_law_logs : Stmt := top 61
abbrev s_law_right : Stmt := top 62
abbrev s_law_moves : Stmt := top 63
abbrev s_law_rest : Stmt := top 64
abbrev s_law : Stmt := top 65
def fns : List He.DefD := [
  ⟨("Line", some "__init__"), "__init__", "Line.__init__", defArgs s_Line_init, defBody s_Line_init, defScope s_Line_init, [], []⟩,
  ⟨("Line", some "_need"), "_need", "Line._need", defArgs s_Line_need, defBody s_Line_need, defScope s_Line_need, [], []⟩,
  ⟨("Line", some "send"), "send", "Line.send", defArgs s_Line_send, defBody s_Line_send, defScope s_Line_send, [], []⟩,
  ⟨("Line", some "waiting"), "waiting", "Line.waiting", defArgs s_Line_waiting, defBody s_Line_waiting, defScope s_Line_waiting, [], []⟩,
  ⟨("Line", some "deliver"), "deliver", "Line.deliver", defArgs s_Line_deliver, defBody s_Line_deliver, defScope s_Line_deliver, [], []⟩,
  ⟨("Line", some "lose"), "lose", "Line.lose", defArgs s_Line_lose, defBody s_Line_lose, defScope s_Line_lose, [], []⟩,
  ⟨("Line", some "double"), "double", "Line.double", defArgs s_Line_double, defBody s_Line_double, defScope s_Line_double, [], []⟩,
  ⟨("meter_of", none), "meter_of", "meter_of", defArgs s_meter_of, defBody s_meter_of, defScope s_meter_of, [], []⟩,
  ⟨("Source", some "__init__"), "__init__", "Source.__init__", defArgs s_Source_init, defBody s_Source_init, defScope s_Source_init, [], []⟩,
  ⟨("Source", some "_make"), "_make", "Source._make", defArgs s_Source_make, defBody s_Source_make, defScope s_Source_make, [], []⟩,
  ⟨("Source", some "_is_value"), "_is_value", "Source._is_value", defArgs s_Source_is_value, defBody s_Source_is_value, defScope s_Source_is_value, [], []⟩,
  ⟨("Source", some "_need"), "_need", "Source._need", defArgs s_Source_need, defBody s_Source_need, defScope s_Source_need, [], []⟩,
  ⟨("Source", some "record"), "record", "Source.record", defArgs s_Source_record, defBody s_Source_record, defScope s_Source_record, [], []⟩,
  ⟨("Source", some "_need_open"), "_need_open", "Source._need_open", defArgs s_Source_need_open, defBody s_Source_need_open, defScope s_Source_need_open, [], []⟩,
  ⟨("Source", some "_add"), "_add", "Source._add", defArgs s_Source_add, defBody s_Source_add, defScope s_Source_add, [], []⟩,
  ⟨("Source", some "correct"), "correct", "Source.correct", defArgs s_Source_correct, defBody s_Source_correct, defScope s_Source_correct, [], []⟩,
  ⟨("Source", some "take_back"), "take_back", "Source.take_back", defArgs s_Source_take_back, defBody s_Source_take_back, defScope s_Source_take_back, [], []⟩,
  ⟨("Source", some "close"), "close", "Source.close", defArgs s_Source_close, defBody s_Source_close, defScope s_Source_close, [], []⟩,
  ⟨("Source", some "check"), "check", "Source.check", defArgs s_Source_check, defBody s_Source_check, defScope s_Source_check, [], []⟩,
  ⟨("Source", some "log"), "log", "Source.log", defArgs s_Source_log, defBody s_Source_log, defScope s_Source_log, [], []⟩,
  ⟨("Source", some "due"), "due", "Source.due", defArgs s_Source_due, defBody s_Source_due, defScope s_Source_due, [], []⟩,
  ⟨("Source", some "acknowledge"), "acknowledge", "Source.acknowledge", defArgs s_Source_acknowledge, defBody s_Source_acknowledge, defScope s_Source_acknowledge, [], []⟩,
  ⟨("versions_right", none), "versions_right", "versions_right", defArgs s_versions_right, defBody s_versions_right, defScope s_versions_right, [], []⟩,
  ⟨("slots_right", none), "slots_right", "slots_right", defArgs s_slots_right, defBody s_slots_right, defScope s_slots_right, [], []⟩,
  ⟨("is_history", none), "is_history", "is_history", defArgs s_is_history, defBody s_is_history, defScope s_is_history, [], []⟩,
  ⟨("is_read", none), "is_read", "is_read", defArgs s_is_read, defBody s_is_read, defScope s_is_read, [], []⟩,
  ⟨("is_closed", none), "is_closed", "is_closed", defArgs s_is_closed, defBody s_is_closed, defScope s_is_closed, [], []⟩,
  ⟨("is_true", none), "is_true", "is_true", defArgs s_is_true, defBody s_is_true, defScope s_is_true, [], []⟩,
  ⟨("agrees", none), "agrees", "agrees", defArgs s_agrees, defBody s_agrees, defScope s_agrees, [], []⟩,
  ⟨("reads_of", none), "reads_of", "reads_of", defArgs s_reads_of, defBody s_reads_of, defScope s_reads_of, [], []⟩,
  ⟨("reads_about", none), "reads_about", "reads_about", defArgs s_reads_about, defBody s_reads_about, defScope s_reads_about, [], []⟩,
  ⟨("received_of", none), "received_of", "received_of", defArgs s_received_of, defBody s_received_of, defScope s_received_of, [], []⟩,
  ⟨("closes_of", none), "closes_of", "closes_of", defArgs s_closes_of, defBody s_closes_of, defScope s_closes_of, [], []⟩,
  ⟨("offsets_of", none), "offsets_of", "offsets_of", defArgs s_offsets_of, defBody s_offsets_of, defScope s_offsets_of, [], []⟩,
  ⟨("limits_of", none), "limits_of", "limits_of", defArgs s_limits_of, defBody s_limits_of, defScope s_limits_of, [], []⟩,
  ⟨("slots_within", none), "slots_within", "slots_within", defArgs s_slots_within, defBody s_slots_within, defScope s_slots_within, [], []⟩,
  ⟨("hidden_in", none), "hidden_in", "hidden_in", defArgs s_hidden_in, defBody s_hidden_in, defScope s_hidden_in, [], []⟩,
  ⟨("reads_right", none), "reads_right", "reads_right", defArgs s_reads_right, defBody s_reads_right, defScope s_reads_right, [], []⟩,
  ⟨("closes_right", none), "closes_right", "closes_right", defArgs s_closes_right, defBody s_closes_right, defScope s_closes_right, [], []⟩,
  ⟨("stamps_right", none), "stamps_right", "stamps_right", defArgs s_stamps_right, defBody s_stamps_right, defScope s_stamps_right, [], []⟩,
  ⟨("meter_possible", none), "meter_possible", "meter_possible", defArgs s_meter_possible, defBody s_meter_possible, defScope s_meter_possible, [], []⟩,
  ⟨("is_possible", none), "is_possible", "is_possible", defArgs s_is_possible, defBody s_is_possible, defScope s_is_possible, [], []⟩,
  ⟨("_law_draws", none), "_law_draws", "_law_draws", defArgs s_law_draws, defBody s_law_draws, defScope s_law_draws, [], []⟩,
  ⟨("_law_take", none), "_law_take", "_law_take", defArgs s_law_take, defBody s_law_take, defScope s_law_take, [], []⟩,
  ⟨("_law_cell", none), "_law_cell", "_law_cell", defArgs s_law_cell, defBody s_law_cell, defScope s_law_cell, [], []⟩,
  ⟨("_law_word", none), "_law_word", "_law_word", defArgs s_law_word, defBody s_law_word, defScope s_law_word, [], []⟩,
  ⟨("_law_some_word", none), "_law_some_word", "_law_some_word", defArgs s_law_some_word, defBody s_law_some_word, defScope s_law_some_word, [], []⟩,
  ⟨("_law_reading", none), "_law_reading", "_law_reading", defArgs s_law_reading, defBody s_law_reading, defScope s_law_reading, [], []⟩,
  ⟨("_law_plan", none), "_law_plan", "_law_plan", defArgs s_law_plan, defBody s_law_plan, defScope s_law_plan, [], []⟩,
  ⟨("_law_error_name", none), "_law_error_name", "_law_error_name", defArgs s_law_error_name, defBody s_law_error_name, defScope s_law_error_name, [], []⟩,
  ⟨("_law_do", none), "_law_do", "_law_do", defArgs s_law_do, defBody s_law_do, defScope s_law_do, [], []⟩,
  ⟨("_law_stamp", none), "_law_stamp", "_law_stamp", defArgs s_law_stamp, defBody s_law_stamp, defScope s_law_stamp, [], []⟩,
  ⟨("_law_entry", none), "_law_entry", "_law_entry", defArgs s_law_entry, defBody s_law_entry, defScope s_law_entry, [], []⟩,
  ⟨("_law_deed", none), "_law_deed", "_law_deed", defArgs s_law_deed, defBody s_law_deed, defScope s_law_deed, [], []⟩,
  ⟨("_law_offset", none), "_law_offset", "_law_offset", defArgs s_law_offset, defBody s_law_offset, defScope s_law_offset, [], []⟩,
  ⟨("_law_logs", none), "_law_logs", "_law_logs", defArgs s_law_logs, defBody s_law_logs, defScope s_law_logs, [], []⟩,
  ⟨("_law_right", none), "_law_right", "_law_right", defArgs s_law_right, defBody s_law_right, defScope s_law_right, [], []⟩,
  ⟨("_law_moves", none), "_law_moves", "_law_moves", defArgs s_law_moves, defBody s_law_moves, defScope s_law_moves, [], []⟩,
  ⟨("_law_rest", none), "_law_rest", "_law_rest", defArgs s_law_rest, defBody s_law_rest, defScope s_law_rest, [], []⟩,
  ⟨("law", none), "law", "law", defArgs s_law, defBody s_law, defScope s_law, [], []⟩]
def fas : List He.Fa := [
  .glo "meter_of", .glo "versions_right", .glo "slots_right", .glo "is_history", .glo "is_read", .glo "is_closed", .glo "is_true", .glo "agrees", .glo "reads_of", .glo "reads_about", .glo "received_of", .glo "closes_of", .glo "offsets_of", .glo "limits_of", .glo "slots_within", .glo "hidden_in", .glo "reads_right", .glo "closes_right", .glo "stamps_right", .glo "meter_possible", .glo "is_possible", .glo "_law_draws", .glo "_law_take", .glo "_law_cell", .glo "_law_word", .glo "_law_some_word", .glo "_law_reading", .glo "_law_plan", .glo "_law_error_name", .glo "_law_do", .glo "_law_stamp", .glo "_law_entry", .glo "_law_deed", .glo "_law_offset", .glo "_law_logs", .glo "_law_right", .glo "_law_moves", .glo "_law_rest", .glo "law", .glo "Line", .glo "Source", .glo "GatherError", .glo "InvalidPlan", .glo "InvalidLetter", .glo "InvalidAlarm", .glo "InvalidEntry", .glo "BadText", .glo "NotPossible", .glo "NoNote", .glo "NoSlot", .glo "Closed", .glo "NoLetter", .free "len", .free "sorted", .free "set", .free "sum", .free "all", .free "list", .free "tuple", .free "int", .free "abs", .free "min", .free "max", .free "zip", .free "enumerate", .free "range", .free "isinstance", .free "ValueError", .cls "Line", .cls "Source", .mkr "Line", .mkr "Source", .noat "Line" "_letters", .noat "Source" "_meter", .noat "Source" "_offset", .noat "Source" "_slots", .noat "Source" "_closed_number", .noat "Source" "_closed_stamp", .noat "Source" "_due", .meth "Line" "_need", .meth "Line" "send", .meth "Line" "waiting", .meth "Line" "deliver", .meth "Line" "lose", .meth "Line" "double", .meth "Source" "_make", .meth "Source" "_is_value", .meth "Source" "_need", .meth "Source" "record", .meth "Source" "_need_open", .meth "Source" "_add", .meth "Source" "correct", .meth "Source" "take_back", .meth "Source" "close", .meth "Source" "check", .meth "Source" "log", .meth "Source" "due", .meth "Source" "acknowledge", .exc "NoSlot", .exc "Closed", .exc "InvalidEntry", .exm "NoSlot" "GatherError" true, .exm "Closed" "GatherError" true, .exm "InvalidEntry" "GatherError" true]
/-- what isinstance of a caught error of the class D leans on, and its answers -/
def excB (K : PySem.W.Frag) (D : Addr) : Bool :=
  He.eqO (PySem.W.findIn K (.ref D) "__getattribute__") (some (some (.builtin "BaseException.__getattribute__"))) && (He.eqO (PySem.W.findIn K (.ref D) "__getattr__") (some none) && (
  decide (PySem.W.subIn K (.ref D) (.type "BaseException") = some true) && (PySem.W.hasDictIn K D && (He.eqO (PySem.W.findIn K (.ref D) "__class__") (some (some (.builtin "object.__class__"))) && (
  decide (PySem.W.specialIn K (.builtin "object.__class__") "__get__" = some (some (.builtin "getset_descriptor.__get__"))) && (decide (PySem.W.takesIn K (.builtin "object.__class__") = some true) && decide (PySem.W.mroIn K D (.type "object") = some true)))))))
def kindNames : List Str := ["InvalidPlan", "InvalidLetter", "InvalidAlarm", "NoSlot", "BadText", "NotPossible", "NoNote", "Closed", "InvalidEntry", "NoLetter"]
def kitB (K : PySem.W.Frag) (D : Str) : Bool := decide (PySem.W.kitOne K (.ref (He.ga K D)) (.type "ValueError") = some true) && kindNames.all fun c => decide (PySem.W.kitOne K (.ref (He.ga K D)) (.ref (He.ga K c)) = some (decide (c = D)))
def raisedNames : List Str := ["NoSlot", "Closed", "InvalidEntry"]
def exB (K : PySem.W.Frag) : Bool := raisedNames.all fun D => excB K (He.ga K D) && kitB K D

def loose0 : List Str := ["GatherError", "InvalidPlan", "InvalidLetter", "InvalidAlarm", "InvalidEntry", "BadText", "NotPossible", "NoNote", "NoSlot", "Closed", "NoLetter", "Line", "meter_of", "Source", "versions_right", "slots_right", "is_history", "is_read", "is_closed", "is_true", "agrees", "reads_of", "reads_about", "received_of", "closes_of", "offsets_of", "limits_of", "slots_within", "hidden_in", "reads_right"]
def loose1 : List Str := ["closes_right", "stamps_right", "meter_possible", "is_possible", "_law_draws", "_law_take", "_law_cell", "_law_word", "_law_some_word", "_law_same", "_law_reading", "_law_plan", "_law_error_name", "_law_with", "_law_recorded", "_law_corrected", "_law_after", "_law_do", "_law_stamp", "_law_entry", "_law_deed", "_law_offset", "_law_is_source", "_law_logs", "_law_right", "_law_moves", "_law_rest"]
def loose : List Str := loose0 ++ loose1
def lawPlace : Nat := 65
end Tw
end

section
set_option maxHeartbeats 0
namespace Tw
open PySem L2
abbrev Rw : PySem.W.OpenRow := PySem.W.OpenLaw.row PySem.Challenge.rw_toldwhensure_k32_whole_meters_through_li
abbrev qv : Program := PySem.W.view Rw.prog [65]
abbrev hk : PySem.W.Hook := He.hookX 5 fas fns [] [] exB
def ob (s : PySem.W.SharedT) : He.AlX := He.obsX 5 fas fns [] [] exB (HandSHeadRun.getT s)
theorem ob_eq (s : PySem.W.SharedT) : ob s = hk.obs s.abs := He.obsX_eq (HandSHeadRun.getT_eq s)
theorem run (w : World) : HandSHeadRun.RunEq Rw qv hk ob 8000 loose w := by
  intro os
  kernel_rfl
end Tw
end

section
set_option maxHeartbeats 0
namespace Tw
open PySem L2
/-- the law's promise: a list of at most 63 ints in, True out -/
def spLaw (K : PySem.W.Frag) : Sp := fun vs H Q _ => ∃ (a : Addr) (ns : List Int), vs = [.ref a] ∧ SqL K H a (ns.map V.int) ∧ ns.length ≤ 63 ∧ (∀ b, ¬ Mut (H b)) ∧ ∀ H', Q (.bl true) H'
/-- what is left: the law's def keeps it -/
def LawOk : Prop := ∀ (w : World) (K : PySem.W.Frag) (mg : Str → Option Value) (h : Heap), K.In h → h.Ns mainGlobals mg → He.SaysX fas fns [] [] exB w h K →
  ∃ fd : FuncData, (∀ (s : Shared) (u : Value), BindsTo s fd ⟨[u], []⟩ [("_law_script", u)]) ∧ ∀ base : Heap, K.In base → base.Ns mainGlobals mg →
    FnOk Rw.prog w K mg base CX0 30 (He.ga K "law") fd ["_law_script"] (spLaw K)

theorem eW1 : PySem.W.opening Rw.prog = PySem.W.plainProg Rw.prog.main.scope.names := by kernel_rfl
open PySem.W PySem.Calls PyProof.Rows in
theorem eW2 (s : Shared) : fenceModules? Rw.prog s = some s := by kernel_rfl
theorem eW3 : PySem.W.defOf qv Rw.name = some (HandSHeadRun.topDef Rw.prog 65, []) := by kernel_rfl
theorem eW4 : Rw.prog.theDef Rw.name = some ((HandSHeadRun.topDef Rw.prog 65).params, (HandSHeadRun.topDef Rw.prog 65).body, (HandSHeadRun.topDef Rw.prog 65).scope) := by kernel_rfl
theorem eW5 : PySem.W.kwWritten? (HandSHeadRun.topDef Rw.prog 65).params.kwonlyargs (HandSHeadRun.topDef Rw.prog 65).params.kw_defaults = some [] := by kernel_rfl
theorem eW6 : (!Rw.writes || Rw.records.isEmpty) = true := by rfl
theorem eW7 : Rw.wellSaid = true := by kernel_rfl
theorem eW9 : Rw.prog.bare := ⟨rfl, rfl, rfl, rfl, rfl, by decide +kernel⟩
theorem eW8 : (PySem.W.chainsOk qv && PySem.W.opensWell Rw.prog && (PySem.W.frees Rw.toRowW && Rw.within.isEmpty)) = true := by decide +kernel
theorem eW11 : (HandSHeadRun.topDef Rw.prog 65).name = ("law" : PySem.Str) := by kernel_rfl
theorem eW12 : (HandSHeadRun.topDef Rw.prog 65).params.defaults = [] := by kernel_rfl
theorem eW13 : fas[38]? = some (.glo "law") := by kernel_rfl
open PySem.W PySem.Calls PyProof.Rows in
theorem hc_of (hF : LawOk) : WalkO qv loose (XL qv []) hk.says Rw.toRowW (HandSHeadRun.topDef Rw.prog 65) [] (fun f vs => PySem.call f vs) := by
  generalize hd : HandSHeadRun.topDef Rw.prog 65 = d
  refine L2.walk_ofE (l := PySem.Challenge.rw_toldwhensure_k32_whole_meters_through_li) (n := 63) (k := 30) (x := "_law_script") (CX := L2.CX0) rfl (by decide) (by rw [← hd]; exact eW12) ⟨rfl, by decide, by decide⟩ ?F (fun _ _ _ _ z => z)
  intro w mg fa h Y G hmg0
  obtain ⟨K, KX, c⟩ := Y
  rw [← hd, eW11] at hmg0
  have e := hmg0.symm.trans (He.glo_ok KX G (c.t.d.fact 38 eW13))
  have e' : fa = He.ga K "law" := by injection e with e; injection e
  subst e'
  obtain ⟨fd, hb, hF⟩ := hF w K mg h KX G c
  refine ⟨K, fd, spLaw K, KX, hb, fun H a ns hl hO hS => ⟨a, ns, rfl, hS, hl, ?_, fun _ => rfl⟩, hF⟩
  intro b hm
  rcases hO b with z | ⟨o, xs, z⟩
  · rw [z] at hm; exact hm
  · rw [z] at hm; exact hm
end Tw
open PySem PySem.W PySem.Calls PyProof.Rows
theorem Tw.holds_of (hF : Tw.LawOk) : PySem.Challenge.rw_toldwhensure_k32_whole_meters_through_li.Holds := by
  w_on; o_law
  refine HandSHeadRun.head_any (r := Tw.Rw) (q := Tw.qv) (H := Tw.hk) (ob := Tw.ob) (M := 8000) (loose := Tw.loose) (d := HandSHeadRun.topDef Tw.Rw.prog 65) (kwd := []) Tw.ob_eq
    Tw.eW1 Tw.eW2 Tw.run Tw.eW3 Tw.eW4 Tw.eW5 Tw.eW6 Tw.eW7 Tw.eW8 Tw.eW9 ?hw (Tw.hc_of hF)
  case hw => w_witness2
end

section
set_option maxHeartbeats 4000000
/-! TwBase: what every walk leans on: the facts of the top by names, a callee's promise with all that a call asks, short forms of the calls. -/
namespace Tw
open PySem PySem.Spec PyProof.Rows L2

/-- what the top has left, as the walks use it -/
structure Tx (K : PySem.W.Frag) (mg : Str → Option Value) : Prop where
  says : He.SaysD fas fns K
  ex : exB K = true
  top : ∃ h : Heap, K.In h ∧ h.Ns mainGlobals mg

section
variable {K : PySem.W.Frag} {mg : Str → Option Value}
theorem Tx.glo (T : Tx K mg) (i : Nat) {x : Str} (h : fas[i]? = some (.glo x)) : mg x = some (.ref (He.ga K x)) := by
  obtain ⟨hp, X, G⟩ := T.top
  exact He.glo_ok X G (T.says.fact i h)
theorem Tx.free (T : Tx K mg) (i : Nat) {x : Str} (h : fas[i]? = some (.free x)) : mg x = none := by
  obtain ⟨hp, X, G⟩ := T.top
  exact He.free_ok X G (T.says.fact i h)
end

/-- a def of the top that may be called by its name -/
structure Callee (P : Program) (w : World) (K : PySem.W.Frag) (mg : Str → Option Value) (base : Heap) (CX : CXT) (x : Str) (ps : List Str) (k : Nat) (sp : Sp) : Prop where
  ex : ∃ (f : Addr) (fd : FuncData), mg x = some (.ref f) ∧ PySem.W.keepIn K (.ref f) = true ∧ Binds K fd ps [] ∧ FnOk P w K mg base CX k f fd ps sp
/-- a method of the class at C -/
structure MCallee (P : Program) (w : World) (K : PySem.W.Frag) (mg : Str → Option Value) (base : Heap) (CX : CXT) (C : Addr) (m : Str) (ps : List Str) (k : Nat) (sp : Sp) : Prop where
  cl : Cls K C
  ex : ∃ (f : Addr) (fd : FuncData), Meth K C m f ∧ Binds K fd ps [] ∧ FnOk P w K mg base CX k f fd ps sp
/-- a class that may be made -/
structure NCallee (P : Program) (w : World) (K : PySem.W.Frag) (mg : Str → Option Value) (base : Heap) (CX : CXT) (x : Str) (ps : List Str) (k : Nat) (sp : Sp) : Prop where
  ex : ∃ (f : Addr) (fd : FuncData), Mk K (He.ga K x) f ∧ mg x = some (.ref (He.ga K x)) ∧ Binds K fd ps [] ∧ FnOk P w K mg base CX k f fd ps sp

section
variable {X : Cx} {CX : CXT} {k : Nat} {C : Addr} {ps : List Str} {sp : Sp} {E : XK} {x m : Str} {p pos apos : Pos} {e o : Expr} {es : List Expr} {ta : TE} {t : TA}
/-- f(e, ..) -/
theorem pe_cl (c : Callee X.prog X.w X.K X.mg X.base CX x ps k sp) (hr : Room k X.A) (hx : Passes CX X E) (ha : PA X (e :: es) t) (hg : Gl X x := by rfl) (hdb : (x == ("__debug__" : Str)) = false := by decide)
    (he : starEach (e :: es) X.env = (false, eval e X.env) :: starEach es X.env := by rfl) (hpl : (backTo pos (starEach es X.env)).any (·.1) = false := by rfl) : PE X (.Call (.Name x p) (e :: es) [] pos) (tCall sp [] E t) := by
  obtain ⟨f, fd, h1, h2, h3, h4⟩ := c.ex
  exact pe_call h4 hr hg h1 h2 h3 .nil hx ha hdb he hpl
/-- o.m(e, ..) -/
theorem pe_mcl {pl : Sem Bool} (c : MCallee X.prog X.w X.K X.mg X.base CX C m ps k sp) (hr : Room k X.A) (hx : Passes CX X E) (ho : PE X o ta) (ha : PA X (e :: es) t)
    (hst : starEach (e :: es) X.env = (false, eval e X.env) :: starEach es X.env := by rfl) (hpl : (backTo pos (starEach es X.env)).any (·.1) = false := by rfl)
    (ht : eval (.Call (.Attribute o m apos) (e :: es) [] pos) X.env = (do
      let ov ← eval o X.env
      standAt apos.atName
      let (f, first) ← holding [ov] (getMethod ov m pl)
      callWith pos f first (backTo pos (starEach (e :: es) X.env)) (backToKw pos (keywordEach [] X.env))) := by rfl) : PE X (.Call (.Attribute o m apos) (e :: es) [] pos) (tMeth C m sp [] E ta t) := by
  obtain ⟨f, fd, h1, h2, h3⟩ := c.ex
  exact pe_meth ho c.cl h1 h3 hr h2 .nil hx ha hst hpl ht
/-- o.m() -/
theorem pe_mcl0 {pl : Sem Bool} (c : MCallee X.prog X.w X.K X.mg X.base CX C m ps k sp) (hr : Room k X.A) (hx : Passes CX X E) (ho : PE X o ta)
    (ht : eval (.Call (.Attribute o m apos) [] [] pos) X.env = (do
      let ov ← eval o X.env
      standAt apos.atName
      let (f, first) ← holding [ov] (getMethod ov m pl)
      callWith pos f first (backTo pos (starEach [] X.env)) (backToKw pos (keywordEach [] X.env))) := by rfl) : PE X (.Call (.Attribute o m apos) [] [] pos) (tMeth C m sp [] E ta tNil) := by
  obtain ⟨f, fd, h1, h2, h3⟩ := c.ex
  exact pe_meth0 ho c.cl h1 h3 hr h2 .nil hx ht
/-- C(e, ..) -/
theorem pe_ncl (c : NCallee X.prog X.w X.K X.mg X.base CX x ps k sp) (hr : Room (k + 1) X.A) (hx : Passes CX X E) (ha : PA X (e :: es) t) (hg : Gl X x := by rfl) (hdb : (x == ("__debug__" : Str)) = false := by decide)
    (he : starEach (e :: es) X.env = (false, eval e X.env) :: starEach es X.env := by rfl) (hpl : (backTo pos (starEach es X.env)).any (·.1) = false := by rfl) : PE X (.Call (.Name x p) (e :: es) [] pos) (tMake (He.ga X.K x) sp [] E t) := by
  obtain ⟨f, fd, h1, h2, h3, h4⟩ := c.ex
  exact pe_make h1 h4 hr hg h2 h3 .nil hx ha hdb he hpl
/-- C() -/
theorem pe_ncl0 (c : NCallee X.prog X.w X.K X.mg X.base CX x ps k sp) (hr : Room (k + 1) X.A) (hx : Passes CX X E) (hg : Gl X x := by rfl) (hdb : (x == ("__debug__" : Str)) = false := by decide) :
    PE X (.Call (.Name x p) [] [] pos) (tMake (He.ga X.K x) sp [] E tNil) := by
  obtain ⟨f, fd, h1, h2, h3, h4⟩ := c.ex
  exact pe_make0 h1 h4 hr hg h2 h3 .nil hx hdb
/-- o.m(e, ..) of a method that may raise, the wish by the caller's slots -/
def tMethS (C : Addr) (m : Str) (sp : Sp) (E : L2.St → XK) (ta : TE) (t : TA) : TE := fun σ H Q => ta σ H fun y H1 => ∃ a dx fs, y = .ref a ∧ H1 a = some (.ins C dx fs) ∧ fs.lookup m = none ∧ t σ H1 fun vs H2 => sp (y :: vs) H2 Q (E σ)
theorem pe_mclS {pl : Sem Bool} {E : L2.St → XK} (c : MCallee X.prog X.w X.K X.mg X.base CX C m ps k sp) (hr : Room k X.A) (hx : ∀ σ, PassesAt CX X σ (E σ)) (ho : PE X o ta) (ha : PA X (e :: es) t)
    (hst : starEach (e :: es) X.env = (false, eval e X.env) :: starEach es X.env := by rfl) (hpl : (backTo pos (starEach es X.env)).any (·.1) = false := by rfl)
    (ht : eval (.Call (.Attribute o m apos) (e :: es) [] pos) X.env = (do
      let ov ← eval o X.env
      standAt apos.atName
      let (f, first) ← holding [ov] (getMethod ov m pl)
      callWith pos f first (backTo pos (starEach (e :: es) X.env)) (backToKw pos (keywordEach [] X.env))) := by rfl) : PE X (.Call (.Attribute o m apos) (e :: es) [] pos) (tMethS C m sp E ta t) := by
  obtain ⟨f, fd, hm, hb, F⟩ := c.ex
  refine ⟨fun pins s σ H Q I h => ?_⟩
  refine PySem.W.methodCall_KW (pl := pl) (thn (ho.run pins s σ H _ I h) fun u s1 ⟨y, H1, I1, ry, a, dx, fs, ey, ea, l, q⟩ => ?_) ht
  subst ey
  obtain rfl : u = Value.ref a := ry
  refine getmeth_ok I1 ea c.cl hm l ?_
  refine PySem.W.callWith_K (first := [.ref a]) (h₀ := X.base) I.ok.mod.kin hm.kp (thn (ha.run pos pins s1 σ H1 _ I1 q) fun us s2 ⟨vs, H2, I2, r, q2⟩ => ⟨I2.kIn, ?_⟩) hst hpl
  exact run_fnS (us := .ref a :: us) (vs := .ref a :: vs) F hr hb (hx σ) I2 (.cons rfl r) q2
end

/-! ### rules with the written part named: what stands in a comprehension's block may not lean on the block -/
section
variable {X : Cx} {K : PySem.W.Frag}
theorem ixT (h : X.K = K := by rfl) : IxR X (rIxT K) := by subst h; exact ix_tup
theorem ixL (h : X.K = K := by rfl) : IxR X (rIxL K) := by subst h; exact ix_list
theorem slT (h : X.K = K := by rfl) : SlR X (rSlA K) := by subst h; exact sl_tupA
theorem slL (h : X.K = K := by rfl) : SlR X (rSlL K) := by subst h; exact sl_list
theorem clen (h : X.K = K := by rfl) : CallR X (.builtin "len") (fun xs H Q => ∃ p ys, xs = [.ref p] ∧ (SqL K H p ys ∨ SqT K H p ys) ∧ Q (.int ys.length) H) := by subst h; exact call_len_seq
theorem opIn (hu : X.A.units + 65 < cLine) (h : X.K = K := by rfl) : OpR X (compareOp .In) (rInD K) := by subst h; exact op_inD hu
theorem opNotIn (hu : X.A.units + 65 < cLine) (h : X.K = K := by rfl) : OpR X (compareOp .NotIn) (rNotInD K) := by subst h; exact op_notInD hu
theorem opNe (hu : X.A.units + 64 < cLine) (h : X.K = K := by rfl) : OpR X (compareOp .NotEq) (rNeD K) := by subst h; exact op_neD hu
theorem clist (h : X.K = K := by rfl) : CallR X (.type "list") (fun xs H Q => ∃ p ys, xs = [.ref p] ∧ (SqL K H p ys ∨ SqT K H p ys) ∧ ∀ l, H l = none → Q (.ref l) (upd H l (.lst ys))) := by subst h; exact call_list_of
/-- tuple(xs) of a list -/
theorem ctuple (h : X.K = K := by rfl) : CallR X (.type "tuple") (fun xs H Q => ∃ p ys, xs = [.ref p] ∧ SqL K H p ys ∧ ∀ l, H l = none → Q (.ref l) (upd H l (.tup ys))) := by
  subst h
  intro pins s σ H xs us Q I r ⟨p, ys, e, hl, q⟩
  exact call_tuple_of pins s σ H xs us Q I r ⟨p, ys, e, .inl ⟨hl, q⟩⟩
theorem cint : CallR X (.type "int") (fun xs H Q => ∃ i, xs = [.int i] ∧ Q (.int i) H) := fun pins s σ H xs us Q I r h => call_int1 pins s σ H xs us Q I r (.inl h)
theorem csum (hc : X.calm = true) (h : X.K = K := by rfl) : CallR X (.builtin "sum") (rSum K) := by subst h; exact cr_sum hc
theorem call_ (hc : X.calm = true) (h : X.K = K := by rfl) : CallR X (.builtin "all") (rAll K) := by subst h; exact cr_all hc
end
/-! ### heaps -/
theorem _root_.L2.Same.new {H : Hp} {p : Addr} {o : HO} (h : H p = none) : Same H (upd H p o) := fun b u e => by rw [upd_ne (ne_of_none e h)]; exact e
/-- t[lo:hi] of a tuple, new or the tuple itself -/
def rSlN : V → Option Int → Option Int → Hp → VK → Prop := fun x lo hi H Q => ∃ a xs, x = .ref a ∧ H a = some (.tup xs) ∧ ∀ c H2, Same H H2 → H2 c = some (.tup (cutV xs lo hi)) → Q (.ref c) H2
theorem slN {X : Cx} : SlR X rSlN := by
  intro pins s σ H x v vl vu lo hi sl Q I rx hs pl pu ⟨a, xs, e, ha, q⟩
  refine sl_tupA pins s σ H x v vl vu lo hi sl Q I rx hs pl pu ⟨a, xs, e, SqT.of ha, fun z => q a H (Same.refl H) ?_, fun _ p np => q p _ (Same.new np) upd_same⟩
  have : cutV xs lo hi = xs := by
    unfold cutV
    rw [z.1, z.2, List.drop_zero, Nat.sub_zero, List.take_of_length_le (Nat.le_refl _)]
  rw [this]
  exact ha
/-- t + u of tuples -/
def rCatN : R2 := fun x y H Q => ∃ a b xs ys, x = .ref a ∧ y = .ref b ∧ H a = some (.tup xs) ∧ H b = some (.tup ys) ∧ xs.length + ys.length ≤ sizeLine ∧ ∀ c H2, Same H H2 → H2 c = some (.tup (xs ++ ys)) → Q (.ref c) H2
theorem opCatN {X : Cx} : OpR X (binaryOp .Add) rCatN := by
  intro pins s σ H x y v u Q I rx ry ⟨a, b, xs, ys, ea, eb, ha, hb, hz, q⟩
  refine op_catA pins s σ H x y v u Q I rx ry ⟨a, b, xs, ys, ea, eb, SqT.of ha, SqT.of hb, hz, fun z => q b H (Same.refl H) (by rw [z]; exact hb), fun _ z => q a H (Same.refl H) (by rw [z, List.append_nil]; exact ha), fun _ _ p np => q p _ (Same.new np) upd_same⟩
/-- all that H knows, but what is at the addresses of S, is as it was -/
def Keep (S : List Addr) (H H' : Hp) : Prop := ∀ b o, b ∉ S → H b = some o → H' b = some o
theorem Keep.refl (S : List Addr) (H : Hp) : Keep S H H := fun _ _ _ h => h
theorem Keep.trans {S : List Addr} {H H1 H2 : Hp} (a : Keep S H H1) (b : Keep S H1 H2) : Keep S H H2 := fun c o n h => b c o n (a c o n h)
theorem Keep.mono {S S' : List Addr} {H H' : Hp} (a : Keep S H H') (h : ∀ b ∈ S, b ∈ S') : Keep S' H H' := fun c o n e => a c o (fun z => n (h c z)) e
theorem _root_.L2.Same.keep {H H' : Hp} (a : Same H H') (S : List Addr) : Keep S H H' := fun c o _ e => a c o e
theorem Keep.same {H H' : Hp} (a : Keep [] H H') : Same H H' := fun c o e => a c o (fun z => by cases z) e
theorem Keep.new {S : List Addr} {H : Hp} {p : Addr} {o : HO} (h : H p = none) : Keep S H (upd H p o) := Same.keep (Same.new h) S
theorem Keep.upd {S : List Addr} {H : Hp} {p : Addr} {o : HO} (h : p ∈ S) : Keep S H (upd H p o) := fun b u n e => by
  rw [upd_ne (fun z => n (by rw [z]; exact h))]; exact e
/-- what is unknown behind was unknown ahead, outside of S -/
theorem Keep.free {S : List Addr} {H H' : Hp} (e : Keep S H H') {l : Addr} (n : l ∉ S) (h : H' l = none) : H l = none := by
  cases q : H l with
  | none => rfl
  | some o => rw [e l o n q] at h; cases h
theorem small {n : Nat} (h : n ≤ 100000) : n ≤ sizeLine := Nat.le_trans h (by decide)
theorem smallt {n : Nat} (h : n < 100000) : n < sizeLine := Nat.lt_of_lt_of_le h (by decide)
end Tw
end

section
set_option maxHeartbeats 4000000
/-! TwDefs: printed by gen_defs.py: names and scopes of the defs, the facts of the top by names, how a def's promise comes from its body. -/
namespace Tw
open PySem PySem.Spec PyProof.Rows L2
section
variable {P : Program} {w : World} {K : PySem.W.Frag} {mg : Str → Option Value} {base : Heap}
theorem hu64 {A : Around} {k : Nat} (hr : Room k A) : A.units + 64 < cLine := hr.units
theorem hu65 {A : Around} {k : Nat} (hr : Room k A) : A.units + 65 < cLine := by
  have := hr.un
  omega
theorem Tx.g_meter_of (T : Tx K mg) : mg "meter_of" = some (.ref (He.ga K "meter_of")) := T.glo 0 (by kernel_rfl)
theorem Tx.g_versions_right (T : Tx K mg) : mg "versions_right" = some (.ref (He.ga K "versions_right")) := T.glo 1 (by kernel_rfl)
theorem Tx.g_slots_right (T : Tx K mg) : mg "slots_right" = some (.ref (He.ga K "slots_right")) := T.glo 2 (by kernel_rfl)
theorem Tx.g_is_history (T : Tx K mg) : mg "is_history" = some (.ref (He.ga K "is_history")) := T.glo 3 (by kernel_rfl)
theorem Tx.g_is_read (T : Tx K mg) : mg "is_read" = some (.ref (He.ga K "is_read")) := T.glo 4 (by kernel_rfl)
theorem Tx.g_is_closed (T : Tx K mg) : mg "is_closed" = some (.ref (He.ga K "is_closed")) := T.glo 5 (by kernel_rfl)
theorem Tx.g_is_true (T : Tx K mg) : mg "is_true" = some (.ref (He.ga K "is_true")) := T.glo 6 (by kernel_rfl)
theorem Tx.g_agrees (T : Tx K mg) : mg "agrees" = some (.ref (He.ga K "agrees")) := T.glo 7 (by kernel_rfl)
theorem Tx.g_reads_of (T : Tx K mg) : mg "reads_of" = some (.ref (He.ga K "reads_of")) := T.glo 8 (by kernel_rfl)
theorem Tx.g_reads_about (T : Tx K mg) : mg "reads_about" = some (.ref (He.ga K "reads_about")) := T.glo 9 (by kernel_rfl)
theorem Tx.g_received_of (T : Tx K mg) : mg "received_of" = some (.ref (He.ga K "received_of")) := T.glo 10 (by kernel_rfl)
theorem Tx.g_closes_of (T : Tx K mg) : mg "closes_of" = some (.ref (He.ga K "closes_of")) := T.glo 11 (by kernel_rfl)
theorem Tx.g_offsets_of (T : Tx K mg) : mg "offsets_of" = some (.ref (He.ga K "offsets_of")) := T.glo 12 (by kernel_rfl)
theorem Tx.g_limits_of (T : Tx K mg) : mg "limits_of" = some (.ref (He.ga K "limits_of")) := T.glo 13 (by kernel_rfl)
theorem Tx.g_slots_within (T : Tx K mg) : mg "slots_within" = some (.ref (He.ga K "slots_within")) := T.glo 14 (by kernel_rfl)
theorem Tx.g_hidden_in (T : Tx K mg) : mg "hidden_in" = some (.ref (He.ga K "hidden_in")) := T.glo 15 (by kernel_rfl)
theorem Tx.g_reads_right (T : Tx K mg) : mg "reads_right" = some (.ref (He.ga K "reads_right")) := T.glo 16 (by kernel_rfl)
theorem Tx.g_closes_right (T : Tx K mg) : mg "closes_right" = some (.ref (He.ga K "closes_right")) := T.glo 17 (by kernel_rfl)
theorem Tx.g_stamps_right (T : Tx K mg) : mg "stamps_right" = some (.ref (He.ga K "stamps_right")) := T.glo 18 (by kernel_rfl)
theorem Tx.g_meter_possible (T : Tx K mg) : mg "meter_possible" = some (.ref (He.ga K "meter_possible")) := T.glo 19 (by kernel_rfl)
theorem Tx.g_is_possible (T : Tx K mg) : mg "is_possible" = some (.ref (He.ga K "is_possible")) := T.glo 20 (by kernel_rfl)
theorem Tx.g_law_draws (T : Tx K mg) : mg "_law_draws" = some (.ref (He.ga K "_law_draws")) := T.glo 21 (by kernel_rfl)
theorem Tx.g_law_take (T : Tx K mg) : mg "_law_take" = some (.ref (He.ga K "_law_take")) := T.glo 22 (by kernel_rfl)
theorem Tx.g_law_cell (T : Tx K mg) : mg "_law_cell" = some (.ref (He.ga K "_law_cell")) := T.glo 23 (by kernel_rfl)
theorem Tx.g_law_word (T : Tx K mg) : mg "_law_word" = some (.ref (He.ga K "_law_word")) := T.glo 24 (by kernel_rfl)
theorem Tx.g_law_some_word (T : Tx K mg) : mg "_law_some_word" = some (.ref (He.ga K "_law_some_word")) := T.glo 25 (by kernel_rfl)
theorem Tx.g_law_reading (T : Tx K mg) : mg "_law_reading" = some (.ref (He.ga K "_law_reading")) := T.glo 26 (by kernel_rfl)
theorem Tx.g_law_plan (T : Tx K mg) : mg "_law_plan" = some (.ref (He.ga K "_law_plan")) := T.glo 27 (by kernel_rfl)
theorem Tx.g_law_error_name (T : Tx K mg) : mg "_law_error_name" = some (.ref (He.ga K "_law_error_name")) := T.glo 28 (by kernel_rfl)
theorem Tx.g_law_do (T : Tx K mg) : mg "_law_do" = some (.ref (He.ga K "_law_do")) := T.glo 29 (by kernel_rfl)
theorem Tx.g_law_stamp (T : Tx K mg) : mg "_law_stamp" = some (.ref (He.ga K "_law_stamp")) := T.glo 30 (by kernel_rfl)
theorem Tx.g_law_entry (T : Tx K mg) : mg "_law_entry" = some (.ref (He.ga K "_law_entry")) := T.glo 31 (by kernel_rfl)
theorem Tx.g_law_deed (T : Tx K mg) : mg "_law_deed" = some (.ref (He.ga K "_law_deed")) := T.glo 32 (by kernel_rfl)
theorem Tx.g_law_offset (T : Tx K mg) : mg "_law_offset" = some (.ref (He.ga K "_law_offset")) := T.glo 33 (by kernel_rfl)
theorem Tx.g_law_logs (T : Tx K mg) : mg "_law_logs" = some (.ref (He.ga K "_law_logs")) := T.glo 34 (by kernel_rfl)
theorem Tx.g_law_right (T : Tx K mg) : mg "_law_right" = some (.ref (He.ga K "_law_right")) := T.glo 35 (by kernel_rfl)
theorem Tx.g_law_moves (T : Tx K mg) : mg "_law_moves" = some (.ref (He.ga K "_law_moves")) := T.glo 36 (by kernel_rfl)
theorem Tx.g_law_rest (T : Tx K mg) : mg "_law_rest" = some (.ref (He.ga K "_law_rest")) := T.glo 37 (by kernel_rfl)
theorem Tx.g_law (T : Tx K mg) : mg "law" = some (.ref (He.ga K "law")) := T.glo 38 (by kernel_rfl)
theorem Tx.g_Line (T : Tx K mg) : mg "Line" = some (.ref (He.ga K "Line")) := T.glo 39 (by kernel_rfl)
theorem Tx.g_Source (T : Tx K mg) : mg "Source" = some (.ref (He.ga K "Source")) := T.glo 40 (by kernel_rfl)
theorem Tx.g_GatherError (T : Tx K mg) : mg "GatherError" = some (.ref (He.ga K "GatherError")) := T.glo 41 (by kernel_rfl)
theorem Tx.g_InvalidPlan (T : Tx K mg) : mg "InvalidPlan" = some (.ref (He.ga K "InvalidPlan")) := T.glo 42 (by kernel_rfl)
theorem Tx.g_InvalidLetter (T : Tx K mg) : mg "InvalidLetter" = some (.ref (He.ga K "InvalidLetter")) := T.glo 43 (by kernel_rfl)
theorem Tx.g_InvalidAlarm (T : Tx K mg) : mg "InvalidAlarm" = some (.ref (He.ga K "InvalidAlarm")) := T.glo 44 (by kernel_rfl)
theorem Tx.g_InvalidEntry (T : Tx K mg) : mg "InvalidEntry" = some (.ref (He.ga K "InvalidEntry")) := T.glo 45 (by kernel_rfl)
theorem Tx.g_BadText (T : Tx K mg) : mg "BadText" = some (.ref (He.ga K "BadText")) := T.glo 46 (by kernel_rfl)
theorem Tx.g_NotPossible (T : Tx K mg) : mg "NotPossible" = some (.ref (He.ga K "NotPossible")) := T.glo 47 (by kernel_rfl)
theorem Tx.g_NoNote (T : Tx K mg) : mg "NoNote" = some (.ref (He.ga K "NoNote")) := T.glo 48 (by kernel_rfl)
theorem Tx.g_NoSlot (T : Tx K mg) : mg "NoSlot" = some (.ref (He.ga K "NoSlot")) := T.glo 49 (by kernel_rfl)
theorem Tx.g_Closed (T : Tx K mg) : mg "Closed" = some (.ref (He.ga K "Closed")) := T.glo 50 (by kernel_rfl)
theorem Tx.g_NoLetter (T : Tx K mg) : mg "NoLetter" = some (.ref (He.ga K "NoLetter")) := T.glo 51 (by kernel_rfl)
theorem Tx.f_len (T : Tx K mg) : mg "len" = none := T.free 52 (by kernel_rfl)
theorem Tx.f_sorted (T : Tx K mg) : mg "sorted" = none := T.free 53 (by kernel_rfl)
theorem Tx.f_set (T : Tx K mg) : mg "set" = none := T.free 54 (by kernel_rfl)
theorem Tx.f_sum (T : Tx K mg) : mg "sum" = none := T.free 55 (by kernel_rfl)
theorem Tx.f_all (T : Tx K mg) : mg "all" = none := T.free 56 (by kernel_rfl)
theorem Tx.f_list (T : Tx K mg) : mg "list" = none := T.free 57 (by kernel_rfl)
theorem Tx.f_tuple (T : Tx K mg) : mg "tuple" = none := T.free 58 (by kernel_rfl)
theorem Tx.f_int (T : Tx K mg) : mg "int" = none := T.free 59 (by kernel_rfl)
theorem Tx.f_abs (T : Tx K mg) : mg "abs" = none := T.free 60 (by kernel_rfl)
theorem Tx.f_min (T : Tx K mg) : mg "min" = none := T.free 61 (by kernel_rfl)
theorem Tx.f_max (T : Tx K mg) : mg "max" = none := T.free 62 (by kernel_rfl)
theorem Tx.f_zip (T : Tx K mg) : mg "zip" = none := T.free 63 (by kernel_rfl)
theorem Tx.f_enumerate (T : Tx K mg) : mg "enumerate" = none := T.free 64 (by kernel_rfl)
theorem Tx.f_range (T : Tx K mg) : mg "range" = none := T.free 65 (by kernel_rfl)
theorem Tx.f_isinstance (T : Tx K mg) : mg "isinstance" = none := T.free 66 (by kernel_rfl)
theorem Tx.f_ValueError (T : Tx K mg) : mg "ValueError" = none := T.free 67 (by kernel_rfl)
theorem Tx.c_Line (T : Tx K mg) : Cls K (He.ga K "Line") := He.cls_ok (T.says.fact 68 (f := .cls "Line") (by kernel_rfl))
theorem Tx.c_Source (T : Tx K mg) : Cls K (He.ga K "Source") := He.cls_ok (T.says.fact 69 (f := .cls "Source") (by kernel_rfl))
theorem Tx.mk_Line (T : Tx K mg) : Mk K (He.ga K "Line") (He.ma K (He.ga K "Line") "__init__") := He.mkr_ok (T.says.fact 70 (f := .mkr "Line") (by kernel_rfl))
theorem Tx.mk_Source (T : Tx K mg) : Mk K (He.ga K "Source") (He.ma K (He.ga K "Source") "__init__") := He.mkr_ok (T.says.fact 71 (f := .mkr "Source") (by kernel_rfl))
theorem Tx.n_Line_letters (T : Tx K mg) : NoAttr K (He.ga K "Line") "_letters" := He.noat_ok (T.says.fact 72 (f := .noat "Line" "_letters") (by kernel_rfl))
theorem Tx.n_Source_meter (T : Tx K mg) : NoAttr K (He.ga K "Source") "_meter" := He.noat_ok (T.says.fact 73 (f := .noat "Source" "_meter") (by kernel_rfl))
theorem Tx.n_Source_offset (T : Tx K mg) : NoAttr K (He.ga K "Source") "_offset" := He.noat_ok (T.says.fact 74 (f := .noat "Source" "_offset") (by kernel_rfl))
theorem Tx.n_Source_slots (T : Tx K mg) : NoAttr K (He.ga K "Source") "_slots" := He.noat_ok (T.says.fact 75 (f := .noat "Source" "_slots") (by kernel_rfl))
theorem Tx.n_Source_closed_number (T : Tx K mg) : NoAttr K (He.ga K "Source") "_closed_number" := He.noat_ok (T.says.fact 76 (f := .noat "Source" "_closed_number") (by kernel_rfl))
theorem Tx.n_Source_closed_stamp (T : Tx K mg) : NoAttr K (He.ga K "Source") "_closed_stamp" := He.noat_ok (T.says.fact 77 (f := .noat "Source" "_closed_stamp") (by kernel_rfl))
theorem Tx.n_Source_due (T : Tx K mg) : NoAttr K (He.ga K "Source") "_due" := He.noat_ok (T.says.fact 78 (f := .noat "Source" "_due") (by kernel_rfl))
theorem Tx.m_Line_need (T : Tx K mg) : Meth K (He.ga K "Line") "_need" (He.ma K (He.ga K "Line") "_need") := He.meth_ok (T.says.fact 79 (f := .meth "Line" "_need") (by kernel_rfl))
theorem Tx.m_Line_send (T : Tx K mg) : Meth K (He.ga K "Line") "send" (He.ma K (He.ga K "Line") "send") := He.meth_ok (T.says.fact 80 (f := .meth "Line" "send") (by kernel_rfl))
theorem Tx.m_Line_waiting (T : Tx K mg) : Meth K (He.ga K "Line") "waiting" (He.ma K (He.ga K "Line") "waiting") := He.meth_ok (T.says.fact 81 (f := .meth "Line" "waiting") (by kernel_rfl))
theorem Tx.m_Line_deliver (T : Tx K mg) : Meth K (He.ga K "Line") "deliver" (He.ma K (He.ga K "Line") "deliver") := He.meth_ok (T.says.fact 82 (f := .meth "Line" "deliver") (by kernel_rfl))
theorem Tx.m_Line_lose (T : Tx K mg) : Meth K (He.ga K "Line") "lose" (He.ma K (He.ga K "Line") "lose") := He.meth_ok (T.says.fact 83 (f := .meth "Line" "lose") (by kernel_rfl))
theorem Tx.m_Line_double (T : Tx K mg) : Meth K (He.ga K "Line") "double" (He.ma K (He.ga K "Line") "double") := He.meth_ok (T.says.fact 84 (f := .meth "Line" "double") (by kernel_rfl))
theorem Tx.m_Source_make (T : Tx K mg) : Meth K (He.ga K "Source") "_make" (He.ma K (He.ga K "Source") "_make") := He.meth_ok (T.says.fact 85 (f := .meth "Source" "_make") (by kernel_rfl))
theorem Tx.m_Source_is_value (T : Tx K mg) : Meth K (He.ga K "Source") "_is_value" (He.ma K (He.ga K "Source") "_is_value") := He.meth_ok (T.says.fact 86 (f := .meth "Source" "_is_value") (by kernel_rfl))
theorem Tx.m_Source_need (T : Tx K mg) : Meth K (He.ga K "Source") "_need" (He.ma K (He.ga K "Source") "_need") := He.meth_ok (T.says.fact 87 (f := .meth "Source" "_need") (by kernel_rfl))
theorem Tx.m_Source_record (T : Tx K mg) : Meth K (He.ga K "Source") "record" (He.ma K (He.ga K "Source") "record") := He.meth_ok (T.says.fact 88 (f := .meth "Source" "record") (by kernel_rfl))
theorem Tx.m_Source_need_open (T : Tx K mg) : Meth K (He.ga K "Source") "_need_open" (He.ma K (He.ga K "Source") "_need_open") := He.meth_ok (T.says.fact 89 (f := .meth "Source" "_need_open") (by kernel_rfl))
theorem Tx.m_Source_add (T : Tx K mg) : Meth K (He.ga K "Source") "_add" (He.ma K (He.ga K "Source") "_add") := He.meth_ok (T.says.fact 90 (f := .meth "Source" "_add") (by kernel_rfl))
theorem Tx.m_Source_correct (T : Tx K mg) : Meth K (He.ga K "Source") "correct" (He.ma K (He.ga K "Source") "correct") := He.meth_ok (T.says.fact 91 (f := .meth "Source" "correct") (by kernel_rfl))
theorem Tx.m_Source_take_back (T : Tx K mg) : Meth K (He.ga K "Source") "take_back" (He.ma K (He.ga K "Source") "take_back") := He.meth_ok (T.says.fact 92 (f := .meth "Source" "take_back") (by kernel_rfl))
theorem Tx.m_Source_close (T : Tx K mg) : Meth K (He.ga K "Source") "close" (He.ma K (He.ga K "Source") "close") := He.meth_ok (T.says.fact 93 (f := .meth "Source" "close") (by kernel_rfl))
theorem Tx.m_Source_check (T : Tx K mg) : Meth K (He.ga K "Source") "check" (He.ma K (He.ga K "Source") "check") := He.meth_ok (T.says.fact 94 (f := .meth "Source" "check") (by kernel_rfl))
theorem Tx.m_Source_log (T : Tx K mg) : Meth K (He.ga K "Source") "log" (He.ma K (He.ga K "Source") "log") := He.meth_ok (T.says.fact 95 (f := .meth "Source" "log") (by kernel_rfl))
theorem Tx.m_Source_due (T : Tx K mg) : Meth K (He.ga K "Source") "due" (He.ma K (He.ga K "Source") "due") := He.meth_ok (T.says.fact 96 (f := .meth "Source" "due") (by kernel_rfl))
theorem Tx.m_Source_acknowledge (T : Tx K mg) : Meth K (He.ga K "Source") "acknowledge" (He.ma K (He.ga K "Source") "acknowledge") := He.meth_ok (T.says.fact 97 (f := .meth "Source" "acknowledge") (by kernel_rfl))
theorem Tx.e_NoSlot (T : Tx K mg) : (He.Fa.exc "NoSlot").ok K = true := T.says.fact 98 (f := .exc "NoSlot") (by kernel_rfl)
theorem Tx.x_NoSlot (T : Tx K mg) : PySem.W.excIn K (He.ga K "NoSlot") [.type "ValueError", .type "Exception", .type "BaseException", .type "object"] "ValueError.__new__" = true := (He.exc_ok T.e_NoSlot).1
theorem Tx.k_NoSlot (T : Tx K mg) : PySem.W.keepIn K (.ref (He.ga K "NoSlot")) = true := (He.exc_ok T.e_NoSlot).2.1
theorem Tx.b_NoSlot (T : Tx K mg) : PySem.W.subIn K (.ref (He.ga K "NoSlot")) (.type "BaseException") = some true := (He.exc_ok T.e_NoSlot).2.2.1
theorem Tx.t_NoSlot (T : Tx K mg) : PySem.W.typeIn K (.ref (He.ga K "NoSlot")) = some (.type "type") := (He.exc_ok T.e_NoSlot).2.2.2
theorem Tx.e_Closed (T : Tx K mg) : (He.Fa.exc "Closed").ok K = true := T.says.fact 99 (f := .exc "Closed") (by kernel_rfl)
theorem Tx.x_Closed (T : Tx K mg) : PySem.W.excIn K (He.ga K "Closed") [.type "ValueError", .type "Exception", .type "BaseException", .type "object"] "ValueError.__new__" = true := (He.exc_ok T.e_Closed).1
theorem Tx.k_Closed (T : Tx K mg) : PySem.W.keepIn K (.ref (He.ga K "Closed")) = true := (He.exc_ok T.e_Closed).2.1
theorem Tx.b_Closed (T : Tx K mg) : PySem.W.subIn K (.ref (He.ga K "Closed")) (.type "BaseException") = some true := (He.exc_ok T.e_Closed).2.2.1
theorem Tx.t_Closed (T : Tx K mg) : PySem.W.typeIn K (.ref (He.ga K "Closed")) = some (.type "type") := (He.exc_ok T.e_Closed).2.2.2
theorem Tx.e_InvalidEntry (T : Tx K mg) : (He.Fa.exc "InvalidEntry").ok K = true := T.says.fact 100 (f := .exc "InvalidEntry") (by kernel_rfl)
theorem Tx.x_InvalidEntry (T : Tx K mg) : PySem.W.excIn K (He.ga K "InvalidEntry") [.type "ValueError", .type "Exception", .type "BaseException", .type "object"] "ValueError.__new__" = true := (He.exc_ok T.e_InvalidEntry).1
theorem Tx.k_InvalidEntry (T : Tx K mg) : PySem.W.keepIn K (.ref (He.ga K "InvalidEntry")) = true := (He.exc_ok T.e_InvalidEntry).2.1
theorem Tx.b_InvalidEntry (T : Tx K mg) : PySem.W.subIn K (.ref (He.ga K "InvalidEntry")) (.type "BaseException") = some true := (He.exc_ok T.e_InvalidEntry).2.2.1
theorem Tx.t_InvalidEntry (T : Tx K mg) : PySem.W.typeIn K (.ref (He.ga K "InvalidEntry")) = some (.type "type") := (He.exc_ok T.e_InvalidEntry).2.2.2
theorem Tx.em_NoSlot (T : Tx K mg) : PySem.W.exmOne K (.ref (He.ga K "NoSlot")) (.ref (He.ga K "GatherError")) = some true := He.exm_ok (T.says.fact 101 (f := .exm "NoSlot" "GatherError" true) (by kernel_rfl))
theorem Tx.em_Closed (T : Tx K mg) : PySem.W.exmOne K (.ref (He.ga K "Closed")) (.ref (He.ga K "GatherError")) = some true := He.exm_ok (T.says.fact 102 (f := .exm "Closed" "GatherError" true) (by kernel_rfl))
theorem Tx.em_InvalidEntry (T : Tx K mg) : PySem.W.exmOne K (.ref (He.ga K "InvalidEntry")) (.ref (He.ga K "GatherError")) = some true := He.exm_ok (T.says.fact 103 (f := .exm "InvalidEntry" "GatherError" true) (by kernel_rfl))
abbrev N_Line_init : List Str := ["self"]
abbrev P_Line_init : List Str := ["self"]
theorem sc_Line_init : FnScope N_Line_init P_Line_init (defScope s_Line_init) := ⟨rfl, rfl, rfl, by decide +kernel, rfl, by decide +kernel, by decide +kernel⟩
theorem Tx.fd_Line_init (T : Tx K mg) : ∃ fd, FunD K "__init__" "Line.__init__" (defArgs s_Line_init) (defBody s_Line_init) (defScope s_Line_init) [] [] (He.ma K (He.ga K "Line") "__init__") fd := T.says.def_ 0 (d := ⟨("Line", some "__init__"), "__init__", "Line.__init__", defArgs s_Line_init, defBody s_Line_init, defScope s_Line_init, [], []⟩) (by kernel_rfl)
theorem mk_Line_init (T : Tx K mg) {k : Nat} {sp : Sp} (len : ∀ vs H Q E, sp vs H Q E → vs.length = 1)
    (hbody : ∀ (f : Addr) (cdv : Value) (A : Around) (outer : List Env) (s : Shared) (H : Hp) (vs : List V) (Q : VK) (E : XK), Room k (A.deeper (envOfC "Line.__init__" (defScope s_Line_init) s.heap.objs.size f cdv)) → sp vs H Q E →
      ∃ t, PSs (cxOf CX0 P w K mg base N_Line_init "Line.__init__" (defScope s_Line_init) f cdv A outer s H E).nox (defBody s_Line_init) t ∧ t { nx := fun _ H' => Q .non H', rt := Q } (start N_Line_init vs) H) : NCallee P w K mg base CX0 "Line" P_Line_init (k + 1) sp := by
  obtain ⟨fd, F⟩ := T.fd_Line_init
  have b := F.bindsN (ps := P_Line_init) fun _ _ _ _ _ _ us hl => match us, hl with | [_], _ => rfl
  have ok := F.ok (P := P) (w := w) (mg := mg) (base := base) (CX := CX0) (k := k) (sp := sp) sc_Line_init len fun cdv A outer s H vs Q E hr hsp => by
    obtain ⟨t, h1, h2⟩ := hbody _ cdv A outer s H vs Q E hr hsp
    exact ⟨t, h1.nox, h2⟩
  exact ⟨⟨_, fd, T.mk_Line, T.g_Line, b, ok⟩⟩
abbrev N_Line_need : List Str := ["self", "index"]
abbrev P_Line_need : List Str := ["self", "index"]
theorem sc_Line_need : FnScope N_Line_need P_Line_need (defScope s_Line_need) := ⟨rfl, rfl, rfl, by decide +kernel, rfl, by decide +kernel, by decide +kernel⟩
theorem Tx.fd_Line_need (T : Tx K mg) : ∃ fd, FunD K "_need" "Line._need" (defArgs s_Line_need) (defBody s_Line_need) (defScope s_Line_need) [] [] (He.ma K (He.ga K "Line") "_need") fd := T.says.def_ 1 (d := ⟨("Line", some "_need"), "_need", "Line._need", defArgs s_Line_need, defBody s_Line_need, defScope s_Line_need, [], []⟩) (by kernel_rfl)
theorem mk_Line_need (T : Tx K mg) {k : Nat} {sp : Sp} (len : ∀ vs H Q E, sp vs H Q E → vs.length = 2)
    (hbody : ∀ (f : Addr) (cdv : Value) (A : Around) (outer : List Env) (s : Shared) (H : Hp) (vs : List V) (Q : VK) (E : XK), Room k (A.deeper (envOfC "Line._need" (defScope s_Line_need) s.heap.objs.size f cdv)) → sp vs H Q E →
      ∃ t, PSs (cxOf CX0 P w K mg base N_Line_need "Line._need" (defScope s_Line_need) f cdv A outer s H E).nox (defBody s_Line_need) t ∧ t { nx := fun _ H' => Q .non H', rt := Q } (start N_Line_need vs) H) : MCallee P w K mg base CX0 (He.ga K "Line") "_need" P_Line_need (k + 1) sp := by
  obtain ⟨fd, F⟩ := T.fd_Line_need
  have b := F.bindsN (ps := P_Line_need) fun _ _ _ _ _ _ us hl => match us, hl with | [_, _], _ => rfl
  have ok := F.ok (P := P) (w := w) (mg := mg) (base := base) (CX := CX0) (k := k) (sp := sp) sc_Line_need len fun cdv A outer s H vs Q E hr hsp => by
    obtain ⟨t, h1, h2⟩ := hbody _ cdv A outer s H vs Q E hr hsp
    exact ⟨t, h1.nox, h2⟩
  exact ⟨T.c_Line, _, fd, T.m_Line_need, b, ok⟩
abbrev N_Line_send : List Str := ["self", "letters"]
abbrev P_Line_send : List Str := ["self", "letters"]
theorem sc_Line_send : FnScope N_Line_send P_Line_send (defScope s_Line_send) := ⟨rfl, rfl, rfl, by decide +kernel, rfl, by decide +kernel, by decide +kernel⟩
theorem Tx.fd_Line_send (T : Tx K mg) : ∃ fd, FunD K "send" "Line.send" (defArgs s_Line_send) (defBody s_Line_send) (defScope s_Line_send) [] [] (He.ma K (He.ga K "Line") "send") fd := T.says.def_ 2 (d := ⟨("Line", some "send"), "send", "Line.send", defArgs s_Line_send, defBody s_Line_send, defScope s_Line_send, [], []⟩) (by kernel_rfl)
theorem mk_Line_send (T : Tx K mg) {k : Nat} {sp : Sp} (len : ∀ vs H Q E, sp vs H Q E → vs.length = 2)
    (hbody : ∀ (f : Addr) (cdv : Value) (A : Around) (outer : List Env) (s : Shared) (H : Hp) (vs : List V) (Q : VK) (E : XK), Room k (A.deeper (envOfC "Line.send" (defScope s_Line_send) s.heap.objs.size f cdv)) → sp vs H Q E →
      ∃ t, PSs (cxOf CX0 P w K mg base N_Line_send "Line.send" (defScope s_Line_send) f cdv A outer s H E).nox (defBody s_Line_send) t ∧ t { nx := fun _ H' => Q .non H', rt := Q } (start N_Line_send vs) H) : MCallee P w K mg base CX0 (He.ga K "Line") "send" P_Line_send (k + 1) sp := by
  obtain ⟨fd, F⟩ := T.fd_Line_send
  have b := F.bindsN (ps := P_Line_send) fun _ _ _ _ _ _ us hl => match us, hl with | [_, _], _ => rfl
  have ok := F.ok (P := P) (w := w) (mg := mg) (base := base) (CX := CX0) (k := k) (sp := sp) sc_Line_send len fun cdv A outer s H vs Q E hr hsp => by
    obtain ⟨t, h1, h2⟩ := hbody _ cdv A outer s H vs Q E hr hsp
    exact ⟨t, h1.nox, h2⟩
  exact ⟨T.c_Line, _, fd, T.m_Line_send, b, ok⟩
abbrev N_Line_waiting : List Str := ["self"]
abbrev P_Line_waiting : List Str := ["self"]
theorem sc_Line_waiting : FnScope N_Line_waiting P_Line_waiting (defScope s_Line_waiting) := ⟨rfl, rfl, rfl, by decide +kernel, rfl, by decide +kernel, by decide +kernel⟩
theorem Tx.fd_Line_waiting (T : Tx K mg) : ∃ fd, FunD K "waiting" "Line.waiting" (defArgs s_Line_waiting) (defBody s_Line_waiting) (defScope s_Line_waiting) [] [] (He.ma K (He.ga K "Line") "waiting") fd := T.says.def_ 3 (d := ⟨("Line", some "waiting"), "waiting", "Line.waiting", defArgs s_Line_waiting, defBody s_Line_waiting, defScope s_Line_waiting, [], []⟩) (by kernel_rfl)
theorem mk_Line_waiting (T : Tx K mg) {k : Nat} {sp : Sp} (len : ∀ vs H Q E, sp vs H Q E → vs.length = 1)
    (hbody : ∀ (f : Addr) (cdv : Value) (A : Around) (outer : List Env) (s : Shared) (H : Hp) (vs : List V) (Q : VK) (E : XK), Room k (A.deeper (envOfC "Line.waiting" (defScope s_Line_waiting) s.heap.objs.size f cdv)) → sp vs H Q E →
      ∃ t, PSs (cxOf CX0 P w K mg base N_Line_waiting "Line.waiting" (defScope s_Line_waiting) f cdv A outer s H E).nox (defBody s_Line_waiting) t ∧ t { nx := fun _ H' => Q .non H', rt := Q } (start N_Line_waiting vs) H) : MCallee P w K mg base CX0 (He.ga K "Line") "waiting" P_Line_waiting (k + 1) sp := by
  obtain ⟨fd, F⟩ := T.fd_Line_waiting
  have b := F.bindsN (ps := P_Line_waiting) fun _ _ _ _ _ _ us hl => match us, hl with | [_], _ => rfl
  have ok := F.ok (P := P) (w := w) (mg := mg) (base := base) (CX := CX0) (k := k) (sp := sp) sc_Line_waiting len fun cdv A outer s H vs Q E hr hsp => by
    obtain ⟨t, h1, h2⟩ := hbody _ cdv A outer s H vs Q E hr hsp
    exact ⟨t, h1.nox, h2⟩
  exact ⟨T.c_Line, _, fd, T.m_Line_waiting, b, ok⟩
abbrev N_Line_deliver : List Str := ["self", "index"]
abbrev P_Line_deliver : List Str := ["self", "index"]
theorem sc_Line_deliver : FnScope N_Line_deliver P_Line_deliver (defScope s_Line_deliver) := ⟨rfl, rfl, rfl, by decide +kernel, rfl, by decide +kernel, by decide +kernel⟩
theorem Tx.fd_Line_deliver (T : Tx K mg) : ∃ fd, FunD K "deliver" "Line.deliver" (defArgs s_Line_deliver) (defBody s_Line_deliver) (defScope s_Line_deliver) [] [] (He.ma K (He.ga K "Line") "deliver") fd := T.says.def_ 4 (d := ⟨("Line", some "deliver"), "deliver", "Line.deliver", defArgs s_Line_deliver, defBody s_Line_deliver, defScope s_Line_deliver, [], []⟩) (by kernel_rfl)
theorem mk_Line_deliver (T : Tx K mg) {k : Nat} {sp : Sp} (len : ∀ vs H Q E, sp vs H Q E → vs.length = 2)
    (hbody : ∀ (f : Addr) (cdv : Value) (A : Around) (outer : List Env) (s : Shared) (H : Hp) (vs : List V) (Q : VK) (E : XK), Room k (A.deeper (envOfC "Line.deliver" (defScope s_Line_deliver) s.heap.objs.size f cdv)) → sp vs H Q E →
      ∃ t, PSs (cxOf CX0 P w K mg base N_Line_deliver "Line.deliver" (defScope s_Line_deliver) f cdv A outer s H E).nox (defBody s_Line_deliver) t ∧ t { nx := fun _ H' => Q .non H', rt := Q } (start N_Line_deliver vs) H) : MCallee P w K mg base CX0 (He.ga K "Line") "deliver" P_Line_deliver (k + 1) sp := by
  obtain ⟨fd, F⟩ := T.fd_Line_deliver
  have b := F.bindsN (ps := P_Line_deliver) fun _ _ _ _ _ _ us hl => match us, hl with | [_, _], _ => rfl
  have ok := F.ok (P := P) (w := w) (mg := mg) (base := base) (CX := CX0) (k := k) (sp := sp) sc_Line_deliver len fun cdv A outer s H vs Q E hr hsp => by
    obtain ⟨t, h1, h2⟩ := hbody _ cdv A outer s H vs Q E hr hsp
    exact ⟨t, h1.nox, h2⟩
  exact ⟨T.c_Line, _, fd, T.m_Line_deliver, b, ok⟩
abbrev N_Line_lose : List Str := ["self", "index"]
abbrev P_Line_lose : List Str := ["self", "index"]
theorem sc_Line_lose : FnScope N_Line_lose P_Line_lose (defScope s_Line_lose) := ⟨rfl, rfl, rfl, by decide +kernel, rfl, by decide +kernel, by decide +kernel⟩
theorem Tx.fd_Line_lose (T : Tx K mg) : ∃ fd, FunD K "lose" "Line.lose" (defArgs s_Line_lose) (defBody s_Line_lose) (defScope s_Line_lose) [] [] (He.ma K (He.ga K "Line") "lose") fd := T.says.def_ 5 (d := ⟨("Line", some "lose"), "lose", "Line.lose", defArgs s_Line_lose, defBody s_Line_lose, defScope s_Line_lose, [], []⟩) (by kernel_rfl)
theorem mk_Line_lose (T : Tx K mg) {k : Nat} {sp : Sp} (len : ∀ vs H Q E, sp vs H Q E → vs.length = 2)
    (hbody : ∀ (f : Addr) (cdv : Value) (A : Around) (outer : List Env) (s : Shared) (H : Hp) (vs : List V) (Q : VK) (E : XK), Room k (A.deeper (envOfC "Line.lose" (defScope s_Line_lose) s.heap.objs.size f cdv)) → sp vs H Q E →
      ∃ t, PSs (cxOf CX0 P w K mg base N_Line_lose "Line.lose" (defScope s_Line_lose) f cdv A outer s H E).nox (defBody s_Line_lose) t ∧ t { nx := fun _ H' => Q .non H', rt := Q } (start N_Line_lose vs) H) : MCallee P w K mg base CX0 (He.ga K "Line") "lose" P_Line_lose (k + 1) sp := by
  obtain ⟨fd, F⟩ := T.fd_Line_lose
  have b := F.bindsN (ps := P_Line_lose) fun _ _ _ _ _ _ us hl => match us, hl with | [_, _], _ => rfl
  have ok := F.ok (P := P) (w := w) (mg := mg) (base := base) (CX := CX0) (k := k) (sp := sp) sc_Line_lose len fun cdv A outer s H vs Q E hr hsp => by
    obtain ⟨t, h1, h2⟩ := hbody _ cdv A outer s H vs Q E hr hsp
    exact ⟨t, h1.nox, h2⟩
  exact ⟨T.c_Line, _, fd, T.m_Line_lose, b, ok⟩
abbrev N_Line_double : List Str := ["self", "index"]
abbrev P_Line_double : List Str := ["self", "index"]
theorem sc_Line_double : FnScope N_Line_double P_Line_double (defScope s_Line_double) := ⟨rfl, rfl, rfl, by decide +kernel, rfl, by decide +kernel, by decide +kernel⟩
theorem Tx.fd_Line_double (T : Tx K mg) : ∃ fd, FunD K "double" "Line.double" (defArgs s_Line_double) (defBody s_Line_double) (defScope s_Line_double) [] [] (He.ma K (He.ga K "Line") "double") fd := T.says.def_ 6 (d := ⟨("Line", some "double"), "double", "Line.double", defArgs s_Line_double, defBody s_Line_double, defScope s_Line_double, [], []⟩) (by kernel_rfl)
theorem mk_Line_double (T : Tx K mg) {k : Nat} {sp : Sp} (len : ∀ vs H Q E, sp vs H Q E → vs.length = 2)
    (hbody : ∀ (f : Addr) (cdv : Value) (A : Around) (outer : List Env) (s : Shared) (H : Hp) (vs : List V) (Q : VK) (E : XK), Room k (A.deeper (envOfC "Line.double" (defScope s_Line_double) s.heap.objs.size f cdv)) → sp vs H Q E →
      ∃ t, PSs (cxOf CX0 P w K mg base N_Line_double "Line.double" (defScope s_Line_double) f cdv A outer s H E).nox (defBody s_Line_double) t ∧ t { nx := fun _ H' => Q .non H', rt := Q } (start N_Line_double vs) H) : MCallee P w K mg base CX0 (He.ga K "Line") "double" P_Line_double (k + 1) sp := by
  obtain ⟨fd, F⟩ := T.fd_Line_double
  have b := F.bindsN (ps := P_Line_double) fun _ _ _ _ _ _ us hl => match us, hl with | [_, _], _ => rfl
  have ok := F.ok (P := P) (w := w) (mg := mg) (base := base) (CX := CX0) (k := k) (sp := sp) sc_Line_double len fun cdv A outer s H vs Q E hr hsp => by
    obtain ⟨t, h1, h2⟩ := hbody _ cdv A outer s H vs Q E hr hsp
    exact ⟨t, h1.nox, h2⟩
  exact ⟨T.c_Line, _, fd, T.m_Line_double, b, ok⟩
abbrev N_meter_of : List Str := ["plan", "name", "meter"]
abbrev P_meter_of : List Str := ["plan", "name"]
theorem sc_meter_of : FnScope N_meter_of P_meter_of (defScope s_meter_of) := ⟨rfl, rfl, rfl, by decide +kernel, rfl, by decide +kernel, by decide +kernel⟩
theorem Tx.fd_meter_of (T : Tx K mg) : ∃ fd, FunD K "meter_of" "meter_of" (defArgs s_meter_of) (defBody s_meter_of) (defScope s_meter_of) [] [] (He.ga K "meter_of") fd := T.says.def_ 7 (d := ⟨("meter_of", none), "meter_of", "meter_of", defArgs s_meter_of, defBody s_meter_of, defScope s_meter_of, [], []⟩) (by kernel_rfl)
theorem mk_meter_of (T : Tx K mg) {k : Nat} {sp : Sp} (len : ∀ vs H Q E, sp vs H Q E → vs.length = 2)
    (hbody : ∀ (f : Addr) (cdv : Value) (A : Around) (outer : List Env) (s : Shared) (H : Hp) (vs : List V) (Q : VK) (E : XK), Room k (A.deeper (envOfC "meter_of" (defScope s_meter_of) s.heap.objs.size f cdv)) → sp vs H Q E →
      ∃ t, PSs (cxOf CX0 P w K mg base N_meter_of "meter_of" (defScope s_meter_of) f cdv A outer s H E).nox (defBody s_meter_of) t ∧ t { nx := fun _ H' => Q .non H', rt := Q } (start N_meter_of vs) H) : Callee P w K mg base CX0 "meter_of" P_meter_of (k + 1) sp := by
  obtain ⟨fd, F⟩ := T.fd_meter_of
  have b := F.bindsN (ps := P_meter_of) fun _ _ _ _ _ _ us hl => match us, hl with | [_, _], _ => rfl
  have ok := F.ok (P := P) (w := w) (mg := mg) (base := base) (CX := CX0) (k := k) (sp := sp) sc_meter_of len fun cdv A outer s H vs Q E hr hsp => by
    obtain ⟨t, h1, h2⟩ := hbody _ cdv A outer s H vs Q E hr hsp
    exact ⟨t, h1.nox, h2⟩
  exact ⟨⟨_, fd, T.g_meter_of, F.kp, b, ok⟩⟩
abbrev N_Source_init : List Str := ["self", "plan", "name", "offset"]
abbrev P_Source_init : List Str := ["self", "plan", "name", "offset"]
theorem sc_Source_init : FnScope N_Source_init P_Source_init (defScope s_Source_init) := ⟨rfl, rfl, rfl, by decide +kernel, rfl, by decide +kernel, by decide +kernel⟩
theorem Tx.fd_Source_init (T : Tx K mg) : ∃ fd, FunD K "__init__" "Source.__init__" (defArgs s_Source_init) (defBody s_Source_init) (defScope s_Source_init) [] [] (He.ma K (He.ga K "Source") "__init__") fd := T.says.def_ 8 (d := ⟨("Source", some "__init__"), "__init__", "Source.__init__", defArgs s_Source_init, defBody s_Source_init, defScope s_Source_init, [], []⟩) (by kernel_rfl)
theorem mk_Source_init (T : Tx K mg) {k : Nat} {sp : Sp} (len : ∀ vs H Q E, sp vs H Q E → vs.length = 4)
    (hbody : ∀ (f : Addr) (cdv : Value) (A : Around) (outer : List Env) (s : Shared) (H : Hp) (vs : List V) (Q : VK) (E : XK), Room k (A.deeper (envOfC "Source.__init__" (defScope s_Source_init) s.heap.objs.size f cdv)) → sp vs H Q E →
      ∃ t, PSs (cxOf CX0 P w K mg base N_Source_init "Source.__init__" (defScope s_Source_init) f cdv A outer s H E).nox (defBody s_Source_init) t ∧ t { nx := fun _ H' => Q .non H', rt := Q } (start N_Source_init vs) H) : NCallee P w K mg base CX0 "Source" P_Source_init (k + 1) sp := by
  obtain ⟨fd, F⟩ := T.fd_Source_init
  have b := F.bindsN (ps := P_Source_init) fun _ _ _ _ _ _ us hl => match us, hl with | [_, _, _, _], _ => rfl
  have ok := F.ok (P := P) (w := w) (mg := mg) (base := base) (CX := CX0) (k := k) (sp := sp) sc_Source_init len fun cdv A outer s H vs Q E hr hsp => by
    obtain ⟨t, h1, h2⟩ := hbody _ cdv A outer s H vs Q E hr hsp
    exact ⟨t, h1.nox, h2⟩
  exact ⟨⟨_, fd, T.mk_Source, T.g_Source, b, ok⟩⟩
abbrev N_Source_make : List Str := ["self", "letter"]
abbrev P_Source_make : List Str := ["self", "letter"]
theorem sc_Source_make : FnScope N_Source_make P_Source_make (defScope s_Source_make) := ⟨rfl, rfl, rfl, by decide +kernel, rfl, by decide +kernel, by decide +kernel⟩
theorem Tx.fd_Source_make (T : Tx K mg) : ∃ fd, FunD K "_make" "Source._make" (defArgs s_Source_make) (defBody s_Source_make) (defScope s_Source_make) [] [] (He.ma K (He.ga K "Source") "_make") fd := T.says.def_ 9 (d := ⟨("Source", some "_make"), "_make", "Source._make", defArgs s_Source_make, defBody s_Source_make, defScope s_Source_make, [], []⟩) (by kernel_rfl)
theorem mk_Source_make (T : Tx K mg) {k : Nat} {sp : Sp} (len : ∀ vs H Q E, sp vs H Q E → vs.length = 2)
    (hbody : ∀ (f : Addr) (cdv : Value) (A : Around) (outer : List Env) (s : Shared) (H : Hp) (vs : List V) (Q : VK) (E : XK), Room k (A.deeper (envOfC "Source._make" (defScope s_Source_make) s.heap.objs.size f cdv)) → sp vs H Q E →
      ∃ t, PSs (cxOf CX0 P w K mg base N_Source_make "Source._make" (defScope s_Source_make) f cdv A outer s H E).nox (defBody s_Source_make) t ∧ t { nx := fun _ H' => Q .non H', rt := Q } (start N_Source_make vs) H) : MCallee P w K mg base CX0 (He.ga K "Source") "_make" P_Source_make (k + 1) sp := by
  obtain ⟨fd, F⟩ := T.fd_Source_make
  have b := F.bindsN (ps := P_Source_make) fun _ _ _ _ _ _ us hl => match us, hl with | [_, _], _ => rfl
  have ok := F.ok (P := P) (w := w) (mg := mg) (base := base) (CX := CX0) (k := k) (sp := sp) sc_Source_make len fun cdv A outer s H vs Q E hr hsp => by
    obtain ⟨t, h1, h2⟩ := hbody _ cdv A outer s H vs Q E hr hsp
    exact ⟨t, h1.nox, h2⟩
  exact ⟨T.c_Source, _, fd, T.m_Source_make, b, ok⟩
abbrev N_Source_is_value : List Str := ["self", "value"]
abbrev P_Source_is_value : List Str := ["self", "value"]
theorem sc_Source_is_value : FnScope N_Source_is_value P_Source_is_value (defScope s_Source_is_value) := ⟨rfl, rfl, rfl, by decide +kernel, rfl, by decide +kernel, by decide +kernel⟩
theorem Tx.fd_Source_is_value (T : Tx K mg) : ∃ fd, FunD K "_is_value" "Source._is_value" (defArgs s_Source_is_value) (defBody s_Source_is_value) (defScope s_Source_is_value) [] [] (He.ma K (He.ga K "Source") "_is_value") fd := T.says.def_ 10 (d := ⟨("Source", some "_is_value"), "_is_value", "Source._is_value", defArgs s_Source_is_value, defBody s_Source_is_value, defScope s_Source_is_value, [], []⟩) (by kernel_rfl)
theorem mk_Source_is_value (T : Tx K mg) {k : Nat} {sp : Sp} (len : ∀ vs H Q E, sp vs H Q E → vs.length = 2)
    (hbody : ∀ (f : Addr) (cdv : Value) (A : Around) (outer : List Env) (s : Shared) (H : Hp) (vs : List V) (Q : VK) (E : XK), Room k (A.deeper (envOfC "Source._is_value" (defScope s_Source_is_value) s.heap.objs.size f cdv)) → sp vs H Q E →
      ∃ t, PSs (cxOf CX0 P w K mg base N_Source_is_value "Source._is_value" (defScope s_Source_is_value) f cdv A outer s H E).nox (defBody s_Source_is_value) t ∧ t { nx := fun _ H' => Q .non H', rt := Q } (start N_Source_is_value vs) H) : MCallee P w K mg base CX0 (He.ga K "Source") "_is_value" P_Source_is_value (k + 1) sp := by
  obtain ⟨fd, F⟩ := T.fd_Source_is_value
  have b := F.bindsN (ps := P_Source_is_value) fun _ _ _ _ _ _ us hl => match us, hl with | [_, _], _ => rfl
  have ok := F.ok (P := P) (w := w) (mg := mg) (base := base) (CX := CX0) (k := k) (sp := sp) sc_Source_is_value len fun cdv A outer s H vs Q E hr hsp => by
    obtain ⟨t, h1, h2⟩ := hbody _ cdv A outer s H vs Q E hr hsp
    exact ⟨t, h1.nox, h2⟩
  exact ⟨T.c_Source, _, fd, T.m_Source_is_value, b, ok⟩
abbrev N_Source_need : List Str := ["self", "right", "why"]
abbrev P_Source_need : List Str := ["self", "right", "why"]
theorem sc_Source_need : FnScope N_Source_need P_Source_need (defScope s_Source_need) := ⟨rfl, rfl, rfl, by decide +kernel, rfl, by decide +kernel, by decide +kernel⟩
theorem Tx.fd_Source_need (T : Tx K mg) : ∃ fd, FunD K "_need" "Source._need" (defArgs s_Source_need) (defBody s_Source_need) (defScope s_Source_need) [] [] (He.ma K (He.ga K "Source") "_need") fd := T.says.def_ 11 (d := ⟨("Source", some "_need"), "_need", "Source._need", defArgs s_Source_need, defBody s_Source_need, defScope s_Source_need, [], []⟩) (by kernel_rfl)
theorem mk_Source_need (T : Tx K mg) {k : Nat} {sp : Sp} (len : ∀ vs H Q E, sp vs H Q E → vs.length = 3)
    (hbody : ∀ (f : Addr) (cdv : Value) (A : Around) (outer : List Env) (s : Shared) (H : Hp) (vs : List V) (Q : VK) (E : XK), Room k (A.deeper (envOfC "Source._need" (defScope s_Source_need) s.heap.objs.size f cdv)) → sp vs H Q E →
      ∃ t, PSs (cxOf (L2N.CX P w) P w K mg base N_Source_need "Source._need" (defScope s_Source_need) f cdv A outer s H E) (defBody s_Source_need) t ∧ t { nx := fun _ H' => Q .non H', rt := Q } (start N_Source_need vs) H) : MCallee P w K mg base (L2N.CX P w) (He.ga K "Source") "_need" P_Source_need (k + 1) sp := by
  obtain ⟨fd, F⟩ := T.fd_Source_need
  have b := F.bindsN (ps := P_Source_need) fun _ _ _ _ _ _ us hl => match us, hl with | [_, _, _], _ => rfl
  have ok := F.ok (P := P) (w := w) (mg := mg) (base := base) (CX := (L2N.CX P w)) (k := k) (sp := sp) sc_Source_need len fun cdv A outer s H vs Q E hr hsp => by
    obtain ⟨t, h1, h2⟩ := hbody _ cdv A outer s H vs Q E hr hsp
    exact ⟨t, h1, h2⟩
  exact ⟨T.c_Source, _, fd, T.m_Source_need, b, ok⟩
abbrev N_Source_record : List Str := ["self", "stamp", "value"]
abbrev P_Source_record : List Str := ["self", "stamp", "value"]
theorem sc_Source_record : FnScope N_Source_record P_Source_record (defScope s_Source_record) := ⟨rfl, rfl, rfl, by decide +kernel, rfl, by decide +kernel, by decide +kernel⟩
theorem Tx.fd_Source_record (T : Tx K mg) : ∃ fd, FunD K "record" "Source.record" (defArgs s_Source_record) (defBody s_Source_record) (defScope s_Source_record) [] [] (He.ma K (He.ga K "Source") "record") fd := T.says.def_ 12 (d := ⟨("Source", some "record"), "record", "Source.record", defArgs s_Source_record, defBody s_Source_record, defScope s_Source_record, [], []⟩) (by kernel_rfl)
theorem mk_Source_record (T : Tx K mg) {k : Nat} {sp : Sp} (len : ∀ vs H Q E, sp vs H Q E → vs.length = 3)
    (hbody : ∀ (f : Addr) (cdv : Value) (A : Around) (outer : List Env) (s : Shared) (H : Hp) (vs : List V) (Q : VK) (E : XK), Room k (A.deeper (envOfC "Source.record" (defScope s_Source_record) s.heap.objs.size f cdv)) → sp vs H Q E →
      ∃ t, PSs (cxOf (L2N.CX P w) P w K mg base N_Source_record "Source.record" (defScope s_Source_record) f cdv A outer s H E) (defBody s_Source_record) t ∧ t { nx := fun _ H' => Q .non H', rt := Q } (start N_Source_record vs) H) : MCallee P w K mg base (L2N.CX P w) (He.ga K "Source") "record" P_Source_record (k + 1) sp := by
  obtain ⟨fd, F⟩ := T.fd_Source_record
  have b := F.bindsN (ps := P_Source_record) fun _ _ _ _ _ _ us hl => match us, hl with | [_, _, _], _ => rfl
  have ok := F.ok (P := P) (w := w) (mg := mg) (base := base) (CX := (L2N.CX P w)) (k := k) (sp := sp) sc_Source_record len fun cdv A outer s H vs Q E hr hsp => by
    obtain ⟨t, h1, h2⟩ := hbody _ cdv A outer s H vs Q E hr hsp
    exact ⟨t, h1, h2⟩
  exact ⟨T.c_Source, _, fd, T.m_Source_record, b, ok⟩
abbrev N_Source_need_open : List Str := ["self", "slot"]
abbrev P_Source_need_open : List Str := ["self", "slot"]
theorem sc_Source_need_open : FnScope N_Source_need_open P_Source_need_open (defScope s_Source_need_open) := ⟨rfl, rfl, rfl, by decide +kernel, rfl, by decide +kernel, by decide +kernel⟩
theorem Tx.fd_Source_need_open (T : Tx K mg) : ∃ fd, FunD K "_need_open" "Source._need_open" (defArgs s_Source_need_open) (defBody s_Source_need_open) (defScope s_Source_need_open) [] [] (He.ma K (He.ga K "Source") "_need_open") fd := T.says.def_ 13 (d := ⟨("Source", some "_need_open"), "_need_open", "Source._need_open", defArgs s_Source_need_open, defBody s_Source_need_open, defScope s_Source_need_open, [], []⟩) (by kernel_rfl)
theorem mk_Source_need_open (T : Tx K mg) {k : Nat} {sp : Sp} (len : ∀ vs H Q E, sp vs H Q E → vs.length = 2)
    (hbody : ∀ (f : Addr) (cdv : Value) (A : Around) (outer : List Env) (s : Shared) (H : Hp) (vs : List V) (Q : VK) (E : XK), Room k (A.deeper (envOfC "Source._need_open" (defScope s_Source_need_open) s.heap.objs.size f cdv)) → sp vs H Q E →
      ∃ t, PSs (cxOf (L2N.CX P w) P w K mg base N_Source_need_open "Source._need_open" (defScope s_Source_need_open) f cdv A outer s H E) (defBody s_Source_need_open) t ∧ t { nx := fun _ H' => Q .non H', rt := Q } (start N_Source_need_open vs) H) : MCallee P w K mg base (L2N.CX P w) (He.ga K "Source") "_need_open" P_Source_need_open (k + 1) sp := by
  obtain ⟨fd, F⟩ := T.fd_Source_need_open
  have b := F.bindsN (ps := P_Source_need_open) fun _ _ _ _ _ _ us hl => match us, hl with | [_, _], _ => rfl
  have ok := F.ok (P := P) (w := w) (mg := mg) (base := base) (CX := (L2N.CX P w)) (k := k) (sp := sp) sc_Source_need_open len fun cdv A outer s H vs Q E hr hsp => by
    obtain ⟨t, h1, h2⟩ := hbody _ cdv A outer s H vs Q E hr hsp
    exact ⟨t, h1, h2⟩
  exact ⟨T.c_Source, _, fd, T.m_Source_need_open, b, ok⟩
abbrev N_Source_add : List Str := ["self", "slot", "value", "stamp", "versions"]
abbrev P_Source_add : List Str := ["self", "slot", "value"]
theorem sc_Source_add : FnScope N_Source_add P_Source_add (defScope s_Source_add) := ⟨rfl, rfl, rfl, by decide +kernel, rfl, by decide +kernel, by decide +kernel⟩
theorem Tx.fd_Source_add (T : Tx K mg) : ∃ fd, FunD K "_add" "Source._add" (defArgs s_Source_add) (defBody s_Source_add) (defScope s_Source_add) [] [] (He.ma K (He.ga K "Source") "_add") fd := T.says.def_ 14 (d := ⟨("Source", some "_add"), "_add", "Source._add", defArgs s_Source_add, defBody s_Source_add, defScope s_Source_add, [], []⟩) (by kernel_rfl)
theorem mk_Source_add (T : Tx K mg) {k : Nat} {sp : Sp} (len : ∀ vs H Q E, sp vs H Q E → vs.length = 3)
    (hbody : ∀ (f : Addr) (cdv : Value) (A : Around) (outer : List Env) (s : Shared) (H : Hp) (vs : List V) (Q : VK) (E : XK), Room k (A.deeper (envOfC "Source._add" (defScope s_Source_add) s.heap.objs.size f cdv)) → sp vs H Q E →
      ∃ t, PSs (cxOf CX0 P w K mg base N_Source_add "Source._add" (defScope s_Source_add) f cdv A outer s H E).nox (defBody s_Source_add) t ∧ t { nx := fun _ H' => Q .non H', rt := Q } (start N_Source_add vs) H) : MCallee P w K mg base CX0 (He.ga K "Source") "_add" P_Source_add (k + 1) sp := by
  obtain ⟨fd, F⟩ := T.fd_Source_add
  have b := F.bindsN (ps := P_Source_add) fun _ _ _ _ _ _ us hl => match us, hl with | [_, _, _], _ => rfl
  have ok := F.ok (P := P) (w := w) (mg := mg) (base := base) (CX := CX0) (k := k) (sp := sp) sc_Source_add len fun cdv A outer s H vs Q E hr hsp => by
    obtain ⟨t, h1, h2⟩ := hbody _ cdv A outer s H vs Q E hr hsp
    exact ⟨t, h1.nox, h2⟩
  exact ⟨T.c_Source, _, fd, T.m_Source_add, b, ok⟩
abbrev N_Source_correct : List Str := ["self", "slot", "value"]
abbrev P_Source_correct : List Str := ["self", "slot", "value"]
theorem sc_Source_correct : FnScope N_Source_correct P_Source_correct (defScope s_Source_correct) := ⟨rfl, rfl, rfl, by decide +kernel, rfl, by decide +kernel, by decide +kernel⟩
theorem Tx.fd_Source_correct (T : Tx K mg) : ∃ fd, FunD K "correct" "Source.correct" (defArgs s_Source_correct) (defBody s_Source_correct) (defScope s_Source_correct) [] [] (He.ma K (He.ga K "Source") "correct") fd := T.says.def_ 15 (d := ⟨("Source", some "correct"), "correct", "Source.correct", defArgs s_Source_correct, defBody s_Source_correct, defScope s_Source_correct, [], []⟩) (by kernel_rfl)
theorem mk_Source_correct (T : Tx K mg) {k : Nat} {sp : Sp} (len : ∀ vs H Q E, sp vs H Q E → vs.length = 3)
    (hbody : ∀ (f : Addr) (cdv : Value) (A : Around) (outer : List Env) (s : Shared) (H : Hp) (vs : List V) (Q : VK) (E : XK), Room k (A.deeper (envOfC "Source.correct" (defScope s_Source_correct) s.heap.objs.size f cdv)) → sp vs H Q E →
      ∃ t, PSs (cxOf (L2N.CX P w) P w K mg base N_Source_correct "Source.correct" (defScope s_Source_correct) f cdv A outer s H E) (defBody s_Source_correct) t ∧ t { nx := fun _ H' => Q .non H', rt := Q } (start N_Source_correct vs) H) : MCallee P w K mg base (L2N.CX P w) (He.ga K "Source") "correct" P_Source_correct (k + 1) sp := by
  obtain ⟨fd, F⟩ := T.fd_Source_correct
  have b := F.bindsN (ps := P_Source_correct) fun _ _ _ _ _ _ us hl => match us, hl with | [_, _, _], _ => rfl
  have ok := F.ok (P := P) (w := w) (mg := mg) (base := base) (CX := (L2N.CX P w)) (k := k) (sp := sp) sc_Source_correct len fun cdv A outer s H vs Q E hr hsp => by
    obtain ⟨t, h1, h2⟩ := hbody _ cdv A outer s H vs Q E hr hsp
    exact ⟨t, h1, h2⟩
  exact ⟨T.c_Source, _, fd, T.m_Source_correct, b, ok⟩
abbrev N_Source_take_back : List Str := ["self", "slot"]
abbrev P_Source_take_back : List Str := ["self", "slot"]
theorem sc_Source_take_back : FnScope N_Source_take_back P_Source_take_back (defScope s_Source_take_back) := ⟨rfl, rfl, rfl, by decide +kernel, rfl, by decide +kernel, by decide +kernel⟩
theorem Tx.fd_Source_take_back (T : Tx K mg) : ∃ fd, FunD K "take_back" "Source.take_back" (defArgs s_Source_take_back) (defBody s_Source_take_back) (defScope s_Source_take_back) [] [] (He.ma K (He.ga K "Source") "take_back") fd := T.says.def_ 16 (d := ⟨("Source", some "take_back"), "take_back", "Source.take_back", defArgs s_Source_take_back, defBody s_Source_take_back, defScope s_Source_take_back, [], []⟩) (by kernel_rfl)
theorem mk_Source_take_back (T : Tx K mg) {k : Nat} {sp : Sp} (len : ∀ vs H Q E, sp vs H Q E → vs.length = 2)
    (hbody : ∀ (f : Addr) (cdv : Value) (A : Around) (outer : List Env) (s : Shared) (H : Hp) (vs : List V) (Q : VK) (E : XK), Room k (A.deeper (envOfC "Source.take_back" (defScope s_Source_take_back) s.heap.objs.size f cdv)) → sp vs H Q E →
      ∃ t, PSs (cxOf (L2N.CX P w) P w K mg base N_Source_take_back "Source.take_back" (defScope s_Source_take_back) f cdv A outer s H E) (defBody s_Source_take_back) t ∧ t { nx := fun _ H' => Q .non H', rt := Q } (start N_Source_take_back vs) H) : MCallee P w K mg base (L2N.CX P w) (He.ga K "Source") "take_back" P_Source_take_back (k + 1) sp := by
  obtain ⟨fd, F⟩ := T.fd_Source_take_back
  have b := F.bindsN (ps := P_Source_take_back) fun _ _ _ _ _ _ us hl => match us, hl with | [_, _], _ => rfl
  have ok := F.ok (P := P) (w := w) (mg := mg) (base := base) (CX := (L2N.CX P w)) (k := k) (sp := sp) sc_Source_take_back len fun cdv A outer s H vs Q E hr hsp => by
    obtain ⟨t, h1, h2⟩ := hbody _ cdv A outer s H vs Q E hr hsp
    exact ⟨t, h1, h2⟩
  exact ⟨T.c_Source, _, fd, T.m_Source_take_back, b, ok⟩
abbrev N_Source_close : List Str := ["self", "stamp", "closed", "slot"]
abbrev P_Source_close : List Str := ["self", "stamp"]
theorem sc_Source_close : FnScope N_Source_close P_Source_close (defScope s_Source_close) := ⟨rfl, rfl, rfl, by decide +kernel, rfl, by decide +kernel, by decide +kernel⟩
theorem Tx.fd_Source_close (T : Tx K mg) : ∃ fd, FunD K "close" "Source.close" (defArgs s_Source_close) (defBody s_Source_close) (defScope s_Source_close) [] [] (He.ma K (He.ga K "Source") "close") fd := T.says.def_ 17 (d := ⟨("Source", some "close"), "close", "Source.close", defArgs s_Source_close, defBody s_Source_close, defScope s_Source_close, [], []⟩) (by kernel_rfl)
theorem mk_Source_close (T : Tx K mg) {k : Nat} {sp : Sp} (len : ∀ vs H Q E, sp vs H Q E → vs.length = 2)
    (hbody : ∀ (f : Addr) (cdv : Value) (A : Around) (outer : List Env) (s : Shared) (H : Hp) (vs : List V) (Q : VK) (E : XK), Room k (A.deeper (envOfC "Source.close" (defScope s_Source_close) s.heap.objs.size f cdv)) → sp vs H Q E →
      ∃ t, PSs (cxOf (L2N.CX P w) P w K mg base N_Source_close "Source.close" (defScope s_Source_close) f cdv A outer s H E) (defBody s_Source_close) t ∧ t { nx := fun _ H' => Q .non H', rt := Q } (start N_Source_close vs) H) : MCallee P w K mg base (L2N.CX P w) (He.ga K "Source") "close" P_Source_close (k + 1) sp := by
  obtain ⟨fd, F⟩ := T.fd_Source_close
  have b := F.bindsN (ps := P_Source_close) fun _ _ _ _ _ _ us hl => match us, hl with | [_, _], _ => rfl
  have ok := F.ok (P := P) (w := w) (mg := mg) (base := base) (CX := (L2N.CX P w)) (k := k) (sp := sp) sc_Source_close len fun cdv A outer s H vs Q E hr hsp => by
    obtain ⟨t, h1, h2⟩ := hbody _ cdv A outer s H vs Q E hr hsp
    exact ⟨t, h1, h2⟩
  exact ⟨T.c_Source, _, fd, T.m_Source_close, b, ok⟩
abbrev N_Source_check : List Str := ["self", "low", "high"]
abbrev P_Source_check : List Str := ["self", "low", "high"]
theorem sc_Source_check : FnScope N_Source_check P_Source_check (defScope s_Source_check) := ⟨rfl, rfl, rfl, by decide +kernel, rfl, by decide +kernel, by decide +kernel⟩
theorem Tx.fd_Source_check (T : Tx K mg) : ∃ fd, FunD K "check" "Source.check" (defArgs s_Source_check) (defBody s_Source_check) (defScope s_Source_check) [] [] (He.ma K (He.ga K "Source") "check") fd := T.says.def_ 18 (d := ⟨("Source", some "check"), "check", "Source.check", defArgs s_Source_check, defBody s_Source_check, defScope s_Source_check, [], []⟩) (by kernel_rfl)
theorem mk_Source_check (T : Tx K mg) {k : Nat} {sp : Sp} (len : ∀ vs H Q E, sp vs H Q E → vs.length = 3)
    (hbody : ∀ (f : Addr) (cdv : Value) (A : Around) (outer : List Env) (s : Shared) (H : Hp) (vs : List V) (Q : VK) (E : XK), Room k (A.deeper (envOfC "Source.check" (defScope s_Source_check) s.heap.objs.size f cdv)) → sp vs H Q E →
      ∃ t, PSs (cxOf (L2N.CX P w) P w K mg base N_Source_check "Source.check" (defScope s_Source_check) f cdv A outer s H E) (defBody s_Source_check) t ∧ t { nx := fun _ H' => Q .non H', rt := Q } (start N_Source_check vs) H) : MCallee P w K mg base (L2N.CX P w) (He.ga K "Source") "check" P_Source_check (k + 1) sp := by
  obtain ⟨fd, F⟩ := T.fd_Source_check
  have b := F.bindsN (ps := P_Source_check) fun _ _ _ _ _ _ us hl => match us, hl with | [_, _, _], _ => rfl
  have ok := F.ok (P := P) (w := w) (mg := mg) (base := base) (CX := (L2N.CX P w)) (k := k) (sp := sp) sc_Source_check len fun cdv A outer s H vs Q E hr hsp => by
    obtain ⟨t, h1, h2⟩ := hbody _ cdv A outer s H vs Q E hr hsp
    exact ⟨t, h1, h2⟩
  exact ⟨T.c_Source, _, fd, T.m_Source_check, b, ok⟩
abbrev N_Source_log : List Str := ["self"]
abbrev P_Source_log : List Str := ["self"]
theorem sc_Source_log : FnScope N_Source_log P_Source_log (defScope s_Source_log) := ⟨rfl, rfl, rfl, by decide +kernel, rfl, by decide +kernel, by decide +kernel⟩
theorem Tx.fd_Source_log (T : Tx K mg) : ∃ fd, FunD K "log" "Source.log" (defArgs s_Source_log) (defBody s_Source_log) (defScope s_Source_log) [] [] (He.ma K (He.ga K "Source") "log") fd := T.says.def_ 19 (d := ⟨("Source", some "log"), "log", "Source.log", defArgs s_Source_log, defBody s_Source_log, defScope s_Source_log, [], []⟩) (by kernel_rfl)
theorem mk_Source_log (T : Tx K mg) {k : Nat} {sp : Sp} (len : ∀ vs H Q E, sp vs H Q E → vs.length = 1)
    (hbody : ∀ (f : Addr) (cdv : Value) (A : Around) (outer : List Env) (s : Shared) (H : Hp) (vs : List V) (Q : VK) (E : XK), Room k (A.deeper (envOfC "Source.log" (defScope s_Source_log) s.heap.objs.size f cdv)) → sp vs H Q E →
      ∃ t, PSs (cxOf CX0 P w K mg base N_Source_log "Source.log" (defScope s_Source_log) f cdv A outer s H E).nox (defBody s_Source_log) t ∧ t { nx := fun _ H' => Q .non H', rt := Q } (start N_Source_log vs) H) : MCallee P w K mg base CX0 (He.ga K "Source") "log" P_Source_log (k + 1) sp := by
  obtain ⟨fd, F⟩ := T.fd_Source_log
  have b := F.bindsN (ps := P_Source_log) fun _ _ _ _ _ _ us hl => match us, hl with | [_], _ => rfl
  have ok := F.ok (P := P) (w := w) (mg := mg) (base := base) (CX := CX0) (k := k) (sp := sp) sc_Source_log len fun cdv A outer s H vs Q E hr hsp => by
    obtain ⟨t, h1, h2⟩ := hbody _ cdv A outer s H vs Q E hr hsp
    exact ⟨t, h1.nox, h2⟩
  exact ⟨T.c_Source, _, fd, T.m_Source_log, b, ok⟩
abbrev N_Source_due : List Str := ["self"]
abbrev P_Source_due : List Str := ["self"]
theorem sc_Source_due : FnScope N_Source_due P_Source_due (defScope s_Source_due) := ⟨rfl, rfl, rfl, by decide +kernel, rfl, by decide +kernel, by decide +kernel⟩
theorem Tx.fd_Source_due (T : Tx K mg) : ∃ fd, FunD K "due" "Source.due" (defArgs s_Source_due) (defBody s_Source_due) (defScope s_Source_due) [] [] (He.ma K (He.ga K "Source") "due") fd := T.says.def_ 20 (d := ⟨("Source", some "due"), "due", "Source.due", defArgs s_Source_due, defBody s_Source_due, defScope s_Source_due, [], []⟩) (by kernel_rfl)
theorem mk_Source_due (T : Tx K mg) {k : Nat} {sp : Sp} (len : ∀ vs H Q E, sp vs H Q E → vs.length = 1)
    (hbody : ∀ (f : Addr) (cdv : Value) (A : Around) (outer : List Env) (s : Shared) (H : Hp) (vs : List V) (Q : VK) (E : XK), Room k (A.deeper (envOfC "Source.due" (defScope s_Source_due) s.heap.objs.size f cdv)) → sp vs H Q E →
      ∃ t, PSs (cxOf CX0 P w K mg base N_Source_due "Source.due" (defScope s_Source_due) f cdv A outer s H E).nox (defBody s_Source_due) t ∧ t { nx := fun _ H' => Q .non H', rt := Q } (start N_Source_due vs) H) : MCallee P w K mg base CX0 (He.ga K "Source") "due" P_Source_due (k + 1) sp := by
  obtain ⟨fd, F⟩ := T.fd_Source_due
  have b := F.bindsN (ps := P_Source_due) fun _ _ _ _ _ _ us hl => match us, hl with | [_], _ => rfl
  have ok := F.ok (P := P) (w := w) (mg := mg) (base := base) (CX := CX0) (k := k) (sp := sp) sc_Source_due len fun cdv A outer s H vs Q E hr hsp => by
    obtain ⟨t, h1, h2⟩ := hbody _ cdv A outer s H vs Q E hr hsp
    exact ⟨t, h1.nox, h2⟩
  exact ⟨T.c_Source, _, fd, T.m_Source_due, b, ok⟩
abbrev N_Source_acknowledge : List Str := ["self", "letter", "other"]
abbrev P_Source_acknowledge : List Str := ["self", "letter"]
theorem sc_Source_acknowledge : FnScope N_Source_acknowledge P_Source_acknowledge (defScope s_Source_acknowledge) := ⟨rfl, rfl, rfl, by decide +kernel, rfl, by decide +kernel, by decide +kernel⟩
theorem Tx.fd_Source_acknowledge (T : Tx K mg) : ∃ fd, FunD K "acknowledge" "Source.acknowledge" (defArgs s_Source_acknowledge) (defBody s_Source_acknowledge) (defScope s_Source_acknowledge) [] [] (He.ma K (He.ga K "Source") "acknowledge") fd := T.says.def_ 21 (d := ⟨("Source", some "acknowledge"), "acknowledge", "Source.acknowledge", defArgs s_Source_acknowledge, defBody s_Source_acknowledge, defScope s_Source_acknowledge, [], []⟩) (by kernel_rfl)
theorem mk_Source_acknowledge (T : Tx K mg) {k : Nat} {sp : Sp} (len : ∀ vs H Q E, sp vs H Q E → vs.length = 2)
    (hbody : ∀ (f : Addr) (cdv : Value) (A : Around) (outer : List Env) (s : Shared) (H : Hp) (vs : List V) (Q : VK) (E : XK), Room k (A.deeper (envOfC "Source.acknowledge" (defScope s_Source_acknowledge) s.heap.objs.size f cdv)) → sp vs H Q E →
      ∃ t, PSs (cxOf CX0 P w K mg base N_Source_acknowledge "Source.acknowledge" (defScope s_Source_acknowledge) f cdv A outer s H E).nox (defBody s_Source_acknowledge) t ∧ t { nx := fun _ H' => Q .non H', rt := Q } (start N_Source_acknowledge vs) H) : MCallee P w K mg base CX0 (He.ga K "Source") "acknowledge" P_Source_acknowledge (k + 1) sp := by
  obtain ⟨fd, F⟩ := T.fd_Source_acknowledge
  have b := F.bindsN (ps := P_Source_acknowledge) fun _ _ _ _ _ _ us hl => match us, hl with | [_, _], _ => rfl
  have ok := F.ok (P := P) (w := w) (mg := mg) (base := base) (CX := CX0) (k := k) (sp := sp) sc_Source_acknowledge len fun cdv A outer s H vs Q E hr hsp => by
    obtain ⟨t, h1, h2⟩ := hbody _ cdv A outer s H vs Q E hr hsp
    exact ⟨t, h1.nox, h2⟩
  exact ⟨T.c_Source, _, fd, T.m_Source_acknowledge, b, ok⟩
abbrev N_versions_right : List Str := ["meter", "versions", "value"]
abbrev P_versions_right : List Str := ["meter", "versions"]
theorem sc_versions_right : FnScope N_versions_right P_versions_right (defScope s_versions_right) := ⟨rfl, rfl, rfl, by decide +kernel, rfl, by decide +kernel, by decide +kernel⟩
theorem Tx.fd_versions_right (T : Tx K mg) : ∃ fd, FunD K "versions_right" "versions_right" (defArgs s_versions_right) (defBody s_versions_right) (defScope s_versions_right) [] [] (He.ga K "versions_right") fd := T.says.def_ 22 (d := ⟨("versions_right", none), "versions_right", "versions_right", defArgs s_versions_right, defBody s_versions_right, defScope s_versions_right, [], []⟩) (by kernel_rfl)
theorem mk_versions_right (T : Tx K mg) {k : Nat} {sp : Sp} (len : ∀ vs H Q E, sp vs H Q E → vs.length = 2)
    (hbody : ∀ (f : Addr) (cdv : Value) (A : Around) (outer : List Env) (s : Shared) (H : Hp) (vs : List V) (Q : VK) (E : XK), Room k (A.deeper (envOfC "versions_right" (defScope s_versions_right) s.heap.objs.size f cdv)) → sp vs H Q E →
      ∃ t, PSs (cxOf CX0 P w K mg base N_versions_right "versions_right" (defScope s_versions_right) f cdv A outer s H E).nox (defBody s_versions_right) t ∧ t { nx := fun _ H' => Q .non H', rt := Q } (start N_versions_right vs) H) : Callee P w K mg base CX0 "versions_right" P_versions_right (k + 1) sp := by
  obtain ⟨fd, F⟩ := T.fd_versions_right
  have b := F.bindsN (ps := P_versions_right) fun _ _ _ _ _ _ us hl => match us, hl with | [_, _], _ => rfl
  have ok := F.ok (P := P) (w := w) (mg := mg) (base := base) (CX := CX0) (k := k) (sp := sp) sc_versions_right len fun cdv A outer s H vs Q E hr hsp => by
    obtain ⟨t, h1, h2⟩ := hbody _ cdv A outer s H vs Q E hr hsp
    exact ⟨t, h1.nox, h2⟩
  exact ⟨⟨_, fd, T.g_versions_right, F.kp, b, ok⟩⟩
abbrev N_slots_right : List Str := ["meter", "slots", "index", "slot"]
abbrev P_slots_right : List Str := ["meter", "slots"]
theorem sc_slots_right : FnScope N_slots_right P_slots_right (defScope s_slots_right) := ⟨rfl, rfl, rfl, by decide +kernel, rfl, by decide +kernel, by decide +kernel⟩
theorem Tx.fd_slots_right (T : Tx K mg) : ∃ fd, FunD K "slots_right" "slots_right" (defArgs s_slots_right) (defBody s_slots_right) (defScope s_slots_right) [] [] (He.ga K "slots_right") fd := T.says.def_ 23 (d := ⟨("slots_right", none), "slots_right", "slots_right", defArgs s_slots_right, defBody s_slots_right, defScope s_slots_right, [], []⟩) (by kernel_rfl)
theorem mk_slots_right (T : Tx K mg) {k : Nat} {sp : Sp} (len : ∀ vs H Q E, sp vs H Q E → vs.length = 2)
    (hbody : ∀ (f : Addr) (cdv : Value) (A : Around) (outer : List Env) (s : Shared) (H : Hp) (vs : List V) (Q : VK) (E : XK), Room k (A.deeper (envOfC "slots_right" (defScope s_slots_right) s.heap.objs.size f cdv)) → sp vs H Q E →
      ∃ t, PSs (cxOf CX0 P w K mg base N_slots_right "slots_right" (defScope s_slots_right) f cdv A outer s H E).nox (defBody s_slots_right) t ∧ t { nx := fun _ H' => Q .non H', rt := Q } (start N_slots_right vs) H) : Callee P w K mg base CX0 "slots_right" P_slots_right (k + 1) sp := by
  obtain ⟨fd, F⟩ := T.fd_slots_right
  have b := F.bindsN (ps := P_slots_right) fun _ _ _ _ _ _ us hl => match us, hl with | [_, _], _ => rfl
  have ok := F.ok (P := P) (w := w) (mg := mg) (base := base) (CX := CX0) (k := k) (sp := sp) sc_slots_right len fun cdv A outer s H vs Q E hr hsp => by
    obtain ⟨t, h1, h2⟩ := hbody _ cdv A outer s H vs Q E hr hsp
    exact ⟨t, h1.nox, h2⟩
  exact ⟨⟨_, fd, T.g_slots_right, F.kp, b, ok⟩⟩
abbrev N_is_history : List Str := ["plan", "history", "name", "offset", "slots", "meter", "log"]
abbrev P_is_history : List Str := ["plan", "history"]
theorem sc_is_history : FnScope N_is_history P_is_history (defScope s_is_history) := ⟨rfl, rfl, rfl, by decide +kernel, rfl, by decide +kernel, by decide +kernel⟩
theorem Tx.fd_is_history (T : Tx K mg) : ∃ fd, FunD K "is_history" "is_history" (defArgs s_is_history) (defBody s_is_history) (defScope s_is_history) [] [] (He.ga K "is_history") fd := T.says.def_ 24 (d := ⟨("is_history", none), "is_history", "is_history", defArgs s_is_history, defBody s_is_history, defScope s_is_history, [], []⟩) (by kernel_rfl)
theorem mk_is_history (T : Tx K mg) {k : Nat} {sp : Sp} (len : ∀ vs H Q E, sp vs H Q E → vs.length = 2)
    (hbody : ∀ (f : Addr) (cdv : Value) (A : Around) (outer : List Env) (s : Shared) (H : Hp) (vs : List V) (Q : VK) (E : XK), Room k (A.deeper (envOfC "is_history" (defScope s_is_history) s.heap.objs.size f cdv)) → sp vs H Q E →
      ∃ t, PSs (cxOf CX0 P w K mg base N_is_history "is_history" (defScope s_is_history) f cdv A outer s H E).nox (defBody s_is_history) t ∧ t { nx := fun _ H' => Q .non H', rt := Q } (start N_is_history vs) H) : Callee P w K mg base CX0 "is_history" P_is_history (k + 1) sp := by
  obtain ⟨fd, F⟩ := T.fd_is_history
  have b := F.bindsN (ps := P_is_history) fun _ _ _ _ _ _ us hl => match us, hl with | [_, _], _ => rfl
  have ok := F.ok (P := P) (w := w) (mg := mg) (base := base) (CX := CX0) (k := k) (sp := sp) sc_is_history len fun cdv A outer s H vs Q E hr hsp => by
    obtain ⟨t, h1, h2⟩ := hbody _ cdv A outer s H vs Q E hr hsp
    exact ⟨t, h1.nox, h2⟩
  exact ⟨⟨_, fd, T.g_is_history, F.kp, b, ok⟩⟩
abbrev N_is_read : List Str := ["letter", "slots", "number", "version", "stamp", "value", "slot"]
abbrev P_is_read : List Str := ["letter", "slots"]
theorem sc_is_read : FnScope N_is_read P_is_read (defScope s_is_read) := ⟨rfl, rfl, rfl, by decide +kernel, rfl, by decide +kernel, by decide +kernel⟩
theorem Tx.fd_is_read (T : Tx K mg) : ∃ fd, FunD K "is_read" "is_read" (defArgs s_is_read) (defBody s_is_read) (defScope s_is_read) [] [] (He.ga K "is_read") fd := T.says.def_ 25 (d := ⟨("is_read", none), "is_read", "is_read", defArgs s_is_read, defBody s_is_read, defScope s_is_read, [], []⟩) (by kernel_rfl)
theorem mk_is_read (T : Tx K mg) {k : Nat} {sp : Sp} (len : ∀ vs H Q E, sp vs H Q E → vs.length = 2)
    (hbody : ∀ (f : Addr) (cdv : Value) (A : Around) (outer : List Env) (s : Shared) (H : Hp) (vs : List V) (Q : VK) (E : XK), Room k (A.deeper (envOfC "is_read" (defScope s_is_read) s.heap.objs.size f cdv)) → sp vs H Q E →
      ∃ t, PSs (cxOf CX0 P w K mg base N_is_read "is_read" (defScope s_is_read) f cdv A outer s H E).nox (defBody s_is_read) t ∧ t { nx := fun _ H' => Q .non H', rt := Q } (start N_is_read vs) H) : Callee P w K mg base CX0 "is_read" P_is_read (k + 1) sp := by
  obtain ⟨fd, F⟩ := T.fd_is_read
  have b := F.bindsN (ps := P_is_read) fun _ _ _ _ _ _ us hl => match us, hl with | [_, _], _ => rfl
  have ok := F.ok (P := P) (w := w) (mg := mg) (base := base) (CX := CX0) (k := k) (sp := sp) sc_is_read len fun cdv A outer s H vs Q E hr hsp => by
    obtain ⟨t, h1, h2⟩ := hbody _ cdv A outer s H vs Q E hr hsp
    exact ⟨t, h1.nox, h2⟩
  exact ⟨⟨_, fd, T.g_is_read, F.kp, b, ok⟩⟩
abbrev N_is_closed : List Str := ["letter", "slots", "many", "stamp", "versions", "index", "slot"]
abbrev P_is_closed : List Str := ["letter", "slots"]
theorem sc_is_closed : FnScope N_is_closed P_is_closed (defScope s_is_closed) := ⟨rfl, rfl, rfl, by decide +kernel, rfl, by decide +kernel, by decide +kernel⟩
theorem Tx.fd_is_closed (T : Tx K mg) : ∃ fd, FunD K "is_closed" "is_closed" (defArgs s_is_closed) (defBody s_is_closed) (defScope s_is_closed) [] [] (He.ga K "is_closed") fd := T.says.def_ 26 (d := ⟨("is_closed", none), "is_closed", "is_closed", defArgs s_is_closed, defBody s_is_closed, defScope s_is_closed, [], []⟩) (by kernel_rfl)
theorem mk_is_closed (T : Tx K mg) {k : Nat} {sp : Sp} (len : ∀ vs H Q E, sp vs H Q E → vs.length = 2)
    (hbody : ∀ (f : Addr) (cdv : Value) (A : Around) (outer : List Env) (s : Shared) (H : Hp) (vs : List V) (Q : VK) (E : XK), Room k (A.deeper (envOfC "is_closed" (defScope s_is_closed) s.heap.objs.size f cdv)) → sp vs H Q E →
      ∃ t, PSs (cxOf CX0 P w K mg base N_is_closed "is_closed" (defScope s_is_closed) f cdv A outer s H E).nox (defBody s_is_closed) t ∧ t { nx := fun _ H' => Q .non H', rt := Q } (start N_is_closed vs) H) : Callee P w K mg base CX0 "is_closed" P_is_closed (k + 1) sp := by
  obtain ⟨fd, F⟩ := T.fd_is_closed
  have b := F.bindsN (ps := P_is_closed) fun _ _ _ _ _ _ us hl => match us, hl with | [_, _], _ => rfl
  have ok := F.ok (P := P) (w := w) (mg := mg) (base := base) (CX := CX0) (k := k) (sp := sp) sc_is_closed len fun cdv A outer s H vs Q E hr hsp => by
    obtain ⟨t, h1, h2⟩ := hbody _ cdv A outer s H vs Q E hr hsp
    exact ⟨t, h1.nox, h2⟩
  exact ⟨⟨_, fd, T.g_is_closed, F.kp, b, ok⟩⟩
abbrev N_is_true : List Str := ["letter", "history", "offset", "slots", "log"]
abbrev P_is_true : List Str := ["letter", "history"]
theorem sc_is_true : FnScope N_is_true P_is_true (defScope s_is_true) := ⟨rfl, rfl, rfl, by decide +kernel, rfl, by decide +kernel, by decide +kernel⟩
theorem Tx.fd_is_true (T : Tx K mg) : ∃ fd, FunD K "is_true" "is_true" (defArgs s_is_true) (defBody s_is_true) (defScope s_is_true) [] [] (He.ga K "is_true") fd := T.says.def_ 27 (d := ⟨("is_true", none), "is_true", "is_true", defArgs s_is_true, defBody s_is_true, defScope s_is_true, [], []⟩) (by kernel_rfl)
theorem mk_is_true (T : Tx K mg) {k : Nat} {sp : Sp} (len : ∀ vs H Q E, sp vs H Q E → vs.length = 2)
    (hbody : ∀ (f : Addr) (cdv : Value) (A : Around) (outer : List Env) (s : Shared) (H : Hp) (vs : List V) (Q : VK) (E : XK), Room k (A.deeper (envOfC "is_true" (defScope s_is_true) s.heap.objs.size f cdv)) → sp vs H Q E →
      ∃ t, PSs (cxOf CX0 P w K mg base N_is_true "is_true" (defScope s_is_true) f cdv A outer s H E).nox (defBody s_is_true) t ∧ t { nx := fun _ H' => Q .non H', rt := Q } (start N_is_true vs) H) : Callee P w K mg base CX0 "is_true" P_is_true (k + 1) sp := by
  obtain ⟨fd, F⟩ := T.fd_is_true
  have b := F.bindsN (ps := P_is_true) fun _ _ _ _ _ _ us hl => match us, hl with | [_, _], _ => rfl
  have ok := F.ok (P := P) (w := w) (mg := mg) (base := base) (CX := CX0) (k := k) (sp := sp) sc_is_true len fun cdv A outer s H vs Q E hr hsp => by
    obtain ⟨t, h1, h2⟩ := hbody _ cdv A outer s H vs Q E hr hsp
    exact ⟨t, h1.nox, h2⟩
  exact ⟨⟨_, fd, T.g_is_true, F.kp, b, ok⟩⟩
abbrev N_agrees : List Str := ["history", "letters", "letter"]
abbrev P_agrees : List Str := ["history", "letters"]
theorem sc_agrees : FnScope N_agrees P_agrees (defScope s_agrees) := ⟨rfl, rfl, rfl, by decide +kernel, rfl, by decide +kernel, by decide +kernel⟩
theorem Tx.fd_agrees (T : Tx K mg) : ∃ fd, FunD K "agrees" "agrees" (defArgs s_agrees) (defBody s_agrees) (defScope s_agrees) [] [] (He.ga K "agrees") fd := T.says.def_ 28 (d := ⟨("agrees", none), "agrees", "agrees", defArgs s_agrees, defBody s_agrees, defScope s_agrees, [], []⟩) (by kernel_rfl)
theorem mk_agrees (T : Tx K mg) {k : Nat} {sp : Sp} (len : ∀ vs H Q E, sp vs H Q E → vs.length = 2)
    (hbody : ∀ (f : Addr) (cdv : Value) (A : Around) (outer : List Env) (s : Shared) (H : Hp) (vs : List V) (Q : VK) (E : XK), Room k (A.deeper (envOfC "agrees" (defScope s_agrees) s.heap.objs.size f cdv)) → sp vs H Q E →
      ∃ t, PSs (cxOf CX0 P w K mg base N_agrees "agrees" (defScope s_agrees) f cdv A outer s H E).nox (defBody s_agrees) t ∧ t { nx := fun _ H' => Q .non H', rt := Q } (start N_agrees vs) H) : Callee P w K mg base CX0 "agrees" P_agrees (k + 1) sp := by
  obtain ⟨fd, F⟩ := T.fd_agrees
  have b := F.bindsN (ps := P_agrees) fun _ _ _ _ _ _ us hl => match us, hl with | [_, _], _ => rfl
  have ok := F.ok (P := P) (w := w) (mg := mg) (base := base) (CX := CX0) (k := k) (sp := sp) sc_agrees len fun cdv A outer s H vs Q E hr hsp => by
    obtain ⟨t, h1, h2⟩ := hbody _ cdv A outer s H vs Q E hr hsp
    exact ⟨t, h1.nox, h2⟩
  exact ⟨⟨_, fd, T.g_agrees, F.kp, b, ok⟩⟩
abbrev N_reads_of : List Str := ["history", "found", "name", "offset", "slots", "index", "slot", "version", "value"]
abbrev P_reads_of : List Str := ["history"]
theorem sc_reads_of : FnScope N_reads_of P_reads_of (defScope s_reads_of) := ⟨rfl, rfl, rfl, by decide +kernel, rfl, by decide +kernel, by decide +kernel⟩
theorem Tx.fd_reads_of (T : Tx K mg) : ∃ fd, FunD K "reads_of" "reads_of" (defArgs s_reads_of) (defBody s_reads_of) (defScope s_reads_of) [] [] (He.ga K "reads_of") fd := T.says.def_ 29 (d := ⟨("reads_of", none), "reads_of", "reads_of", defArgs s_reads_of, defBody s_reads_of, defScope s_reads_of, [], []⟩) (by kernel_rfl)
theorem mk_reads_of (T : Tx K mg) {k : Nat} {sp : Sp} (len : ∀ vs H Q E, sp vs H Q E → vs.length = 1)
    (hbody : ∀ (f : Addr) (cdv : Value) (A : Around) (outer : List Env) (s : Shared) (H : Hp) (vs : List V) (Q : VK) (E : XK), Room k (A.deeper (envOfC "reads_of" (defScope s_reads_of) s.heap.objs.size f cdv)) → sp vs H Q E →
      ∃ t, PSs (cxOf CX0 P w K mg base N_reads_of "reads_of" (defScope s_reads_of) f cdv A outer s H E).nox (defBody s_reads_of) t ∧ t { nx := fun _ H' => Q .non H', rt := Q } (start N_reads_of vs) H) : Callee P w K mg base CX0 "reads_of" P_reads_of (k + 1) sp := by
  obtain ⟨fd, F⟩ := T.fd_reads_of
  have b := F.bindsN (ps := P_reads_of) fun _ _ _ _ _ _ us hl => match us, hl with | [_], _ => rfl
  have ok := F.ok (P := P) (w := w) (mg := mg) (base := base) (CX := CX0) (k := k) (sp := sp) sc_reads_of len fun cdv A outer s H vs Q E hr hsp => by
    obtain ⟨t, h1, h2⟩ := hbody _ cdv A outer s H vs Q E hr hsp
    exact ⟨t, h1.nox, h2⟩
  exact ⟨⟨_, fd, T.g_reads_of, F.kp, b, ok⟩⟩
abbrev N_reads_about : List Str := ["letters", "name", "letter"]
abbrev P_reads_about : List Str := ["letters", "name"]
theorem sc_reads_about : FnScope N_reads_about P_reads_about (defScope s_reads_about) := ⟨rfl, rfl, rfl, by decide +kernel, rfl, by decide +kernel, by decide +kernel⟩
theorem Tx.fd_reads_about (T : Tx K mg) : ∃ fd, FunD K "reads_about" "reads_about" (defArgs s_reads_about) (defBody s_reads_about) (defScope s_reads_about) [] [] (He.ga K "reads_about") fd := T.says.def_ 30 (d := ⟨("reads_about", none), "reads_about", "reads_about", defArgs s_reads_about, defBody s_reads_about, defScope s_reads_about, [], []⟩) (by kernel_rfl)
theorem mk_reads_about (T : Tx K mg) {k : Nat} {sp : Sp} (len : ∀ vs H Q E, sp vs H Q E → vs.length = 2)
    (hbody : ∀ (f : Addr) (cdv : Value) (A : Around) (outer : List Env) (s : Shared) (H : Hp) (vs : List V) (Q : VK) (E : XK), Room k (A.deeper (envOfC "reads_about" (defScope s_reads_about) s.heap.objs.size f cdv)) → sp vs H Q E →
      ∃ t, PSs (cxOf CX0 P w K mg base N_reads_about "reads_about" (defScope s_reads_about) f cdv A outer s H E).nox (defBody s_reads_about) t ∧ t { nx := fun _ H' => Q .non H', rt := Q } (start N_reads_about vs) H) : Callee P w K mg base CX0 "reads_about" P_reads_about (k + 1) sp := by
  obtain ⟨fd, F⟩ := T.fd_reads_about
  have b := F.bindsN (ps := P_reads_about) fun _ _ _ _ _ _ us hl => match us, hl with | [_, _], _ => rfl
  have ok := F.ok (P := P) (w := w) (mg := mg) (base := base) (CX := CX0) (k := k) (sp := sp) sc_reads_about len fun cdv A outer s H vs Q E hr hsp => by
    obtain ⟨t, h1, h2⟩ := hbody _ cdv A outer s H vs Q E hr hsp
    exact ⟨t, h1.nox, h2⟩
  exact ⟨⟨_, fd, T.g_reads_about, F.kp, b, ok⟩⟩
abbrev N_received_of : List Str := ["letters", "name", "found", "kind", "meter", "slot", "version", "stamp", "value"]
abbrev P_received_of : List Str := ["letters", "name"]
theorem sc_received_of : FnScope N_received_of P_received_of (defScope s_received_of) := ⟨rfl, rfl, rfl, by decide +kernel, rfl, by decide +kernel, by decide +kernel⟩
theorem Tx.fd_received_of (T : Tx K mg) : ∃ fd, FunD K "received_of" "received_of" (defArgs s_received_of) (defBody s_received_of) (defScope s_received_of) [] [] (He.ga K "received_of") fd := T.says.def_ 31 (d := ⟨("received_of", none), "received_of", "received_of", defArgs s_received_of, defBody s_received_of, defScope s_received_of, [], []⟩) (by kernel_rfl)
theorem mk_received_of (T : Tx K mg) {k : Nat} {sp : Sp} (len : ∀ vs H Q E, sp vs H Q E → vs.length = 2)
    (hbody : ∀ (f : Addr) (cdv : Value) (A : Around) (outer : List Env) (s : Shared) (H : Hp) (vs : List V) (Q : VK) (E : XK), Room k (A.deeper (envOfC "received_of" (defScope s_received_of) s.heap.objs.size f cdv)) → sp vs H Q E →
      ∃ t, PSs (cxOf CX0 P w K mg base N_received_of "received_of" (defScope s_received_of) f cdv A outer s H E).nox (defBody s_received_of) t ∧ t { nx := fun _ H' => Q .non H', rt := Q } (start N_received_of vs) H) : Callee P w K mg base CX0 "received_of" P_received_of (k + 1) sp := by
  obtain ⟨fd, F⟩ := T.fd_received_of
  have b := F.bindsN (ps := P_received_of) fun _ _ _ _ _ _ us hl => match us, hl with | [_, _], _ => rfl
  have ok := F.ok (P := P) (w := w) (mg := mg) (base := base) (CX := CX0) (k := k) (sp := sp) sc_received_of len fun cdv A outer s H vs Q E hr hsp => by
    obtain ⟨t, h1, h2⟩ := hbody _ cdv A outer s H vs Q E hr hsp
    exact ⟨t, h1.nox, h2⟩
  exact ⟨⟨_, fd, T.g_received_of, F.kp, b, ok⟩⟩
abbrev N_closes_of : List Str := ["letters", "name", "found", "letter", "ceiling", "floor", "versions"]
abbrev P_closes_of : List Str := ["letters", "name"]
theorem sc_closes_of : FnScope N_closes_of P_closes_of (defScope s_closes_of) := ⟨rfl, rfl, rfl, by decide +kernel, rfl, by decide +kernel, by decide +kernel⟩
theorem Tx.fd_closes_of (T : Tx K mg) : ∃ fd, FunD K "closes_of" "closes_of" (defArgs s_closes_of) (defBody s_closes_of) (defScope s_closes_of) [] [] (He.ga K "closes_of") fd := T.says.def_ 32 (d := ⟨("closes_of", none), "closes_of", "closes_of", defArgs s_closes_of, defBody s_closes_of, defScope s_closes_of, [], []⟩) (by kernel_rfl)
theorem mk_closes_of (T : Tx K mg) {k : Nat} {sp : Sp} (len : ∀ vs H Q E, sp vs H Q E → vs.length = 2)
    (hbody : ∀ (f : Addr) (cdv : Value) (A : Around) (outer : List Env) (s : Shared) (H : Hp) (vs : List V) (Q : VK) (E : XK), Room k (A.deeper (envOfC "closes_of" (defScope s_closes_of) s.heap.objs.size f cdv)) → sp vs H Q E →
      ∃ t, PSs (cxOf CX0 P w K mg base N_closes_of "closes_of" (defScope s_closes_of) f cdv A outer s H E).nox (defBody s_closes_of) t ∧ t { nx := fun _ H' => Q .non H', rt := Q } (start N_closes_of vs) H) : Callee P w K mg base CX0 "closes_of" P_closes_of (k + 1) sp := by
  obtain ⟨fd, F⟩ := T.fd_closes_of
  have b := F.bindsN (ps := P_closes_of) fun _ _ _ _ _ _ us hl => match us, hl with | [_, _], _ => rfl
  have ok := F.ok (P := P) (w := w) (mg := mg) (base := base) (CX := CX0) (k := k) (sp := sp) sc_closes_of len fun cdv A outer s H vs Q E hr hsp => by
    obtain ⟨t, h1, h2⟩ := hbody _ cdv A outer s H vs Q E hr hsp
    exact ⟨t, h1.nox, h2⟩
  exact ⟨⟨_, fd, T.g_closes_of, F.kp, b, ok⟩⟩
abbrev N_offsets_of : List Str := ["plan", "letters", "name", "error", "low", "high", "letter"]
abbrev P_offsets_of : List Str := ["plan", "letters", "name"]
theorem sc_offsets_of : FnScope N_offsets_of P_offsets_of (defScope s_offsets_of) := ⟨rfl, rfl, rfl, by decide +kernel, rfl, by decide +kernel, by decide +kernel⟩
theorem Tx.fd_offsets_of (T : Tx K mg) : ∃ fd, FunD K "offsets_of" "offsets_of" (defArgs s_offsets_of) (defBody s_offsets_of) (defScope s_offsets_of) [] [] (He.ga K "offsets_of") fd := T.says.def_ 33 (d := ⟨("offsets_of", none), "offsets_of", "offsets_of", defArgs s_offsets_of, defBody s_offsets_of, defScope s_offsets_of, [], []⟩) (by kernel_rfl)
theorem mk_offsets_of (T : Tx K mg) {k : Nat} {sp : Sp} (len : ∀ vs H Q E, sp vs H Q E → vs.length = 3)
    (hbody : ∀ (f : Addr) (cdv : Value) (A : Around) (outer : List Env) (s : Shared) (H : Hp) (vs : List V) (Q : VK) (E : XK), Room k (A.deeper (envOfC "offsets_of" (defScope s_offsets_of) s.heap.objs.size f cdv)) → sp vs H Q E →
      ∃ t, PSs (cxOf CX0 P w K mg base N_offsets_of "offsets_of" (defScope s_offsets_of) f cdv A outer s H E).nox (defBody s_offsets_of) t ∧ t { nx := fun _ H' => Q .non H', rt := Q } (start N_offsets_of vs) H) : Callee P w K mg base CX0 "offsets_of" P_offsets_of (k + 1) sp := by
  obtain ⟨fd, F⟩ := T.fd_offsets_of
  have b := F.bindsN (ps := P_offsets_of) fun _ _ _ _ _ _ us hl => match us, hl with | [_, _, _], _ => rfl
  have ok := F.ok (P := P) (w := w) (mg := mg) (base := base) (CX := CX0) (k := k) (sp := sp) sc_offsets_of len fun cdv A outer s H vs Q E hr hsp => by
    obtain ⟨t, h1, h2⟩ := hbody _ cdv A outer s H vs Q E hr hsp
    exact ⟨t, h1.nox, h2⟩
  exact ⟨⟨_, fd, T.g_offsets_of, F.kp, b, ok⟩⟩
abbrev N_limits_of : List Str := ["closes", "found", "before", "least", "told", "number", "ceiling", "floor", "versions"]
abbrev P_limits_of : List Str := ["closes"]
theorem sc_limits_of : FnScope N_limits_of P_limits_of (defScope s_limits_of) := ⟨rfl, rfl, rfl, by decide +kernel, rfl, by decide +kernel, by decide +kernel⟩
theorem Tx.fd_limits_of (T : Tx K mg) : ∃ fd, FunD K "limits_of" "limits_of" (defArgs s_limits_of) (defBody s_limits_of) (defScope s_limits_of) [] [] (He.ga K "limits_of") fd := T.says.def_ 34 (d := ⟨("limits_of", none), "limits_of", "limits_of", defArgs s_limits_of, defBody s_limits_of, defScope s_limits_of, [], []⟩) (by kernel_rfl)
theorem mk_limits_of (T : Tx K mg) {k : Nat} {sp : Sp} (len : ∀ vs H Q E, sp vs H Q E → vs.length = 1)
    (hbody : ∀ (f : Addr) (cdv : Value) (A : Around) (outer : List Env) (s : Shared) (H : Hp) (vs : List V) (Q : VK) (E : XK), Room k (A.deeper (envOfC "limits_of" (defScope s_limits_of) s.heap.objs.size f cdv)) → sp vs H Q E →
      ∃ t, PSs (cxOf CX0 P w K mg base N_limits_of "limits_of" (defScope s_limits_of) f cdv A outer s H E).nox (defBody s_limits_of) t ∧ t { nx := fun _ H' => Q .non H', rt := Q } (start N_limits_of vs) H) : Callee P w K mg base CX0 "limits_of" P_limits_of (k + 1) sp := by
  obtain ⟨fd, F⟩ := T.fd_limits_of
  have b := F.bindsN (ps := P_limits_of) fun _ _ _ _ _ _ us hl => match us, hl with | [_], _ => rfl
  have ok := F.ok (P := P) (w := w) (mg := mg) (base := base) (CX := CX0) (k := k) (sp := sp) sc_limits_of len fun cdv A outer s H vs Q E hr hsp => by
    obtain ⟨t, h1, h2⟩ := hbody _ cdv A outer s H vs Q E hr hsp
    exact ⟨t, h1.nox, h2⟩
  exact ⟨⟨_, fd, T.g_limits_of, F.kp, b, ok⟩⟩
abbrev N_slots_within : List Str := ["received", "first", "last", "slot"]
abbrev P_slots_within : List Str := ["received", "first", "last"]
theorem sc_slots_within : FnScope N_slots_within P_slots_within (defScope s_slots_within) := ⟨rfl, rfl, rfl, by decide +kernel, rfl, by decide +kernel, by decide +kernel⟩
theorem Tx.fd_slots_within (T : Tx K mg) : ∃ fd, FunD K "slots_within" "slots_within" (defArgs s_slots_within) (defBody s_slots_within) (defScope s_slots_within) [] [] (He.ga K "slots_within") fd := T.says.def_ 35 (d := ⟨("slots_within", none), "slots_within", "slots_within", defArgs s_slots_within, defBody s_slots_within, defScope s_slots_within, [], []⟩) (by kernel_rfl)
theorem mk_slots_within (T : Tx K mg) {k : Nat} {sp : Sp} (len : ∀ vs H Q E, sp vs H Q E → vs.length = 3)
    (hbody : ∀ (f : Addr) (cdv : Value) (A : Around) (outer : List Env) (s : Shared) (H : Hp) (vs : List V) (Q : VK) (E : XK), Room k (A.deeper (envOfC "slots_within" (defScope s_slots_within) s.heap.objs.size f cdv)) → sp vs H Q E →
      ∃ t, PSs (cxOf CX0 P w K mg base N_slots_within "slots_within" (defScope s_slots_within) f cdv A outer s H E).nox (defBody s_slots_within) t ∧ t { nx := fun _ H' => Q .non H', rt := Q } (start N_slots_within vs) H) : Callee P w K mg base CX0 "slots_within" P_slots_within (k + 1) sp := by
  obtain ⟨fd, F⟩ := T.fd_slots_within
  have b := F.bindsN (ps := P_slots_within) fun _ _ _ _ _ _ us hl => match us, hl with | [_, _, _], _ => rfl
  have ok := F.ok (P := P) (w := w) (mg := mg) (base := base) (CX := CX0) (k := k) (sp := sp) sc_slots_within len fun cdv A outer s H vs Q E hr hsp => by
    obtain ⟨t, h1, h2⟩ := hbody _ cdv A outer s H vs Q E hr hsp
    exact ⟨t, h1.nox, h2⟩
  exact ⟨⟨_, fd, T.g_slots_within, F.kp, b, ok⟩⟩
abbrev N_hidden_in : List Str := ["received", "limits", "first", "last", "least", "greatest", "versions", "slots", "missing", "slot"]
abbrev P_hidden_in : List Str := ["received", "limits"]
theorem sc_hidden_in : FnScope N_hidden_in P_hidden_in (defScope s_hidden_in) := ⟨rfl, rfl, rfl, by decide +kernel, rfl, by decide +kernel, by decide +kernel⟩
theorem Tx.fd_hidden_in (T : Tx K mg) : ∃ fd, FunD K "hidden_in" "hidden_in" (defArgs s_hidden_in) (defBody s_hidden_in) (defScope s_hidden_in) [] [] (He.ga K "hidden_in") fd := T.says.def_ 36 (d := ⟨("hidden_in", none), "hidden_in", "hidden_in", defArgs s_hidden_in, defBody s_hidden_in, defScope s_hidden_in, [], []⟩) (by kernel_rfl)
theorem mk_hidden_in (T : Tx K mg) {k : Nat} {sp : Sp} (len : ∀ vs H Q E, sp vs H Q E → vs.length = 2)
    (hbody : ∀ (f : Addr) (cdv : Value) (A : Around) (outer : List Env) (s : Shared) (H : Hp) (vs : List V) (Q : VK) (E : XK), Room k (A.deeper (envOfC "hidden_in" (defScope s_hidden_in) s.heap.objs.size f cdv)) → sp vs H Q E →
      ∃ t, PSs (cxOf CX0 P w K mg base N_hidden_in "hidden_in" (defScope s_hidden_in) f cdv A outer s H E).nox (defBody s_hidden_in) t ∧ t { nx := fun _ H' => Q .non H', rt := Q } (start N_hidden_in vs) H) : Callee P w K mg base CX0 "hidden_in" P_hidden_in (k + 1) sp := by
  obtain ⟨fd, F⟩ := T.fd_hidden_in
  have b := F.bindsN (ps := P_hidden_in) fun _ _ _ _ _ _ us hl => match us, hl with | [_, _], _ => rfl
  have ok := F.ok (P := P) (w := w) (mg := mg) (base := base) (CX := CX0) (k := k) (sp := sp) sc_hidden_in len fun cdv A outer s H vs Q E hr hsp => by
    obtain ⟨t, h1, h2⟩ := hbody _ cdv A outer s H vs Q E hr hsp
    exact ⟨t, h1.nox, h2⟩
  exact ⟨⟨_, fd, T.g_hidden_in, F.kp, b, ok⟩⟩
abbrev N_reads_right : List Str := ["meter", "reads", "stamps", "values", "kind", "name", "slot", "version", "stamp", "value"]
abbrev P_reads_right : List Str := ["meter", "reads"]
theorem sc_reads_right : FnScope N_reads_right P_reads_right (defScope s_reads_right) := ⟨rfl, rfl, rfl, by decide +kernel, rfl, by decide +kernel, by decide +kernel⟩
theorem Tx.fd_reads_right (T : Tx K mg) : ∃ fd, FunD K "reads_right" "reads_right" (defArgs s_reads_right) (defBody s_reads_right) (defScope s_reads_right) [] [] (He.ga K "reads_right") fd := T.says.def_ 37 (d := ⟨("reads_right", none), "reads_right", "reads_right", defArgs s_reads_right, defBody s_reads_right, defScope s_reads_right, [], []⟩) (by kernel_rfl)
theorem mk_reads_right (T : Tx K mg) {k : Nat} {sp : Sp} (len : ∀ vs H Q E, sp vs H Q E → vs.length = 2)
    (hbody : ∀ (f : Addr) (cdv : Value) (A : Around) (outer : List Env) (s : Shared) (H : Hp) (vs : List V) (Q : VK) (E : XK), Room k (A.deeper (envOfC "reads_right" (defScope s_reads_right) s.heap.objs.size f cdv)) → sp vs H Q E →
      ∃ t, PSs (cxOf CX0 P w K mg base N_reads_right "reads_right" (defScope s_reads_right) f cdv A outer s H E).nox (defBody s_reads_right) t ∧ t { nx := fun _ H' => Q .non H', rt := Q } (start N_reads_right vs) H) : Callee P w K mg base CX0 "reads_right" P_reads_right (k + 1) sp := by
  obtain ⟨fd, F⟩ := T.fd_reads_right
  have b := F.bindsN (ps := P_reads_right) fun _ _ _ _ _ _ us hl => match us, hl with | [_, _], _ => rfl
  have ok := F.ok (P := P) (w := w) (mg := mg) (base := base) (CX := CX0) (k := k) (sp := sp) sc_reads_right len fun cdv A outer s H vs Q E hr hsp => by
    obtain ⟨t, h1, h2⟩ := hbody _ cdv A outer s H vs Q E hr hsp
    exact ⟨t, h1.nox, h2⟩
  exact ⟨⟨_, fd, T.g_reads_right, F.kp, b, ok⟩⟩
abbrev N_closes_right : List Str := ["letters", "name", "closes", "letter", "numbers", "n", "k"]
abbrev P_closes_right : List Str := ["letters", "name", "closes"]
theorem sc_closes_right : FnScope N_closes_right P_closes_right (defScope s_closes_right) := ⟨rfl, rfl, rfl, by decide +kernel, rfl, by decide +kernel, by decide +kernel⟩
theorem Tx.fd_closes_right (T : Tx K mg) : ∃ fd, FunD K "closes_right" "closes_right" (defArgs s_closes_right) (defBody s_closes_right) (defScope s_closes_right) [] [] (He.ga K "closes_right") fd := T.says.def_ 38 (d := ⟨("closes_right", none), "closes_right", "closes_right", defArgs s_closes_right, defBody s_closes_right, defScope s_closes_right, [], []⟩) (by kernel_rfl)
theorem mk_closes_right (T : Tx K mg) {k : Nat} {sp : Sp} (len : ∀ vs H Q E, sp vs H Q E → vs.length = 3)
    (hbody : ∀ (f : Addr) (cdv : Value) (A : Around) (outer : List Env) (s : Shared) (H : Hp) (vs : List V) (Q : VK) (E : XK), Room k (A.deeper (envOfC "closes_right" (defScope s_closes_right) s.heap.objs.size f cdv)) → sp vs H Q E →
      ∃ t, PSs (cxOf CX0 P w K mg base N_closes_right "closes_right" (defScope s_closes_right) f cdv A outer s H E).nox (defBody s_closes_right) t ∧ t { nx := fun _ H' => Q .non H', rt := Q } (start N_closes_right vs) H) : Callee P w K mg base CX0 "closes_right" P_closes_right (k + 1) sp := by
  obtain ⟨fd, F⟩ := T.fd_closes_right
  have b := F.bindsN (ps := P_closes_right) fun _ _ _ _ _ _ us hl => match us, hl with | [_, _, _], _ => rfl
  have ok := F.ok (P := P) (w := w) (mg := mg) (base := base) (CX := CX0) (k := k) (sp := sp) sc_closes_right len fun cdv A outer s H vs Q E hr hsp => by
    obtain ⟨t, h1, h2⟩ := hbody _ cdv A outer s H vs Q E hr hsp
    exact ⟨t, h1.nox, h2⟩
  exact ⟨⟨_, fd, T.g_closes_right, F.kp, b, ok⟩⟩
abbrev N_stamps_right : List Str := ["received", "limits", "stamps", "first", "last", "least", "greatest", "versions", "slot", "stamp"]
abbrev P_stamps_right : List Str := ["received", "limits"]
theorem sc_stamps_right : FnScope N_stamps_right P_stamps_right (defScope s_stamps_right) := ⟨rfl, rfl, rfl, by decide +kernel, rfl, by decide +kernel, by decide +kernel⟩
theorem Tx.fd_stamps_right (T : Tx K mg) : ∃ fd, FunD K "stamps_right" "stamps_right" (defArgs s_stamps_right) (defBody s_stamps_right) (defScope s_stamps_right) [] [] (He.ga K "stamps_right") fd := T.says.def_ 39 (d := ⟨("stamps_right", none), "stamps_right", "stamps_right", defArgs s_stamps_right, defBody s_stamps_right, defScope s_stamps_right, [], []⟩) (by kernel_rfl)
theorem mk_stamps_right (T : Tx K mg) {k : Nat} {sp : Sp} (len : ∀ vs H Q E, sp vs H Q E → vs.length = 2)
    (hbody : ∀ (f : Addr) (cdv : Value) (A : Around) (outer : List Env) (s : Shared) (H : Hp) (vs : List V) (Q : VK) (E : XK), Room k (A.deeper (envOfC "stamps_right" (defScope s_stamps_right) s.heap.objs.size f cdv)) → sp vs H Q E →
      ∃ t, PSs (cxOf CX0 P w K mg base N_stamps_right "stamps_right" (defScope s_stamps_right) f cdv A outer s H E).nox (defBody s_stamps_right) t ∧ t { nx := fun _ H' => Q .non H', rt := Q } (start N_stamps_right vs) H) : Callee P w K mg base CX0 "stamps_right" P_stamps_right (k + 1) sp := by
  obtain ⟨fd, F⟩ := T.fd_stamps_right
  have b := F.bindsN (ps := P_stamps_right) fun _ _ _ _ _ _ us hl => match us, hl with | [_, _], _ => rfl
  have ok := F.ok (P := P) (w := w) (mg := mg) (base := base) (CX := CX0) (k := k) (sp := sp) sc_stamps_right len fun cdv A outer s H vs Q E hr hsp => by
    obtain ⟨t, h1, h2⟩ := hbody _ cdv A outer s H vs Q E hr hsp
    exact ⟨t, h1.nox, h2⟩
  exact ⟨⟨_, fd, T.g_stamps_right, F.kp, b, ok⟩⟩
abbrev N_meter_possible : List Str := ["plan", "meter", "letters", "name", "closes", "low", "high", "received", "limits", "part"]
abbrev P_meter_possible : List Str := ["plan", "meter", "letters"]
theorem sc_meter_possible : FnScope N_meter_possible P_meter_possible (defScope s_meter_possible) := ⟨rfl, rfl, rfl, by decide +kernel, rfl, by decide +kernel, by decide +kernel⟩
theorem Tx.fd_meter_possible (T : Tx K mg) : ∃ fd, FunD K "meter_possible" "meter_possible" (defArgs s_meter_possible) (defBody s_meter_possible) (defScope s_meter_possible) [] [] (He.ga K "meter_possible") fd := T.says.def_ 40 (d := ⟨("meter_possible", none), "meter_possible", "meter_possible", defArgs s_meter_possible, defBody s_meter_possible, defScope s_meter_possible, [], []⟩) (by kernel_rfl)
theorem mk_meter_possible (T : Tx K mg) {k : Nat} {sp : Sp} (len : ∀ vs H Q E, sp vs H Q E → vs.length = 3)
    (hbody : ∀ (f : Addr) (cdv : Value) (A : Around) (outer : List Env) (s : Shared) (H : Hp) (vs : List V) (Q : VK) (E : XK), Room k (A.deeper (envOfC "meter_possible" (defScope s_meter_possible) s.heap.objs.size f cdv)) → sp vs H Q E →
      ∃ t, PSs (cxOf CX0 P w K mg base N_meter_possible "meter_possible" (defScope s_meter_possible) f cdv A outer s H E).nox (defBody s_meter_possible) t ∧ t { nx := fun _ H' => Q .non H', rt := Q } (start N_meter_possible vs) H) : Callee P w K mg base CX0 "meter_possible" P_meter_possible (k + 1) sp := by
  obtain ⟨fd, F⟩ := T.fd_meter_possible
  have b := F.bindsN (ps := P_meter_possible) fun _ _ _ _ _ _ us hl => match us, hl with | [_, _, _], _ => rfl
  have ok := F.ok (P := P) (w := w) (mg := mg) (base := base) (CX := CX0) (k := k) (sp := sp) sc_meter_possible len fun cdv A outer s H vs Q E hr hsp => by
    obtain ⟨t, h1, h2⟩ := hbody _ cdv A outer s H vs Q E hr hsp
    exact ⟨t, h1.nox, h2⟩
  exact ⟨⟨_, fd, T.g_meter_possible, F.kp, b, ok⟩⟩
abbrev N_is_possible : List Str := ["plan", "letters", "meter"]
abbrev P_is_possible : List Str := ["plan", "letters"]
theorem sc_is_possible : FnScope N_is_possible P_is_possible (defScope s_is_possible) := ⟨rfl, rfl, rfl, by decide +kernel, rfl, by decide +kernel, by decide +kernel⟩
theorem Tx.fd_is_possible (T : Tx K mg) : ∃ fd, FunD K "is_possible" "is_possible" (defArgs s_is_possible) (defBody s_is_possible) (defScope s_is_possible) [] [] (He.ga K "is_possible") fd := T.says.def_ 41 (d := ⟨("is_possible", none), "is_possible", "is_possible", defArgs s_is_possible, defBody s_is_possible, defScope s_is_possible, [], []⟩) (by kernel_rfl)
theorem mk_is_possible (T : Tx K mg) {k : Nat} {sp : Sp} (len : ∀ vs H Q E, sp vs H Q E → vs.length = 2)
    (hbody : ∀ (f : Addr) (cdv : Value) (A : Around) (outer : List Env) (s : Shared) (H : Hp) (vs : List V) (Q : VK) (E : XK), Room k (A.deeper (envOfC "is_possible" (defScope s_is_possible) s.heap.objs.size f cdv)) → sp vs H Q E →
      ∃ t, PSs (cxOf CX0 P w K mg base N_is_possible "is_possible" (defScope s_is_possible) f cdv A outer s H E).nox (defBody s_is_possible) t ∧ t { nx := fun _ H' => Q .non H', rt := Q } (start N_is_possible vs) H) : Callee P w K mg base CX0 "is_possible" P_is_possible (k + 1) sp := by
  obtain ⟨fd, F⟩ := T.fd_is_possible
  have b := F.bindsN (ps := P_is_possible) fun _ _ _ _ _ _ us hl => match us, hl with | [_, _], _ => rfl
  have ok := F.ok (P := P) (w := w) (mg := mg) (base := base) (CX := CX0) (k := k) (sp := sp) sc_is_possible len fun cdv A outer s H vs Q E hr hsp => by
    obtain ⟨t, h1, h2⟩ := hbody _ cdv A outer s H vs Q E hr hsp
    exact ⟨t, h1.nox, h2⟩
  exact ⟨⟨_, fd, T.g_is_possible, F.kp, b, ok⟩⟩
abbrev N_law_draws : List Str := ["_law_script", "_law_many", "_law_cells", "_law_rest_here", "_law_draws_here", "_law_k", "_law_at", "_law_once", "_law_cell_here"]
abbrev P_law_draws : List Str := ["_law_script", "_law_many"]
theorem sc_law_draws : FnScope N_law_draws P_law_draws (defScope s_law_draws) := ⟨rfl, rfl, rfl, by decide +kernel, rfl, by decide +kernel, by decide +kernel⟩
theorem Tx.fd_law_draws (T : Tx K mg) : ∃ fd, FunD K "_law_draws" "_law_draws" (defArgs s_law_draws) (defBody s_law_draws) (defScope s_law_draws) [] [] (He.ga K "_law_draws") fd := T.says.def_ 42 (d := ⟨("_law_draws", none), "_law_draws", "_law_draws", defArgs s_law_draws, defBody s_law_draws, defScope s_law_draws, [], []⟩) (by kernel_rfl)
theorem mk_law_draws (T : Tx K mg) {k : Nat} {sp : Sp} (len : ∀ vs H Q E, sp vs H Q E → vs.length = 2)
    (hbody : ∀ (f : Addr) (cdv : Value) (A : Around) (outer : List Env) (s : Shared) (H : Hp) (vs : List V) (Q : VK) (E : XK), Room k (A.deeper (envOfC "_law_draws" (defScope s_law_draws) s.heap.objs.size f cdv)) → sp vs H Q E →
      ∃ t, PSs (cxOf CX0 P w K mg base N_law_draws "_law_draws" (defScope s_law_draws) f cdv A outer s H E).nox (defBody s_law_draws) t ∧ t { nx := fun _ H' => Q .non H', rt := Q } (start N_law_draws vs) H) : Callee P w K mg base CX0 "_law_draws" P_law_draws (k + 1) sp := by
  obtain ⟨fd, F⟩ := T.fd_law_draws
  have b := F.bindsN (ps := P_law_draws) fun _ _ _ _ _ _ us hl => match us, hl with | [_, _], _ => rfl
  have ok := F.ok (P := P) (w := w) (mg := mg) (base := base) (CX := CX0) (k := k) (sp := sp) sc_law_draws len fun cdv A outer s H vs Q E hr hsp => by
    obtain ⟨t, h1, h2⟩ := hbody _ cdv A outer s H vs Q E hr hsp
    exact ⟨t, h1.nox, h2⟩
  exact ⟨⟨_, fd, T.g_law_draws, F.kp, b, ok⟩⟩
abbrev N_law_take : List Str := ["_law_draws_here", "_law_many"]
abbrev P_law_take : List Str := ["_law_draws_here", "_law_many"]
theorem sc_law_take : FnScope N_law_take P_law_take (defScope s_law_take) := ⟨rfl, rfl, rfl, by decide +kernel, rfl, by decide +kernel, by decide +kernel⟩
theorem Tx.fd_law_take (T : Tx K mg) : ∃ fd, FunD K "_law_take" "_law_take" (defArgs s_law_take) (defBody s_law_take) (defScope s_law_take) [] [] (He.ga K "_law_take") fd := T.says.def_ 43 (d := ⟨("_law_take", none), "_law_take", "_law_take", defArgs s_law_take, defBody s_law_take, defScope s_law_take, [], []⟩) (by kernel_rfl)
theorem mk_law_take (T : Tx K mg) {k : Nat} {sp : Sp} (len : ∀ vs H Q E, sp vs H Q E → vs.length = 2)
    (hbody : ∀ (f : Addr) (cdv : Value) (A : Around) (outer : List Env) (s : Shared) (H : Hp) (vs : List V) (Q : VK) (E : XK), Room k (A.deeper (envOfC "_law_take" (defScope s_law_take) s.heap.objs.size f cdv)) → sp vs H Q E →
      ∃ t, PSs (cxOf CX0 P w K mg base N_law_take "_law_take" (defScope s_law_take) f cdv A outer s H E).nox (defBody s_law_take) t ∧ t { nx := fun _ H' => Q .non H', rt := Q } (start N_law_take vs) H) : Callee P w K mg base CX0 "_law_take" P_law_take (k + 1) sp := by
  obtain ⟨fd, F⟩ := T.fd_law_take
  have b := F.bindsN (ps := P_law_take) fun _ _ _ _ _ _ us hl => match us, hl with | [_, _], _ => rfl
  have ok := F.ok (P := P) (w := w) (mg := mg) (base := base) (CX := CX0) (k := k) (sp := sp) sc_law_take len fun cdv A outer s H vs Q E hr hsp => by
    obtain ⟨t, h1, h2⟩ := hbody _ cdv A outer s H vs Q E hr hsp
    exact ⟨t, h1.nox, h2⟩
  exact ⟨⟨_, fd, T.g_law_take, F.kp, b, ok⟩⟩
abbrev N_law_cell : List Str := ["_law_script", "_law_draws_here"]
abbrev P_law_cell : List Str := ["_law_script", "_law_draws_here"]
theorem sc_law_cell : FnScope N_law_cell P_law_cell (defScope s_law_cell) := ⟨rfl, rfl, rfl, by decide +kernel, rfl, by decide +kernel, by decide +kernel⟩
theorem Tx.fd_law_cell (T : Tx K mg) : ∃ fd, FunD K "_law_cell" "_law_cell" (defArgs s_law_cell) (defBody s_law_cell) (defScope s_law_cell) [] [] (He.ga K "_law_cell") fd := T.says.def_ 44 (d := ⟨("_law_cell", none), "_law_cell", "_law_cell", defArgs s_law_cell, defBody s_law_cell, defScope s_law_cell, [], []⟩) (by kernel_rfl)
theorem mk_law_cell (T : Tx K mg) {k : Nat} {sp : Sp} (len : ∀ vs H Q E, sp vs H Q E → vs.length = 2)
    (hbody : ∀ (f : Addr) (cdv : Value) (A : Around) (outer : List Env) (s : Shared) (H : Hp) (vs : List V) (Q : VK) (E : XK), Room k (A.deeper (envOfC "_law_cell" (defScope s_law_cell) s.heap.objs.size f cdv)) → sp vs H Q E →
      ∃ t, PSs (cxOf CX0 P w K mg base N_law_cell "_law_cell" (defScope s_law_cell) f cdv A outer s H E).nox (defBody s_law_cell) t ∧ t { nx := fun _ H' => Q .non H', rt := Q } (start N_law_cell vs) H) : Callee P w K mg base CX0 "_law_cell" P_law_cell (k + 1) sp := by
  obtain ⟨fd, F⟩ := T.fd_law_cell
  have b := F.bindsN (ps := P_law_cell) fun _ _ _ _ _ _ us hl => match us, hl with | [_, _], _ => rfl
  have ok := F.ok (P := P) (w := w) (mg := mg) (base := base) (CX := CX0) (k := k) (sp := sp) sc_law_cell len fun cdv A outer s H vs Q E hr hsp => by
    obtain ⟨t, h1, h2⟩ := hbody _ cdv A outer s H vs Q E hr hsp
    exact ⟨t, h1.nox, h2⟩
  exact ⟨⟨_, fd, T.g_law_cell, F.kp, b, ok⟩⟩
abbrev N_law_word : List Str := ["_law_number", "_law_word_here", "_law_k"]
abbrev P_law_word : List Str := ["_law_number"]
theorem sc_law_word : FnScope N_law_word P_law_word (defScope s_law_word) := ⟨rfl, rfl, rfl, by decide +kernel, rfl, by decide +kernel, by decide +kernel⟩
theorem Tx.fd_law_word (T : Tx K mg) : ∃ fd, FunD K "_law_word" "_law_word" (defArgs s_law_word) (defBody s_law_word) (defScope s_law_word) [] [] (He.ga K "_law_word") fd := T.says.def_ 45 (d := ⟨("_law_word", none), "_law_word", "_law_word", defArgs s_law_word, defBody s_law_word, defScope s_law_word, [], []⟩) (by kernel_rfl)
theorem mk_law_word (T : Tx K mg) {k : Nat} {sp : Sp} (len : ∀ vs H Q E, sp vs H Q E → vs.length = 1)
    (hbody : ∀ (f : Addr) (cdv : Value) (A : Around) (outer : List Env) (s : Shared) (H : Hp) (vs : List V) (Q : VK) (E : XK), Room k (A.deeper (envOfC "_law_word" (defScope s_law_word) s.heap.objs.size f cdv)) → sp vs H Q E →
      ∃ t, PSs (cxOf CX0 P w K mg base N_law_word "_law_word" (defScope s_law_word) f cdv A outer s H E).nox (defBody s_law_word) t ∧ t { nx := fun _ H' => Q .non H', rt := Q } (start N_law_word vs) H) : Callee P w K mg base CX0 "_law_word" P_law_word (k + 1) sp := by
  obtain ⟨fd, F⟩ := T.fd_law_word
  have b := F.bindsN (ps := P_law_word) fun _ _ _ _ _ _ us hl => match us, hl with | [_], _ => rfl
  have ok := F.ok (P := P) (w := w) (mg := mg) (base := base) (CX := CX0) (k := k) (sp := sp) sc_law_word len fun cdv A outer s H vs Q E hr hsp => by
    obtain ⟨t, h1, h2⟩ := hbody _ cdv A outer s H vs Q E hr hsp
    exact ⟨t, h1.nox, h2⟩
  exact ⟨⟨_, fd, T.g_law_word, F.kp, b, ok⟩⟩
abbrev N_law_some_word : List Str := ["_law_draws_here", "_law_number", "_law_great"]
abbrev P_law_some_word : List Str := ["_law_draws_here"]
theorem sc_law_some_word : FnScope N_law_some_word P_law_some_word (defScope s_law_some_word) := ⟨rfl, rfl, rfl, by decide +kernel, rfl, by decide +kernel, by decide +kernel⟩
theorem Tx.fd_law_some_word (T : Tx K mg) : ∃ fd, FunD K "_law_some_word" "_law_some_word" (defArgs s_law_some_word) (defBody s_law_some_word) (defScope s_law_some_word) [] [] (He.ga K "_law_some_word") fd := T.says.def_ 46 (d := ⟨("_law_some_word", none), "_law_some_word", "_law_some_word", defArgs s_law_some_word, defBody s_law_some_word, defScope s_law_some_word, [], []⟩) (by kernel_rfl)
theorem mk_law_some_word (T : Tx K mg) {k : Nat} {sp : Sp} (len : ∀ vs H Q E, sp vs H Q E → vs.length = 1)
    (hbody : ∀ (f : Addr) (cdv : Value) (A : Around) (outer : List Env) (s : Shared) (H : Hp) (vs : List V) (Q : VK) (E : XK), Room k (A.deeper (envOfC "_law_some_word" (defScope s_law_some_word) s.heap.objs.size f cdv)) → sp vs H Q E →
      ∃ t, PSs (cxOf CX0 P w K mg base N_law_some_word "_law_some_word" (defScope s_law_some_word) f cdv A outer s H E).nox (defBody s_law_some_word) t ∧ t { nx := fun _ H' => Q .non H', rt := Q } (start N_law_some_word vs) H) : Callee P w K mg base CX0 "_law_some_word" P_law_some_word (k + 1) sp := by
  obtain ⟨fd, F⟩ := T.fd_law_some_word
  have b := F.bindsN (ps := P_law_some_word) fun _ _ _ _ _ _ us hl => match us, hl with | [_], _ => rfl
  have ok := F.ok (P := P) (w := w) (mg := mg) (base := base) (CX := CX0) (k := k) (sp := sp) sc_law_some_word len fun cdv A outer s H vs Q E hr hsp => by
    obtain ⟨t, h1, h2⟩ := hbody _ cdv A outer s H vs Q E hr hsp
    exact ⟨t, h1.nox, h2⟩
  exact ⟨⟨_, fd, T.g_law_some_word, F.kp, b, ok⟩⟩
abbrev N_law_reading : List Str := ["_law_draws_here", "_law_meter", "_law_number"]
abbrev P_law_reading : List Str := ["_law_draws_here", "_law_meter"]
theorem sc_law_reading : FnScope N_law_reading P_law_reading (defScope s_law_reading) := ⟨rfl, rfl, rfl, by decide +kernel, rfl, by decide +kernel, by decide +kernel⟩
theorem Tx.fd_law_reading (T : Tx K mg) : ∃ fd, FunD K "_law_reading" "_law_reading" (defArgs s_law_reading) (defBody s_law_reading) (defScope s_law_reading) [] [] (He.ga K "_law_reading") fd := T.says.def_ 47 (d := ⟨("_law_reading", none), "_law_reading", "_law_reading", defArgs s_law_reading, defBody s_law_reading, defScope s_law_reading, [], []⟩) (by kernel_rfl)
theorem mk_law_reading (T : Tx K mg) {k : Nat} {sp : Sp} (len : ∀ vs H Q E, sp vs H Q E → vs.length = 2)
    (hbody : ∀ (f : Addr) (cdv : Value) (A : Around) (outer : List Env) (s : Shared) (H : Hp) (vs : List V) (Q : VK) (E : XK), Room k (A.deeper (envOfC "_law_reading" (defScope s_law_reading) s.heap.objs.size f cdv)) → sp vs H Q E →
      ∃ t, PSs (cxOf CX0 P w K mg base N_law_reading "_law_reading" (defScope s_law_reading) f cdv A outer s H E).nox (defBody s_law_reading) t ∧ t { nx := fun _ H' => Q .non H', rt := Q } (start N_law_reading vs) H) : Callee P w K mg base CX0 "_law_reading" P_law_reading (k + 1) sp := by
  obtain ⟨fd, F⟩ := T.fd_law_reading
  have b := F.bindsN (ps := P_law_reading) fun _ _ _ _ _ _ us hl => match us, hl with | [_, _], _ => rfl
  have ok := F.ok (P := P) (w := w) (mg := mg) (base := base) (CX := CX0) (k := k) (sp := sp) sc_law_reading len fun cdv A outer s H vs Q E hr hsp => by
    obtain ⟨t, h1, h2⟩ := hbody _ cdv A outer s H vs Q E hr hsp
    exact ⟨t, h1.nox, h2⟩
  exact ⟨⟨_, fd, T.g_law_reading, F.kp, b, ok⟩⟩
abbrev N_law_plan : List Str := ["_law_draws_here", "_law_cell_here", "_law_many", "_law_meters", "_law_name", "_law_low", "_law_wide", "_law_length", "_law_k"]
abbrev P_law_plan : List Str := ["_law_draws_here", "_law_cell_here"]
theorem sc_law_plan : FnScope N_law_plan P_law_plan (defScope s_law_plan) := ⟨rfl, rfl, rfl, by decide +kernel, rfl, by decide +kernel, by decide +kernel⟩
theorem Tx.fd_law_plan (T : Tx K mg) : ∃ fd, FunD K "_law_plan" "_law_plan" (defArgs s_law_plan) (defBody s_law_plan) (defScope s_law_plan) [] [] (He.ga K "_law_plan") fd := T.says.def_ 48 (d := ⟨("_law_plan", none), "_law_plan", "_law_plan", defArgs s_law_plan, defBody s_law_plan, defScope s_law_plan, [], []⟩) (by kernel_rfl)
theorem mk_law_plan (T : Tx K mg) {k : Nat} {sp : Sp} (len : ∀ vs H Q E, sp vs H Q E → vs.length = 2)
    (hbody : ∀ (f : Addr) (cdv : Value) (A : Around) (outer : List Env) (s : Shared) (H : Hp) (vs : List V) (Q : VK) (E : XK), Room k (A.deeper (envOfC "_law_plan" (defScope s_law_plan) s.heap.objs.size f cdv)) → sp vs H Q E →
      ∃ t, PSs (cxOf CX0 P w K mg base N_law_plan "_law_plan" (defScope s_law_plan) f cdv A outer s H E).nox (defBody s_law_plan) t ∧ t { nx := fun _ H' => Q .non H', rt := Q } (start N_law_plan vs) H) : Callee P w K mg base CX0 "_law_plan" P_law_plan (k + 1) sp := by
  obtain ⟨fd, F⟩ := T.fd_law_plan
  have b := F.bindsN (ps := P_law_plan) fun _ _ _ _ _ _ us hl => match us, hl with | [_, _], _ => rfl
  have ok := F.ok (P := P) (w := w) (mg := mg) (base := base) (CX := CX0) (k := k) (sp := sp) sc_law_plan len fun cdv A outer s H vs Q E hr hsp => by
    obtain ⟨t, h1, h2⟩ := hbody _ cdv A outer s H vs Q E hr hsp
    exact ⟨t, h1.nox, h2⟩
  exact ⟨⟨_, fd, T.g_law_plan, F.kp, b, ok⟩⟩
abbrev N_law_error_name : List Str := ["_law_e", "_law_kinds", "_law_names", "_law_k"]
abbrev P_law_error_name : List Str := ["_law_e"]
theorem sc_law_error_name : FnScope N_law_error_name P_law_error_name (defScope s_law_error_name) := ⟨rfl, rfl, rfl, by decide +kernel, rfl, by decide +kernel, by decide +kernel⟩
theorem Tx.fd_law_error_name (T : Tx K mg) : ∃ fd, FunD K "_law_error_name" "_law_error_name" (defArgs s_law_error_name) (defBody s_law_error_name) (defScope s_law_error_name) [] [] (He.ga K "_law_error_name") fd := T.says.def_ 49 (d := ⟨("_law_error_name", none), "_law_error_name", "_law_error_name", defArgs s_law_error_name, defBody s_law_error_name, defScope s_law_error_name, [], []⟩) (by kernel_rfl)
theorem mk_law_error_name (T : Tx K mg) {k : Nat} {sp : Sp} (len : ∀ vs H Q E, sp vs H Q E → vs.length = 1)
    (hbody : ∀ (f : Addr) (cdv : Value) (A : Around) (outer : List Env) (s : Shared) (H : Hp) (vs : List V) (Q : VK) (E : XK), Room k (A.deeper (envOfC "_law_error_name" (defScope s_law_error_name) s.heap.objs.size f cdv)) → sp vs H Q E →
      ∃ t, PSs (cxOf CX0 P w K mg base N_law_error_name "_law_error_name" (defScope s_law_error_name) f cdv A outer s H E).nox (defBody s_law_error_name) t ∧ t { nx := fun _ H' => Q .non H', rt := Q } (start N_law_error_name vs) H) : Callee P w K mg base CX0 "_law_error_name" P_law_error_name (k + 1) sp := by
  obtain ⟨fd, F⟩ := T.fd_law_error_name
  have b := F.bindsN (ps := P_law_error_name) fun _ _ _ _ _ _ us hl => match us, hl with | [_], _ => rfl
  have ok := F.ok (P := P) (w := w) (mg := mg) (base := base) (CX := CX0) (k := k) (sp := sp) sc_law_error_name len fun cdv A outer s H vs Q E hr hsp => by
    obtain ⟨t, h1, h2⟩ := hbody _ cdv A outer s H vs Q E hr hsp
    exact ⟨t, h1.nox, h2⟩
  exact ⟨⟨_, fd, T.g_law_error_name, F.kp, b, ok⟩⟩
abbrev N_law_do : List Str := ["_law_source", "_law_deed_here", "_law_e"]
abbrev P_law_do : List Str := ["_law_source", "_law_deed_here"]
theorem sc_law_do : FnScope N_law_do P_law_do (defScope s_law_do) := ⟨rfl, rfl, rfl, by decide +kernel, rfl, by decide +kernel, by decide +kernel⟩
theorem Tx.fd_law_do (T : Tx K mg) : ∃ fd, FunD K "_law_do" "_law_do" (defArgs s_law_do) (defBody s_law_do) (defScope s_law_do) [] [] (He.ga K "_law_do") fd := T.says.def_ 50 (d := ⟨("_law_do", none), "_law_do", "_law_do", defArgs s_law_do, defBody s_law_do, defScope s_law_do, [], []⟩) (by kernel_rfl)
theorem mk_law_do (T : Tx K mg) {k : Nat} {sp : Sp} (len : ∀ vs H Q E, sp vs H Q E → vs.length = 2)
    (hbody : ∀ (f : Addr) (cdv : Value) (A : Around) (outer : List Env) (s : Shared) (H : Hp) (vs : List V) (Q : VK) (E : XK), Room k (A.deeper (envOfC "_law_do" (defScope s_law_do) s.heap.objs.size f cdv)) → sp vs H Q E →
      ∃ t, PSs (cxOf CX0 P w K mg base N_law_do "_law_do" (defScope s_law_do) f cdv A outer s H E).nox (defBody s_law_do) t ∧ t { nx := fun _ H' => Q .non H', rt := Q } (start N_law_do vs) H) : Callee P w K mg base CX0 "_law_do" P_law_do (k + 1) sp := by
  obtain ⟨fd, F⟩ := T.fd_law_do
  have b := F.bindsN (ps := P_law_do) fun _ _ _ _ _ _ us hl => match us, hl with | [_, _], _ => rfl
  have ok := F.ok (P := P) (w := w) (mg := mg) (base := base) (CX := CX0) (k := k) (sp := sp) sc_law_do len fun cdv A outer s H vs Q E hr hsp => by
    obtain ⟨t, h1, h2⟩ := hbody _ cdv A outer s H vs Q E hr hsp
    exact ⟨t, h1.nox, h2⟩
  exact ⟨⟨_, fd, T.g_law_do, F.kp, b, ok⟩⟩
abbrev N_law_stamp : List Str := ["_law_draws_here", "_law_model", "_law_cell_here", "_law_found", "_law_last"]
abbrev P_law_stamp : List Str := ["_law_draws_here", "_law_model", "_law_cell_here"]
theorem sc_law_stamp : FnScope N_law_stamp P_law_stamp (defScope s_law_stamp) := ⟨rfl, rfl, rfl, by decide +kernel, rfl, by decide +kernel, by decide +kernel⟩
theorem Tx.fd_law_stamp (T : Tx K mg) : ∃ fd, FunD K "_law_stamp" "_law_stamp" (defArgs s_law_stamp) (defBody s_law_stamp) (defScope s_law_stamp) [] [] (He.ga K "_law_stamp") fd := T.says.def_ 51 (d := ⟨("_law_stamp", none), "_law_stamp", "_law_stamp", defArgs s_law_stamp, defBody s_law_stamp, defScope s_law_stamp, [], []⟩) (by kernel_rfl)
theorem mk_law_stamp (T : Tx K mg) {k : Nat} {sp : Sp} (len : ∀ vs H Q E, sp vs H Q E → vs.length = 3)
    (hbody : ∀ (f : Addr) (cdv : Value) (A : Around) (outer : List Env) (s : Shared) (H : Hp) (vs : List V) (Q : VK) (E : XK), Room k (A.deeper (envOfC "_law_stamp" (defScope s_law_stamp) s.heap.objs.size f cdv)) → sp vs H Q E →
      ∃ t, PSs (cxOf CX0 P w K mg base N_law_stamp "_law_stamp" (defScope s_law_stamp) f cdv A outer s H E).nox (defBody s_law_stamp) t ∧ t { nx := fun _ H' => Q .non H', rt := Q } (start N_law_stamp vs) H) : Callee P w K mg base CX0 "_law_stamp" P_law_stamp (k + 1) sp := by
  obtain ⟨fd, F⟩ := T.fd_law_stamp
  have b := F.bindsN (ps := P_law_stamp) fun _ _ _ _ _ _ us hl => match us, hl with | [_, _, _], _ => rfl
  have ok := F.ok (P := P) (w := w) (mg := mg) (base := base) (CX := CX0) (k := k) (sp := sp) sc_law_stamp len fun cdv A outer s H vs Q E hr hsp => by
    obtain ⟨t, h1, h2⟩ := hbody _ cdv A outer s H vs Q E hr hsp
    exact ⟨t, h1.nox, h2⟩
  exact ⟨⟨_, fd, T.g_law_stamp, F.kp, b, ok⟩⟩
abbrev N_law_entry : List Str := ["_law_draws_here", "_law_meter"]
abbrev P_law_entry : List Str := ["_law_draws_here", "_law_meter"]
theorem sc_law_entry : FnScope N_law_entry P_law_entry (defScope s_law_entry) := ⟨rfl, rfl, rfl, by decide +kernel, rfl, by decide +kernel, by decide +kernel⟩
theorem Tx.fd_law_entry (T : Tx K mg) : ∃ fd, FunD K "_law_entry" "_law_entry" (defArgs s_law_entry) (defBody s_law_entry) (defScope s_law_entry) [] [] (He.ga K "_law_entry") fd := T.says.def_ 52 (d := ⟨("_law_entry", none), "_law_entry", "_law_entry", defArgs s_law_entry, defBody s_law_entry, defScope s_law_entry, [], []⟩) (by kernel_rfl)
theorem mk_law_entry (T : Tx K mg) {k : Nat} {sp : Sp} (len : ∀ vs H Q E, sp vs H Q E → vs.length = 2)
    (hbody : ∀ (f : Addr) (cdv : Value) (A : Around) (outer : List Env) (s : Shared) (H : Hp) (vs : List V) (Q : VK) (E : XK), Room k (A.deeper (envOfC "_law_entry" (defScope s_law_entry) s.heap.objs.size f cdv)) → sp vs H Q E →
      ∃ t, PSs (cxOf CX0 P w K mg base N_law_entry "_law_entry" (defScope s_law_entry) f cdv A outer s H E).nox (defBody s_law_entry) t ∧ t { nx := fun _ H' => Q .non H', rt := Q } (start N_law_entry vs) H) : Callee P w K mg base CX0 "_law_entry" P_law_entry (k + 1) sp := by
  obtain ⟨fd, F⟩ := T.fd_law_entry
  have b := F.bindsN (ps := P_law_entry) fun _ _ _ _ _ _ us hl => match us, hl with | [_, _], _ => rfl
  have ok := F.ok (P := P) (w := w) (mg := mg) (base := base) (CX := CX0) (k := k) (sp := sp) sc_law_entry len fun cdv A outer s H vs Q E hr hsp => by
    obtain ⟨t, h1, h2⟩ := hbody _ cdv A outer s H vs Q E hr hsp
    exact ⟨t, h1.nox, h2⟩
  exact ⟨⟨_, fd, T.g_law_entry, F.kp, b, ok⟩⟩
abbrev N_law_deed : List Str := ["_law_draws_here", "_law_model", "_law_meter", "_law_offset_here", "_law_cell_here", "_law_kind", "_law_slot"]
abbrev P_law_deed : List Str := ["_law_draws_here", "_law_model", "_law_meter", "_law_offset_here", "_law_cell_here"]
theorem sc_law_deed : FnScope N_law_deed P_law_deed (defScope s_law_deed) := ⟨rfl, rfl, rfl, by decide +kernel, rfl, by decide +kernel, by decide +kernel⟩
theorem Tx.fd_law_deed (T : Tx K mg) : ∃ fd, FunD K "_law_deed" "_law_deed" (defArgs s_law_deed) (defBody s_law_deed) (defScope s_law_deed) [] [] (He.ga K "_law_deed") fd := T.says.def_ 53 (d := ⟨("_law_deed", none), "_law_deed", "_law_deed", defArgs s_law_deed, defBody s_law_deed, defScope s_law_deed, [], []⟩) (by kernel_rfl)
theorem mk_law_deed (T : Tx K mg) {k : Nat} {sp : Sp} (len : ∀ vs H Q E, sp vs H Q E → vs.length = 5)
    (hbody : ∀ (f : Addr) (cdv : Value) (A : Around) (outer : List Env) (s : Shared) (H : Hp) (vs : List V) (Q : VK) (E : XK), Room k (A.deeper (envOfC "_law_deed" (defScope s_law_deed) s.heap.objs.size f cdv)) → sp vs H Q E →
      ∃ t, PSs (cxOf CX0 P w K mg base N_law_deed "_law_deed" (defScope s_law_deed) f cdv A outer s H E).nox (defBody s_law_deed) t ∧ t { nx := fun _ H' => Q .non H', rt := Q } (start N_law_deed vs) H) : Callee P w K mg base CX0 "_law_deed" P_law_deed (k + 1) sp := by
  obtain ⟨fd, F⟩ := T.fd_law_deed
  have b := F.bindsN (ps := P_law_deed) fun _ _ _ _ _ _ us hl => match us, hl with | [_, _, _, _, _], _ => rfl
  have ok := F.ok (P := P) (w := w) (mg := mg) (base := base) (CX := CX0) (k := k) (sp := sp) sc_law_deed len fun cdv A outer s H vs Q E hr hsp => by
    obtain ⟨t, h1, h2⟩ := hbody _ cdv A outer s H vs Q E hr hsp
    exact ⟨t, h1.nox, h2⟩
  exact ⟨⟨_, fd, T.g_law_deed, F.kp, b, ok⟩⟩
abbrev N_law_offset : List Str := ["_law_draws_here", "_law_meter"]
abbrev P_law_offset : List Str := ["_law_draws_here", "_law_meter"]
theorem sc_law_offset : FnScope N_law_offset P_law_offset (defScope s_law_offset) := ⟨rfl, rfl, rfl, by decide +kernel, rfl, by decide +kernel, by decide +kernel⟩
theorem Tx.fd_law_offset (T : Tx K mg) : ∃ fd, FunD K "_law_offset" "_law_offset" (defArgs s_law_offset) (defBody s_law_offset) (defScope s_law_offset) [] [] (He.ga K "_law_offset") fd := T.says.def_ 54 (d := ⟨("_law_offset", none), "_law_offset", "_law_offset", defArgs s_law_offset, defBody s_law_offset, defScope s_law_offset, [], []⟩) (by kernel_rfl)
theorem mk_law_offset (T : Tx K mg) {k : Nat} {sp : Sp} (len : ∀ vs H Q E, sp vs H Q E → vs.length = 2)
    (hbody : ∀ (f : Addr) (cdv : Value) (A : Around) (outer : List Env) (s : Shared) (H : Hp) (vs : List V) (Q : VK) (E : XK), Room k (A.deeper (envOfC "_law_offset" (defScope s_law_offset) s.heap.objs.size f cdv)) → sp vs H Q E →
      ∃ t, PSs (cxOf CX0 P w K mg base N_law_offset "_law_offset" (defScope s_law_offset) f cdv A outer s H E).nox (defBody s_law_offset) t ∧ t { nx := fun _ H' => Q .non H', rt := Q } (start N_law_offset vs) H) : Callee P w K mg base CX0 "_law_offset" P_law_offset (k + 1) sp := by
  obtain ⟨fd, F⟩ := T.fd_law_offset
  have b := F.bindsN (ps := P_law_offset) fun _ _ _ _ _ _ us hl => match us, hl with | [_, _], _ => rfl
  have ok := F.ok (P := P) (w := w) (mg := mg) (base := base) (CX := CX0) (k := k) (sp := sp) sc_law_offset len fun cdv A outer s H vs Q E hr hsp => by
    obtain ⟨t, h1, h2⟩ := hbody _ cdv A outer s H vs Q E hr hsp
    exact ⟨t, h1.nox, h2⟩
  exact ⟨⟨_, fd, T.g_law_offset, F.kp, b, ok⟩⟩
abbrev N_law_logs : List Str := ["_law_sources", "_law_source"]
abbrev P_law_logs : List Str := ["_law_sources"]
theorem sc_law_logs : FnScope N_law_logs P_law_logs (defScope s_law_logs) := ⟨rfl, rfl, rfl, by decide +kernel, rfl, by decide +kernel, by decide +kernel⟩
theorem Tx.fd_law_logs (T : Tx K mg) : ∃ fd, FunD K "_law_logs" "_law_logs" (defArgs s_law_logs) (defBody s_law_logs) (defScope s_law_logs) [] [] (He.ga K "_law_logs") fd := T.says.def_ 55 (d := ⟨("_law_logs", none), "_law_logs", "_law_logs", defArgs s_law_logs, defBody s_law_logs, defScope s_law_logs, [], []⟩) (by kernel_rfl)
theorem mk_law_logs (T : Tx K mg) {k : Nat} {sp : Sp} (len : ∀ vs H Q E, sp vs H Q E → vs.length = 1)
    (hbody : ∀ (f : Addr) (cdv : Value) (A : Around) (outer : List Env) (s : Shared) (H : Hp) (vs : List V) (Q : VK) (E : XK), Room k (A.deeper (envOfC "_law_logs" (defScope s_law_logs) s.heap.objs.size f cdv)) → sp vs H Q E →
      ∃ t, PSs (cxOf CX0 P w K mg base N_law_logs "_law_logs" (defScope s_law_logs) f cdv A outer s H E).nox (defBody s_law_logs) t ∧ t { nx := fun _ H' => Q .non H', rt := Q } (start N_law_logs vs) H) : Callee P w K mg base CX0 "_law_logs" P_law_logs (k + 1) sp := by
  obtain ⟨fd, F⟩ := T.fd_law_logs
  have b := F.bindsN (ps := P_law_logs) fun _ _ _ _ _ _ us hl => match us, hl with | [_], _ => rfl
  have ok := F.ok (P := P) (w := w) (mg := mg) (base := base) (CX := CX0) (k := k) (sp := sp) sc_law_logs len fun cdv A outer s H vs Q E hr hsp => by
    obtain ⟨t, h1, h2⟩ := hbody _ cdv A outer s H vs Q E hr hsp
    exact ⟨t, h1.nox, h2⟩
  exact ⟨⟨_, fd, T.g_law_logs, F.kp, b, ok⟩⟩
abbrev N_law_right : List Str := ["_law_plan_here", "_law_sources", "_law_received", "_law_made", "_law_history", "_law_due", "_law_source", "_law_letter"]
abbrev P_law_right : List Str := ["_law_plan_here", "_law_sources", "_law_received", "_law_made"]
theorem sc_law_right : FnScope N_law_right P_law_right (defScope s_law_right) := ⟨rfl, rfl, rfl, by decide +kernel, rfl, by decide +kernel, by decide +kernel⟩
theorem Tx.fd_law_right (T : Tx K mg) : ∃ fd, FunD K "_law_right" "_law_right" (defArgs s_law_right) (defBody s_law_right) (defScope s_law_right) [] [] (He.ga K "_law_right") fd := T.says.def_ 56 (d := ⟨("_law_right", none), "_law_right", "_law_right", defArgs s_law_right, defBody s_law_right, defScope s_law_right, [], []⟩) (by kernel_rfl)
theorem mk_law_right (T : Tx K mg) {k : Nat} {sp : Sp} (len : ∀ vs H Q E, sp vs H Q E → vs.length = 4)
    (hbody : ∀ (f : Addr) (cdv : Value) (A : Around) (outer : List Env) (s : Shared) (H : Hp) (vs : List V) (Q : VK) (E : XK), Room k (A.deeper (envOfC "_law_right" (defScope s_law_right) s.heap.objs.size f cdv)) → sp vs H Q E →
      ∃ t, PSs (cxOf CX0 P w K mg base N_law_right "_law_right" (defScope s_law_right) f cdv A outer s H E).nox (defBody s_law_right) t ∧ t { nx := fun _ H' => Q .non H', rt := Q } (start N_law_right vs) H) : Callee P w K mg base CX0 "_law_right" P_law_right (k + 1) sp := by
  obtain ⟨fd, F⟩ := T.fd_law_right
  have b := F.bindsN (ps := P_law_right) fun _ _ _ _ _ _ us hl => match us, hl with | [_, _, _, _], _ => rfl
  have ok := F.ok (P := P) (w := w) (mg := mg) (base := base) (CX := CX0) (k := k) (sp := sp) sc_law_right len fun cdv A outer s H vs Q E hr hsp => by
    obtain ⟨t, h1, h2⟩ := hbody _ cdv A outer s H vs Q E hr hsp
    exact ⟨t, h1.nox, h2⟩
  exact ⟨⟨_, fd, T.g_law_right, F.kp, b, ok⟩⟩
abbrev N_law_moves : List Str := ["_law_draws_here", "_law_carrier", "_law_sources", "_law_plan_here", "_law_received", "_law_many", "_law_kind", "_law_index", "_law_letter", "_law_k"]
abbrev P_law_moves : List Str := ["_law_draws_here", "_law_carrier", "_law_sources", "_law_plan_here", "_law_received"]
theorem sc_law_moves : FnScope N_law_moves P_law_moves (defScope s_law_moves) := ⟨rfl, rfl, rfl, by decide +kernel, rfl, by decide +kernel, by decide +kernel⟩
theorem Tx.fd_law_moves (T : Tx K mg) : ∃ fd, FunD K "_law_moves" "_law_moves" (defArgs s_law_moves) (defBody s_law_moves) (defScope s_law_moves) [] [] (He.ga K "_law_moves") fd := T.says.def_ 57 (d := ⟨("_law_moves", none), "_law_moves", "_law_moves", defArgs s_law_moves, defBody s_law_moves, defScope s_law_moves, [], []⟩) (by kernel_rfl)
theorem mk_law_moves (T : Tx K mg) {k : Nat} {sp : Sp} (len : ∀ vs H Q E, sp vs H Q E → vs.length = 5)
    (hbody : ∀ (f : Addr) (cdv : Value) (A : Around) (outer : List Env) (s : Shared) (H : Hp) (vs : List V) (Q : VK) (E : XK), Room k (A.deeper (envOfC "_law_moves" (defScope s_law_moves) s.heap.objs.size f cdv)) → sp vs H Q E →
      ∃ t, PSs (cxOf CX0 P w K mg base N_law_moves "_law_moves" (defScope s_law_moves) f cdv A outer s H E).nox (defBody s_law_moves) t ∧ t { nx := fun _ H' => Q .non H', rt := Q } (start N_law_moves vs) H) : Callee P w K mg base CX0 "_law_moves" P_law_moves (k + 1) sp := by
  obtain ⟨fd, F⟩ := T.fd_law_moves
  have b := F.bindsN (ps := P_law_moves) fun _ _ _ _ _ _ us hl => match us, hl with | [_, _, _, _, _], _ => rfl
  have ok := F.ok (P := P) (w := w) (mg := mg) (base := base) (CX := CX0) (k := k) (sp := sp) sc_law_moves len fun cdv A outer s H vs Q E hr hsp => by
    obtain ⟨t, h1, h2⟩ := hbody _ cdv A outer s H vs Q E hr hsp
    exact ⟨t, h1.nox, h2⟩
  exact ⟨⟨_, fd, T.g_law_moves, F.kp, b, ok⟩⟩
abbrev N_law_rest : List Str := ["_law_sources", "_law_carrier", "_law_source", "_law_found", "_law_k"]
abbrev P_law_rest : List Str := ["_law_sources", "_law_carrier"]
theorem sc_law_rest : FnScope N_law_rest P_law_rest (defScope s_law_rest) := ⟨rfl, rfl, rfl, by decide +kernel, rfl, by decide +kernel, by decide +kernel⟩
theorem Tx.fd_law_rest (T : Tx K mg) : ∃ fd, FunD K "_law_rest" "_law_rest" (defArgs s_law_rest) (defBody s_law_rest) (defScope s_law_rest) [] [] (He.ga K "_law_rest") fd := T.says.def_ 58 (d := ⟨("_law_rest", none), "_law_rest", "_law_rest", defArgs s_law_rest, defBody s_law_rest, defScope s_law_rest, [], []⟩) (by kernel_rfl)
theorem mk_law_rest (T : Tx K mg) {k : Nat} {sp : Sp} (len : ∀ vs H Q E, sp vs H Q E → vs.length = 2)
    (hbody : ∀ (f : Addr) (cdv : Value) (A : Around) (outer : List Env) (s : Shared) (H : Hp) (vs : List V) (Q : VK) (E : XK), Room k (A.deeper (envOfC "_law_rest" (defScope s_law_rest) s.heap.objs.size f cdv)) → sp vs H Q E →
      ∃ t, PSs (cxOf CX0 P w K mg base N_law_rest "_law_rest" (defScope s_law_rest) f cdv A outer s H E).nox (defBody s_law_rest) t ∧ t { nx := fun _ H' => Q .non H', rt := Q } (start N_law_rest vs) H) : Callee P w K mg base CX0 "_law_rest" P_law_rest (k + 1) sp := by
  obtain ⟨fd, F⟩ := T.fd_law_rest
  have b := F.bindsN (ps := P_law_rest) fun _ _ _ _ _ _ us hl => match us, hl with | [_, _], _ => rfl
  have ok := F.ok (P := P) (w := w) (mg := mg) (base := base) (CX := CX0) (k := k) (sp := sp) sc_law_rest len fun cdv A outer s H vs Q E hr hsp => by
    obtain ⟨t, h1, h2⟩ := hbody _ cdv A outer s H vs Q E hr hsp
    exact ⟨t, h1.nox, h2⟩
  exact ⟨⟨_, fd, T.g_law_rest, F.kp, b, ok⟩⟩
abbrev N_law : List Str := ["_law_script", "_law_draws_here", "_law_cell_here", "_law_plan_here", "_law_offsets", "_law_sources", "_law_carriers", "_law_received", "_law_made", "_law_k", "_law_at", "_law_kind", "_law_carrier", "_law_model", "_law_deed_here", "_law_reads", "_law_meter", "_law_letter"]
abbrev P_law : List Str := ["_law_script"]
theorem sc_law : FnScope N_law P_law (defScope s_law) := ⟨rfl, rfl, rfl, by decide +kernel, rfl, by decide +kernel, by decide +kernel⟩
theorem Tx.fd_law (T : Tx K mg) : ∃ fd, FunD K "law" "law" (defArgs s_law) (defBody s_law) (defScope s_law) [] [] (He.ga K "law") fd := T.says.def_ 59 (d := ⟨("law", none), "law", "law", defArgs s_law, defBody s_law, defScope s_law, [], []⟩) (by kernel_rfl)
theorem mk_law (T : Tx K mg) {k : Nat} {sp : Sp} (len : ∀ vs H Q E, sp vs H Q E → vs.length = 1)
    (hbody : ∀ (f : Addr) (cdv : Value) (A : Around) (outer : List Env) (s : Shared) (H : Hp) (vs : List V) (Q : VK) (E : XK), Room k (A.deeper (envOfC "law" (defScope s_law) s.heap.objs.size f cdv)) → sp vs H Q E →
      ∃ t, PSs (cxOf CX0 P w K mg base N_law "law" (defScope s_law) f cdv A outer s H E).nox (defBody s_law) t ∧ t { nx := fun _ H' => Q .non H', rt := Q } (start N_law vs) H) : Callee P w K mg base CX0 "law" P_law (k + 1) sp := by
  obtain ⟨fd, F⟩ := T.fd_law
  have b := F.bindsN (ps := P_law) fun _ _ _ _ _ _ us hl => match us, hl with | [_], _ => rfl
  have ok := F.ok (P := P) (w := w) (mg := mg) (base := base) (CX := CX0) (k := k) (sp := sp) sc_law len fun cdv A outer s H vs Q E hr hsp => by
    obtain ⟨t, h1, h2⟩ := hbody _ cdv A outer s H vs Q E hr hsp
    exact ⟨t, h1.nox, h2⟩
  exact ⟨⟨_, fd, T.g_law, F.kp, b, ok⟩⟩
end
end Tw
end

section
set_option maxHeartbeats 4000000
/-! TwData: what the program's values are, and how they lie in the heap. -/
namespace Tw
open PySem L2
theorem upd_oth {H : Hp} {a b : Addr} {o u : HO} (h : b ≠ a) (e : H b = some u) : upd H a o b = some u := by rw [upd_ne h]; exact e
theorem upd_dif {H : Hp} {a b : Addr} {o u v : HO} (h : H a = some v) (d : u ≠ v) (e : H b = some u) : upd H a o b = some u := by rw [upd_ne (ne_of e h d)]; exact e
theorem upd_id {H : Hp} {a : Addr} {o : HO} (h : H a = some o) : upd H a o = H := by
  funext b
  unfold upd
  split
  · rename_i e; rw [e, h]
  · rfl
theorem _root_.L2.Same.mut {H H' : Hp} {p : Addr} {o : HO} (e : Same H H') (n : H p = none) : Same H (upd H' p o) := fun b u h => by
  rw [upd_ne (ne_of_none h n)]
  exact e b u h
theorem _root_.L2.Same.up {H H' : Hp} {p : Addr} {o : HO} (e : Same H H') (n : H' p = none) : Same H (upd H' p o) := e.trans (Same.new n)
theorem _root_.L2.Same.none {H H' : Hp} (e : Same H H') {p : Addr} (n : H' p = none) : H p = none := e.free n
theorem itt {b : Bool} {A B : Prop} (h : b = true) (a : A) : if b = true then A else B := by rw [if_pos h]; exact a
theorem itf {b : Bool} {A B : Prop} (h : b = false) (x : B) : if b = true then A else B := by rw [if_neg (by rw [h]; exact Bool.false_ne_true)]; exact x
theorem ite3 {b : Bool} {A B : Prop} (h1 : b = true → A) (h2 : b = false → B) : if b = true then A else B := by
  cases b with
  | true => exact iteT (h1 rfl)
  | false => exact iteF (h2 rfl)
theorem nott : (!true) = false := rfl
theorem notf : (!false) = true := rfl
theorem int_ne {a b : Int} (h : a ≠ b) : decide (V.int a = V.int b) = false := decide_eq_false fun e => h (V.int.inj e)
theorem int_eq {a b : Int} (h : a = b) : decide (V.int a = V.int b) = true := decide_eq_true (by rw [h])
theorem str_ne {a b : Str} (h : a ≠ b) : decide (V.str a = V.str b) = false := decide_eq_false fun e => h (V.str.inj e)
theorem str_eq {a b : Str} (h : a = b) : decide (V.str a = V.str b) = true := decide_eq_true (by rw [h])
theorem dget_of {H : Hp} {a : Addr} {kvs : List (Key × V)} {i : Int} {v : V} (h : H a = some (.dK kvs)) (q : valV kvs (Sum.inl i) = some v) : DGet H a (.int i) (some v) := .inl ⟨kvs, Sum.inl i, .inl h, rfl, q.symm⟩
/-! ### lists, item by item -/
def All2 {α : Type} (R : V → α → Prop) (vs : List V) (ss : List α) : Prop := vs.length = ss.length ∧ ∀ (i : Nat) (v : V) (s : α), vs[i]? = some v → ss[i]? = some s → R v s
section
variable {α : Type} {R R' : V → α → Prop} {vs ws : List V} {ss ts : List α}
theorem All2.nil : All2 R [] ([] : List α) := ⟨rfl, fun i v s h => by simp at h⟩
theorem All2.get (a : All2 R vs ss) {i : Nat} {v : V} (h : vs[i]? = some v) : ∃ s, ss[i]? = some s ∧ R v s := by
  have hi : i < ss.length := by rw [← a.1]; exact (List.getElem?_eq_some_iff.mp h).1
  exact ⟨ss[i], List.getElem?_eq_getElem hi, a.2 i v _ h (List.getElem?_eq_getElem hi)⟩
theorem All2.get' (a : All2 R vs ss) {i : Nat} {s : α} (h : ss[i]? = some s) : ∃ v, vs[i]? = some v ∧ R v s := by
  have hi : i < vs.length := by rw [a.1]; exact (List.getElem?_eq_some_iff.mp h).1
  exact ⟨vs[i], List.getElem?_eq_getElem hi, a.2 i _ s (List.getElem?_eq_getElem hi) h⟩
theorem All2.mono (a : All2 R vs ss) (h : ∀ v s, R v s → R' v s) : All2 R' vs ss := ⟨a.1, fun i v s h1 h2 => h v s (a.2 i v s h1 h2)⟩
theorem All2.append (a : All2 R vs ss) (b : All2 R ws ts) : All2 R (vs ++ ws) (ss ++ ts) := by
  refine ⟨by rw [List.length_append, List.length_append, a.1, b.1], fun i v s h1 h2 => ?_⟩
  by_cases hi : i < vs.length
  · rw [List.getElem?_append_left hi] at h1
    rw [List.getElem?_append_left (by rw [← a.1]; exact hi)] at h2
    exact a.2 i v s h1 h2
  · rw [List.getElem?_append_right (by omega)] at h1
    rw [List.getElem?_append_right (by rw [← a.1]; omega), ← a.1] at h2
    exact b.2 _ v s h1 h2
theorem All2.one {v : V} {s : α} (h : R v s) : All2 R [v] [s] := by
  refine ⟨rfl, fun i u t h1 h2 => ?_⟩
  cases i with
  | zero => simp at h1 h2; rw [← h1, ← h2]; exact h
  | succ i => simp at h1
theorem All2.snoc (a : All2 R vs ss) {v : V} {s : α} (h : R v s) : All2 R (vs ++ [v]) (ss ++ [s]) := a.append (All2.one h)
theorem All2.set (a : All2 R vs ss) {v : V} {s : α} (h : R v s) (i : Nat) : All2 R (vs.set i v) (ss.set i s) := by
  refine ⟨by rw [List.length_set, List.length_set, a.1], fun j u t h1 h2 => ?_⟩
  by_cases e : i = j
  · subst e
    by_cases hi : i < vs.length
    · rw [List.getElem?_set_self hi] at h1
      rw [List.getElem?_set_self (by rw [← a.1]; exact hi)] at h2
      rw [← Option.some.inj h1, ← Option.some.inj h2]
      exact h
    · rw [List.getElem?_eq_none (by rw [List.length_set]; omega)] at h1
      cases h1
  · rw [List.getElem?_set_ne e] at h1 h2
    exact a.2 j u t h1 h2
theorem All2.erase (a : All2 R vs ss) (k : Nat) : All2 R (vs.eraseIdx k) (ss.eraseIdx k) := by
  refine ⟨by rw [List.length_eraseIdx, List.length_eraseIdx, a.1], fun j u t h1 h2 => ?_⟩
  rw [List.getElem?_eraseIdx] at h1 h2
  by_cases e : j < k
  · rw [if_pos e] at h1 h2; exact a.2 _ u t h1 h2
  · rw [if_neg e] at h1 h2; exact a.2 _ u t h1 h2
theorem All2.mem (a : All2 R vs ss) {v : V} (h : v ∈ vs) : ∃ s, s ∈ ss ∧ R v s := by
  obtain ⟨i, hi, e⟩ := List.mem_iff_getElem.mp h
  obtain ⟨s, h1, h2⟩ := a.get (i := i) (v := v) (by rw [List.getElem?_eq_getElem hi, e])
  exact ⟨s, List.mem_of_getElem? h1, h2⟩
end
/-! ### the program's values -/
abbrev Slot := Int × List (Option Int)
structure Meter where
  name : Str
  lo : Int
  hi : Int
  err : Int
  deriving DecidableEq
inductive Letter where
  | read (nm : Str) (slot ver : Nat) (stamp : Int) (val : Option Int)
  | close (nm : Str) (n : Nat) (stamp : Int) (vers : Nat)
  | clock (nm : Str) (lo hi : Int)
  deriving DecidableEq
def Letter.nm : Letter → Str
  | .read n _ _ _ _ => n
  | .close n _ _ _ => n
  | .clock n _ _ => n
def ov : Option Int → V
  | none => .non
  | some i => .int i
def Letter.items : Letter → List V
  | .read n s v t x => [.str "read", .str n, .int s, .int v, .int t, ov x]
  | .close n k t v => [.str "close", .str n, .int k, .int t, .int v]
  | .clock n a b => [.str "clock", .str n, .int a, .int b]
def IsMeter (H : Hp) (v : V) (m : Meter) : Prop := ∃ a, v = .ref a ∧ H a = some (.tup [.str m.name, .int m.lo, .int m.hi, .int m.err])
def IsSlot (H : Hp) (v : V) (s : Slot) : Prop := ∃ a b, v = .ref a ∧ H a = some (.tup [.int s.1, .ref b]) ∧ H b = some (.tup (s.2.map ov))
def IsLetter (H : Hp) (v : V) (l : Letter) : Prop := ∃ a, v = .ref a ∧ H a = some (.tup l.items)
/-- tuples are kept -/
def TKeep (H H' : Hp) : Prop := ∀ b xs, H b = some (.tup xs) → H' b = some (.tup xs)
theorem _root_.L2.Same.tk {H H' : Hp} (e : Same H H') : TKeep H H' := fun b xs h => e b _ h
theorem TKeep.refl (H : Hp) : TKeep H H := fun _ _ h => h
theorem TKeep.trans {H H1 H2 : Hp} (a : TKeep H H1) (b : TKeep H1 H2) : TKeep H H2 := fun c xs h => b c xs (a c xs h)
/-- an object that is no tuple is written -/
theorem TKeep.upd {H : Hp} {p : Addr} {o u : HO} (h : H p = some u) (d : ∀ xs, u ≠ .tup xs) : TKeep H (upd H p o) := fun b xs e => upd_dif h (fun z => d xs z.symm) e
theorem Keep.tk {S : List Addr} {H H' : Hp} (e : Keep S H H') (n : ∀ b ∈ S, ∀ xs, H b ≠ some (.tup xs)) : TKeep H H' := fun b xs h => e b _ (fun z => n b z xs h) h
theorem IsMeter.mono {H H' : Hp} {v : V} {m : Meter} (h : IsMeter H v m) (e : TKeep H H') : IsMeter H' v m := by
  obtain ⟨a, h1, h2⟩ := h
  exact ⟨a, h1, e _ _ h2⟩
theorem IsSlot.mono {H H' : Hp} {v : V} {s : Slot} (h : IsSlot H v s) (e : TKeep H H') : IsSlot H' v s := by
  obtain ⟨a, b, h1, h2, h3⟩ := h
  exact ⟨a, b, h1, e _ _ h2, e _ _ h3⟩
theorem IsLetter.mono {H H' : Hp} {v : V} {l : Letter} (h : IsLetter H v l) (e : TKeep H H') : IsLetter H' v l := by
  obtain ⟨a, h1, h2⟩ := h
  exact ⟨a, h1, e _ _ h2⟩
/-- a plan: the length of a window, the meters -/
def IsPlan (H : Hp) (v : V) (len : Int) (ms : List Meter) : Prop := ∃ a b vs, v = .ref a ∧ H a = some (.tup [.int len, .ref b]) ∧ H b = some (.tup vs) ∧ All2 (IsMeter H) vs ms
theorem IsPlan.mono {H H' : Hp} {v : V} {len : Int} {ms : List Meter} (h : IsPlan H v len ms) (e : TKeep H H') : IsPlan H' v len ms := by
  obtain ⟨a, b, vs, h1, h2, h3, h4⟩ := h
  exact ⟨a, b, vs, h1, e _ _ h2, e _ _ h3, h4.mono fun _ _ z => z.mono e⟩
theorem name_inj {ms : List Meter} (nd : (ms.map (·.name)).Nodup) {x y : Meter} (hx : x ∈ ms) (hy : y ∈ ms) (e : x.name = y.name) : x = y := by
  obtain ⟨i, hi, ei⟩ := List.mem_iff_getElem.mp hx
  obtain ⟨j, hj, ej⟩ := List.mem_iff_getElem.mp hy
  have : i = j := by
    refine (List.getElem_inj (xs := ms.map (·.name)) (h₀ := by simpa using hi) (h₁ := by simpa using hj) nd).mp ?_
    rw [List.getElem_map, List.getElem_map, ei, ej, e]
  subst this
  rw [← ei, ← ej]
theorem take_succ_get {α : Type} {l : List α} {i : Nat} {x : α} (h : l[i]? = some x) : l.take (i + 1) = l.take i ++ [x] := by
  rw [List.take_succ, h]; rfl
theorem cdiv_of {i j : Int} (h : (decide (0 < j) && decide (j < 1073741824)) = true) : CDiv i j := by
  rw [Bool.and_eq_true] at h
  exact ⟨of_decide_eq_true h.1, of_decide_eq_true h.2⟩
theorem cmul_r {i j : Int} (h : (decide (-18446744073709551616 < j) && decide (j < 18446744073709551616)) = true) : CMul i j := by
  rw [Bool.and_eq_true] at h
  exact .inr ⟨of_decide_eq_true h.1, of_decide_eq_true h.2⟩
theorem cmul_l {i j : Int} (h : (decide (-18446744073709551616 < i) && decide (i < 18446744073709551616)) = true) : CMul i j := by
  rw [Bool.and_eq_true] at h
  exact .inl ⟨of_decide_eq_true h.1, of_decide_eq_true h.2⟩
end Tw
end

section
set_option maxHeartbeats 4000000
namespace Tw
open PySem PySem.Spec PyProof.Rows L2
/-! the machine of the readings: "tw" goes on through what has one answer; it stops at a branch, a loop, a new object, what comes behind a call -/
local macro_rules | `(tactic| walk_at "tw look") => `(tactic| first
  | assumption
  | exact upd_same
  | (refine Same.new (by assumption) _ _ ?_; walk_at "tw look")
  | (refine upd_oth (by assumption) ?_; walk_at "tw look")
  | (refine upd_dif (by assumption) (by intro z; cases z) ?_; walk_at "tw look")
  | (refine upd_dif upd_same (by intro z; cases z) ?_; walk_at "tw look"))
local macro_rules | `(tactic| walk_at "tw seq") => `(tactic| first
  | assumption
  | exact SqL.of (by walk_at "tw look")
  | exact SqT.of (by walk_at "tw look")
  | exact .inl (SqL.of (by walk_at "tw look"))
  | exact .inr (SqT.of (by walk_at "tw look"))
  | exact .inl (by assumption)
  | exact dget_of (by walk_at "tw look") (by assumption)
  | exact DGet.k (k := Sum.inl _) (by walk_at "tw look")
  | exact DPut.k (k := Sum.inl _) (by walk_at "tw look") (by assumption)
  | exact .inl ⟨_, .inl (by walk_at "tw look")⟩
  | exact .inr ⟨_, .inl (by walk_at "tw look")⟩
  | exact ⟨_, SqL.of (by walk_at "tw look")⟩
  | exact ⟨_, SqT.of (by walk_at "tw look")⟩
  | exact ⟨_, by assumption⟩
  | exact .inl ⟨rfl, _, SqL.of (by walk_at "tw look")⟩)
local macro_rules | `(tactic| walk_at "tw atom") => `(tactic| first
  | with_reducible rfl
  | assumption
  | rfl
  | walk_at "tw look"
  | walk_at "tw seq"
  | omega
  | exact small (by simp; done)
  | exact smallt (by simp; done)
  | exact cdiv_of rfl
  | exact fun _ h => h
  | exact Int.natCast_pos.mpr (Nat.zero_lt_succ _)
  | exact cmul_r rfl
  | exact cmul_l rfl
  | exact Nat.le_of_ble_eq_true rfl)
local macro_rules | `(tactic| walk_at "tw step") => `(tactic| first | (with_reducible refine iteT ?_) | (with_reducible refine iteF ?_) | (with_reducible refine itf nott ?_) | (with_reducible refine itt notf ?_) | ((fail_if_success (refine ite2 (fun _ => ?_) (fun _ => ?_))); first
  | ((fail_if_success (refine (?_ : ∃ W : Nat → Nat → L2.St → Hp → Prop, _))); (fail_if_success (refine (?_ : ∃ W : Nat → Nat → Hp → Prop, _))); apply Exists.intro)
  | (apply And.intro; (walk_at "tw atom"))))
local macro_rules | `(tactic| walk_at "tw") => `(tactic| repeat walk_at "tw step")

section
variable {P : Program} {w : World} {K : PySem.W.Frag} {mg : Str → Option Value} {base : Heap}
/-- some number below many is drawn; the draws stay a list of numbers -/
def spTake : Sp := fun vs H Q _ => ∃ (d : Addr) (many : Int) (ds : List Int), vs = [.ref d, .int many] ∧ H d = some (.lst (ds.map V.int)) ∧ 0 < many ∧
  ∀ (r : Int) (ds' : List Int), 0 ≤ r → r < many → Q (.int r) (upd H d (.lst (ds'.map V.int)))
theorem dec_of {x y : V} (h : decide (x = y) = true) : x = y := of_decide_eq_true h
theorem C_law_take (T : Tx K mg) : Callee P w K mg base CX0 "_law_take" P_law_take 1 spTake := by
  refine mk_law_take T (k := 0) (fun vs H Q E h => ?_) (fun f cdv A outer s H vs Q E hr h => ?_)
  · obtain ⟨d, many, ds, rfl, _⟩ := h
    rfl
  · obtain ⟨d, many, ds, rfl, hd, hm, k⟩ := h
    refine ⟨_, ((pss_cons (ps_if (pt_cmpR op_eq (pe_callB (clen (K := K)) (by rfl) T.f_len PySem.boot_len (pa_cons (pv 0) pa_nil)) pe_int (nomark _))
    (pss_one (ps_ret pe_int))
    pss_nil)
    (pss_one (ps_ret (pe_op op_mod (pe_callTy cint (by rfl) T.f_int Pv.boot_int (pa_cons (pe_bm0 PySem.F.plainAttrs_list PySem.F.slot_list_pop PySem.F.type_list_pop mt_pop (pv 0)) pa_nil)) (pv 1)))))), ?_⟩
    walk_at "tw"
    refine ite2 (fun hc => ?_) (fun hc => ?_)
    · have := k 0 ds (by omega) hm
      rw [upd_id hd] at this
      exact this
    · have hne : ds ≠ [] := fun e => hc (by rw [e]; rfl)
      obtain ⟨init, z, rfl⟩ : ∃ init z, ds = init ++ [z] := ⟨ds.dropLast, ds.getLast hne, (List.dropLast_concat_getLast hne).symm⟩
      walk_at "tw"
      refine ⟨(by simp : _ = some (V.int z)), ?_⟩
      rw [show (List.map V.int (init ++ [z])).dropLast = init.map V.int by simp]
      walk_at "tw"
      exact k _ init (Int.emod_nonneg _ (by omega)) (Int.emod_lt_of_pos _ hm)
end
end Tw
end

section
set_option maxHeartbeats 4000000
namespace Tw
open PySem PySem.Spec PyProof.Rows L2
/-! the machine of the readings: "tw" goes on through what has one answer; it stops at a branch, a loop, a new object, what comes behind a call -/
local macro_rules | `(tactic| walk_at "tw look") => `(tactic| first
  | assumption
  | exact upd_same
  | (refine Same.new (by assumption) _ _ ?_; walk_at "tw look")
  | (refine upd_oth (by assumption) ?_; walk_at "tw look")
  | (refine upd_dif (by assumption) (by intro z; cases z) ?_; walk_at "tw look")
  | (refine upd_dif upd_same (by intro z; cases z) ?_; walk_at "tw look"))
local macro_rules | `(tactic| walk_at "tw seq") => `(tactic| first
  | assumption
  | exact SqL.of (by walk_at "tw look")
  | exact SqT.of (by walk_at "tw look")
  | exact .inl (SqL.of (by walk_at "tw look"))
  | exact .inr (SqT.of (by walk_at "tw look"))
  | exact .inl (by assumption)
  | exact dget_of (by walk_at "tw look") (by assumption)
  | exact DGet.k (k := Sum.inl _) (by walk_at "tw look")
  | exact DPut.k (k := Sum.inl _) (by walk_at "tw look") (by assumption)
  | exact .inl ⟨_, .inl (by walk_at "tw look")⟩
  | exact .inr ⟨_, .inl (by walk_at "tw look")⟩
  | exact ⟨_, SqL.of (by walk_at "tw look")⟩
  | exact ⟨_, SqT.of (by walk_at "tw look")⟩
  | exact ⟨_, by assumption⟩
  | exact .inl ⟨rfl, _, SqL.of (by walk_at "tw look")⟩)
local macro_rules | `(tactic| walk_at "tw atom") => `(tactic| first
  | with_reducible rfl
  | assumption
  | rfl
  | walk_at "tw look"
  | walk_at "tw seq"
  | omega
  | exact small (by simp; done)
  | exact smallt (by simp; done)
  | exact cdiv_of rfl
  | exact fun _ h => h
  | exact Int.natCast_pos.mpr (Nat.zero_lt_succ _)
  | exact cmul_r rfl
  | exact cmul_l rfl
  | exact Nat.le_of_ble_eq_true rfl)
local macro_rules | `(tactic| walk_at "tw step") => `(tactic| first | (with_reducible refine iteT ?_) | (with_reducible refine iteF ?_) | (with_reducible refine itf nott ?_) | (with_reducible refine itt notf ?_) | ((fail_if_success (refine ite2 (fun _ => ?_) (fun _ => ?_))); first
  | ((fail_if_success (refine (?_ : ∃ W : Nat → Nat → L2.St → Hp → Prop, _))); (fail_if_success (refine (?_ : ∃ W : Nat → Nat → Hp → Prop, _))); apply Exists.intro)
  | (apply And.intro; (walk_at "tw atom"))))
local macro_rules | `(tactic| walk_at "tw") => `(tactic| repeat walk_at "tw step")

section
variable {P : Program} {w : World} {K : PySem.W.Frag} {mg : Str → Option Value} {base : Heap}
def spMeterOf : Sp := fun vs H Q _ => ∃ (p : V) (nm : Str) (len : Int) (ms : List Meter) (m : Meter), vs = [p, .str nm] ∧ IsPlan H p len ms ∧ (ms.map (·.name)).Nodup ∧ m ∈ ms ∧ m.name = nm ∧ ms.length ≤ 1000 ∧
  ∀ v H', Same H H' → IsMeter H v m → Q v H'
theorem C_meter_of (T : Tx K mg) : Callee P w K mg base CX0 "meter_of" P_meter_of 1 spMeterOf := by
  refine mk_meter_of T (k := 0) (fun vs H Q E h => ?_) (fun f cdv A outer s H vs Q E hr h => ?_)
  · obtain ⟨p, nm, len, ms, m, rfl, _⟩ := h
    rfl
  · obtain ⟨p, nm, len, ms, m, rfl, ⟨a, b, vs, rfl, ha, hb, hv⟩, nd, hm, en, hl, k⟩ := h
    refine ⟨_, ((pss_one (ps_ret (pe_ix (ixL (K := K)) (pe_lc (own := [("meter", 2)]) (g := gName 2) rfl sc_meter_of.nd (pi_tup (pe_ix (ixT (K := K)) (pv 0) pe_int (fun _ _ => rfl))) (blkOk_by (N := N_meter_of) (sc := defScope s_meter_of) (by decide +kernel)) (fun _ _ _ _ _ => (pg_name (i := 2) sc_meter_of.nd rfl (by first | exact Or.inl rfl | exact Or.inr rfl))) (fun _ _ _ _ _ => pts_one (pt_cmpR op_eq (pe_ix (ixT (K := K)) (pv 2) pe_int (fun _ _ => rfl)) (pv 1) (nomark _))) (fun _ _ _ _ _ => (pv 2))) pe_int (fun _ _ => rfl))))), ?_⟩
    walk_at "tw"
    intro D nD
    refine lc_tup (K := K) (a := b) (xs := vs) (fun i H' => Same H H' ∧ ∃ acc, H' D = some (.lst acc) ∧ acc.length ≤ i ∧ All2 (IsMeter H) acc ((ms.take i).filter fun x => decide (x.name = nm)))
      ⟨Same.new nD, [], upd_same, Nat.le_refl _, All2.nil⟩ (fun i H' _ z => SqT.of (z.1 _ _ hb)) ?_ ?_
    · rintro i x H' hx ⟨e, acc, hD, hacc, hall⟩
      obtain ⟨m', hm', ⟨t, rfl, ht⟩⟩ := hv.get hx
      have ht' := e _ _ ht
      have hi : i < vs.length := (List.getElem?_eq_some_iff.mp hx).1
      have hz : acc.length < sizeLine := smallt (by have := hv.1; omega)
      walk_at "tw"
      rw [take_succ_get hm', List.filter_append]
      refine ite2 (fun hc => ?_) (fun hc => ?_)
      · have hn : m'.name = nm := by simpa using hc
        walk_at "tw"
        refine ⟨e.mut nD, _, upd_same, by rw [List.length_append]; exact Nat.add_le_add hacc (Nat.le_refl 1), ?_⟩
        rw [List.filter_cons_of_pos (by simpa using hn), List.filter_nil]
        exact hall.snoc ⟨t, rfl, ht⟩
      · have hn : ¬ m'.name = nm := by simpa using hc
        refine ⟨e, acc, hD, Nat.le_succ_of_le hacc, ?_⟩
        rw [List.filter_cons_of_neg (by simpa using hn), List.filter_nil, List.append_nil]
        exact hall
    · rintro H' ⟨e, acc, hD, hacc, hall⟩
      rw [List.take_of_length_le (by rw [hv.1]; exact Nat.le_refl _)] at hall
      obtain ⟨j, hj, ej⟩ := List.mem_iff_getElem.mp hm
      have hf : m ∈ ms.filter fun x => decide (x.name = nm) := List.mem_filter.mpr ⟨hm, by simpa using en⟩
      obtain ⟨m2, hm2⟩ : ∃ m2, (ms.filter fun x => decide (x.name = nm))[0]? = some m2 := by
        cases q : ms.filter fun x => decide (x.name = nm) with
        | nil => rw [q] at hf; cases hf
        | cons y ys => exact ⟨y, rfl⟩
      have hm3 := List.mem_of_getElem? hm2
      obtain ⟨hm4, hm5⟩ := List.mem_filter.mp hm3
      have e2 : m2 = m := name_inj nd hm4 hm (by rw [en]; simpa using hm5)
      subst e2
      obtain ⟨v, hv1, hv2⟩ := hall.get' hm2
      walk_at "tw"
      refine ⟨atI_nat (j := 0) hv1, ?_⟩
      exact k _ _ e hv2
end
end Tw
end

section
set_option maxHeartbeats 4000000
/-! TwRules1: enumerate of a tuple -/
namespace PySem
theorem tw_meets_enum1 {v : Value} {o : Obj} {H : Heap → Prop} (B : Begins v o H) :
    Meets (Builtin.«enumerate.__new__» ⟨[.type "enumerate", v], []⟩) (fun _ R s => H s.heap ∧
      R (.ok (.ret (.ref (s.heap.push o).objs.size))) { s with heap := (s.heap.push o).push { cls := .type "enumerate", data := .fields #[.none, .bool false, .ref s.heap.objs.size, rawInt 0, .none, .none] } }) :=
  .of_wp fun prog w A R s h => by
    obtain ⟨hp, g, d, tk, os⟩ := s
    obtain ⟨h1, h⟩ := h
    have hsub := sub_enumerate
    have go : ∀ {A' : Around} {E : Value → Shared → Prop} {Q : Value → Shared → Prop}, Q (.ref hp.objs.size) ⟨hp.push o, g, d, tk, os⟩ → wpAny (model prog w) A' (pyIter v) Q E ⟨hp, g, d, tk, os⟩ :=
      fun q => B.iter prog w _ _ ⟨hp, g, d, tk, os⟩ _ h1 q
    wp_walk using go
    refine wpAny_stack_any fun st => wpAny_pure ?_
    split
    · rename_i c _ _ _ _ _
      cases (c == Value.type "enumerate") <;> (wp_walk using go; exact ⟨_, rfl, h⟩)
    · wp_walk using go
      exact ⟨_, rfl, h⟩
theorem tw_enum_tuple {prog : Program} {w : World} {A : Around} {E : Value → Shared → Prop} {s : Shared} {t : Addr} {items : Array Value} {Q : Value → Shared → Prop} (ht : s.heap.IsTuple t items)
    (h : ∀ h', IsEnum h' (s.heap.objs.size + 1) s.heap.objs.size 0 .none → h'.IsTupleIter s.heap.objs.size t 0 → (∀ b o, s.heap.get? b = some o → h'.get? b = some o) → Q (.ref (s.heap.objs.size + 1)) { s with heap := h' }) :
    wpAny (model prog w) A (call (.type "enumerate") [.ref t]) Q E s := by
  refine callType_new F.called_enumerate (by decide) (F.typeCall_enumerate_1 _) (F.newCall_enumerate_1 _) (fun obj => F.args_object_init_2 obj _) F.entry_enumerate_new (tw_meets_enum1 (begins_tuple t items)) ⟨ht, ?_⟩
  have hz : (s.heap.push { cls := .type "tuple_iterator", data := .fields #[.ref t, .int 0 0] }).objs.size = s.heap.objs.size + 1 := Heap.size_push ..
  show _ ∧ _
  rw [hz]
  have he : IsEnum ((s.heap.push { cls := .type "tuple_iterator", data := .fields #[.ref t, .int 0 0] }).push { cls := .type "enumerate", data := .fields #[.none, .bool false, .ref s.heap.objs.size, rawInt 0, .none, .none] })
      (s.heap.objs.size + 1) s.heap.objs.size 0 .none := by
    have q := Heap.get?_push_size (s.heap.push { cls := .type "tuple_iterator", data := .fields #[.ref t, .int 0 0] }) (o := { cls := .type "enumerate", data := .fields #[.none, .bool false, .ref s.heap.objs.size, rawInt 0, .none, .none] }) rfl
    rw [hz] at q
    exact q
  exact ⟨⟨_, he, rfl⟩, h _ he ⟨_, Heap.get?_push_of_some _ (Heap.get?_push_size _ rfl), rfl, rfl⟩ fun b o x => Heap.get?_push_of_some _ (Heap.get?_push_of_some _ x)⟩
end PySem
namespace Tw
open PySem PySem.Spec PyProof.Rows L2
/-- the tuple at a, each item in a new pair with its place -/
def Itet (K : PySem.W.Frag) (a : Addr) : It :=
  ⟨fun i H => ∃ (xs : List V) (x : V), SqT K H a xs ∧ xs[i]? = some x, fun i H v H' => ∃ T x, v = .ref T ∧ H T = none ∧ H' = upd H T (.tup [.int (i : Nat), x]) ∧ ∀ xs, SqT K H a xs → xs[i]? = some x, fun i H => ∃ xs : List V, SqT K H a xs ∧ xs.length = i⟩
theorem turn_enumT {P : Program} {w : World} {K : PySem.W.Frag} {elts : List Expr} {kk : Nat} {tpos : Pos} (a e it : Addr) :
    Turn P w K (.Tuple elts kk tpos) (Itet K a) [e, it] e (fun i h => (∃ old, IsEnum h e it ((i : Nat) : Int) old) ∧ h.IsTupleIter it a i ∧ e ≠ it ∧ e ≠ a ∧ a ≠ it) where
  mem := by simp
  obj := fun i h st b hb => by
    obtain ⟨⟨old, he⟩, ⟨o, ho, hc, hd⟩, _⟩ := st
    rcases (show b = e ∨ b = it by simpa using hb) with z | z
    · rw [z]; exact ⟨_, he, fun v q => nomatch q⟩
    · rw [z]; exact ⟨o, ho, fun v q => by rw [hd] at q; cases q⟩
  keep := fun i h h' st k => let ⟨⟨old, he⟩, hi, hne⟩ := st; ⟨⟨old, k e (by simp) _ he⟩, hi.at fun o q => k it (by simp) o q, hne⟩
  item := by
    intro X hP hw hK hc i pins s σ H E I hf st hg
    subst hP hw hK
    obtain ⟨⟨old, he⟩, hit, hne, hea, hai⟩ := st
    obtain ⟨xs, x, hq, hx⟩ := hg
    obtain ⟨its, rv, p, hz⟩ := I.tuple hq
    obtain ⟨u, hu, ru⟩ := rv.get hx
    have hel : e < s.heap.objs.size := Heap.lt_size he
    have hil : it < s.heap.objs.size := by obtain ⟨_, q, _⟩ := hit; exact Heap.lt_size q
    have hT : s.heap.IsTuple a its.toArray := p
    have hi : i < its.toArray.size := by simpa using (List.getElem?_eq_some_iff.mp hu).1
    refine wpAny_pyNext_enum_itemC (c := ((i : Nat) : Int)) (Draws.tuple (A := X.A.in1) (I.ok.hd hc) it a hai its.toArray) he ⟨hit, hT⟩ hi hne (by simp [hne, hea]) fun y h' tk hP ho hs' hTn hsz hk => ?_
    have ey : y = u := by
      have q : its.toArray[i]? = some y := hP
      rw [List.getElem?_toArray, hu] at q
      exact (Option.some.inj q).symm
    subst ey
    refine ⟨_, rfl, wpAny_letOwnedTupleGo_enum (s := { s with heap := h', toks := tk + 1 }) ho fun h'' he' sb => ?_⟩
    have hT2 : h''.get? s.heap.objs.size = some { cls := .type "tuple", data := .seq #[.int i tk, y] } := (sb.2 _ (Nat.ne_of_gt hel)).trans hTn
    have new : ObjOk X.prog X.w (upd H s.heap.objs.size (.tup [.int (i : Nat), x])) h'' s.heap.objs.size (.tup [.int (i : Nat), x]) :=
      ⟨by show 2 ≤ sizeLine; decide, [.int i tk, y], .cons ⟨_, rfl⟩ (.cons ru .nil), ⟨_, hT2, rfl, _, rfl⟩⟩
    have I1 : Inv X pins σ (upd H s.heap.objs.size (.tup [.int (i : Nat), x])) { s with heap := h'', toks := tk + 1 } :=
      I.turnedNew (ch := [e, it]) (fun b ob hb q => (sb.2 b (fun z => hb (by simp [z]))).trans (hk b ob (fun z => hb (by simp [z])) (fun z => hb (by simp [z])) q)) hf (Nat.le_refl _) new
    refine ⟨.ref s.heap.objs.size, _, I1, rfl, ⟨_, x, rfl, I.hok.fresh (Nat.le_refl _), rfl, fun ys hy => by rw [I.tuple_inj hy hq]; exact hx⟩, ⟨⟨y, ?_⟩, hs'.1.at fun o q => (sb.2 it (Ne.symm hne)).trans q, hne, hea, hai⟩, fun b hb => ?_⟩
    · have e1 : ((i + 1 : Nat) : Int) = (i : Int) + 1 := by omega
      rw [e1]
      exact he'
    · have hb' : b < s.heap.objs.size := by
        rcases (show b = e ∨ b = it by simpa using hb) with z | z
        · rw [z]; exact hel
        · rw [z]; exact hil
      rw [upd_ne (Nat.ne_of_lt hb')]
      exact (hf b hb).1
  done := by
    intro X hP hw hK hc i pins s σ H E I hf st hg
    subst hP hw hK
    obtain ⟨⟨old, he⟩, hit, hne, hea, hai⟩ := st
    obtain ⟨xs, hq, hx⟩ := hg
    obtain ⟨its, rv, p, hz⟩ := I.tuple hq
    obtain ⟨f0, f1, f2, f3, f4, f5⟩ := hf it (by simp)
    have hl := rv.length
    have hT : s.heap.IsTuple a its.toArray := p
    have hs : its.toArray.size = i := by rw [List.size_toArray, ← hl]; exact hx
    subst hs
    exact wpAny_pyNext_enum_endD (Draws.tuple (A := X.A.in1) (I.ok.hd hc) it a hai its.toArray) he ⟨hit, hT⟩ fun h' eb => ⟨rfl, I.turned (t' := s.toks) (fun b o hb q => eb b o hb q) f0 f1 f3 f4 f5⟩
  self := fun A i s Q E st h => let ⟨⟨_, he⟩, _⟩ := st; wpAny_pyIter_enum he h
def iEnumT (K : PySem.W.Frag) (ta : TA) : TI := fun σ H R => ta σ H fun vs H1 => ∃ a xs, vs = [.ref a] ∧ SqT K H1 a xs ∧ R (Itet K a) H1
theorem pi_enumT {X : Cx} {e : Expr} {ta : TA} {p pos tpos : Pos} {elts : List Expr} {kk : Nat} (hg : Gl X "enumerate") (hm : X.mg "enumerate" = none) (ha : PA X [e] ta) (hs : starEach [e] X.env = [(false, eval e X.env)] := by rfl) :
    PI X (.Tuple elts kk tpos) (.Call (.Name "enumerate" p) [e] [] pos) (iEnumT X.K ta) := by
  refine ⟨fun pins s σ H R I h => ?_⟩
  refine Call_ (ld_blt I hg hm boot_enumerate (PyProof.Rows.callWith_type1 (thn (ha.run pos pins s σ H _ I h) fun us s1 ⟨vs, H1, I1, r1, q1⟩ => ?_) hs rfl))
  obtain ⟨a, xs, ex, hq, q⟩ := q1
  subst ex
  cases r1 with
  | cons r rr =>
    cases rr
    cases r
    obtain ⟨its, rv, p', hz⟩ := I1.tuple hq
    have ha' : a < s1.heap.objs.size := p'.lt
    refine tw_enum_tuple (items := its.toArray) p' fun h' he hit hk => wpAny_pyIter_enum he ?_
    have I2 : Inv X pins σ H1 { s1 with heap := h' } := I1.kept (t' := s1.toks) hk
    refine ⟨s1.heap.objs.size + 1, [s1.heap.objs.size + 1, s1.heap.objs.size], _, _, H1, rfl, I2, turn_enumT a (s1.heap.objs.size + 1) s1.heap.objs.size,
      ⟨⟨.none, he⟩, hit, Nat.succ_ne_self _, Nat.ne_of_gt (Nat.lt_succ_of_lt ha'), Nat.ne_of_lt ha'⟩, fun b hb => ?_, q⟩
    have hle : s1.heap.objs.size ≤ b := by
      rcases (show b = s1.heap.objs.size + 1 ∨ b = s1.heap.objs.size by simpa using hb) with z | z
      · rw [z]; exact Nat.le_add_right _ _
      · rw [z]; exact Nat.le_refl _
    exact I1.fpOk hle (I1.hok.fresh hle)
theorem walk_enumT {K : PySem.W.Frag} {a : Addr} {xs : List V} : Walk (Itet K a) xs.length (fun H => H a = some (.tup xs)) (YPair (fun i => some (.int (i : Nat))) (fun i => xs[i]?)) where
  goes := fun i H hi h => ⟨xs, xs[i], SqT.of h, List.getElem?_eq_getElem hi⟩
  stops := fun H h => ⟨xs, SqT.of h, rfl⟩
  yields := fun i H x H' hi h ⟨T, y, e1, e2, e3, e4⟩ => ⟨T, .int (i : Nat), y, e1, e2, e3, rfl, e4 xs (SqT.of h)⟩
end Tw
end

section
set_option maxHeartbeats 4000000
/-! TwMath: what is right of slots, which letters are true of them, and what follows. Plain Lean. -/
namespace Tw
open PySem L2
/-- versions of a slot of the meter -/
structure VersOk (m : Meter) (vs : List (Option Int)) : Prop where
  ne : 0 < vs.length
  first : vs[0]? ≠ some none
  rng : ∀ x, some x ∈ vs → m.lo ≤ x ∧ x ≤ m.hi
structure SlotsOk (m : Meter) (ss : List Slot) : Prop where
  vers : ∀ s ∈ ss, VersOk m s.2
  sorted : ss.Pairwise fun a b => a.1 ≤ b.1
/-- true of a log with this offset and these slots -/
def TrueL (off : Int) (ss : List Slot) : Letter → Prop
  | .read _ s v st x => 1 ≤ s ∧ ∃ t, ss[s - 1]? = some t ∧ t.1 = st ∧ t.2[v]? = some x
  | .close _ n st vs => n ≤ ss.length ∧ (∀ (i : Nat) t, ss[i]? = some t → (t.1 < st ↔ i < n)) ∧ ((ss.take n).map (·.2.length)).sum = vs
  | .clock _ lo hi => lo ≤ off ∧ off ≤ hi
theorem SlotsOk.le {m : Meter} {ss : List Slot} (h : SlotsOk m ss) {i j : Nat} {s t : Slot} (hij : i ≤ j) (hi : ss[i]? = some s) (hj : ss[j]? = some t) : s.1 ≤ t.1 := by
  rcases Nat.eq_or_lt_of_le hij with e | e
  · subst e; rw [hi] at hj; cases hj; exact Int.le_refl _
  · obtain ⟨h1, e1⟩ := List.getElem?_eq_some_iff.mp hi
    obtain ⟨h2, e2⟩ := List.getElem?_eq_some_iff.mp hj
    have := List.pairwise_iff_getElem.mp h.sorted i j h1 h2 e
    rw [e1, e2] at this
    exact this
/-- a log -/
structure Log where
  m : Meter
  off : Int
  ss : List Slot
/-- a log of its meter -/
structure LogOk (l : Log) : Prop where
  slots : SlotsOk l.m l.ss
  off : -l.m.err ≤ l.off ∧ l.off ≤ l.m.err
end Tw
end

section
set_option maxHeartbeats 4000000
namespace Tw
open PySem PySem.Spec PyProof.Rows L2
/-! the machine of the readings: "tw" goes on through what has one answer; it stops at a branch, a loop, a new object, what comes behind a call -/
local macro_rules | `(tactic| walk_at "tw look") => `(tactic| first
  | assumption
  | exact upd_same
  | (refine Same.new (by assumption) _ _ ?_; walk_at "tw look")
  | (refine upd_oth (by assumption) ?_; walk_at "tw look")
  | (refine upd_dif (by assumption) (by intro z; cases z) ?_; walk_at "tw look")
  | (refine upd_dif upd_same (by intro z; cases z) ?_; walk_at "tw look"))
local macro_rules | `(tactic| walk_at "tw seq") => `(tactic| first
  | assumption
  | exact SqL.of (by walk_at "tw look")
  | exact SqT.of (by walk_at "tw look")
  | exact .inl (SqL.of (by walk_at "tw look"))
  | exact .inr (SqT.of (by walk_at "tw look"))
  | exact .inl (by assumption)
  | exact dget_of (by walk_at "tw look") (by assumption)
  | exact DGet.k (k := Sum.inl _) (by walk_at "tw look")
  | exact DPut.k (k := Sum.inl _) (by walk_at "tw look") (by assumption)
  | exact .inl ⟨_, .inl (by walk_at "tw look")⟩
  | exact .inr ⟨_, .inl (by walk_at "tw look")⟩
  | exact ⟨_, SqL.of (by walk_at "tw look")⟩
  | exact ⟨_, SqT.of (by walk_at "tw look")⟩
  | exact ⟨_, by assumption⟩
  | exact .inl ⟨rfl, _, SqL.of (by walk_at "tw look")⟩)
local macro_rules | `(tactic| walk_at "tw atom") => `(tactic| first
  | with_reducible rfl
  | assumption
  | rfl
  | walk_at "tw look"
  | walk_at "tw seq"
  | omega
  | exact small (by simp; done)
  | exact smallt (by simp; done)
  | exact cdiv_of rfl
  | exact fun _ h => h
  | exact Int.natCast_pos.mpr (Nat.zero_lt_succ _)
  | exact cmul_r rfl
  | exact cmul_l rfl
  | exact Nat.le_of_ble_eq_true rfl)
local macro_rules | `(tactic| walk_at "tw step") => `(tactic| first | (with_reducible refine iteT ?_) | (with_reducible refine iteF ?_) | (with_reducible refine itf nott ?_) | (with_reducible refine itt notf ?_) | ((fail_if_success (refine ite2 (fun _ => ?_) (fun _ => ?_))); first
  | ((fail_if_success (refine (?_ : ∃ W : Nat → Nat → L2.St → Hp → Prop, _))); (fail_if_success (refine (?_ : ∃ W : Nat → Nat → Hp → Prop, _))); apply Exists.intro)
  | (apply And.intro; (walk_at "tw atom"))))
local macro_rules | `(tactic| walk_at "tw") => `(tactic| repeat walk_at "tw step")

section
variable {P : Program} {w : World} {K : PySem.W.Frag} {mg : Str → Option Value} {base : Heap}
theorem ov_non {x : Option Int} : decide (ov x = V.non) = x.isNone := by cases x <;> simp [ov]
theorem map_get {α : Type} {f : α → V} {l : List α} {i : Nat} {x : α} (h : l[i]? = some x) : (l.map f)[i]? = some (f x) := by rw [List.getElem?_map, h]; rfl
theorem all_rep (n : Nat) : (List.replicate n true).all id = true := by induction n with
  | zero => rfl
  | succ n ih => rw [List.replicate_succ, List.all_cons, ih]; rfl
def spVersionsRight : Sp := fun vs H Q _ => ∃ (mv : V) (m : Meter) (b : Addr) (us : List (Option Int)), vs = [mv, .ref b] ∧ IsMeter H mv m ∧ H b = some (.tup (us.map ov)) ∧ VersOk m us ∧ us.length ≤ 1000 ∧
  ∀ H', Same H H' → Q (.bl true) H'
theorem C_versions_right (T : Tx K mg) : Callee P w K mg base CX0 "versions_right" P_versions_right 1 spVersionsRight := by
  refine mk_versions_right T (k := 0) (fun vs H Q E h => ?_) (fun f cdv A outer s H vs Q E hr h => ?_)
  · obtain ⟨mv, m, b, us, rfl, _⟩ := h
    rfl
  · obtain ⟨mv, m, b, us, rfl, ⟨a, rfl, ha⟩, hb, hv, hl, k⟩ := h
    have hne := hv.ne
    obtain ⟨u, hu⟩ : ∃ u, us[0]? = some u := ⟨us[0], List.getElem?_eq_getElem hne⟩
    have hu0 : u ≠ none := fun e => hv.first (by rw [hu, e])
    refine ⟨_, ((pss_cons (ps_if (PW.pt (pw_or (pt_cmpR op_eq (pe_callB (clen (K := K)) (by rfl) T.f_len PySem.boot_len (pa_cons (pv 1) pa_nil)) pe_int (nomark _)) (pw_or1 (pt_cmpR op_isN (pe_ix (ixT (K := K)) (pv 1) pe_int (fun _ _ => rfl)) pe_non (nomark _)))))
    (pss_one (ps_ret pe_bl))
    pss_nil)
    (pss_one (ps_ret (pe_callB (call_ (K := K) rfl) (by rfl) T.f_all PyProof.Rows.boot_all (pa_cons (pe_lc (own := [("value", 2)]) (g := gName 2) (tt := tYes) rfl sc_versions_right.nd (pi_tup (pv 1)) (blkOk_by (N := N_versions_right) (sc := defScope s_versions_right) (by decide +kernel)) (fun _ _ _ _ _ => (pg_name (i := 2) sc_versions_right.nd rfl (by first | exact Or.inl rfl | exact Or.inr rfl))) (fun _ _ _ _ _ => pts_nil) (fun _ _ _ _ _ => (pe_or (pe_cmpR op_isN (pv 2) pe_non (nomark _)) (pe_one (pe_chain op_le op_le (pe_ix (ixT (K := K)) (pv 0) pe_int (fun _ _ => rfl)) (pv 2) (pe_ix (ixT (K := K)) (pv 0) pe_int (fun _ _ => rfl))))))) pa_nil)))))), ?_⟩
    walk_at "tw"
    refine itf (int_ne (by rw [List.length_map]; omega)) ?_
    walk_at "tw"
    refine ⟨atI_nat (j := 0) (map_get hu), ?_⟩
    walk_at "tw"
    refine itf (by rw [ov_non]; cases u <;> simp_all) ?_
    walk_at "tw"
    intro D nD
    refine lc_tup (K := K) (a := b) (xs := us.map ov) (fun i H' => i ≤ us.length ∧ Same H H' ∧ H' D = some (.lst ((List.replicate i true).map V.bl)))
      ⟨Nat.zero_le _, Same.new nD, upd_same⟩ (fun i H' _ z => SqT.of (z.2.1 _ _ hb)) ?_ ?_
    · rintro i x H' hx ⟨hi, e, hD⟩
      have hi : i < us.length := by simpa using (List.getElem?_eq_some_iff.mp hx).1
      obtain ⟨y, hy⟩ : ∃ y, us[i]? = some y := ⟨us[i], List.getElem?_eq_getElem hi⟩
      rw [map_get hy] at hx
      obtain rfl : ov y = x := Option.some.inj hx
      have ha' := e _ _ ha
      have hz : ((List.replicate i true).map V.bl).length < sizeLine := smallt (by rw [List.length_map, List.length_replicate]; omega)
      have fin : Same H (upd H' D (HO.lst ((List.replicate i true).map V.bl ++ [V.bl true]))) ∧ (upd H' D (HO.lst ((List.replicate i true).map V.bl ++ [V.bl true]))) D = some (.lst ((List.replicate (i + 1) true).map V.bl)) :=
        ⟨e.mut nD, by rw [upd_same, List.replicate_succ', List.map_append]; rfl⟩
      walk_at "tw"
      cases y with
      | none =>
        refine itt (by simp [ov]) ?_
        walk_at "tw"
        exact fin
      | some z =>
        obtain ⟨h1, h2⟩ := hv.rng z (List.mem_of_getElem? hy)
        refine itf (by simp [ov]) ?_
        walk_at "tw"
        refine itt (decide_eq_true h1) ?_
        walk_at "tw"
        simp only [decide_eq_true h2]
        exact fin
    · rintro H' ⟨_, e, hD⟩
      walk_at "tw"
      rw [all_rep]
      exact k _ e
/-- the slots of a log: a tuple of them -/
def IsSlots (H : Hp) (v : V) (ss : List Slot) : Prop := ∃ b vs, v = .ref b ∧ H b = some (.tup vs) ∧ All2 (IsSlot H) vs ss
theorem IsSlots.mono {H H' : Hp} {v : V} {ss : List Slot} (h : IsSlots H v ss) (e : TKeep H H') : IsSlots H' v ss := by
  obtain ⟨b, vs, h1, h2, h3⟩ := h
  exact ⟨b, vs, h1, e _ _ h2, h3.mono fun _ _ z => z.mono e⟩
def spSlotsRight : Sp := fun vs H Q _ => ∃ (mv : V) (m : Meter) (b : V) (ss : List Slot), vs = [mv, b] ∧ IsMeter H mv m ∧ IsSlots H b ss ∧ SlotsOk m ss ∧ ss.length ≤ 1000 ∧ (∀ s ∈ ss, s.2.length ≤ 1000) ∧
  ∀ H', Same H H' → Q (.bl true) H'
theorem C_slots_right (T : Tx K mg) : Callee P w K mg base CX0 "slots_right" P_slots_right 2 spSlotsRight := by
  refine mk_slots_right T (k := 1) (fun vs H Q E h => ?_) (fun f cdv A outer s H vs Q E hr h => ?_)
  · obtain ⟨mv, m, b, ss, rfl, _⟩ := h
    rfl
  · obtain ⟨mv, m, bv, ss, rfl, hm, ⟨b, ws, rfl, hb, hw⟩, hs, hl, hl2, k⟩ := h
    have hlen := hw.1
    refine ⟨_, ((pss_cons (ps_for PassesOwn.never rfl (pi_enumT (by rfl) T.f_enumerate (pa_cons (pv 1) pa_nil)) (pg_tup rfl (pgs_cons (pg_name (i := 2) sc_slots_right.nd rfl (by first | exact Or.inl rfl | exact Or.inr rfl)) (pgs_cons (pg_name (i := 3) sc_slots_right.nd rfl (by first | exact Or.inl rfl | exact Or.inr rfl)) pgs_nil)))
    (pss_cons (ps_if (pt_not (pt_val (pe_cl (C_versions_right T) (hr.mono (by decide)) pass0 (pa_cons (pv 0) (pa_cons (pe_ix (ixT (K := K)) (pv 3) pe_int (fun _ _ => rfl)) pa_nil)))))
    (pss_one (ps_ret pe_bl))
    pss_nil)
    (pss_one (ps_if (PW.pt (pw_and (pt_cmpR op_gt (pv 2) pe_int (nomark _)) (pw_and1 (pt_cmpR op_lt (pe_ix (ixT (K := K)) (pv 3) pe_int (fun _ _ => rfl)) (pe_ix (ixT (K := K)) (pe_ix (ixT (K := K)) (pv 1) (pe_op op_sub (pv 2) pe_int) (fun _ _ => rfl)) pe_int (fun _ _ => rfl)) (nomark _)))))
    (pss_one (ps_ret pe_bl))
    pss_nil))))
    (pss_one (ps_ret pe_bl)))), ?_⟩
    walk_at "tw"
    refine for_it (walk_enumT (K := K) (a := b) (xs := ws)) (fun i σ H' => (∃ x y, σ = [some mv, some (.ref b), x, y]) ∧ i ≤ ss.length ∧ Same H H') ⟨⟨none, none, rfl⟩, Nat.zero_le _, Same.refl H⟩ (fun i σ H' _ z => z.2.2 _ _ hb) ?_ ?_
    · rintro i x σ H' H2 hi ⟨⟨x1, y1, rfl⟩, hi2, e⟩ ⟨t, x3, y3, rfl, nt, rfl, e3, e4⟩
      obtain rfl : V.int (i : Nat) = x3 := Option.some.inj e3
      obtain ⟨sl, hsl, ⟨p, q, rfl, hp, hq⟩⟩ := hw.get e4
      have hp' := e _ _ hp
      have hq' := e _ _ hq
      have hb' := e _ _ hb
      have hq'2 : (upd H' t (.tup [.int (i : Nat), .ref p])) q = _ := Same.new nt _ _ hq'
      have hm' := (hm.mono e.tk).mono (Same.new (o := .tup [.int (i : Nat), .ref p]) nt).tk
      have hv1 := hs.vers _ (List.mem_of_getElem? hsl)
      have hv2 := hl2 _ (List.mem_of_getElem? hsl)
      walk_at "tw"
      intro H3 e3
      have e13 : Same H H3 := (e.up nt).trans e3
      have hp3 := e13 _ _ hp
      have hb3 := e13 _ _ hb
      walk_at "tw"
      refine ite3 (fun h => ?_) (fun h => ?_)
      · have hi1 : 0 < i := by have := of_decide_eq_true h; omega
        obtain ⟨sp, hsp⟩ : ∃ sp, ss[i - 1]? = some sp := ⟨ss[i - 1]'(by omega), List.getElem?_eq_getElem _⟩
        obtain ⟨vp, hvp, ⟨p1, q1, rfl, hp1, hq1⟩⟩ := hw.get' hsp
        have hp13 := e13 _ _ hp1
        walk_at "tw"
        refine ⟨at_of (j := i - 1) (by omega) hvp, ?_⟩
        walk_at "tw"
        have hle := hs.le (by omega) hsp hsl
        refine itf (decide_eq_false (by omega)) ?_
        exact ⟨⟨_, _, rfl⟩, by omega, e13⟩
      · walk_at "tw"
        exact ⟨⟨_, _, rfl⟩, by omega, e13⟩
    · rintro σ H' ⟨⟨x, y, rfl⟩, _, e⟩
      exact k _ e
end
end Tw
end

section
set_option maxHeartbeats 4000000
/-! TwDp: letters, rows of flat values and lists of them as data that == and in compare. -/
namespace Tw
open PySem L2
/-- a value that is None, a number or a text -/
def flatN : V → Bool
  | .non => true
  | .int _ => true
  | .str x => PyData.strOk x
  | _ => false
def fdat : V → PyData
  | .int i => .int i
  | .str x => .str x
  | _ => .none
theorem dp_flat {K : PySem.W.Frag} {H : Hp} : ∀ {v : V}, flatN v = true → Dp K H v (fdat v)
  | .non, _ => .non
  | .int i, _ => .int i
  | .str x, _ => .str x
theorem dpAll_flat {K : PySem.W.Frag} {H : Hp} : ∀ {vs : List V}, vs.all flatN = true → DpAll K H vs (vs.map fdat)
  | [], _ => .nil
  | v :: vs, h => by
    rw [List.all_cons, Bool.and_eq_true] at h
    exact .cons (dp_flat h.1) (dpAll_flat h.2)
def rowD (vs : List V) : PyData := .tuple (vs.map fdat)
theorem fdat_lay {v : V} (h : flatN v = true) : (fdat v).canLay0 = true := by cases v <;> first | (simp [fdat, PyData.canLay0]; done) | exact h | cases h
theorem fdat_depth (v : V) : (fdat v).depth = 0 := by cases v <;> simp [fdat, PyData.depth]
theorem fdats_lay : ∀ {vs : List V}, vs.all flatN = true → PyData.canLayAll0 (vs.map fdat) = true
  | [], _ => by simp [PyData.canLayAll0]
  | v :: vs, h => by
    rw [List.all_cons, Bool.and_eq_true] at h
    rw [List.map_cons]
    simp only [PyData.canLayAll0]
    rw [fdat_lay h.1, fdats_lay h.2]
    rfl
theorem fdats_depth : ∀ vs : List V, PyData.depthAll (vs.map fdat) = 0
  | [] => by simp [PyData.depthAll]
  | v :: vs => by simp [PyData.depthAll, fdat_depth v, fdats_depth vs]
theorem rowD_lay {vs : List V} (h : vs.all flatN = true) : (rowD vs).canLay0 = true := by simp only [rowD, PyData.canLay0]; exact fdats_lay h
theorem rowD_depth (vs : List V) : (rowD vs).depth ≤ 1 := by simp [rowD, PyData.depth, fdats_depth]
theorem rowsD_lay : ∀ {ls : List (List V)}, (∀ l ∈ ls, l.all flatN = true) → PyData.canLayAll0 (ls.map rowD) = true
  | [], _ => by simp [PyData.canLayAll0]
  | v :: vs, h => by
    rw [List.map_cons]
    simp only [PyData.canLayAll0]
    rw [rowD_lay (h v List.mem_cons_self), rowsD_lay fun l hl => h l (List.mem_cons_of_mem _ hl)]
    rfl
theorem rowsD_depth : ∀ ls : List (List V), PyData.depthAll (ls.map rowD) ≤ 1
  | [] => by simp [PyData.depthAll]
  | v :: vs => by
    have h1 := rowD_depth v
    have h2 := rowsD_depth vs
    simp only [List.map_cons, PyData.depthAll]
    omega
theorem shaped_of {d : PyData} (h1 : d.canLay0 = true) (h2 : d.depth ≤ 64) : SeqAt.shaped d = true := by
  show (d.canLay0 && decide (d.depth ≤ 64)) = true
  rw [Bool.and_eq_true]
  exact ⟨h1, decide_eq_true h2⟩
theorem row_shaped {vs : List V} (h : vs.all flatN = true) : SeqAt.shaped (rowD vs) = true := shaped_of (rowD_lay h) (by have := rowD_depth vs; omega)
theorem flats_shaped {vs : List V} (h : vs.all flatN = true) : SeqAt.shaped (.list (vs.map fdat)) = true := shaped_of (by simp only [PyData.canLay0]; exact fdats_lay h) (by simp only [PyData.depth]; rw [fdats_depth]; omega)
theorem rows_shaped {ls : List (List V)} (h : ∀ l ∈ ls, l.all flatN = true) : SeqAt.shaped (.list (ls.map rowD)) = true := shaped_of (by simp only [PyData.canLay0]; exact rowsD_lay h) (by simp only [PyData.depth]; have := rowsD_depth ls; omega)
theorem fdat_eqv {x y : V} (hx : flatN x = true) (hy : flatN y = true) : PyData.eqv (fdat x) (fdat y) = decide (x = y) := by
  cases x <;> cases y <;> first | cases hx; done | cases hy; done | (simp [fdat, PyData.eqv]; done) | (simp only [fdat, PyData.eqv]; rename_i a b; by_cases h : a = b <;> simp [h])
theorem fdats_eqv : ∀ {xs ys : List V}, xs.all flatN = true → ys.all flatN = true → PyData.eqvAll (xs.map fdat) (ys.map fdat) = decide (xs = ys)
  | [], [], _, _ => by simp [PyData.eqvAll]
  | [], y :: ys, _, _ => by simp [PyData.eqvAll]
  | x :: xs, [], _, _ => by simp [PyData.eqvAll]
  | x :: xs, y :: ys, hx, hy => by
    rw [List.all_cons, Bool.and_eq_true] at hx hy
    rw [List.map_cons, List.map_cons]
    simp only [PyData.eqvAll]
    rw [fdat_eqv hx.1 hy.1, fdats_eqv hx.2 hy.2]
    by_cases h1 : x = y <;> by_cases h2 : xs = ys <;> simp [h1, h2]
theorem row_eqv {xs ys : List V} (hx : xs.all flatN = true) (hy : ys.all flatN = true) : PyData.eqv (rowD xs) (rowD ys) = decide (xs = ys) := by
  simp only [rowD, PyData.eqv]
  exact fdats_eqv hx hy
theorem flats_eqv {xs ys : List V} (hx : xs.all flatN = true) (hy : ys.all flatN = true) : PyData.eqv (.list (xs.map fdat)) (.list (ys.map fdat)) = decide (xs = ys) := by
  simp only [PyData.eqv]
  exact fdats_eqv hx hy
theorem rows_eqvAll : ∀ {xs ys : List (List V)}, (∀ x ∈ xs, x.all flatN = true) → (∀ y ∈ ys, y.all flatN = true) → PyData.eqvAll (xs.map rowD) (ys.map rowD) = decide (xs = ys)
  | [], [], _, _ => by simp [PyData.eqvAll]
  | [], y :: ys, _, _ => by simp [PyData.eqvAll]
  | x :: xs, [], _, _ => by simp [PyData.eqvAll]
  | x :: xs, y :: ys, hx, hy => by
    rw [List.map_cons, List.map_cons]
    simp only [PyData.eqvAll]
    rw [row_eqv (hx x List.mem_cons_self) (hy y List.mem_cons_self), rows_eqvAll (fun z hz => hx z (List.mem_cons_of_mem _ hz)) fun z hz => hy z (List.mem_cons_of_mem _ hz)]
    by_cases h1 : x = y <;> by_cases h2 : xs = ys <;> simp [h1, h2]
theorem rows_eqv {xs ys : List (List V)} (hx : ∀ x ∈ xs, x.all flatN = true) (hy : ∀ y ∈ ys, y.all flatN = true) : PyData.eqv (.list (xs.map rowD)) (.list (ys.map rowD)) = decide (xs = ys) := by
  simp only [PyData.eqv]
  exact rows_eqvAll hx hy
/-! ### letters -/
theorem ov_flat (x : Option Int) : flatN (ov x) = true := by cases x <;> rfl
theorem ov_inj {x y : Option Int} (h : ov x = ov y) : x = y := by
  cases x <;> cases y <;> simp_all [ov]
theorem items_flat {l : Letter} (h : PyData.strOk l.nm = true) : l.items.all flatN = true := by
  cases l with
  | read n s v t x =>
    show (PyData.strOk ("read" : Str) && (PyData.strOk n && (true && (true && (true && (flatN (ov x) && true)))))) = true
    rw [ov_flat, show PyData.strOk n = true from h]
    decide +kernel
  | close n k t v =>
    show (PyData.strOk ("close" : Str) && (PyData.strOk n && (true && (true && (true && true))))) = true
    rw [show PyData.strOk n = true from h]
    decide +kernel
  | clock n a b =>
    show (PyData.strOk ("clock" : Str) && (PyData.strOk n && (true && (true && true)))) = true
    rw [show PyData.strOk n = true from h]
    decide +kernel
theorem rc_ne : ¬ (("read" : Str) = "close") := by decide +kernel
theorem rk_ne : ¬ (("read" : Str) = "clock") := by decide +kernel
theorem ck_ne : ¬ (("close" : Str) = "clock") := by decide +kernel
theorem items_inj {l m : Letter} (h : l.items = m.items) : l = m := by
  cases l with
  | read n s v t x => cases m with
    | read n' s' v' t' x' =>
      simp only [Letter.items, List.cons.injEq, V.str.injEq, V.int.injEq, Int.ofNat_inj, Int.natCast_inj, and_true, true_and] at h
      obtain ⟨h1, h2, h3, h4, h5⟩ := h
      have h5 := ov_inj h5
      subst h1 h2 h3 h4 h5
      rfl
    | close n' k' t' v' => simp [Letter.items] at h
    | clock n' a' b' => simp [Letter.items] at h
  | close n k t v => cases m with
    | read n' s' v' t' x' => simp [Letter.items] at h
    | close n' k' t' v' =>
      simp only [Letter.items, List.cons.injEq, V.str.injEq, V.int.injEq, Int.ofNat_inj, Int.natCast_inj, and_true, true_and] at h
      obtain ⟨h1, h2, h3, h4⟩ := h
      subst h1 h2 h3 h4
      rfl
    | clock n' a' b' => simp [Letter.items] at h
  | clock n a b => cases m with
    | read n' s' v' t' x' => simp [Letter.items] at h
    | close n' k' t' v' => simp [Letter.items] at h
    | clock n' a' b' =>
      simp only [Letter.items, List.cons.injEq, V.str.injEq, V.int.injEq, and_true, true_and] at h
      obtain ⟨h1, h2, h3⟩ := h
      subst h1 h2 h3
      rfl
def Letter.kind : Letter → Str
  | .read .. => "read"
  | .close .. => "close"
  | .clock .. => "clock"
theorem items_0 (L : Letter) : atI L.items 0 = some (.str L.kind) := by cases L <;> rfl
/-- a letter that can be compared -/
abbrev LOk (l : Letter) : Prop := PyData.strOk l.nm = true
theorem dp_letter {K : PySem.W.Frag} {H : Hp} {v : V} {l : Letter} (h : IsLetter H v l) (o : LOk l) : Dp K H v (rowD l.items) := by
  obtain ⟨a, rfl, ha⟩ := h
  exact .tup (SqT.of ha) (dpAll_flat (items_flat o))
theorem dpAll_letters {K : PySem.W.Frag} {H : Hp} : ∀ {vs : List V} {ls : List Letter}, All2 (IsLetter H) vs ls → (∀ l ∈ ls, LOk l) → DpAll K H vs ((ls.map Letter.items).map rowD)
  | [], [], _, _ => .nil
  | [], _ :: _, h, _ => by have := h.1; simp at this
  | _ :: _, [], h, _ => by have := h.1; simp at this
  | v :: vs, l :: ls, h, o => by
    refine .cons (dp_letter (h.2 0 v l rfl rfl) (o l List.mem_cons_self)) (dpAll_letters ⟨by have := h.1; simpa using this, fun i u s h1 h2 => h.2 (i + 1) u s h1 h2⟩ fun m hm => o m (List.mem_cons_of_mem _ hm))
theorem letter_eqv {l m : Letter} (hl : LOk l) (hm : LOk m) : PyData.eqv (rowD l.items) (rowD m.items) = decide (l = m) := by
  rw [row_eqv (items_flat hl) (items_flat hm)]
  by_cases e : l = m
  · subst e; simp
  · have : ¬ l.items = m.items := fun q => e (items_inj q)
    simp [e, this]
theorem any_letters {l : Letter} (hl : LOk l) : ∀ {ls : List Letter}, (∀ l ∈ ls, LOk l) → (((ls.map Letter.items).map rowD).any fun z => PyData.eqv z (rowD l.items)) = decide (l ∈ ls)
  | [], _ => by simp
  | m :: ls, o => by
    rw [List.map_cons, List.map_cons, List.any_cons, any_letters hl fun z hz => o z (List.mem_cons_of_mem _ hz), letter_eqv (o m List.mem_cons_self) hl]
    by_cases e : m = l
    · subst e; simp
    · have e' : ¬ l = m := fun q => e q.symm
      simp [e, e']
theorem rows_letters {ls : List Letter} (o : ∀ l ∈ ls, LOk l) : ∀ x ∈ ls.map Letter.items, x.all flatN = true := by
  intro x hx
  obtain ⟨l, hl, rfl⟩ := List.mem_map.mp hx
  exact items_flat (o l hl)
end Tw
end

section
set_option maxHeartbeats 4000000
namespace Tw
open PySem PySem.Spec PyProof.Rows L2
/-! the machine of the readings: "tw" goes on through what has one answer; it stops at a branch, a loop, a new object, what comes behind a call -/
local macro_rules | `(tactic| walk_at "tw look") => `(tactic| first
  | assumption
  | exact upd_same
  | (refine Same.new (by assumption) _ _ ?_; walk_at "tw look")
  | (refine upd_oth (by assumption) ?_; walk_at "tw look")
  | (refine upd_dif (by assumption) (by intro z; cases z) ?_; walk_at "tw look")
  | (refine upd_dif upd_same (by intro z; cases z) ?_; walk_at "tw look"))
local macro_rules | `(tactic| walk_at "tw seq") => `(tactic| first
  | assumption
  | exact SqL.of (by walk_at "tw look")
  | exact SqT.of (by walk_at "tw look")
  | exact .inl (SqL.of (by walk_at "tw look"))
  | exact .inr (SqT.of (by walk_at "tw look"))
  | exact .inl (by assumption)
  | exact dget_of (by walk_at "tw look") (by assumption)
  | exact DGet.k (k := Sum.inl _) (by walk_at "tw look")
  | exact DPut.k (k := Sum.inl _) (by walk_at "tw look") (by assumption)
  | exact .inl ⟨_, .inl (by walk_at "tw look")⟩
  | exact .inr ⟨_, .inl (by walk_at "tw look")⟩
  | exact ⟨_, SqL.of (by walk_at "tw look")⟩
  | exact ⟨_, SqT.of (by walk_at "tw look")⟩
  | exact ⟨_, by assumption⟩
  | exact .inl ⟨rfl, _, SqL.of (by walk_at "tw look")⟩)
local macro_rules | `(tactic| walk_at "tw atom") => `(tactic| first
  | with_reducible rfl
  | assumption
  | rfl
  | walk_at "tw look"
  | walk_at "tw seq"
  | omega
  | exact small (by simp; done)
  | exact smallt (by simp; done)
  | exact cdiv_of rfl
  | exact fun _ h => h
  | exact Int.natCast_pos.mpr (Nat.zero_lt_succ _)
  | exact cmul_r rfl
  | exact cmul_l rfl
  | exact Nat.le_of_ble_eq_true rfl)
local macro_rules | `(tactic| walk_at "tw step") => `(tactic| first | (with_reducible refine iteT ?_) | (with_reducible refine iteF ?_) | (with_reducible refine itf nott ?_) | (with_reducible refine itt notf ?_) | ((fail_if_success (refine ite2 (fun _ => ?_) (fun _ => ?_))); first
  | ((fail_if_success (refine (?_ : ∃ W : Nat → Nat → L2.St → Hp → Prop, _))); (fail_if_success (refine (?_ : ∃ W : Nat → Nat → Hp → Prop, _))); apply Exists.intro)
  | (apply And.intro; (walk_at "tw atom"))))
local macro_rules | `(tactic| walk_at "tw") => `(tactic| repeat walk_at "tw step")

section
variable {P : Program} {w : World} {K : PySem.W.Frag} {mg : Str → Option Value} {base : Heap}
def IsLog (H : Hp) (v : V) (l : Log) : Prop := ∃ a sv, v = .ref a ∧ H a = some (.tup [.str l.m.name, .int l.off, sv]) ∧ IsSlots H sv l.ss
theorem IsLog.mono {H H' : Hp} {v : V} {l : Log} (h : IsLog H v l) (e : TKeep H H') : IsLog H' v l := by
  obtain ⟨a, sv, h1, h2, h3⟩ := h
  exact ⟨a, sv, h1, e _ _ h2, h3.mono e⟩
def IsHist (H : Hp) (v : V) (ls : List Log) : Prop := ∃ b vs, v = .ref b ∧ H b = some (.tup vs) ∧ All2 (IsLog H) vs ls
theorem IsHist.mono {H H' : Hp} {v : V} {ls : List Log} (h : IsHist H v ls) (e : TKeep H H') : IsHist H' v ls := by
  obtain ⟨b, vs, h1, h2, h3⟩ := h
  exact ⟨b, vs, h1, e _ _ h2, h3.mono fun _ _ z => z.mono e⟩
/-- few slots, few versions -/
def Small (l : Log) : Prop := l.ss.length ≤ 1000 ∧ ∀ s ∈ l.ss, s.2.length ≤ 1000
/-- a plan's meters: few, of names that differ and can be compared -/
structure MsOk (ms : List Meter) : Prop where
  nd : (ms.map (·.name)).Nodup
  few : ms.length ≤ 1000
  str : ∀ m ∈ ms, PyData.strOk m.name = true
def spIsHistory : Sp := fun vs H Q _ => ∃ (p h : V) (len : Int) (ms : List Meter) (ls : List Log), vs = [p, h] ∧ IsPlan H p len ms ∧ IsHist H h ls ∧ MsOk ms ∧ ls.map (·.m) = ms ∧ (∀ l ∈ ls, LogOk l) ∧ (∀ l ∈ ls, Small l) ∧
  ∀ H', Same H H' → Q (.bl true) H'
theorem abs_le {a b : Int} (h : -b ≤ a ∧ a ≤ b) : ¬ b < (if a < 0 then -a else a) := by split <;> omega
theorem C_is_history (T : Tx K mg) : Callee P w K mg base CX0 "is_history" P_is_history 3 spIsHistory := by
  refine mk_is_history T (k := 2) (fun vs H Q E h => ?_) (fun f cdv A outer s H vs Q E hr h => ?_)
  · obtain ⟨p, h, len, ms, ls, rfl, _⟩ := h
    rfl
  · obtain ⟨p, h, len, ms, ls, rfl, hp, ⟨hb, hs, rfl, hh, hls⟩, ok, em, lok, sm, k⟩ := h
    obtain ⟨a, b, us, rfl, ha, hmb, hms⟩ := id hp
    have fl : (ls.map fun l => V.str l.m.name).all flatN = true := by
      rw [List.all_map, List.all_eq_true]
      intro l hl
      exact ok.str l.m (by rw [← em]; exact List.mem_map.mpr ⟨l, hl, rfl⟩)
    have ln : ls.length ≤ 1000 := by have := ok.few; rw [← em, List.length_map] at this; exact this
    refine ⟨_, ((pss_cons (ps_if (pt_cmpR (opNe (K := K) (hu64 hr)) (pe_lc (own := [("log", 6)]) (g := gName 6) (tt := tYes) rfl sc_is_history.nd (pi_tup (pv 1)) (blkOk_by (N := N_is_history) (sc := defScope s_is_history) (by decide +kernel)) (fun _ _ _ _ _ => (pg_name (i := 6) sc_is_history.nd rfl (by first | exact Or.inl rfl | exact Or.inr rfl))) (fun _ _ _ _ _ => pts_nil) (fun _ _ _ _ _ => (pe_ix (ixT (K := K)) (pv 6) pe_int (fun _ _ => rfl)))) (pe_lc (own := [("meter", 5)]) (g := gName 5) (tt := tYes) rfl sc_is_history.nd (pi_tup (pe_ix (ixT (K := K)) (pv 0) pe_int (fun _ _ => rfl))) (blkOk_by (N := N_is_history) (sc := defScope s_is_history) (by decide +kernel)) (fun _ _ _ _ _ => (pg_name (i := 5) sc_is_history.nd rfl (by first | exact Or.inl rfl | exact Or.inr rfl))) (fun _ _ _ _ _ => pts_nil) (fun _ _ _ _ _ => (pe_ix (ixT (K := K)) (pv 5) pe_int (fun _ _ => rfl)))) (nomark _))
    (pss_one (ps_ret pe_bl))
    pss_nil)
    (pss_cons (ps_for PassesOwn.never rfl (pi_tup (pv 1)) (pg_tup rfl (pgs_cons (pg_name (i := 2) sc_is_history.nd rfl (by first | exact Or.inl rfl | exact Or.inr rfl)) (pgs_cons (pg_name (i := 3) sc_is_history.nd rfl (by first | exact Or.inl rfl | exact Or.inr rfl)) (pgs_cons (pg_name (i := 4) sc_is_history.nd rfl (by first | exact Or.inl rfl | exact Or.inr rfl)) pgs_nil))))
    (pss_cons (ps_set (i := 5) sc_is_history.nd rfl (by first | exact Or.inl rfl | exact Or.inr rfl) (pe_cl (C_meter_of T) (hr.mono (by decide)) pass0 (pa_cons (pv 0) (pa_cons (pv 2) pa_nil))))
    (pss_one (ps_if (PW.pt (pw_or (pt_cmpR op_gt (pe_callB call_abs (by rfl) T.f_abs PyProof.Rows.boot_abs (pa_cons (pv 3) pa_nil)) (pe_ix (ixT (K := K)) (pv 5) pe_int (fun _ _ => rfl)) (nomark _)) (pw_or1 (pt_not (pt_val (pe_cl (C_slots_right T) (hr.mono (by decide)) pass0 (pa_cons (pv 5) (pa_cons (pv 4) pa_nil))))))))
    (pss_one (ps_ret pe_bl))
    pss_nil))))
    (pss_one (ps_ret pe_bl))))), ?_⟩
    walk_at "tw"
    intro D nD
    refine lc_tup (K := K) (a := hb) (xs := hs) (fun i H' => Same H H' ∧ H' D = some (.lst ((ls.take i).map fun l => V.str l.m.name)))
      ⟨Same.new nD, upd_same⟩ (fun i H' _ z => SqT.of (z.1 _ _ hh)) ?_ ?_
    · rintro i x H' hx ⟨e, hD⟩
      obtain ⟨l, hl, ⟨t, sv, rfl, ht, _⟩⟩ := hls.get hx
      have ht' := e _ _ ht
      have hz : ((ls.take i).map fun l => V.str l.m.name).length < sizeLine := smallt (by rw [List.length_map, List.length_take]; omega)
      have fin : (upd H' D (.lst ((ls.take i).map (fun l => V.str l.m.name) ++ [V.str l.m.name]))) D = some (.lst ((ls.take (i + 1)).map fun l => V.str l.m.name)) := by
        rw [upd_same, take_succ_get hl, List.map_append]; rfl
      have e2 : Same H (upd H' D (.lst ((ls.take i).map (fun l => V.str l.m.name) ++ [V.str l.m.name]))) := e.mut nD
      walk_at "tw"
      exact fin
    · rintro H1 ⟨e1, hD⟩
      rw [List.take_of_length_le (by rw [hls.1]; exact Nat.le_refl _)] at hD
      have ha1 := e1 _ _ ha
      have hmb1 := e1 _ _ hmb
      walk_at "tw"
      intro D2 nD2
      refine lc_tup (K := K) (a := b) (xs := us) (fun i H' => Same H1 H' ∧ H' D2 = some (.lst ((ms.take i).map fun m => V.str m.name)))
        ⟨Same.new nD2, upd_same⟩ (fun i H' _ z => SqT.of (z.1 _ _ hmb1)) ?_ ?_
      · rintro i x H' hx ⟨e, hD2⟩
        obtain ⟨m, hm, ⟨t, rfl, ht⟩⟩ := hms.get hx
        have ht' := e _ _ (e1 _ _ ht)
        have hz : ((ms.take i).map fun m => V.str m.name).length < sizeLine := smallt (by rw [List.length_map, List.length_take]; have := ok.few; omega)
        have fin : (upd H' D2 (.lst ((ms.take i).map (fun m => V.str m.name) ++ [V.str m.name]))) D2 = some (.lst ((ms.take (i + 1)).map fun m => V.str m.name)) := by
          rw [upd_same, take_succ_get hm, List.map_append]; rfl
        have e2 : Same H1 (upd H' D2 (.lst ((ms.take i).map (fun m => V.str m.name) ++ [V.str m.name]))) := e.mut nD2
        walk_at "tw"
        exact fin
      · rintro H2 ⟨e2, hD2⟩
        rw [List.take_of_length_le (by rw [hms.1]; exact Nat.le_refl _)] at hD2
        have hD1 := e2 _ _ hD
        have em2 : (ms.map fun m => V.str m.name) = ls.map fun l => V.str l.m.name := by rw [← em, List.map_map]; rfl
        rw [em2] at hD2
        have e02 := e1.trans e2
        refine ⟨_, _, .lst (SqL.of hD1) (dpAll_flat fl), .lst (SqL.of hD2) (dpAll_flat fl), flats_shaped fl, flats_shaped fl, ?_⟩
        walk_at "tw"
        refine itf (by rw [flats_eqv fl fl]; simp) ?_
        have hh2 := e02 _ _ hh
        walk_at "tw"
        refine for_tup (K := K) (a := hb) (xs := hs) (fun i σ H' => (∃ x y z u v, σ = [some (.ref a), some (.ref hb), x, y, z, u, v]) ∧ Same H H') ⟨⟨_, _, _, _, _, rfl⟩, e02⟩ (fun i σ H' _ z => SqT.of (z.2 _ _ hh)) ?_ ?_
        · rintro i x σ H' hx ⟨⟨x1, x2, x3, x4, x5, rfl⟩, e⟩
          obtain ⟨l, hl, ⟨t, sv, rfl, ht, hsv⟩⟩ := hls.get hx
          have hl' := List.mem_of_getElem? hl
          have hm : l.m ∈ ms := by rw [← em]; exact List.mem_map.mpr ⟨l, hl', rfl⟩
          have ht' := e _ _ ht
          have hp' := hp.mono e.tk
          have nd := ok.nd
          have few := ok.few
          walk_at "tw"
          intro mv H3 e3 hmv
          have e13 := e.trans e3
          obtain ⟨ma, rfl, hma⟩ := id hmv
          have hma3 := e3 _ _ hma
          have hmv3 := hmv.mono e3.tk
          walk_at "tw"
          refine itf (decide_eq_false (abs_le (lok l hl').off)) ?_
          have hsv3 := hsv.mono e13.tk
          have so := (lok l hl').slots
          have sm1 := (sm l hl').1
          have sm2 := (sm l hl').2
          walk_at "tw"
          intro H4 e4
          walk_at "tw"
          exact ⟨⟨_, _, _, _, _, rfl⟩, e13.trans e4⟩
        · rintro σ H' ⟨⟨x1, x2, x3, x4, x5, rfl⟩, e⟩
          exact k _ e
end
end Tw
end

section
set_option maxHeartbeats 4000000
namespace Tw
open PySem PySem.Spec PyProof.Rows L2
/-! the machine of the readings: "tw" goes on through what has one answer; it stops at a branch, a loop, a new object, what comes behind a call -/
local macro_rules | `(tactic| walk_at "tw look") => `(tactic| first
  | assumption
  | exact upd_same
  | (refine Same.new (by assumption) _ _ ?_; walk_at "tw look")
  | (refine upd_oth (by assumption) ?_; walk_at "tw look")
  | (refine upd_dif (by assumption) (by intro z; cases z) ?_; walk_at "tw look")
  | (refine upd_dif upd_same (by intro z; cases z) ?_; walk_at "tw look"))
local macro_rules | `(tactic| walk_at "tw seq") => `(tactic| first
  | assumption
  | exact SqL.of (by walk_at "tw look")
  | exact SqT.of (by walk_at "tw look")
  | exact .inl (SqL.of (by walk_at "tw look"))
  | exact .inr (SqT.of (by walk_at "tw look"))
  | exact .inl (by assumption)
  | exact dget_of (by walk_at "tw look") (by assumption)
  | exact DGet.k (k := Sum.inl _) (by walk_at "tw look")
  | exact DPut.k (k := Sum.inl _) (by walk_at "tw look") (by assumption)
  | exact .inl ⟨_, .inl (by walk_at "tw look")⟩
  | exact .inr ⟨_, .inl (by walk_at "tw look")⟩
  | exact ⟨_, SqL.of (by walk_at "tw look")⟩
  | exact ⟨_, SqT.of (by walk_at "tw look")⟩
  | exact ⟨_, by assumption⟩
  | exact .inl ⟨rfl, _, SqL.of (by walk_at "tw look")⟩)
local macro_rules | `(tactic| walk_at "tw atom") => `(tactic| first
  | with_reducible rfl
  | assumption
  | rfl
  | walk_at "tw look"
  | walk_at "tw seq"
  | omega
  | exact small (by simp; done)
  | exact smallt (by simp; done)
  | exact cdiv_of rfl
  | exact fun _ h => h
  | exact Int.natCast_pos.mpr (Nat.zero_lt_succ _)
  | exact cmul_r rfl
  | exact cmul_l rfl
  | exact Nat.le_of_ble_eq_true rfl)
local macro_rules | `(tactic| walk_at "tw step") => `(tactic| first | (with_reducible refine iteT ?_) | (with_reducible refine iteF ?_) | (with_reducible refine itf nott ?_) | (with_reducible refine itt notf ?_) | ((fail_if_success (refine ite2 (fun _ => ?_) (fun _ => ?_))); first
  | ((fail_if_success (refine (?_ : ∃ W : Nat → Nat → L2.St → Hp → Prop, _))); (fail_if_success (refine (?_ : ∃ W : Nat → Nat → Hp → Prop, _))); apply Exists.intro)
  | (apply And.intro; (walk_at "tw atom"))))
local macro_rules | `(tactic| walk_at "tw") => `(tactic| repeat walk_at "tw step")

section
variable {P : Program} {w : World} {K : PySem.W.Frag} {mg : Str → Option Value} {base : Heap}
theorem cut_pre (xs : List V) (n : Nat) : cutV xs none (some (n : Int)) = xs.take n := by
  unfold cutV
  rw [HT.sIx_none, HT.sIx_nat, List.drop_zero, Nat.sub_zero]
  by_cases h : n ≤ xs.length
  · rw [Nat.min_eq_left h]
  · rw [Nat.min_eq_right (by omega), List.take_of_length_le (Nat.le_refl _), List.take_of_length_le (by omega)]
theorem sum_cast : ∀ l : List Nat, (l.map fun (n : Nat) => (n : Int)).sum = ((l.sum : Nat) : Int)
  | [] => rfl
  | n :: l => by rw [List.map_cons, List.sum_cons, List.sum_cons, sum_cast l]; omega
def spIsRead : Sp := fun vs H Q _ => ∃ (lv sv : V) (nm : Str) (s v : Nat) (st : Int) (x : Option Int) (off : Int) (ss : List Slot), vs = [lv, sv] ∧ IsLetter H lv (.read nm s v st x) ∧ IsSlots H sv ss ∧ TrueL off ss (.read nm s v st x) ∧
  ∀ H', Same H H' → Q (.bl true) H'
theorem C_is_read (T : Tx K mg) : Callee P w K mg base CX0 "is_read" P_is_read 1 spIsRead := by
  refine mk_is_read T (k := 0) (fun vs H Q E h => ?_) (fun f cdv A outer s H vs Q E hr h => ?_)
  · obtain ⟨lv, sv, nm, s, v, st, x, off, ss, rfl, _⟩ := h
    rfl
  · obtain ⟨lv, sv, nm, s, v, st, x, off, ss, rfl, ⟨la, rfl, hla⟩, ⟨b, ws, rfl, hb, hw⟩, ⟨h1, t, ht, et, hx⟩, k⟩ := h
    obtain ⟨tv, htv, ⟨p, q, rfl, hp, hq⟩⟩ := hw.get' ht
    have hlt : s - 1 < ss.length := (List.getElem?_eq_some_iff.mp ht).1
    have hvt : v < t.2.length := (List.getElem?_eq_some_iff.mp hx).1
    have hlen := hw.1
    refine ⟨_, ((pss_cons (ps_asg (pe_slice slN (pv 0) (po_some pe_int) po_none) (pg_tup rfl (pgs_cons (pg_name (i := 2) sc_is_read.nd rfl (by first | exact Or.inl rfl | exact Or.inr rfl)) (pgs_cons (pg_name (i := 3) sc_is_read.nd rfl (by first | exact Or.inl rfl | exact Or.inr rfl)) (pgs_cons (pg_name (i := 4) sc_is_read.nd rfl (by first | exact Or.inl rfl | exact Or.inr rfl)) (pgs_cons (pg_name (i := 5) sc_is_read.nd rfl (by first | exact Or.inl rfl | exact Or.inr rfl)) pgs_nil))))))
    (pss_cons (ps_if (pt_cmpR op_gt (pv 2) (pe_callB (clen (K := K)) (by rfl) T.f_len PySem.boot_len (pa_cons (pv 1) pa_nil)) (nomark _))
    (pss_one (ps_ret pe_bl))
    pss_nil)
    (pss_cons (ps_set (i := 6) sc_is_read.nd rfl (by first | exact Or.inl rfl | exact Or.inr rfl) (pe_ix (ixT (K := K)) (pv 1) (pe_op op_sub (pv 2) pe_int) (fun _ _ => rfl)))
    (pss_one (ps_ret (pe_and (pe_cmpR op_eq (pe_ix (ixT (K := K)) (pv 6) pe_int (fun _ _ => rfl)) (pv 4) (nomark _)) (pe_and (pe_cmpR op_lt (pv 3) (pe_callB (clen (K := K)) (by rfl) T.f_len PySem.boot_len (pa_cons (pe_ix (ixT (K := K)) (pv 6) pe_int (fun _ _ => rfl)) pa_nil)) (nomark _)) (pe_one (pe_cmpR op_eq (pe_ix (ixT (K := K)) (pe_ix (ixT (K := K)) (pv 6) pe_int (fun _ _ => rfl)) (pv 3) (fun _ _ => rfl)) (pv 5) (nomark _))))))))))), ?_⟩
    walk_at "tw"
    intro p3 H3 e3 h3
    have hb3 := e3 _ _ hb
    have hp3 := e3 _ _ hp
    have hq3 := e3 _ _ hq
    walk_at "tw"
    refine itf (decide_eq_false (by omega)) ?_
    walk_at "tw"
    refine ⟨at_of (j := s - 1) (by omega) htv, ?_⟩
    walk_at "tw"
    rw [int_eq et]
    walk_at "tw"
    refine itt (decide_eq_true (by rw [List.length_map]; omega)) ?_
    walk_at "tw"
    refine ⟨atI_nat (map_get hx), ?_⟩
    walk_at "tw"
    refine ⟨by cases x <;> rfl, ?_⟩
    rw [decide_eq_true rfl]
    exact k _ e3
def spIsClosed : Sp := fun vs H Q _ => ∃ (lv sv : V) (nm : Str) (n : Nat) (st : Int) (ve : Nat) (off : Int) (ss : List Slot), vs = [lv, sv] ∧ IsLetter H lv (.close nm n st ve) ∧ IsSlots H sv ss ∧ TrueL off ss (.close nm n st ve) ∧ ss.length ≤ 1000 ∧
  ∀ H', Same H H' → Q (.bl true) H'
theorem C_is_closed (T : Tx K mg) : Callee P w K mg base CX0 "is_closed" P_is_closed 1 spIsClosed := by
  refine mk_is_closed T (k := 0) (fun vs H Q E h => ?_) (fun f cdv A outer s H vs Q E hr h => ?_)
  · obtain ⟨lv, sv, nm, n, st, ve, off, ss, rfl, _⟩ := h
    rfl
  · obtain ⟨lv, sv, nm, n, st, ve, off, ss, rfl, ⟨la, rfl, hla⟩, ⟨b, ws, rfl, hb, hw⟩, ⟨h1, h2, h3⟩, hl, k⟩ := h
    refine ⟨_, ((pss_cons (ps_asg (pe_slice slN (pv 0) (po_some pe_int) po_none) (pg_tup rfl (pgs_cons (pg_name (i := 2) sc_is_closed.nd rfl (by first | exact Or.inl rfl | exact Or.inr rfl)) (pgs_cons (pg_name (i := 3) sc_is_closed.nd rfl (by first | exact Or.inl rfl | exact Or.inr rfl)) (pgs_cons (pg_name (i := 4) sc_is_closed.nd rfl (by first | exact Or.inl rfl | exact Or.inr rfl)) pgs_nil)))))
    (pss_cons (ps_if (pt_cmpR op_gt (pv 2) (pe_callB (clen (K := K)) (by rfl) T.f_len PySem.boot_len (pa_cons (pv 1) pa_nil)) (nomark _))
    (pss_one (ps_ret pe_bl))
    pss_nil)
    (pss_cons (ps_for PassesOwn.never rfl (pi_enumT (by rfl) T.f_enumerate (pa_cons (pv 1) pa_nil)) (pg_tup rfl (pgs_cons (pg_name (i := 5) sc_is_closed.nd rfl (by first | exact Or.inl rfl | exact Or.inr rfl)) (pgs_cons (pg_name (i := 6) sc_is_closed.nd rfl (by first | exact Or.inl rfl | exact Or.inr rfl)) pgs_nil)))
    (pss_one (ps_if (pt_cmpR op_ne (pe_cmpR op_lt (pe_ix (ixT (K := K)) (pv 6) pe_int (fun _ _ => rfl)) (pv 3) (nomark _)) (pe_cmpR op_lt (pv 5) (pv 2) (nomark _)) (nomark _))
    (pss_one (ps_ret pe_bl))
    pss_nil)))
    (pss_one (ps_ret (pe_cmpR op_eq (pe_callB (csum (K := K) rfl) (by rfl) T.f_sum PyProof.Rows.boot_sum (pa_cons (pe_lc (own := [("slot", 6)]) (g := gName 6) (tt := tYes) rfl sc_is_closed.nd (pi_tup (pe_slice slN (pv 1) po_none (po_some (pv 2)))) (blkOk_by (N := N_is_closed) (sc := defScope s_is_closed) (by decide +kernel)) (fun _ _ _ _ _ => (pg_name (i := 6) sc_is_closed.nd rfl (by first | exact Or.inl rfl | exact Or.inr rfl))) (fun _ _ _ _ _ => pts_nil) (fun _ _ _ _ _ => (pe_callB (clen (K := K)) (by rfl) T.f_len PySem.boot_len (pa_cons (pe_ix (ixT (K := K)) (pv 6) pe_int (fun _ _ => rfl)) pa_nil)))) pa_nil)) (pv 4) (nomark _)))))))), ?_⟩
    walk_at "tw"
    intro p3 H3 e3 hc3
    have hb3 := e3 _ _ hb
    have hlen := hw.1
    walk_at "tw"
    refine itf (decide_eq_false (by omega)) ?_
    walk_at "tw"
    refine for_it (walk_enumT (K := K) (a := b) (xs := ws)) (fun i σ H' => (∃ x y, σ = [some (.ref la), some (.ref b), some (.int n), some (.int st), some (.int ve), x, y]) ∧ Same H H') ⟨⟨_, _, rfl⟩, e3⟩ (fun i σ H' _ z => z.2 _ _ hb) ?_ ?_
    · rintro i x σ H' H2 hi ⟨⟨x1, y1, rfl⟩, e⟩ ⟨t, x3, y3, rfl, nt, rfl, f3, f4⟩
      obtain rfl : V.int (i : Nat) = x3 := Option.some.inj f3
      obtain ⟨sl, hsl, ⟨p, q, rfl, hp, hq⟩⟩ := hw.get f4
      have hp' := e _ _ hp
      walk_at "tw"
      have h2' := h2 i sl hsl
      refine itf (by
        by_cases z : i < n
        · simp [h2'.mpr z, z]
        · have z2 : ¬ sl.1 < st := fun q => z (h2'.mp q)
          simp [z, z2]) ?_
      exact ⟨⟨_, _, rfl⟩, e.up nt⟩
    · rintro σ H' ⟨⟨x1, y1, rfl⟩, e⟩
      have hb' := e _ _ hb
      walk_at "tw"
      intro c H2 e2 hc
      rw [cut_pre] at hc
      have hw2 : All2 (IsSlot H) (ws.take n) (ss.take n) := ⟨by rw [List.length_take, List.length_take, hlen], fun i v s g1 g2 => by
        rw [List.getElem?_take] at g1 g2
        split at g1
        · rename_i z; rw [if_pos z] at g2; exact hw.2 i v s g1 g2
        · cases g1⟩
      walk_at "tw"
      intro D nD
      refine lc_tup (K := K) (a := c) (xs := ws.take n) (fun i H' => Same H2 H' ∧ H' D = some (.lst ((((ss.take n).take i).map fun s => ((s.2.length : Nat) : Int)).map V.int)))
        ⟨Same.new nD, upd_same⟩ (fun i H' _ z => SqT.of (z.1 _ _ hc)) ?_ ?_
      · rintro i x H4 hx ⟨e4, hD⟩
        obtain ⟨sl, hsl, ⟨p, q, rfl, hp, hq⟩⟩ := hw2.get hx
        have e04 := (e.trans e2).trans e4
        have hp' := e04 _ _ hp
        have hq' := e04 _ _ hq
        have hz : ((((ss.take n).take i).map fun s => ((s.2.length : Nat) : Int)).map V.int).length < sizeLine := smallt (by rw [List.length_map, List.length_map, List.length_take, List.length_take]; omega)
        have e5 : Same H2 (upd H4 D (.lst ((((ss.take n).take i).map fun s => ((s.2.length : Nat) : Int)).map V.int ++ [V.int ((sl.2.map ov).length : Nat)]))) := e4.mut nD
        walk_at "tw"
        rw [upd_same, take_succ_get hsl, List.map_append, List.map_append, List.length_map]
        rfl
      · rintro H4 ⟨e4, hD⟩
        rw [List.take_of_length_le (by rw [hw2.1]; exact Nat.le_refl _)] at hD
        walk_at "tw"
        have e5 : decide (V.int ((ss.take n).map fun s => ((s.2.length : Nat) : Int)).sum = V.int (ve : Nat)) = true := int_eq (by
          rw [show ((ss.take n).map fun s => ((s.2.length : Nat) : Int)) = ((ss.take n).map (·.2.length)).map (fun (n : Nat) => (n : Int)) by rw [List.map_map]; rfl, sum_cast, h3])
        rw [e5]
        exact k _ ((e.trans e2).trans e4)
end
end Tw
end

section
set_option maxHeartbeats 4000000
namespace Tw
open PySem PySem.Spec PyProof.Rows L2
/-! the machine of the readings: "tw" goes on through what has one answer; it stops at a branch, a loop, a new object, what comes behind a call -/
local macro_rules | `(tactic| walk_at "tw look") => `(tactic| first
  | assumption
  | exact upd_same
  | (refine Same.new (by assumption) _ _ ?_; walk_at "tw look")
  | (refine upd_oth (by assumption) ?_; walk_at "tw look")
  | (refine upd_dif (by assumption) (by intro z; cases z) ?_; walk_at "tw look")
  | (refine upd_dif upd_same (by intro z; cases z) ?_; walk_at "tw look"))
local macro_rules | `(tactic| walk_at "tw seq") => `(tactic| first
  | assumption
  | exact SqL.of (by walk_at "tw look")
  | exact SqT.of (by walk_at "tw look")
  | exact .inl (SqL.of (by walk_at "tw look"))
  | exact .inr (SqT.of (by walk_at "tw look"))
  | exact .inl (by assumption)
  | exact dget_of (by walk_at "tw look") (by assumption)
  | exact DGet.k (k := Sum.inl _) (by walk_at "tw look")
  | exact DPut.k (k := Sum.inl _) (by walk_at "tw look") (by assumption)
  | exact .inl ⟨_, .inl (by walk_at "tw look")⟩
  | exact .inr ⟨_, .inl (by walk_at "tw look")⟩
  | exact ⟨_, SqL.of (by walk_at "tw look")⟩
  | exact ⟨_, SqT.of (by walk_at "tw look")⟩
  | exact ⟨_, by assumption⟩
  | exact .inl ⟨rfl, _, SqL.of (by walk_at "tw look")⟩)
local macro_rules | `(tactic| walk_at "tw atom") => `(tactic| first
  | with_reducible rfl
  | assumption
  | rfl
  | walk_at "tw look"
  | walk_at "tw seq"
  | omega
  | exact small (by simp; done)
  | exact smallt (by simp; done)
  | exact cdiv_of rfl
  | exact fun _ h => h
  | exact Int.natCast_pos.mpr (Nat.zero_lt_succ _)
  | exact cmul_r rfl
  | exact cmul_l rfl
  | exact Nat.le_of_ble_eq_true rfl)
local macro_rules | `(tactic| walk_at "tw step") => `(tactic| first | (with_reducible refine iteT ?_) | (with_reducible refine iteF ?_) | (with_reducible refine itf nott ?_) | (with_reducible refine itt notf ?_) | ((fail_if_success (refine ite2 (fun _ => ?_) (fun _ => ?_))); first
  | ((fail_if_success (refine (?_ : ∃ W : Nat → Nat → L2.St → Hp → Prop, _))); (fail_if_success (refine (?_ : ∃ W : Nat → Nat → Hp → Prop, _))); apply Exists.intro)
  | (apply And.intro; (walk_at "tw atom"))))
local macro_rules | `(tactic| walk_at "tw") => `(tactic| repeat walk_at "tw step")

section
variable {P : Program} {w : World} {K : PySem.W.Frag} {mg : Str → Option Value} {base : Heap}
def IsTail (H : Hp) (v : V) (l : Log) : Prop := ∃ a sv, v = .ref a ∧ H a = some (.tup [.int l.off, sv]) ∧ IsSlots H sv l.ss
theorem IsTail.mono {H H' : Hp} {v : V} {l : Log} (h : IsTail H v l) (e : TKeep H H') : IsTail H' v l := by
  obtain ⟨a, sv, h1, h2, h3⟩ := h
  exact ⟨a, sv, h1, e _ _ h2, h3.mono e⟩
theorem items_1 (L : Letter) : atI L.items 1 = some (.str L.nm) := by cases L <;> rfl
theorem log_inj {ls : List Log} (nd : (ls.map (·.m.name)).Nodup) {x y : Log} (hx : x ∈ ls) (hy : y ∈ ls) (e : x.m.name = y.m.name) : x = y := by
  obtain ⟨i, hi, ei⟩ := List.mem_iff_getElem.mp hx
  obtain ⟨j, hj, ej⟩ := List.mem_iff_getElem.mp hy
  have : i = j := by
    refine (List.getElem_inj (xs := ls.map (·.m.name)) (h₀ := by simpa using hi) (h₁ := by simpa using hj) nd).mp ?_
    rw [List.getElem_map, List.getElem_map, ei, ej, e]
  subst this
  rw [← ei, ← ej]
def spIsTrue : Sp := fun vs H Q _ => ∃ (lv hv : V) (L : Letter) (ls : List Log) (l : Log), vs = [lv, hv] ∧ IsLetter H lv L ∧ IsHist H hv ls ∧ (ls.map (·.m.name)).Nodup ∧ l ∈ ls ∧ l.m.name = L.nm ∧ TrueL l.off l.ss L ∧ Small l ∧ ls.length ≤ 1000 ∧
  ∀ H', Same H H' → Q (.bl true) H'
theorem C_is_true (T : Tx K mg) : Callee P w K mg base CX0 "is_true" P_is_true 2 spIsTrue := by
  refine mk_is_true T (k := 1) (fun vs H Q E h => ?_) (fun f cdv A outer s H vs Q E hr h => ?_)
  · obtain ⟨lv, hv, L, ls, l, rfl, _⟩ := h
    rfl
  · obtain ⟨lv, hv, L, ls, l, rfl, ⟨la, rfl, hla⟩, ⟨hb, hs, rfl, hh, hls⟩, nd, hl, en, tr, sm, ln, k⟩ := h
    refine ⟨_, ((pss_cons (ps_asg (pe_ix (ixL (K := K)) (pe_lc (own := [("log", 4)]) (g := gName 4) rfl sc_is_true.nd (pi_tup (pv 1)) (blkOk_by (N := N_is_true) (sc := defScope s_is_true) (by decide +kernel)) (fun _ _ _ _ _ => (pg_name (i := 4) sc_is_true.nd rfl (by first | exact Or.inl rfl | exact Or.inr rfl))) (fun _ _ _ _ _ => pts_one (pt_cmpR op_eq (pe_ix (ixT (K := K)) (pv 4) pe_int (fun _ _ => rfl)) (pe_ix (ixT (K := K)) (pv 0) pe_int (fun _ _ => rfl)) (nomark _))) (fun _ _ _ _ _ => (pe_slice slN (pv 4) (po_some pe_int) po_none))) pe_int (fun _ _ => rfl)) (pg_tup rfl (pgs_cons (pg_name (i := 2) sc_is_true.nd rfl (by first | exact Or.inl rfl | exact Or.inr rfl)) (pgs_cons (pg_name (i := 3) sc_is_true.nd rfl (by first | exact Or.inl rfl | exact Or.inr rfl)) pgs_nil))))
    (pss_cons (ps_if (pt_cmpR op_eq (pe_ix (ixT (K := K)) (pv 0) pe_int (fun _ _ => rfl)) pe_str (nomark _))
    (pss_one (ps_ret (pe_cl (C_is_read T) (hr.mono (by decide)) pass0 (pa_cons (pv 0) (pa_cons (pv 3) pa_nil)))))
    pss_nil)
    (pss_cons (ps_if (pt_cmpR op_eq (pe_ix (ixT (K := K)) (pv 0) pe_int (fun _ _ => rfl)) pe_str (nomark _))
    (pss_one (ps_ret (pe_cl (C_is_closed T) (hr.mono (by decide)) pass0 (pa_cons (pv 0) (pa_cons (pv 3) pa_nil)))))
    pss_nil)
    (pss_one (ps_ret (pe_chain op_le op_le (pe_ix (ixT (K := K)) (pv 0) pe_int (fun _ _ => rfl)) (pv 2) (pe_ix (ixT (K := K)) (pv 0) pe_int (fun _ _ => rfl))))))))), ?_⟩
    walk_at "tw"
    intro D nD
    refine lc_tup (K := K) (a := hb) (xs := hs) (fun i H' => Same H H' ∧ ∃ acc, H' D = some (.lst acc) ∧ acc.length ≤ i ∧ All2 (IsTail H') acc ((ls.take i).filter fun x => decide (x.m.name = L.nm)))
      ⟨Same.new nD, [], upd_same, Nat.le_refl _, All2.nil⟩ (fun i H' _ z => SqT.of (z.1 _ _ hh)) ?_ ?_
    · rintro i x H' hx ⟨e, acc, hD, hacc, hall⟩
      obtain ⟨m', hm', ⟨t, sv, rfl, ht, hsv⟩⟩ := hls.get hx
      have ht' := e _ _ ht
      have hla' := e _ _ hla
      have hi : i < hs.length := (List.getElem?_eq_some_iff.mp hx).1
      have hz : acc.length < sizeLine := smallt (by have := hls.1; omega)
      walk_at "tw"
      refine ⟨items_1 L, ?_⟩
      walk_at "tw"
      rw [take_succ_get hm', List.filter_append]
      refine ite2 (fun hc => ?_) (fun hc => ?_)
      · have hn : m'.m.name = L.nm := by simpa using hc
        walk_at "tw"
        intro c H2 e2 hc2
        have hD2 := e2 _ _ hD
        walk_at "tw"
        refine ⟨(e.trans e2).mut nD, _, upd_same, by rw [List.length_append]; exact Nat.add_le_add hacc (Nat.le_refl 1), ?_⟩
        rw [List.filter_cons_of_pos (by simpa using hn), List.filter_nil]
        have tk : TKeep H2 (upd H2 D (.lst (acc ++ [.ref c]))) := TKeep.upd hD2 fun xs z => by cases z
        exact (hall.mono fun _ _ z => (z.mono e2.tk).mono tk).snoc ⟨c, sv, rfl, tk _ _ hc2, ((hsv.mono e.tk).mono e2.tk).mono tk⟩
      · have hn : ¬ m'.m.name = L.nm := by simpa using hc
        refine ⟨e, acc, hD, Nat.le_succ_of_le hacc, ?_⟩
        rw [List.filter_cons_of_neg (by simpa using hn), List.filter_nil, List.append_nil]
        exact hall
    · rintro H' ⟨e, acc, hD, hacc, hall⟩
      rw [List.take_of_length_le (by rw [hls.1]; exact Nat.le_refl _)] at hall
      have hf : l ∈ ls.filter fun x => decide (x.m.name = L.nm) := List.mem_filter.mpr ⟨hl, by simpa using en⟩
      obtain ⟨m2, hm2⟩ : ∃ m2, (ls.filter fun x => decide (x.m.name = L.nm))[0]? = some m2 := by
        cases q : ls.filter fun x => decide (x.m.name = L.nm) with
        | nil => rw [q] at hf; cases hf
        | cons y ys => exact ⟨y, rfl⟩
      obtain ⟨hm4, hm5⟩ := List.mem_filter.mp (List.mem_of_getElem? hm2)
      obtain rfl : m2 = l := log_inj nd hm4 hl (by rw [en]; simpa using hm5)
      obtain ⟨v, hv1, ⟨c, sv, rfl, hc, hsv⟩⟩ := hall.get' hm2
      have hla' := e _ _ hla
      have sm1 := sm.1
      walk_at "tw"
      refine ⟨atI_nat (j := 0) hv1, ?_⟩
      cases L with
      | read nm s v st x =>
        have il : IsLetter H' (.ref la) (.read nm s v st x) := ⟨la, rfl, hla'⟩
        walk_at "tw"
        refine itt (str_eq rfl) ?_
        walk_at "tw"
        intro H2 e2
        exact k _ (e.trans e2)
      | close nm n st ve =>
        have il : IsLetter H' (.ref la) (.close nm n st ve) := ⟨la, rfl, hla'⟩
        walk_at "tw"
        refine itf (str_ne fun z => rc_ne z.symm) ?_
        walk_at "tw"
        refine itt (str_eq rfl) ?_
        walk_at "tw"
        intro H2 e2
        exact k _ (e.trans e2)
      | clock nm lo hi =>
        walk_at "tw"
        refine itf (str_ne fun z => rk_ne z.symm) ?_
        walk_at "tw"
        refine itf (str_ne fun z => ck_ne z.symm) ?_
        walk_at "tw"
        refine itt (decide_eq_true tr.1) ?_
        walk_at "tw"
        have e9 : decide (m2.off ≤ hi) = true := decide_eq_true tr.2
        simp only [e9]
        exact k _ e
def spAgrees : Sp := fun vs H Q _ => ∃ (hv : V) (ra : Addr) (rs : List V) (Ls : List Letter) (ls : List Log), vs = [hv, .ref ra] ∧ IsHist H hv ls ∧ H ra = some (.lst rs) ∧ All2 (IsLetter H) rs Ls ∧ (ls.map (·.m.name)).Nodup ∧ ls.length ≤ 1000 ∧ (∀ l ∈ ls, Small l) ∧
  (∀ L ∈ Ls, ∃ l ∈ ls, l.m.name = L.nm ∧ TrueL l.off l.ss L) ∧ Ls.length ≤ 10000 ∧ ∀ H', Same H H' → Q (.bl true) H'
theorem C_agrees (T : Tx K mg) : Callee P w K mg base CX0 "agrees" P_agrees 3 spAgrees := by
  refine mk_agrees T (k := 2) (fun vs H Q E h => ?_) (fun f cdv A outer s H vs Q E hr h => ?_)
  · obtain ⟨hv, ra, rs, Ls, ls, rfl, _⟩ := h
    rfl
  · obtain ⟨hv, ra, rs, Ls, ls, rfl, hist, hra, hrs, nd, ln, sm, tr, lr, k⟩ := h
    refine ⟨_, ((pss_one (ps_ret (pe_callB (call_ (K := K) rfl) (by rfl) T.f_all PyProof.Rows.boot_all (pa_cons (pe_lc (own := [("letter", 2)]) (g := gName 2) (tt := tYes) rfl sc_agrees.nd (pi_list (pv 1)) (blkOk_by (N := N_agrees) (sc := defScope s_agrees) (by decide +kernel)) (fun _ _ _ _ _ => (pg_name (i := 2) sc_agrees.nd rfl (by first | exact Or.inl rfl | exact Or.inr rfl))) (fun _ _ _ _ _ => pts_nil) (fun _ _ _ _ _ => (pe_cl (C_is_true T) (hr.mono (by decide)) pass0 (pa_cons (pv 2) (pa_cons (pv 0) pa_nil))))) pa_nil))))), ?_⟩
    walk_at "tw"
    intro D nD
    refine lc_list (K := K) (a := ra) (xs := rs) (fun i H' => i ≤ rs.length ∧ Same H H' ∧ H' D = some (.lst ((List.replicate i true).map V.bl)))
      ⟨Nat.zero_le _, Same.new nD, upd_same⟩ (fun i H' _ z => SqL.of (z.2.1 _ _ hra)) ?_ ?_
    · rintro i x H' hx ⟨hi, e, hD⟩
      have hi : i < rs.length := (List.getElem?_eq_some_iff.mp hx).1
      obtain ⟨L, hL, il⟩ := hrs.get hx
      have hz : ((List.replicate i true).map V.bl).length < sizeLine := smallt (by rw [List.length_map, List.length_replicate]; have := hrs.1; omega)
      obtain ⟨l, hl, en, tl⟩ := tr L (List.mem_of_getElem? hL)
      have il' := il.mono e.tk
      have hist' := hist.mono e.tk
      have sml := sm l hl
      walk_at "tw"
      intro H2 e2
      have hD2 := e2 _ _ hD
      have fin : (upd H2 D (HO.lst ((List.replicate i true).map V.bl ++ [V.bl true]))) D = some (.lst ((List.replicate (i + 1) true).map V.bl)) := by
        rw [upd_same, List.replicate_succ', List.map_append]; rfl
      have e3 : Same H (upd H2 D (HO.lst ((List.replicate i true).map V.bl ++ [V.bl true]))) := (e.trans e2).mut nD
      walk_at "tw"
      exact fin
    · rintro H' ⟨_, e, hD⟩
      walk_at "tw"
      rw [all_rep]
      exact k _ e
end
end Tw
end

section
set_option maxHeartbeats 4000000
/-! TwRules2: d.setdefault(t, x), t a tuple of numbers and texts -/
namespace Tw
open PySem PySem.Spec PyProof.Rows L2
section
variable {X : Cx} {pins : List (Addr × Obj)} {σ : L2.St} {H : Hp} {s : Shared} {a b : Addr} {r : Value} {d : V} {k : List Key} {A : Around} {E : Value → Shared → Prop}
theorem d_setT {kvs : List (List Key × V)} {Q : Value → Shared → Prop} (hu : A.units + 1 < cLine) (I : Inv X pins σ H s) (e : H a = some (.dT kvs)) (eb : H b = some (.tup (k.map kV))) (rd : RelV d r) (hl : kvs.length < sizeLine)
    (h1 : ∀ v, valV kvs k = some v → ∀ (w' : Value) (s' : Shared), Inv X pins σ H s' → RelV v w' → Q w' s') (h2 : valV kvs k = none → ∀ (w' : Value) (s' : Shared), Inv X pins σ (upd H a (.dT (putK kvs k d))) s' → RelV d w' → Q w' s') :
    wpAny (model X.prog X.w) A (call (.builtin "dict.setdefault") [.ref a, .ref b, r]) Q E s := by
  obtain ⟨z, hd, xs, rel, dd⟩ := dt_of I.hok e
  have hz : xs.length ≤ sizeLine := by
    rw [← rel.length]
    exact z
  refine call_setdefault_heap (hsz := hz) (tupleKind_room_in1 hu) (key_of I.hok eb) hd dd (fun p hp => ?_) fun hn h' dd' hs => ?_
  · have q := rel.val k
    rw [hp] at q
    cases q0 : valV kvs k with
    | none =>
      rw [q0] at q
      exact (show False from q).elim
    | some v0 =>
      rw [q0] at q
      exact h1 v0 q0 _ _ (I.tok _) q
  · have q := rel.val k
    rw [hn] at q
    cases q0 : valV kvs k with
    | some v0 =>
      rw [q0] at q
      exact (show False from q).elim
    | none =>
      have hl2 : (putK kvs k d).length ≤ sizeLine := by
        have := length_putK kvs k d
        omega
      obtain ⟨ob, es, ep, hq, g2, g3, g4, _, g5⟩ := dd'
      refine h2 q0 _ _ (d_write I (by rw [e]; exact True.intro) hs ⟨ob, hq⟩ ⟨hl2, hd, _, (rel.put k eb rd).keeps fun c ys ec => ?_, ob, es, ep, hq, g2, g3, g4, g5⟩) rd
      rw [upd_ne (ne_of ec e (fun z => nomatch z))]
      exact ec
end
theorem upd_idN {H : Hp} {a : Addr} {o : HO} (h : H a = some o) : upd H a o = H := by
  funext b
  unfold upd
  split
  · rename_i e; rw [e, h]
  · rfl
/-- d.setdefault(k, x), one way for both answers: r is what is handed back, kvs' what the dict holds behind -/
def tDSetN (td ty tx : TE) : TE := fun σ H Q => td σ H fun x H1 => ∃ a, x = .ref a ∧ IsD H1 a ∧ ty σ H1 fun y H2 => tx σ H2 fun z H3 => ∃ (kvs : List (Key × V)) (k : Key), H3 a = some (.dK kvs) ∧ y = kV k ∧ kvs.length < sizeLine ∧
  ∀ (r : V) (kvs' : List (Key × V)), (valV kvs k = some r ∧ kvs' = kvs) ∨ (r = z ∧ kvs' = putK kvs k z) → Q r (upd H3 a (.dK kvs'))
theorem pe_dsetdN {X : Cx} {o e f : Expr} {td ty tx : TE} {apos cpos : Pos} (ho : PE X o td) (he : PE X e ty) (hf : PE X f tx) (m : M2 X o "setdefault" apos e f cpos) : PE X (.Call (.Attribute o "setdefault" apos) [e, f] [] cpos) (tDSetN td ty tx) := by
  refine ⟨fun pins s σ H Q I h => ?_⟩
  refine wpAny_Call_method m.base m.few m.line PySem.F.plainAttrs_dict PySem.F.slot_dict_setdefault PySem.F.type_dict_setdefault (thn (ho.run pins s σ H _ I h) fun u s1 ⟨x, H1, I1, rx, a, ex, d, q1⟩ => ?_)
  subst ex
  obtain rfl : u = Value.ref a := rx
  obtain ⟨t1, t2, _⟩ := isD_at I1 d
  refine ⟨t1, t2, ?_⟩
  rw [m.trees]
  refine Calls.callWith_builtin rfl (Calls.evalArgs_plain (Calls.spliced_cons (thn (he.run pins s1 σ H1 _ I1 q1) fun iv s2 ⟨y, H2, I2, ry, q2⟩ =>
    Calls.spliced_cons (thn (hf.run pins s2 σ H2 _ I2 q2) fun fv s3 ⟨z, H3, I3, rz, kvs, k, ea, ey, hl, q3⟩ => Calls.spliced_nil ?_))))
  subst ey
  exact d_setd I3 ea ry rz hl (fun v hv w' s4 I4 rw' => ⟨v, _, I4, rw', by have := q3 v kvs (.inl ⟨hv, rfl⟩); rw [upd_idN ea] at this; exact this⟩) fun hn w' s4 I4 rw' => ⟨z, _, I4, rw', q3 z _ (.inr ⟨rfl, rfl⟩)⟩
def tDSetTN (td ty tx : TE) : TE := fun σ H Q => td σ H fun x H1 => ∃ a, x = .ref a ∧ IsD H1 a ∧ ty σ H1 fun y H2 => tx σ H2 fun z H3 => ∃ (kvs : List (List Key × V)) (k : List Key) (b : Addr), H3 a = some (.dT kvs) ∧ y = .ref b ∧ H3 b = some (.tup (k.map kV)) ∧ kvs.length < sizeLine ∧
  ∀ (r : V) (kvs' : List (List Key × V)), (valV kvs k = some r ∧ kvs' = kvs) ∨ (r = z ∧ kvs' = putK kvs k z) → Q r (upd H3 a (.dT kvs'))
theorem pe_dsetTN {X : Cx} {o e f : Expr} {td ty tx : TE} {apos cpos : Pos} (hu : X.A.units + 64 < cLine) (ho : PE X o td) (he : PE X e ty) (hf : PE X f tx) (m : M2 X o "setdefault" apos e f cpos) : PE X (.Call (.Attribute o "setdefault" apos) [e, f] [] cpos) (tDSetTN td ty tx) := by
  refine ⟨fun pins s σ H Q I h => ?_⟩
  refine wpAny_Call_method m.base m.few m.line PySem.F.plainAttrs_dict PySem.F.slot_dict_setdefault PySem.F.type_dict_setdefault (thn (ho.run pins s σ H _ I h) fun u s1 ⟨x, H1, I1, rx, a, ex, d, q1⟩ => ?_)
  subst ex
  obtain rfl : u = Value.ref a := rx
  obtain ⟨t1, t2, _⟩ := isD_at I1 d
  refine ⟨t1, t2, ?_⟩
  rw [m.trees]
  refine Calls.callWith_builtin rfl (Calls.evalArgs_plain (Calls.spliced_cons (thn (he.run pins s1 σ H1 _ I1 q1) fun iv s2 ⟨y, H2, I2, ry, q2⟩ =>
    Calls.spliced_cons (thn (hf.run pins s2 σ H2 _ I2 q2) fun fv s3 ⟨z, H3, I3, rz, kvs, k, b, ea, ey, eb, hl, q3⟩ => Calls.spliced_nil ?_))))
  subst ey
  cases (show iv = Value.ref b from ry)
  exact d_setT (by omega) I3 ea eb rz hl (fun v hv w' s4 I4 rw' => ⟨v, _, I4, rw', by have := q3 v kvs (.inl ⟨hv, rfl⟩); rw [upd_idN ea] at this; exact this⟩) fun hn w' s4 I4 rw' => ⟨z, _, I4, rw', q3 z _ (.inr ⟨rfl, rfl⟩)⟩
end Tw
end

section
set_option maxHeartbeats 4000000
namespace Tw
open PySem PySem.Spec PyProof.Rows L2
/-! the machine of the readings: "tw" goes on through what has one answer; it stops at a branch, a loop, a new object, what comes behind a call -/
local macro_rules | `(tactic| walk_at "tw look") => `(tactic| first
  | assumption
  | exact upd_same
  | (refine Same.new (by assumption) _ _ ?_; walk_at "tw look")
  | (refine upd_oth (by assumption) ?_; walk_at "tw look")
  | (refine upd_dif (by assumption) (by intro z; cases z) ?_; walk_at "tw look")
  | (refine upd_dif upd_same (by intro z; cases z) ?_; walk_at "tw look"))
local macro_rules | `(tactic| walk_at "tw seq") => `(tactic| first
  | assumption
  | exact SqL.of (by walk_at "tw look")
  | exact SqT.of (by walk_at "tw look")
  | exact .inl (SqL.of (by walk_at "tw look"))
  | exact .inr (SqT.of (by walk_at "tw look"))
  | exact .inl (by assumption)
  | exact dget_of (by walk_at "tw look") (by assumption)
  | exact DGet.k (k := Sum.inl _) (by walk_at "tw look")
  | exact DPut.k (k := Sum.inl _) (by walk_at "tw look") (by assumption)
  | exact .inl ⟨_, .inl (by walk_at "tw look")⟩
  | exact .inr ⟨_, .inl (by walk_at "tw look")⟩
  | exact ⟨_, SqL.of (by walk_at "tw look")⟩
  | exact ⟨_, SqT.of (by walk_at "tw look")⟩
  | exact ⟨_, by assumption⟩
  | exact .inl ⟨rfl, _, SqL.of (by walk_at "tw look")⟩)
local macro_rules | `(tactic| walk_at "tw atom") => `(tactic| first
  | with_reducible rfl
  | assumption
  | rfl
  | walk_at "tw look"
  | walk_at "tw seq"
  | omega
  | exact small (by simp; done)
  | exact smallt (by simp; done)
  | exact cdiv_of rfl
  | exact fun _ h => h
  | exact Int.natCast_pos.mpr (Nat.zero_lt_succ _)
  | exact cmul_r rfl
  | exact cmul_l rfl
  | exact Nat.le_of_ble_eq_true rfl)
local macro_rules | `(tactic| walk_at "tw step") => `(tactic| first | (with_reducible refine iteT ?_) | (with_reducible refine iteF ?_) | (with_reducible refine itf nott ?_) | (with_reducible refine itt notf ?_) | ((fail_if_success (refine ite2 (fun _ => ?_) (fun _ => ?_))); first
  | ((fail_if_success (refine (?_ : ∃ W : Nat → Nat → L2.St → Hp → Prop, _))); (fail_if_success (refine (?_ : ∃ W : Nat → Nat → Hp → Prop, _))); apply Exists.intro)
  | (apply And.intro; (walk_at "tw atom"))))
local macro_rules | `(tactic| walk_at "tw") => `(tactic| repeat walk_at "tw step")

section
variable {P : Program} {w : World} {K : PySem.W.Frag} {mg : Str → Option Value} {base : Heap}
def isRd (nm : Str) (L : Letter) : Bool := decide (L.kind = ("read" : Str)) && decide (L.nm = nm)
def readsAbout (Ls : List Letter) (nm : Str) : List Letter := Ls.filter (isRd nm)
/-- a bag of letters: a list at an address -/
def Bag (H : Hp) (a : Addr) (Ls : List Letter) : Prop := ∃ rs, H a = some (.lst rs) ∧ All2 (IsLetter H) rs Ls
theorem Bag.mono {H H' : Hp} {a : Addr} {Ls : List Letter} (h : Bag H a Ls) (e : Same H H') : Bag H' a Ls := by
  obtain ⟨rs, h1, h2⟩ := h
  exact ⟨rs, e _ _ h1, h2.mono fun _ _ z => z.mono e.tk⟩
def spReadsAbout : Sp := fun vs H Q _ => ∃ (ra : Addr) (nm : Str) (Ls : List Letter), vs = [.ref ra, .str nm] ∧ Bag H ra Ls ∧ Ls.length ≤ 10000 ∧
  ∀ a H', Same H H' → H a = none → Bag H' a (readsAbout Ls nm) → Q (.ref a) H'
theorem C_reads_about (T : Tx K mg) : Callee P w K mg base CX0 "reads_about" P_reads_about 1 spReadsAbout := by
  refine mk_reads_about T (k := 0) (fun vs H Q E h => ?_) (fun f cdv A outer s H vs Q E hr h => ?_)
  · obtain ⟨ra, nm, Ls, rfl, _⟩ := h
    rfl
  · obtain ⟨ra, nm, Ls, rfl, ⟨rs, hra, hrs⟩, lr, k⟩ := h
    refine ⟨_, ((pss_one (ps_ret (pe_lc (own := [("letter", 2)]) (g := gName 2) rfl sc_reads_about.nd (pi_list (pv 0)) (blkOk_by (N := N_reads_about) (sc := defScope s_reads_about) (by decide +kernel)) (fun _ _ _ _ _ => (pg_name (i := 2) sc_reads_about.nd rfl (by first | exact Or.inl rfl | exact Or.inr rfl))) (fun _ _ _ _ _ => pts_one (PW.pt (pw_and (pt_cmpR op_eq (pe_ix (ixT (K := K)) (pv 2) pe_int (fun _ _ => rfl)) pe_str (nomark _)) (pw_and1 (pt_cmpR op_eq (pe_ix (ixT (K := K)) (pv 2) pe_int (fun _ _ => rfl)) (pv 1) (nomark _)))))) (fun _ _ _ _ _ => (pv 2)))))), ?_⟩
    walk_at "tw"
    intro D nD
    refine lc_list (K := K) (a := ra) (xs := rs) (fun i H' => Same H H' ∧ ∃ acc, H' D = some (.lst acc) ∧ acc.length ≤ i ∧ All2 (IsLetter H) acc ((Ls.take i).filter (isRd nm)))
      ⟨Same.new nD, [], upd_same, Nat.le_refl _, All2.nil⟩ (fun i H' _ z => SqL.of (z.1 _ _ hra)) ?_ ?_
    · rintro i x H' hx ⟨e, acc, hD, hacc, hall⟩
      have hi : i < rs.length := (List.getElem?_eq_some_iff.mp hx).1
      obtain ⟨L, hL, ⟨la, rfl, hla⟩⟩ := hrs.get hx
      have hla' := e _ _ hla
      have hz : acc.length < sizeLine := smallt (by have := hrs.1; omega)
      rw [take_succ_get hL, List.filter_append]
      have no : isRd nm L = false → Same H H' ∧ ∃ acc, H' D = some (.lst acc) ∧ acc.length ≤ i + 1 ∧ All2 (IsLetter H) acc ((Ls.take i).filter (isRd nm) ++ [L].filter (isRd nm)) := fun hn => by
        refine ⟨e, acc, hD, Nat.le_succ_of_le hacc, ?_⟩
        rw [List.filter_cons_of_neg (by rw [hn]; exact Bool.false_ne_true), List.filter_nil, List.append_nil]
        exact hall
      walk_at "tw"
      refine ⟨items_0 L, ?_⟩
      walk_at "tw"
      refine ite2 (fun hc => ?_) (fun hc => ?_)
      · walk_at "tw"
        refine ⟨items_1 L, ?_⟩
        walk_at "tw"
        refine ite2 (fun hc2 => ?_) (fun hc2 => ?_)
        · have h1 : L.kind = "read" := V.str.inj (of_decide_eq_true hc)
          have h2 : L.nm = nm := V.str.inj (of_decide_eq_true hc2)
          walk_at "tw"
          refine ⟨e.mut nD, _, upd_same, by rw [List.length_append]; exact Nat.add_le_add hacc (Nat.le_refl 1), ?_⟩
          rw [List.filter_cons_of_pos (by unfold isRd; rw [decide_eq_true h1, decide_eq_true h2]; rfl), List.filter_nil]
          exact hall.snoc ⟨la, rfl, hla⟩
        · exact no (by unfold isRd; rw [Bool.and_eq_false_iff]; exact .inr (decide_eq_false fun z => hc2 (str_eq z)))
      · refine itf rfl ?_
        exact no (by unfold isRd; rw [Bool.and_eq_false_iff]; exact .inl (decide_eq_false fun z => hc (str_eq z)))
    · rintro H' ⟨e, acc, hD, hacc, hall⟩
      rw [List.take_of_length_le (by rw [hrs.1]; exact Nat.le_refl _)] at hall
      exact k _ _ e nD ⟨acc, hD, hall.mono fun _ _ z => z.mono e.tk⟩
/-! ### dicts by numbers -/
theorem keys_put {κ : Type} [DecidableEq κ] (kvs : List (κ × V)) (k : κ) (v : V) : ∀ p ∈ putK kvs k v, p = (k, v) ∨ (p ∈ kvs ∧ p.1 ≠ k) := by
  intro p hp
  unfold putK at hp
  split at hp
  · obtain ⟨q, hq, e⟩ := List.mem_map.mp hp
    split at e
    · rename_i z; left; rw [← e, z]
    · rename_i z; right; rw [← e]; exact ⟨hq, z⟩
  · rename_i z
    rcases List.mem_append.mp hp with h | h
    · right
      refine ⟨h, fun e => z ?_⟩
      rw [List.any_eq_true]
      exact ⟨p, h, decide_eq_true e⟩
    · left; exact List.mem_singleton.mp h
theorem map_put {κ : Type} [DecidableEq κ] (kvs : List (κ × V)) (k : κ) (v : V) : (putK kvs k v).map (·.1) = if k ∈ kvs.map (·.1) then kvs.map (·.1) else kvs.map (·.1) ++ [k] := by
  have ha : (kvs.any fun kv => decide (kv.1 = k)) = true ↔ k ∈ kvs.map (·.1) := by
    rw [List.any_eq_true, List.mem_map]
    constructor
    · rintro ⟨p, hp, e⟩; exact ⟨p, hp, of_decide_eq_true e⟩
    · rintro ⟨p, hp, e⟩; exact ⟨p, hp, decide_eq_true e⟩
  unfold putK
  by_cases h : k ∈ kvs.map (·.1)
  · rw [if_pos (ha.mpr h), if_pos h, List.map_map]
    refine List.map_congr_left fun p hp => ?_
    show (if p.1 = k then (p.1, v) else p).1 = p.1
    split <;> rfl
  · rw [if_neg (fun z => h (ha.mp z)), if_neg h, List.map_append]; rfl
theorem nodup_put {κ : Type} [DecidableEq κ] {kvs : List (κ × V)} {k : κ} {v : V} (h : (kvs.map (·.1)).Nodup) : ((putK kvs k v).map (·.1)).Nodup := by
  rw [map_put]
  split
  · exact h
  · rename_i z
    rw [List.nodup_append]
    refine ⟨h, by simp, fun a ha b hb e => ?_⟩
    rw [List.mem_singleton] at hb
    exact z (by rw [← hb, ← e]; exact ha)
theorem val_mem {κ : Type} [DecidableEq κ] {kvs : List (κ × V)} {k : κ} {v : V} (h : valV kvs k = some v) : (k, v) ∈ kvs := by
  unfold valV at h
  cases q : kvs.find? fun kv => decide (kv.1 = k) with
  | none => rw [q] at h; cases h
  | some p =>
    rw [q] at h
    have h1 := List.find?_some q
    have h2 := List.mem_of_find?_eq_some q
    have e : p.2 = v := Option.some.inj h
    have e1 : p.1 = k := of_decide_eq_true h1
    rw [← e, ← e1]
    exact h2
theorem val_none {κ : Type} [DecidableEq κ] {kvs : List (κ × V)} {k : κ} (h : valV kvs k = none) : k ∉ kvs.map (·.1) := by
  intro hk
  obtain ⟨p, hp, e⟩ := List.mem_map.mp hk
  unfold valV at h
  cases q : kvs.find? fun kv => decide (kv.1 = k) with
  | none =>
    have := List.find?_eq_none.mp q p hp
    exact this (decide_eq_true e)
  | some p => rw [q] at h; cases h
theorem val_some {κ : Type} [DecidableEq κ] {kvs : List (κ × V)} {k : κ} (h : k ∈ kvs.map (·.1)) : ∃ v, valV kvs k = some v := by
  cases q : valV kvs k with
  | none => exact absurd h (val_none q)
  | some v => exact ⟨v, rfl⟩
end
end Tw
end

section
set_option maxHeartbeats 4000000
namespace Tw
open PySem PySem.Spec PyProof.Rows L2
/-! the machine of the readings: "tw" goes on through what has one answer; it stops at a branch, a loop, a new object, what comes behind a call -/
local macro_rules | `(tactic| walk_at "tw look") => `(tactic| first
  | assumption
  | exact upd_same
  | (refine Same.new (by assumption) _ _ ?_; walk_at "tw look")
  | (refine upd_oth (by assumption) ?_; walk_at "tw look")
  | (refine upd_dif (by assumption) (by intro z; cases z) ?_; walk_at "tw look")
  | (refine upd_dif upd_same (by intro z; cases z) ?_; walk_at "tw look"))
local macro_rules | `(tactic| walk_at "tw seq") => `(tactic| first
  | assumption
  | exact SqL.of (by walk_at "tw look")
  | exact SqT.of (by walk_at "tw look")
  | exact .inl (SqL.of (by walk_at "tw look"))
  | exact .inr (SqT.of (by walk_at "tw look"))
  | exact .inl (by assumption)
  | exact dget_of (by walk_at "tw look") (by assumption)
  | exact DGet.k (k := Sum.inl _) (by walk_at "tw look")
  | exact DPut.k (k := Sum.inl _) (by walk_at "tw look") (by assumption)
  | exact .inl ⟨_, .inl (by walk_at "tw look")⟩
  | exact .inr ⟨_, .inl (by walk_at "tw look")⟩
  | exact ⟨_, SqL.of (by walk_at "tw look")⟩
  | exact ⟨_, SqT.of (by walk_at "tw look")⟩
  | exact ⟨_, by assumption⟩
  | exact .inl ⟨rfl, _, SqL.of (by walk_at "tw look")⟩)
local macro_rules | `(tactic| walk_at "tw atom") => `(tactic| first
  | with_reducible rfl
  | assumption
  | rfl
  | walk_at "tw look"
  | walk_at "tw seq"
  | omega
  | exact small (by simp; done)
  | exact smallt (by simp; done)
  | exact cdiv_of rfl
  | exact fun _ h => h
  | exact Int.natCast_pos.mpr (Nat.zero_lt_succ _)
  | exact cmul_r rfl
  | exact cmul_l rfl
  | exact Nat.le_of_ble_eq_true rfl)
local macro_rules | `(tactic| walk_at "tw step") => `(tactic| first | (with_reducible refine iteT ?_) | (with_reducible refine iteF ?_) | (with_reducible refine itf nott ?_) | (with_reducible refine itt notf ?_) | ((fail_if_success (refine ite2 (fun _ => ?_) (fun _ => ?_))); first
  | ((fail_if_success (refine (?_ : ∃ W : Nat → Nat → L2.St → Hp → Prop, _))); (fail_if_success (refine (?_ : ∃ W : Nat → Nat → Hp → Prop, _))); apply Exists.intro)
  | (apply And.intro; (walk_at "tw atom"))))
local macro_rules | `(tactic| walk_at "tw") => `(tactic| repeat walk_at "tw step")

section
variable {P : Program} {w : World} {K : PySem.W.Frag} {mg : Str → Option Value} {base : Heap}
/-- the dict of received slots: each entry is told by a letter -/
structure RcvD (H : Hp) (Ls : List Letter) (nm : Str) (kvs : List (Key × V)) : Prop where
  nd : (kvs.map (·.1)).Nodup
  ent : ∀ p ∈ kvs, ∃ (s v : Nat) (st : Int) (x : Option Int) (a : Addr), p = (Sum.inl (s : Int), V.ref a) ∧ H a = some (.tup [.int v, .int st, ov x]) ∧ Letter.read nm s v st x ∈ Ls
theorem RcvD.mono {H H' : Hp} {Ls : List Letter} {nm : Str} {kvs : List (Key × V)} (h : RcvD H Ls nm kvs) (e : TKeep H H') : RcvD H' Ls nm kvs :=
  ⟨h.nd, fun p hp => by
    obtain ⟨s, v, st, x, a, h1, h2, h3⟩ := h.ent p hp
    exact ⟨s, v, st, x, a, h1, e _ _ h2, h3⟩⟩
theorem mem_reads {Ls : List Letter} {nm : Str} {L : Letter} (h : L ∈ readsAbout Ls nm) : L ∈ Ls ∧ ∃ s v st x, L = .read nm s v st x := by
  obtain ⟨h1, h2⟩ := List.mem_filter.mp h
  unfold isRd at h2
  rw [Bool.and_eq_true] at h2
  have h3 := of_decide_eq_true h2.1
  have h4 := of_decide_eq_true h2.2
  refine ⟨h1, ?_⟩
  cases L with
  | read n s v st x => exact ⟨s, v, st, x, by rw [← h4]; rfl⟩
  | close n k st ve => exact absurd h3.symm rc_ne
  | clock n lo hi => exact absurd h3.symm rk_ne
theorem put_len (kvs : List (Key × V)) (k : Key) (v : V) : (putK kvs k v).length ≤ kvs.length + 1 := length_putK kvs k v
def spReceivedOf : Sp := fun vs H Q _ => ∃ (ra : Addr) (nm : Str) (Ls : List Letter), vs = [.ref ra, .str nm] ∧ Bag H ra Ls ∧ Ls.length ≤ 10000 ∧
  ∀ d H' kvs, Same H H' → H d = none → H' d = some (.dK kvs) → RcvD H' Ls nm kvs → Q (.ref d) H'
theorem C_received_of (T : Tx K mg) : Callee P w K mg base CX0 "received_of" P_received_of 2 spReceivedOf := by
  refine mk_received_of T (k := 1) (fun vs H Q E h => ?_) (fun f cdv A outer s H vs Q E hr h => ?_)
  · obtain ⟨ra, nm, Ls, rfl, _⟩ := h
    rfl
  · obtain ⟨ra, nm, Ls, rfl, bag, lr, k⟩ := h
    refine ⟨_, ((pss_cons (ps_set (i := 2) sc_received_of.nd rfl (by first | exact Or.inl rfl | exact Or.inr rfl) pe_dnewK)
    (pss_cons (ps_for PassesOwn.never rfl (pi_list (pe_cl (C_reads_about T) (hr.mono (by decide)) pass0 (pa_cons (pv 0) (pa_cons (pv 1) pa_nil)))) (pg_tup rfl (pgs_cons (pg_name (i := 3) sc_received_of.nd rfl (by first | exact Or.inl rfl | exact Or.inr rfl)) (pgs_cons (pg_name (i := 4) sc_received_of.nd rfl (by first | exact Or.inl rfl | exact Or.inr rfl)) (pgs_cons (pg_name (i := 5) sc_received_of.nd rfl (by first | exact Or.inl rfl | exact Or.inr rfl)) (pgs_cons (pg_name (i := 6) sc_received_of.nd rfl (by first | exact Or.inl rfl | exact Or.inr rfl)) (pgs_cons (pg_name (i := 7) sc_received_of.nd rfl (by first | exact Or.inl rfl | exact Or.inr rfl)) (pgs_cons (pg_name (i := 8) sc_received_of.nd rfl (by first | exact Or.inl rfl | exact Or.inr rfl)) pgs_nil)))))))
    (pss_one (ps_if (PW.pt (pw_or (pt_cmp (pc_dnotin (hu_of hr) (pv 5) (pv 2))) (pw_or1 (pt_cmpR op_lt (pe_ix (ixT (K := K)) (pe_dget (hu_of hr) (pv 2) (pv 5) (fun _ _ => rfl)) pe_int (fun _ _ => rfl)) (pv 6) (nomark _)))))
    (pss_one (ps_dput (hu_of hr) (pv 2) (pv 5) (pe_tup (pa_cons (pv 6) (pa_cons (pv 7) (pa_cons (pv 8) pa_nil)))) rfl))
    pss_nil)))
    (pss_one (ps_ret (pv 2)))))), ?_⟩
    walk_at "tw"
    intro fd nfd
    have bag0 : Bag (upd H fd (.dK [])) ra Ls := bag.mono (Same.new nfd)
    walk_at "tw"
    intro a H1 e1 na ⟨rs, ha, hrs⟩
    have e01 : Same H H1 := (Same.new nfd).trans e1
    have hfd1 : H1 fd = some (.dK []) := e1 _ _ upd_same
    have hl1 : rs.length ≤ 10000 := by rw [hrs.1]; exact Nat.le_trans (List.length_filter_le _ _) lr
    walk_at "tw"
    refine for_list (K := K) (a := a) (xs := rs) (fun i σ H' => (∃ x1 x2 x3 x4 x5 x6, σ = [some (.ref ra), some (.str nm), some (.ref fd), x1, x2, x3, x4, x5, x6]) ∧ Same H H' ∧ H' a = some (.lst rs) ∧ All2 (IsLetter H') rs (readsAbout Ls nm) ∧ ∃ kvs, H' fd = some (.dK kvs) ∧ kvs.length ≤ i ∧ RcvD H' Ls nm kvs)
      ⟨⟨_, _, _, _, _, _, rfl⟩, e01, ha, hrs, [], hfd1, Nat.le_refl _, ⟨List.nodup_nil, fun p hp => by cases hp⟩⟩ (fun i σ H' _ z => SqL.of z.2.2.1) ?_ ?_
    · rintro i x σ H' hx ⟨⟨x1, x2, x3, x4, x5, x6, rfl⟩, e, ha', hrs', kvs, hfd, hk, R⟩
      have hi : i < rs.length := (List.getElem?_eq_some_iff.mp hx).1
      obtain ⟨L, hL, ⟨la, rfl, hla⟩⟩ := hrs'.get hx
      obtain ⟨hLm, s, v, st, y, rfl⟩ := mem_reads (List.mem_of_getElem? hL)
      have hz : kvs.length < sizeLine := smallt (by omega)
      -- what is done where the entry is written
      have wr : ∀ p, H' p = none → ∀ H2, H2 = upd (upd H' p (.tup [.int v, .int st, ov y])) fd (.dK (putK kvs (Sum.inl (s : Int)) (.ref p))) →
          Same H H2 ∧ H2 a = some (.lst rs) ∧ All2 (IsLetter H2) rs (readsAbout Ls nm) ∧ ∃ kvs, H2 fd = some (.dK kvs) ∧ kvs.length ≤ i + 1 ∧ RcvD H2 Ls nm kvs := by
        rintro p np H2 rfl
        have hfd' : (upd H' p (.tup [.int v, .int st, ov y])) fd = some (.dK kvs) := Same.new np _ _ hfd
        have tk : TKeep H' (upd (upd H' p (.tup [.int v, .int st, ov y])) fd (.dK (putK kvs (Sum.inl (s : Int)) (.ref p)))) := (Same.new np).tk.trans (TKeep.upd hfd' fun xs z => by cases z)
        have hp2 : (upd (upd H' p (.tup [.int v, .int st, ov y])) fd (.dK (putK kvs (Sum.inl (s : Int)) (.ref p)))) p = some (.tup [.int v, .int st, ov y]) := upd_dif hfd' (by intro z; cases z) upd_same
        refine ⟨(e.up np).mut nfd, upd_dif hfd' (by intro z; cases z) (Same.new np _ _ ha'), hrs'.mono fun _ _ z => z.mono tk, _, upd_same, Nat.le_trans (put_len _ _ _) (Nat.succ_le_succ hk), nodup_put R.nd, fun q hq => ?_⟩
        rcases keys_put _ _ _ q hq with rfl | ⟨h1, _⟩
        · exact ⟨s, v, st, y, p, rfl, hp2, hLm⟩
        · exact (R.mono tk).ent q h1
      walk_at "tw"
      cases q : valV kvs (Sum.inl (s : Int)) with
      | none =>
        refine itt rfl ?_
        walk_at "tw"
        intro p np
        walk_at "tw"
        exact ⟨⟨_, _, _, _, _, _, rfl⟩, wr p np _ rfl⟩
      | some u =>
        obtain ⟨s', v', st', y', a', h1, h2, h3⟩ := R.ent _ (val_mem q)
        obtain ⟨h4, rfl⟩ := Prod.mk.inj h1
        refine itf rfl ?_
        walk_at "tw"
        refine ite2 (fun hc => ?_) (fun hc => ?_)
        · walk_at "tw"
          intro p np
          walk_at "tw"
          exact ⟨⟨_, _, _, _, _, _, rfl⟩, wr p np _ rfl⟩
        · exact ⟨⟨_, _, _, _, _, _, rfl⟩, e, ha', hrs', kvs, hfd, Nat.le_succ_of_le hk, R⟩
    · rintro σ H' ⟨⟨x1, x2, x3, x4, x5, x6, rfl⟩, e, ha', hrs', kvs, hfd, hk, R⟩
      walk_at "tw"
      exact k _ _ kvs e nfd hfd R
end
end Tw
end

section
set_option maxHeartbeats 4000000
namespace Tw
open PySem PySem.Spec PyProof.Rows L2
/-! the machine of the readings: "tw" goes on through what has one answer; it stops at a branch, a loop, a new object, what comes behind a call -/
local macro_rules | `(tactic| walk_at "tw look") => `(tactic| first
  | assumption
  | exact upd_same
  | (refine Same.new (by assumption) _ _ ?_; walk_at "tw look")
  | (refine upd_oth (by assumption) ?_; walk_at "tw look")
  | (refine upd_dif (by assumption) (by intro z; cases z) ?_; walk_at "tw look")
  | (refine upd_dif upd_same (by intro z; cases z) ?_; walk_at "tw look"))
local macro_rules | `(tactic| walk_at "tw seq") => `(tactic| first
  | assumption
  | exact SqL.of (by walk_at "tw look")
  | exact SqT.of (by walk_at "tw look")
  | exact .inl (SqL.of (by walk_at "tw look"))
  | exact .inr (SqT.of (by walk_at "tw look"))
  | exact .inl (by assumption)
  | exact dget_of (by walk_at "tw look") (by assumption)
  | exact DGet.k (k := Sum.inl _) (by walk_at "tw look")
  | exact DPut.k (k := Sum.inl _) (by walk_at "tw look") (by assumption)
  | exact .inl ⟨_, .inl (by walk_at "tw look")⟩
  | exact .inr ⟨_, .inl (by walk_at "tw look")⟩
  | exact ⟨_, SqL.of (by walk_at "tw look")⟩
  | exact ⟨_, SqT.of (by walk_at "tw look")⟩
  | exact ⟨_, by assumption⟩
  | exact .inl ⟨rfl, _, SqL.of (by walk_at "tw look")⟩)
local macro_rules | `(tactic| walk_at "tw atom") => `(tactic| first
  | with_reducible rfl
  | assumption
  | rfl
  | walk_at "tw look"
  | walk_at "tw seq"
  | omega
  | exact small (by simp; done)
  | exact smallt (by simp; done)
  | exact cdiv_of rfl
  | exact fun _ h => h
  | exact Int.natCast_pos.mpr (Nat.zero_lt_succ _)
  | exact cmul_r rfl
  | exact cmul_l rfl
  | exact Nat.le_of_ble_eq_true rfl)
local macro_rules | `(tactic| walk_at "tw step") => `(tactic| first | (with_reducible refine iteT ?_) | (with_reducible refine iteF ?_) | (with_reducible refine itf nott ?_) | (with_reducible refine itt notf ?_) | ((fail_if_success (refine ite2 (fun _ => ?_) (fun _ => ?_))); first
  | ((fail_if_success (refine (?_ : ∃ W : Nat → Nat → L2.St → Hp → Prop, _))); (fail_if_success (refine (?_ : ∃ W : Nat → Nat → Hp → Prop, _))); apply Exists.intro)
  | (apply And.intro; (walk_at "tw atom"))))
local macro_rules | `(tactic| walk_at "tw") => `(tactic| repeat walk_at "tw step")

section
variable {P : Program} {w : World} {K : PySem.W.Frag} {mg : Str → Option Value} {base : Heap}
/-- the dict of closes: numbers and stamps that letters tell -/
structure ClsD (H : Hp) (Ls : List Letter) (nm : Str) (kvs : List (Key × V)) : Prop where
  nd : (kvs.map (·.1)).Nodup
  ent : ∀ p ∈ kvs, ∃ (n : Nat) (c f : Int) (ve : Nat) (a : Addr), p = (Sum.inl (n : Int), V.ref a) ∧ H a = some (.tup [.int c, .int f, .int ve]) ∧ (∃ u, Letter.close nm n c u ∈ Ls) ∧ (∃ u, Letter.close nm n f u ∈ Ls) ∧ ∃ t, Letter.close nm n t ve ∈ Ls
def ClsAll (Ls : List Letter) (nm : Str) (kvs : List (Key × V)) : Prop := ∀ n st ve, Letter.close nm n st ve ∈ Ls → Sum.inl (n : Int) ∈ kvs.map (·.1)
theorem ClsD.mono {H H' : Hp} {Ls : List Letter} {nm : Str} {kvs : List (Key × V)} (h : ClsD H Ls nm kvs) (e : TKeep H H') : ClsD H' Ls nm kvs :=
  ⟨h.nd, fun p hp => by
    obtain ⟨n, c, f, ve, a, h1, h2, h3⟩ := h.ent p hp
    exact ⟨n, c, f, ve, a, h1, e _ _ h2, h3⟩⟩
theorem mem_put {κ : Type} [DecidableEq κ] {kvs : List (κ × V)} {k j : κ} {v : V} (h : j ∈ kvs.map (·.1)) : j ∈ (putK kvs k v).map (·.1) := by
  rw [map_put]
  split
  · exact h
  · exact List.mem_append_left _ h
theorem self_put {κ : Type} [DecidableEq κ] {kvs : List (κ × V)} {k : κ} {v : V} : k ∈ (putK kvs k v).map (·.1) := by
  rw [map_put]
  split
  · assumption
  · exact List.mem_append_right _ (List.mem_singleton.mpr rfl)
def spClosesOf : Sp := fun vs H Q _ => ∃ (ra : Addr) (nm : Str) (Ls : List Letter), vs = [.ref ra, .str nm] ∧ Bag H ra Ls ∧ Ls.length ≤ 10000 ∧
  ∀ d H' kvs, Same H H' → H d = none → H' d = some (.dK kvs) → ClsD H' Ls nm kvs → ClsAll Ls nm kvs → Q (.ref d) H'
theorem C_closes_of (T : Tx K mg) : Callee P w K mg base CX0 "closes_of" P_closes_of 1 spClosesOf := by
  refine mk_closes_of T (k := 0) (fun vs H Q E h => ?_) (fun f cdv A outer s H vs Q E hr h => ?_)
  · obtain ⟨ra, nm, Ls, rfl, _⟩ := h
    rfl
  · obtain ⟨ra, nm, Ls, rfl, ⟨rs, hra, hrs⟩, lr, k⟩ := h
    have hlen := hrs.1
    refine ⟨_, ((pss_cons (ps_set (i := 2) sc_closes_of.nd rfl (by first | exact Or.inl rfl | exact Or.inr rfl) pe_dnewK)
    (pss_cons (ps_for PassesOwn.never rfl (pi_list (pv 0)) (pg_name (i := 3) sc_closes_of.nd rfl (by first | exact Or.inl rfl | exact Or.inr rfl))
    (pss_one (ps_if (PW.pt (pw_and (pt_cmpR op_eq (pe_ix (ixT (K := K)) (pv 3) pe_int (fun _ _ => rfl)) pe_str (nomark _)) (pw_and1 (pt_cmpR op_eq (pe_ix (ixT (K := K)) (pv 3) pe_int (fun _ _ => rfl)) (pv 1) (nomark _)))))
    (pss_cons (ps_asg (pe_dget2 (hu_of hr) (pv 2) (pe_ix (ixT (K := K)) (pv 3) pe_int (fun _ _ => rfl)) (pe_tup (pa_cons (pe_ix (ixT (K := K)) (pv 3) pe_int (fun _ _ => rfl)) (pa_cons (pe_ix (ixT (K := K)) (pv 3) pe_int (fun _ _ => rfl)) (pa_cons (pe_ix (ixT (K := K)) (pv 3) pe_int (fun _ _ => rfl)) pa_nil)))) ⟨rfl, rfl, rfl, rfl⟩) (pg_tup rfl (pgs_cons (pg_name (i := 4) sc_closes_of.nd rfl (by first | exact Or.inl rfl | exact Or.inr rfl)) (pgs_cons (pg_name (i := 5) sc_closes_of.nd rfl (by first | exact Or.inl rfl | exact Or.inr rfl)) (pgs_cons (pg_name (i := 6) sc_closes_of.nd rfl (by first | exact Or.inl rfl | exact Or.inr rfl)) pgs_nil)))))
    (pss_one (ps_dput (hu_of hr) (pv 2) (pe_ix (ixT (K := K)) (pv 3) pe_int (fun _ _ => rfl)) (pe_tup (pa_cons (pe_callB (call_min2 rfl) (by rfl) T.f_min PyProof.Rows.boot_min (pa_cons (pv 4) (pa_cons (pe_ix (ixT (K := K)) (pv 3) pe_int (fun _ _ => rfl)) pa_nil))) (pa_cons (pe_callB (call_max2 rfl) (by rfl) T.f_max PyProof.Rows.boot_max (pa_cons (pv 5) (pa_cons (pe_ix (ixT (K := K)) (pv 3) pe_int (fun _ _ => rfl)) pa_nil))) (pa_cons (pv 6) pa_nil)))) rfl)))
    pss_nil)))
    (pss_one (ps_ret (pv 2)))))), ?_⟩
    walk_at "tw"
    intro fd nfd
    have hra1 : (upd H fd (.dK [])) ra = some (.lst rs) := Same.new nfd _ _ hra
    walk_at "tw"
    refine for_list (K := K) (a := ra) (xs := rs) (fun i σ H' => (∃ x1 x2 x3 x4, σ = [some (.ref ra), some (.str nm), some (.ref fd), x1, x2, x3, x4]) ∧ Same H H' ∧ ∃ kvs, H' fd = some (.dK kvs) ∧ kvs.length ≤ i ∧ ClsD H' Ls nm kvs ∧ ClsAll (Ls.take i) nm kvs)
      ⟨⟨_, _, _, _, rfl⟩, Same.new nfd, [], upd_same, Nat.le_refl _, ⟨List.nodup_nil, fun p hp => by cases hp⟩, fun n st ve h => by cases h⟩ (fun i σ H' _ z => SqL.of (z.2.1 _ _ hra)) ?_ ?_
    · rintro i x σ H' hx ⟨⟨x1, x2, x3, x4, rfl⟩, e, kvs, hfd, hk, R, RA⟩
      have hi : i < rs.length := (List.getElem?_eq_some_iff.mp hx).1
      obtain ⟨L, hL, ⟨la, rfl, hla⟩⟩ := hrs.get hx
      have hLm := List.mem_of_getElem? hL
      have hla' := e _ _ hla
      have hz : kvs.length < sizeLine := smallt (by omega)
      have skip : (∀ n st ve, L ≠ .close nm n st ve) → ∃ kvs, H' fd = some (.dK kvs) ∧ kvs.length ≤ i + 1 ∧ ClsD H' Ls nm kvs ∧ ClsAll (Ls.take (i + 1)) nm kvs := fun hn => by
        refine ⟨kvs, hfd, Nat.le_succ_of_le hk, R, fun n st ve hm => ?_⟩
        rw [take_succ_get hL] at hm
        rcases List.mem_append.mp hm with z | z
        · exact RA n st ve z
        · exact absurd (List.mem_singleton.mp z).symm (hn n st ve)
      -- what is done where the entry is written
      have wr : ∀ (n : Nat) (st : Int) (ve : Nat) (c f : Int) (v2 : Nat) (H1 : Hp) (p : Addr), L = .close nm n st ve → Same H' H1 → H1 fd = some (.dK kvs) → H1 p = none → (∃ u, Letter.close nm n c u ∈ Ls) → (∃ u, Letter.close nm n f u ∈ Ls) → (∃ t, Letter.close nm n t v2 ∈ Ls) →
          ∀ H2, H2 = upd (upd H1 p (.tup [.int (if st < c then st else c), .int (if st > f then st else f), .int v2])) fd (.dK (putK kvs (Sum.inl (n : Int)) (.ref p))) →
          Same H H2 ∧ ∃ kvs, H2 fd = some (.dK kvs) ∧ kvs.length ≤ i + 1 ∧ ClsD H2 Ls nm kvs ∧ ClsAll (Ls.take (i + 1)) nm kvs := by
        rintro n st ve c f v2 H1 p rfl e1 hfd1 np h1 h2 h3 H2 rfl
        have hfd' : (upd H1 p (.tup [.int (if st < c then st else c), .int (if st > f then st else f), .int v2])) fd = some (.dK kvs) := Same.new np _ _ hfd1
        have tk : TKeep H1 (upd (upd H1 p (.tup [.int (if st < c then st else c), .int (if st > f then st else f), .int v2])) fd (.dK (putK kvs (Sum.inl (n : Int)) (.ref p)))) := (Same.new np).tk.trans (TKeep.upd hfd' fun xs z => by cases z)
        refine ⟨((e.trans e1).up np).mut nfd, _, upd_same, Nat.le_trans (put_len _ _ _) (Nat.succ_le_succ hk), ⟨nodup_put R.nd, fun q hq => ?_⟩, fun m st' ve' hm => ?_⟩
        · rcases keys_put _ _ _ q hq with rfl | ⟨g1, _⟩
          · refine ⟨n, _, _, v2, p, rfl, upd_dif hfd' (by intro z; cases z) upd_same, ?_, ?_, h3⟩
            · split
              · exact ⟨ve, hLm⟩
              · exact h1
            · split
              · exact ⟨ve, hLm⟩
              · exact h2
          · exact ((R.mono e1.tk).mono tk).ent q g1
        · rw [take_succ_get hL] at hm
          rcases List.mem_append.mp hm with z | z
          · exact mem_put (RA m st' ve' z)
          · have := List.mem_singleton.mp z
            injection this with _ g
            rw [g]
            exact self_put
      cases L with
      | read nm' s v st y =>
        walk_at "tw"
        refine itf (str_ne rc_ne) ?_
        walk_at "tw"
        exact ⟨⟨_, _, _, _, rfl⟩, e, skip fun n st ve z => by cases z⟩
      | clock nm' lo hi =>
        walk_at "tw"
        refine itf (str_ne fun z => ck_ne z.symm) ?_
        walk_at "tw"
        exact ⟨⟨_, _, _, _, rfl⟩, e, skip fun n st ve z => by cases z⟩
      | close nm' n st ve =>
        walk_at "tw"
        refine itt (str_eq rfl) ?_
        walk_at "tw"
        refine ite2 (fun hc => ?_) (fun hc => ?_)
        · obtain rfl : nm' = nm := V.str.inj (of_decide_eq_true hc)
          walk_at "tw"
          intro p0 np0
          have e0 : Same H' (upd H' p0 (.tup [.int st, .int st, .int ve])) := Same.new np0
          have hfd0 := e0 _ _ hfd
          have hla0 := e0 _ _ hla'
          cases q : valV kvs (Sum.inl (n : Int)) with
          | none =>
            have dg : DGet (upd H' p0 (.tup [.int st, .int st, .int ve])) fd (.int (n : Nat)) none := .inl ⟨kvs, Sum.inl (n : Int), .inl hfd0, rfl, q.symm⟩
            refine ⟨_, dg, ?_⟩
            walk_at "tw"
            intro p np
            walk_at "tw"
            exact ⟨⟨_, _, _, _, rfl⟩, wr n st ve st st ve _ p rfl e0 hfd0 np ⟨ve, hLm⟩ ⟨ve, hLm⟩ ⟨st, hLm⟩ _ rfl⟩
          | some u =>
            obtain ⟨n', c, f, v2, a', g1, g2, g3, g4, g5⟩ := R.ent _ (val_mem q)
            obtain ⟨g6, rfl⟩ := Prod.mk.inj g1
            have g7 : n' = n := by injection g6 with z; omega
            subst g7
            have g20 := e0 _ _ g2
            refine ⟨_, dget_of hfd0 q, ?_⟩
            walk_at "tw"
            intro p np
            walk_at "tw"
            exact ⟨⟨_, _, _, _, rfl⟩, wr n' st ve c f v2 _ p rfl e0 hfd0 np g3 g4 g5 _ rfl⟩
        · have hn : nm' ≠ nm := fun z => hc (str_eq z)
          exact ⟨⟨_, _, _, _, rfl⟩, e, skip fun n st ve z => by injection z with z; exact hn z⟩
    · rintro σ H' ⟨⟨x1, x2, x3, x4, rfl⟩, e, kvs, hfd, hk, R, RA⟩
      rw [List.take_of_length_le (by rw [hlen]; exact Nat.le_refl _)] at RA
      walk_at "tw"
      exact k _ _ kvs e nfd hfd R RA
/-- (low, high) around the offset -/
def spOffsetsOf : Sp := fun vs H Q _ => ∃ (p : V) (ra : Addr) (nm : Str) (len : Int) (ms : List Meter) (m : Meter) (Ls : List Letter) (off : Int), vs = [p, .ref ra, .str nm] ∧ IsPlan H p len ms ∧ (ms.map (·.name)).Nodup ∧ m ∈ ms ∧ m.name = nm ∧ ms.length ≤ 1000 ∧
  Bag H ra Ls ∧ Ls.length ≤ 10000 ∧ -m.err ≤ off ∧ off ≤ m.err ∧ (∀ lo hi, Letter.clock nm lo hi ∈ Ls → lo ≤ off ∧ off ≤ hi) ∧
  ∀ c lo hi H', Same H H' → H' c = some (.tup [.int lo, .int hi]) → lo ≤ hi → Q (.ref c) H'
theorem C_offsets_of (T : Tx K mg) : Callee P w K mg base CX0 "offsets_of" P_offsets_of 2 spOffsetsOf := by
  refine mk_offsets_of T (k := 1) (fun vs H Q E h => ?_) (fun f cdv A outer s H vs Q E hr h => ?_)
  · obtain ⟨p, ra, nm, len, ms, m, Ls, off, rfl, _⟩ := h
    rfl
  · obtain ⟨p, ra, nm, len, ms, m, Ls, off, rfl, hp, nd, hm, en, few, ⟨rs, hra, hrs⟩, lr, b1, b2, tr, k⟩ := h
    refine ⟨_, ((pss_cons (ps_set (i := 3) sc_offsets_of.nd rfl (by first | exact Or.inl rfl | exact Or.inr rfl) (pe_ix (ixT (K := K)) (pe_cl (C_meter_of T) (hr.mono (by decide)) pass0 (pa_cons (pv 0) (pa_cons (pv 2) pa_nil))) pe_int (fun _ _ => rfl)))
    (pss_cons (ps_set (i := 4) sc_offsets_of.nd rfl (by first | exact Or.inl rfl | exact Or.inr rfl) (pe_un un_neg (pv 3)))
    (pss_cons (ps_set (i := 5) sc_offsets_of.nd rfl (by first | exact Or.inl rfl | exact Or.inr rfl) (pv 3))
    (pss_cons (ps_for PassesOwn.never rfl (pi_list (pv 1)) (pg_name (i := 6) sc_offsets_of.nd rfl (by first | exact Or.inl rfl | exact Or.inr rfl))
    (pss_one (ps_if (PW.pt (pw_and (pt_cmpR op_eq (pe_ix (ixT (K := K)) (pv 6) pe_int (fun _ _ => rfl)) pe_str (nomark _)) (pw_and1 (pt_cmpR op_eq (pe_ix (ixT (K := K)) (pv 6) pe_int (fun _ _ => rfl)) (pv 2) (nomark _)))))
    (pss_cons (ps_set (i := 4) sc_offsets_of.nd rfl (by first | exact Or.inl rfl | exact Or.inr rfl) (pe_callB (call_max2 rfl) (by rfl) T.f_max PyProof.Rows.boot_max (pa_cons (pv 4) (pa_cons (pe_ix (ixT (K := K)) (pv 6) pe_int (fun _ _ => rfl)) pa_nil))))
    (pss_one (ps_set (i := 5) sc_offsets_of.nd rfl (by first | exact Or.inl rfl | exact Or.inr rfl) (pe_callB (call_min2 rfl) (by rfl) T.f_min PyProof.Rows.boot_min (pa_cons (pv 5) (pa_cons (pe_ix (ixT (K := K)) (pv 6) pe_int (fun _ _ => rfl)) pa_nil))))))
    pss_nil)))
    (pss_one (ps_ret (pe_tup (pa_cons (pv 4) (pa_cons (pv 5) pa_nil)))))))))), ?_⟩
    walk_at "tw"
    intro mv H1 e1 ⟨ma, emv, hma⟩
    subst emv
    have hma1 := e1 _ _ hma
    have hra1 := e1 _ _ hra
    walk_at "tw"
    refine for_list (K := K) (a := ra) (xs := rs) (fun i σ H' => (∃ x1 lo hi, σ = [some p, some (.ref ra), some (.str nm), some (.int m.err), some (.int lo), some (.int hi), x1] ∧ lo ≤ off ∧ off ≤ hi) ∧ Same H H')
      ⟨⟨_, _, _, rfl, b1, b2⟩, e1⟩ (fun i σ H' _ z => SqL.of (z.2 _ _ hra)) ?_ ?_
    · rintro i x σ H' hx ⟨⟨x1, lo, hi, rfl, g1, g2⟩, e⟩
      obtain ⟨L, hL, ⟨la, rfl, hla⟩⟩ := hrs.get hx
      have hLm := List.mem_of_getElem? hL
      have hla' := e _ _ hla
      cases L with
      | read nm' s v st y =>
        walk_at "tw"
        refine itf (str_ne rk_ne) ?_
        walk_at "tw"
        exact ⟨⟨_, _, _, rfl, g1, g2⟩, e⟩
      | close nm' n st ve =>
        walk_at "tw"
        refine itf (str_ne ck_ne) ?_
        walk_at "tw"
        exact ⟨⟨_, _, _, rfl, g1, g2⟩, e⟩
      | clock nm' a b =>
        walk_at "tw"
        refine itt (str_eq rfl) ?_
        walk_at "tw"
        refine ite2 (fun hc => ?_) (fun hc => ?_)
        · obtain rfl : nm' = nm := V.str.inj (of_decide_eq_true hc)
          obtain ⟨t1, t2⟩ := tr a b hLm
          walk_at "tw"
          refine ⟨⟨_, _, _, rfl, ?_, ?_⟩, e⟩
          · split <;> omega
          · split <;> omega
        · exact ⟨⟨_, _, _, rfl, g1, g2⟩, e⟩
    · rintro σ H' ⟨⟨x1, lo, hi, rfl, g1, g2⟩, e⟩
      walk_at "tw"
      intro c nc
      exact k c lo hi _ (e.up nc) upd_same (by omega)
end
end Tw
end

section
set_option maxHeartbeats 4000000
namespace Tw
open PySem PySem.Spec PyProof.Rows L2
/-! the machine of the readings: "tw" goes on through what has one answer; it stops at a branch, a loop, a new object, what comes behind a call -/
local macro_rules | `(tactic| walk_at "tw look") => `(tactic| first
  | assumption
  | exact upd_same
  | (refine Same.new (by assumption) _ _ ?_; walk_at "tw look")
  | (refine upd_oth (by assumption) ?_; walk_at "tw look")
  | (refine upd_dif (by assumption) (by intro z; cases z) ?_; walk_at "tw look")
  | (refine upd_dif upd_same (by intro z; cases z) ?_; walk_at "tw look"))
local macro_rules | `(tactic| walk_at "tw seq") => `(tactic| first
  | assumption
  | exact SqL.of (by walk_at "tw look")
  | exact SqT.of (by walk_at "tw look")
  | exact .inl (SqL.of (by walk_at "tw look"))
  | exact .inr (SqT.of (by walk_at "tw look"))
  | exact .inl (by assumption)
  | exact dget_of (by walk_at "tw look") (by assumption)
  | exact DGet.k (k := Sum.inl _) (by walk_at "tw look")
  | exact DPut.k (k := Sum.inl _) (by walk_at "tw look") (by assumption)
  | exact .inl ⟨_, .inl (by walk_at "tw look")⟩
  | exact .inr ⟨_, .inl (by walk_at "tw look")⟩
  | exact ⟨_, SqL.of (by walk_at "tw look")⟩
  | exact ⟨_, SqT.of (by walk_at "tw look")⟩
  | exact ⟨_, by assumption⟩
  | exact .inl ⟨rfl, _, SqL.of (by walk_at "tw look")⟩)
local macro_rules | `(tactic| walk_at "tw atom") => `(tactic| first
  | with_reducible rfl
  | assumption
  | rfl
  | walk_at "tw look"
  | walk_at "tw seq"
  | omega
  | exact small (by simp; done)
  | exact smallt (by simp; done)
  | exact cdiv_of rfl
  | exact fun _ h => h
  | exact Int.natCast_pos.mpr (Nat.zero_lt_succ _)
  | exact cmul_r rfl
  | exact cmul_l rfl
  | exact Nat.le_of_ble_eq_true rfl)
local macro_rules | `(tactic| walk_at "tw step") => `(tactic| first | (with_reducible refine iteT ?_) | (with_reducible refine iteF ?_) | (with_reducible refine itf nott ?_) | (with_reducible refine itt notf ?_) | ((fail_if_success (refine ite2 (fun _ => ?_) (fun _ => ?_))); first
  | ((fail_if_success (refine (?_ : ∃ W : Nat → Nat → L2.St → Hp → Prop, _))); (fail_if_success (refine (?_ : ∃ W : Nat → Nat → Hp → Prop, _))); apply Exists.intro)
  | (apply And.intro; (walk_at "tw atom"))))
local macro_rules | `(tactic| walk_at "tw") => `(tactic| repeat walk_at "tw step")

section
variable {P : Program} {w : World} {K : PySem.W.Frag} {mg : Str → Option Value} {base : Heap}
/-- the versions of the first n slots -/
def cnt (ss : List Slot) (n : Nat) : Nat := ((ss.take n).map (·.2.length)).sum
structure CEnt (ss : List Slot) (n : Nat) (c f : Int) (ve : Nat) : Prop where
  le : n ≤ ss.length
  c : ∀ (i : Nat) t, ss[i]? = some t → i < n → t.1 < c
  f : ∀ (i : Nat) t, ss[i]? = some t → n ≤ i → f ≤ t.1
  v : ve = cnt ss n
/-- a dict of closes that is true of the slots -/
structure ClosT (H : Hp) (ss : List Slot) (kvs : List (Key × V)) : Prop where
  nd : (kvs.map (·.1)).Nodup
  ent : ∀ p ∈ kvs, ∃ (n : Nat) (c f : Int) (ve : Nat) (a : Addr), p = (Sum.inl (n : Int), V.ref a) ∧ H a = some (.tup [.int c, .int f, .int ve]) ∧ CEnt ss n c f ve
theorem ClosT.mono {H H' : Hp} {ss : List Slot} {kvs : List (Key × V)} (h : ClosT H ss kvs) (e : TKeep H H') : ClosT H' ss kvs :=
  ⟨h.nd, fun p hp => by
    obtain ⟨n, c, f, ve, a, h1, h2, h3⟩ := h.ent p hp
    exact ⟨n, c, f, ve, a, h1, e _ _ h2, h3⟩⟩
/-- nothing from the slot p on lies below -/
def Above (ss : List Slot) (p : Nat) (le : Option Int) : Prop := ∀ st, le = some st → ∀ (i : Nat) t, ss[i]? = some t → p ≤ i → st ≤ t.1
def IsSeg (H : Hp) (ss : List Slot) (v : V) : Prop := ∃ (a : Addr) (p k : Nat) (le : Option Int) (g : Int), v = .ref a ∧ H a = some (.tup [.int ((p : Int) + 1), .int k, ov le, .int g, .int ((cnt ss k : Int) - cnt ss p)]) ∧ p < k ∧ k ≤ ss.length ∧ Above ss p le ∧
  ∀ (i : Nat) t, ss[i]? = some t → i < k → t.1 ≤ g
def IsTl (H : Hp) (ss : List Slot) (v : V) : Prop := ∃ (a : Addr) (p : Nat) (le : Option Int), v = .ref a ∧ H a = some (.tup [.int ((p : Int) + 1), .non, ov le, .non, .non]) ∧ Above ss p le
theorem IsSeg.mono {H H' : Hp} {ss : List Slot} {v : V} (h : IsSeg H ss v) (e : TKeep H H') : IsSeg H' ss v := by
  obtain ⟨a, p, k, le, g, h1, h2, h3⟩ := h
  exact ⟨a, p, k, le, g, h1, e _ _ h2, h3⟩
theorem IsTl.mono {H H' : Hp} {ss : List Slot} {v : V} (h : IsTl H ss v) (e : TKeep H H') : IsTl H' ss v := by
  obtain ⟨a, p, le, h1, h2, h3⟩ := h
  exact ⟨a, p, le, h1, e _ _ h2, h3⟩
/-- the list of limits: segments, then the tail -/
def LimD (H : Hp) (ss : List Slot) (d : Addr) : Prop := ∃ segs tl, H d = some (.lst (segs ++ [tl])) ∧ (∀ v ∈ segs, IsSeg H ss v) ∧ IsTl H ss tl ∧ segs.length < 64
theorem keys_ints {H : Hp} {ss : List Slot} {kvs : List (Key × V)} (C : ClosT H ss kvs) : ∃ ks : List Int, kvs.map (·.1) = ks.map Sum.inl ∧ ks.Nodup ∧ ks.length = kvs.length := by
  have : ∀ l : List (Key × V), (∀ p ∈ l, ∃ i : Int, p.1 = Sum.inl i) → ∃ ks : List Int, l.map (·.1) = ks.map Sum.inl ∧ ks.length = l.length := by
    intro l
    induction l with
    | nil => intro _; exact ⟨[], rfl, rfl⟩
    | cons p l ih =>
      intro h
      obtain ⟨i, e⟩ := h p List.mem_cons_self
      obtain ⟨ks, e2, e3⟩ := ih fun q hq => h q (List.mem_cons_of_mem _ hq)
      exact ⟨i :: ks, by rw [List.map_cons, List.map_cons, e, e2], by rw [List.length_cons, List.length_cons, e3]⟩
  obtain ⟨ks, e, el⟩ := this kvs fun p hp => by
    obtain ⟨n, c, f, ve, a, h1, _⟩ := C.ent p hp
    exact ⟨n, by rw [h1]⟩
  refine ⟨ks, e, ?_, el⟩
  have := C.nd
  rw [e] at this
  exact List.Pairwise.of_map Sum.inl (fun a b h z => h (congrArg Sum.inl z)) this
theorem asc_lt {ks : List Int} (nd : ks.Nodup) (h : ks.Pairwise (· ≤ ·)) {i j : Nat} {a b : Int} (hij : i < j) (hi : ks[i]? = some a) (hj : ks[j]? = some b) : a < b := by
  obtain ⟨h1, e1⟩ := List.getElem?_eq_some_iff.mp hi
  obtain ⟨h2, e2⟩ := List.getElem?_eq_some_iff.mp hj
  have h3 := List.pairwise_iff_getElem.mp h i j h1 h2 hij
  have h4 := List.pairwise_iff_getElem.mp nd i j h1 h2 hij
  rw [e1, e2] at h3 h4
  omega
theorem cnt0 (ss : List Slot) : cnt ss 0 = 0 := rfl
def spLimitsOf : Sp := fun vs H Q _ => ∃ (d : Addr) (kvs : List (Key × V)) (ss : List Slot), vs = [.ref d] ∧ H d = some (.dK kvs) ∧ ClosT H ss kvs ∧ kvs.length < 64 ∧ ∀ a H', Same H H' → LimD H' ss a → Q (.ref a) H'
theorem C_limits_of (T : Tx K mg) : Callee P w K mg base CX0 "limits_of" P_limits_of 1 spLimitsOf := by
  refine mk_limits_of T (k := 0) (fun vs H Q E h => ?_) (fun f cdv A outer s H vs Q E hr h => ?_)
  · obtain ⟨d, kvs, ss, rfl, _⟩ := h
    rfl
  · obtain ⟨d, kvs, ss, rfl, hd, C, few, k⟩ := h
    obtain ⟨ks, eks, ndk, lks⟩ := keys_ints C
    refine ⟨_, ((pss_cons (ps_set (i := 1) sc_limits_of.nd rfl (by first | exact Or.inl rfl | exact Or.inr rfl) (pe_lst pa_nil))
    (pss_cons (ps_set (i := 2) sc_limits_of.nd rfl (by first | exact Or.inl rfl | exact Or.inr rfl) pe_int)
    (pss_cons (ps_set (i := 3) sc_limits_of.nd rfl (by first | exact Or.inl rfl | exact Or.inr rfl) (pe_ifExp (pt_cmp (pc_din (hu_of hr) pe_int (pv 0))) (pe_ix (ixT (K := K)) (pe_dget (hu_of hr) (pv 0) pe_int (fun _ _ => rfl)) pe_int (fun _ _ => rfl)) pe_non))
    (pss_cons (ps_set (i := 4) sc_limits_of.nd rfl (by first | exact Or.inl rfl | exact Or.inr rfl) pe_int)
    (pss_cons (ps_for PassesOwn.never rfl (pi_list (pe_callB (call_sortedDI rfl) (by rfl) T.f_sorted PyProof.Rows.boot_sorted (pa_cons (pv 0) pa_nil))) (pg_name (i := 5) sc_limits_of.nd rfl (by first | exact Or.inl rfl | exact Or.inr rfl))
    (pss_one (ps_if (pt_cmpR op_gt (pv 5) pe_int (nomark _))
    (pss_cons (ps_asg (pe_dget (hu_of hr) (pv 0) (pv 5) (fun _ _ => rfl)) (pg_tup rfl (pgs_cons (pg_name (i := 6) sc_limits_of.nd rfl (by first | exact Or.inl rfl | exact Or.inr rfl)) (pgs_cons (pg_name (i := 7) sc_limits_of.nd rfl (by first | exact Or.inl rfl | exact Or.inr rfl)) (pgs_cons (pg_name (i := 8) sc_limits_of.nd rfl (by first | exact Or.inl rfl | exact Or.inr rfl)) pgs_nil)))))
    (pss_cons (ps_expr (pe_bm PySem.F.plainAttrs_list PySem.F.slot_list_append PySem.F.type_list_append mt_append (pv 1) (pa_cons (pe_tup (pa_cons (pe_op op_add (pv 2) pe_int) (pa_cons (pv 5) (pa_cons (pv 3) (pa_cons (pe_op op_sub (pv 6) pe_int) (pa_cons (pe_op op_sub (pv 8) (pv 4)) pa_nil)))))) pa_nil)))
    (pss_cons (ps_set (i := 2) sc_limits_of.nd rfl (by first | exact Or.inl rfl | exact Or.inr rfl) (pv 5))
    (pss_cons (ps_set (i := 3) sc_limits_of.nd rfl (by first | exact Or.inl rfl | exact Or.inr rfl) (pv 7))
    (pss_one (ps_set (i := 4) sc_limits_of.nd rfl (by first | exact Or.inl rfl | exact Or.inr rfl) (pv 8)))))))
    pss_nil)))
    (pss_cons (ps_expr (pe_bm PySem.F.plainAttrs_list PySem.F.slot_list_append PySem.F.type_list_append mt_append (pv 1) (pa_cons (pe_tup (pa_cons (pe_op op_add (pv 2) pe_int) (pa_cons pe_non (pa_cons (pv 3) (pa_cons pe_non (pa_cons pe_non pa_nil)))))) pa_nil)))
    (pss_one (ps_ret (pv 1)))))))))), ?_⟩
    walk_at "tw"
    intro fd nfd
    have hd1 : (upd H fd (.lst [])) d = some (.dK kvs) := Same.new nfd _ _ hd
    have lk : ks.length < 64 := by omega
    have start : ∀ u, valV kvs (Sum.inl 0) = some u → ∃ (a : Addr) (c f : Int) (ve : Nat), u = .ref a ∧ H a = some (.tup [.int c, .int f, .int ve]) ∧ Above ss 0 (some f) := by
      intro u q
      obtain ⟨n, c, f, ve, a, h1, h2, h3⟩ := C.ent _ (val_mem q)
      obtain ⟨h4, h5⟩ := Prod.mk.inj h1
      have h6 : n = 0 := by injection h4 with z; omega
      subst h6
      exact ⟨a, c, f, ve, h5, h2, fun st e i t ht hi => by cases e; exact h3.f i t ht hi⟩
    walk_at "tw"
    cases q : valV kvs (Sum.inl 0) with
    | none =>
      refine itf rfl ?_
      walk_at "tw"
      obtain ⟨le0, hle0, e0⟩ : ∃ le0, Above ss 0 le0 ∧ ov le0 = V.non := ⟨none, (fun st e => by cases e), rfl⟩
      walk_at "tw"
      intro ys pl perm asc npl
      have ndy : ys.Nodup := perm.nodup_iff.mpr ndk
      have hl : ys.length < 64 := by rw [perm.length_eq]; exact lk
      have nfp : fd ≠ pl := ne_of_none upd_same npl
      walk_at "tw"
      refine for_list (K := K) (a := pl) (xs := ys.map V.int) (fun i σ H' => (∃ (p : Nat) (le : Option Int) (x1 x2 x3 x4 : Option V), σ = [some (.ref d), some (.ref fd), some (.int p), some (ov le), some (.int (cnt ss p)), x1, x2, x3, x4] ∧
          Above ss p le ∧ (p = 0 ∨ ∃ j, j < i ∧ ys[j]? = some (p : Int))) ∧ Same H H' ∧ H' pl = some (.lst (ys.map V.int)) ∧ ∃ segs, H' fd = some (.lst segs) ∧ segs.length ≤ i ∧ ∀ v ∈ segs, IsSeg H' ss v)
        ⟨⟨0, le0, _, _, _, _, by rw [e0]; rfl, hle0, .inl rfl⟩, (Same.new nfd).trans (Same.new npl), upd_same, [], by rw [upd_ne nfp, upd_same], Nat.le_refl _, fun v hv => by cases hv⟩ (fun i σ H' _ z => SqL.of z.2.2.1) ?_ ?_
      · rintro i x σ H' hx ⟨⟨p, le, x1, x2, x3, x4, rfl, hab1, hp⟩, e, hpl, segs, hfd, hsl, hsegs⟩
        rw [List.getElem?_map] at hx
        obtain ⟨y, hy, rfl⟩ : ∃ y, ys[i]? = some y ∧ V.int y = x := by
          cases z : ys[i]? with
          | none => rw [z] at hx; cases hx
          | some y => rw [z] at hx; exact ⟨y, rfl, Option.some.inj hx⟩
        have hi : i < ys.length := (List.getElem?_eq_some_iff.mp hy).1
        have hd' := e _ _ hd
        have hyk : Sum.inl y ∈ kvs.map (·.1) := by rw [eks]; exact List.mem_map.mpr ⟨y, perm.mem_iff.mp (List.mem_of_getElem? hy), rfl⟩
        obtain ⟨u, hu⟩ := val_some hyk
        obtain ⟨n, c, f, ve, a, h1, h2, h3⟩ := C.ent _ (val_mem hu)
        obtain ⟨h4, rfl⟩ := Prod.mk.inj h1
        have h5 : y = (n : Int) := by injection h4
        subst h5
        have h2' := e _ _ h2
        have hz : segs.length < sizeLine := smallt (by omega)
        walk_at "tw"
        refine ite2 (fun hc => ?_) (fun hc => ?_)
        · have hn : 0 < n := by have := of_decide_eq_true hc; omega
          have hpn : p < n := by
            rcases hp with z | ⟨j, hj, hj2⟩
            · omega
            · have := asc_lt ndy asc hj hj2 hy; omega
          walk_at "tw"
          intro t nt
          have hfd' := Same.new nt (o := .tup [.int ((p : Int) + 1), .int n, ov le, .int (c - 1), .int ((ve : Int) - cnt ss p)]) _ _ hfd
          have tk : TKeep H' (upd (upd H' t (.tup [.int ((p : Int) + 1), .int n, ov le, .int (c - 1), .int ((ve : Int) - cnt ss p)])) fd (.lst (segs ++ [.ref t]))) := (Same.new nt).tk.trans (TKeep.upd hfd' fun xs z => by cases z)
          walk_at "tw"
          refine ⟨⟨n, some f, _, _, _, _, by rw [h3.v]; rfl, fun st es i t ht hi => by cases es; exact h3.f i t ht hi, .inr ⟨i, Nat.lt_succ_self _, hy⟩⟩, (e.up nt).mut nfd, ?_, _, upd_same, by rw [List.length_append]; exact Nat.succ_le_succ hsl, fun v hv => ?_⟩
          · rw [upd_ne (Ne.symm nfp)]; exact Same.new nt _ _ hpl
          · rcases List.mem_append.mp hv with z | z
            · exact (hsegs v z).mono tk
            · rw [List.mem_singleton.mp z]
              refine ⟨t, p, n, le, c - 1, rfl, upd_dif hfd' (by intro z; cases z) (by rw [upd_same, h3.v]), hpn, h3.le, hab1, fun i t ht hi => by have := h3.c i t ht hi; omega⟩
        · walk_at "tw"
          refine ⟨⟨p, le, _, _, _, _, rfl, hab1, hp.imp id fun ⟨j, hj, hj2⟩ => ⟨j, Nat.lt_succ_of_lt hj, hj2⟩⟩, e, hpl, segs, hfd, Nat.le_succ_of_le hsl, hsegs⟩
      · rintro σ H' ⟨⟨p, le, x1, x2, x3, x4, rfl, hab1, hp⟩, e, hpl, segs, hfd, hsl, hsegs⟩
        rw [List.length_map] at hsl
        have hz : segs.length < sizeLine := smallt (by omega)
        walk_at "tw"
        intro t nt
        have hfd' := Same.new nt (o := .tup [.int ((p : Int) + 1), .non, ov le, .non, .non]) _ _ hfd
        have tk : TKeep H' (upd (upd H' t (.tup [.int ((p : Int) + 1), .non, ov le, .non, .non])) fd (.lst (segs ++ [.ref t]))) := (Same.new nt).tk.trans (TKeep.upd hfd' fun xs z => by cases z)
        walk_at "tw"
        exact k _ _ ((e.up nt).mut nfd) ⟨segs, .ref t, upd_same, fun v hv => (hsegs v hv).mono tk, ⟨t, p, le, rfl, upd_dif hfd' (by intro z; cases z) upd_same, hab1⟩, by omega⟩
    | some u =>
      obtain ⟨a0, c0, f0, ve0, rfl, ha0, hab⟩ := start u q
      have ha0' := Same.new nfd (o := .lst []) _ _ ha0
      refine itt rfl ?_
      walk_at "tw"
      obtain ⟨le0, hle0, e0⟩ : ∃ le0, Above ss 0 le0 ∧ ov le0 = V.int f0 := ⟨some f0, hab, rfl⟩
      walk_at "tw"
      intro ys pl perm asc npl
      have ndy : ys.Nodup := perm.nodup_iff.mpr ndk
      have hl : ys.length < 64 := by rw [perm.length_eq]; exact lk
      have nfp : fd ≠ pl := ne_of_none upd_same npl
      walk_at "tw"
      refine for_list (K := K) (a := pl) (xs := ys.map V.int) (fun i σ H' => (∃ (p : Nat) (le : Option Int) (x1 x2 x3 x4 : Option V), σ = [some (.ref d), some (.ref fd), some (.int p), some (ov le), some (.int (cnt ss p)), x1, x2, x3, x4] ∧
          Above ss p le ∧ (p = 0 ∨ ∃ j, j < i ∧ ys[j]? = some (p : Int))) ∧ Same H H' ∧ H' pl = some (.lst (ys.map V.int)) ∧ ∃ segs, H' fd = some (.lst segs) ∧ segs.length ≤ i ∧ ∀ v ∈ segs, IsSeg H' ss v)
        ⟨⟨0, le0, _, _, _, _, by rw [e0]; rfl, hle0, .inl rfl⟩, (Same.new nfd).trans (Same.new npl), upd_same, [], by rw [upd_ne nfp, upd_same], Nat.le_refl _, fun v hv => by cases hv⟩ (fun i σ H' _ z => SqL.of z.2.2.1) ?_ ?_
      · rintro i x σ H' hx ⟨⟨p, le, x1, x2, x3, x4, rfl, hab1, hp⟩, e, hpl, segs, hfd, hsl, hsegs⟩
        rw [List.getElem?_map] at hx
        obtain ⟨y, hy, rfl⟩ : ∃ y, ys[i]? = some y ∧ V.int y = x := by
          cases z : ys[i]? with
          | none => rw [z] at hx; cases hx
          | some y => rw [z] at hx; exact ⟨y, rfl, Option.some.inj hx⟩
        have hi : i < ys.length := (List.getElem?_eq_some_iff.mp hy).1
        have hd' := e _ _ hd
        have hyk : Sum.inl y ∈ kvs.map (·.1) := by rw [eks]; exact List.mem_map.mpr ⟨y, perm.mem_iff.mp (List.mem_of_getElem? hy), rfl⟩
        obtain ⟨u, hu⟩ := val_some hyk
        obtain ⟨n, c, f, ve, a, h1, h2, h3⟩ := C.ent _ (val_mem hu)
        obtain ⟨h4, rfl⟩ := Prod.mk.inj h1
        have h5 : y = (n : Int) := by injection h4
        subst h5
        have h2' := e _ _ h2
        have hz : segs.length < sizeLine := smallt (by omega)
        walk_at "tw"
        refine ite2 (fun hc => ?_) (fun hc => ?_)
        · have hn : 0 < n := by have := of_decide_eq_true hc; omega
          have hpn : p < n := by
            rcases hp with z | ⟨j, hj, hj2⟩
            · omega
            · have := asc_lt ndy asc hj hj2 hy; omega
          walk_at "tw"
          intro t nt
          have hfd' := Same.new nt (o := .tup [.int ((p : Int) + 1), .int n, ov le, .int (c - 1), .int ((ve : Int) - cnt ss p)]) _ _ hfd
          have tk : TKeep H' (upd (upd H' t (.tup [.int ((p : Int) + 1), .int n, ov le, .int (c - 1), .int ((ve : Int) - cnt ss p)])) fd (.lst (segs ++ [.ref t]))) := (Same.new nt).tk.trans (TKeep.upd hfd' fun xs z => by cases z)
          walk_at "tw"
          refine ⟨⟨n, some f, _, _, _, _, by rw [h3.v]; rfl, fun st es i t ht hi => by cases es; exact h3.f i t ht hi, .inr ⟨i, Nat.lt_succ_self _, hy⟩⟩, (e.up nt).mut nfd, ?_, _, upd_same, by rw [List.length_append]; exact Nat.succ_le_succ hsl, fun v hv => ?_⟩
          · rw [upd_ne (Ne.symm nfp)]; exact Same.new nt _ _ hpl
          · rcases List.mem_append.mp hv with z | z
            · exact (hsegs v z).mono tk
            · rw [List.mem_singleton.mp z]
              refine ⟨t, p, n, le, c - 1, rfl, upd_dif hfd' (by intro z; cases z) (by rw [upd_same, h3.v]), hpn, h3.le, hab1, fun i t ht hi => by have := h3.c i t ht hi; omega⟩
        · walk_at "tw"
          refine ⟨⟨p, le, _, _, _, _, rfl, hab1, hp.imp id fun ⟨j, hj, hj2⟩ => ⟨j, Nat.lt_succ_of_lt hj, hj2⟩⟩, e, hpl, segs, hfd, Nat.le_succ_of_le hsl, hsegs⟩
      · rintro σ H' ⟨⟨p, le, x1, x2, x3, x4, rfl, hab1, hp⟩, e, hpl, segs, hfd, hsl, hsegs⟩
        rw [List.length_map] at hsl
        have hz : segs.length < sizeLine := smallt (by omega)
        walk_at "tw"
        intro t nt
        have hfd' := Same.new nt (o := .tup [.int ((p : Int) + 1), .non, ov le, .non, .non]) _ _ hfd
        have tk : TKeep H' (upd (upd H' t (.tup [.int ((p : Int) + 1), .non, ov le, .non, .non])) fd (.lst (segs ++ [.ref t]))) := (Same.new nt).tk.trans (TKeep.upd hfd' fun xs z => by cases z)
        walk_at "tw"
        exact k _ _ ((e.up nt).mut nfd) ⟨segs, .ref t, upd_same, fun v hv => (hsegs v hv).mono tk, ⟨t, p, le, rfl, upd_dif hfd' (by intro z; cases z) upd_same, hab1⟩, by omega⟩
end
end Tw
end

section
set_option maxHeartbeats 4000000
namespace Tw
open PySem PySem.Spec PyProof.Rows L2
/-! the machine of the readings: "tw" goes on through what has one answer; it stops at a branch, a loop, a new object, what comes behind a call -/
local macro_rules | `(tactic| walk_at "tw look") => `(tactic| first
  | assumption
  | exact upd_same
  | (refine Same.new (by assumption) _ _ ?_; walk_at "tw look")
  | (refine upd_oth (by assumption) ?_; walk_at "tw look")
  | (refine upd_dif (by assumption) (by intro z; cases z) ?_; walk_at "tw look")
  | (refine upd_dif upd_same (by intro z; cases z) ?_; walk_at "tw look"))
local macro_rules | `(tactic| walk_at "tw seq") => `(tactic| first
  | assumption
  | exact SqL.of (by walk_at "tw look")
  | exact SqT.of (by walk_at "tw look")
  | exact .inl (SqL.of (by walk_at "tw look"))
  | exact .inr (SqT.of (by walk_at "tw look"))
  | exact .inl (by assumption)
  | exact dget_of (by walk_at "tw look") (by assumption)
  | exact DGet.k (k := Sum.inl _) (by walk_at "tw look")
  | exact DPut.k (k := Sum.inl _) (by walk_at "tw look") (by assumption)
  | exact .inl ⟨_, .inl (by walk_at "tw look")⟩
  | exact .inr ⟨_, .inl (by walk_at "tw look")⟩
  | exact ⟨_, SqL.of (by walk_at "tw look")⟩
  | exact ⟨_, SqT.of (by walk_at "tw look")⟩
  | exact ⟨_, by assumption⟩
  | exact .inl ⟨rfl, _, SqL.of (by walk_at "tw look")⟩)
local macro_rules | `(tactic| walk_at "tw atom") => `(tactic| first
  | with_reducible rfl
  | assumption
  | rfl
  | walk_at "tw look"
  | walk_at "tw seq"
  | omega
  | exact small (by simp; done)
  | exact smallt (by simp; done)
  | exact cdiv_of rfl
  | exact fun _ h => h
  | exact Int.natCast_pos.mpr (Nat.zero_lt_succ _)
  | exact cmul_r rfl
  | exact cmul_l rfl
  | exact Nat.le_of_ble_eq_true rfl)
local macro_rules | `(tactic| walk_at "tw step") => `(tactic| first | (with_reducible refine iteT ?_) | (with_reducible refine iteF ?_) | (with_reducible refine itf nott ?_) | (with_reducible refine itt notf ?_) | ((fail_if_success (refine ite2 (fun _ => ?_) (fun _ => ?_))); first
  | ((fail_if_success (refine (?_ : ∃ W : Nat → Nat → L2.St → Hp → Prop, _))); (fail_if_success (refine (?_ : ∃ W : Nat → Nat → Hp → Prop, _))); apply Exists.intro)
  | (apply And.intro; (walk_at "tw atom"))))
local macro_rules | `(tactic| walk_at "tw") => `(tactic| repeat walk_at "tw step")

/-! ### counting -/
theorem sum_set_nat : ∀ {l : List Nat} {j x y : Nat}, l[j]? = some x → (l.set j y).sum + x = l.sum + y
  | [], j, x, y, h => by simp at h
  | a :: r, 0, x, y, h => by
    have e : a = x := Option.some.inj h
    subst e
    show (y :: r).sum + a = (a :: r).sum + y
    rw [List.sum_cons, List.sum_cons]
    omega
  | a :: r, j + 1, x, y, h => by
    have ih := sum_set_nat (l := r) (j := j) (x := x) (y := y) h
    show (a :: r.set j y).sum + x = (a :: r).sum + y
    rw [List.sum_cons, List.sum_cons]
    omega
theorem len_le_sum : ∀ {L : List Nat}, (∀ x ∈ L, 1 ≤ x) → L.length ≤ L.sum
  | [], _ => Nat.le_refl _
  | a :: r, h => by
    have h1 := h a List.mem_cons_self
    have h2 := len_le_sum fun x hx => h x (List.mem_cons_of_mem _ hx)
    rw [List.length_cons, List.sum_cons]
    omega
theorem pick_sum : ∀ (zs : List (Nat × Nat)) (L : List Nat), (∀ x ∈ L, 1 ≤ x) → (zs.map (·.1)).Nodup → (∀ z ∈ zs, ∃ x, L[z.1]? = some x ∧ z.2 + 1 ≤ x) → (zs.map fun z => z.2 + 1).sum + L.length ≤ L.sum + zs.length
  | [], L, h, _, _ => by have := len_le_sum h; simpa using this
  | z :: zs, L, h, nd, hz => by
    obtain ⟨x, hx, hv⟩ := hz z List.mem_cons_self
    rw [List.map_cons, List.nodup_cons] at nd
    have s := sum_set_nat (y := 1) hx
    have ih := pick_sum zs (L.set z.1 1) (fun y hy => by
      rcases List.mem_or_eq_of_mem_set hy with q | q
      · exact h y q
      · rw [q]; exact Nat.le_refl _) nd.2 fun z' hz' => by
        obtain ⟨x', hx', hv'⟩ := hz z' (List.mem_cons_of_mem _ hz')
        refine ⟨x', ?_, hv'⟩
        rw [List.getElem?_set_ne (fun e => nd.1 (List.mem_map.mpr ⟨z', hz', e.symm⟩))]
        exact hx'
    rw [List.length_set] at ih
    rw [List.map_cons, List.sum_cons, List.length_cons]
    omega
theorem cnt_split {ss : List Slot} {p k : Nat} (h : p ≤ k) : cnt ss k = cnt ss p + (((ss.take k).drop p).map (·.2.length)).sum := by
  unfold cnt
  have e : ss.take k = ss.take p ++ (ss.take k).drop p := by
    have := (List.take_append_drop p (ss.take k)).symm
    rw [List.take_take, Nat.min_eq_left h] at this
    exact this
  have e2 := congrArg (fun l : List Slot => (l.map (·.2.length)).sum) e
  simp only [List.map_append, List.sum_append] at e2
  exact e2
/-- versions told, less those of received slots, less one for each missing slot: not negative -/
theorem hidden_ge {m : Meter} {ss : List Slot} (ok : SlotsOk m ss) {p k : Nat} (h1 : p ≤ k) (h2 : k ≤ ss.length) (zs : List (Nat × Nat)) (nd : (zs.map (·.1)).Nodup)
    (hz : ∀ z ∈ zs, p < z.1 ∧ z.1 ≤ k ∧ ∃ t, ss[z.1 - 1]? = some t ∧ z.2 < t.2.length) : (zs.map fun z => z.2 + 1).sum + (k - p) + cnt ss p ≤ cnt ss k + zs.length := by
  have key := pick_sum (zs.map fun z => (z.1 - 1 - p, z.2)) (((ss.take k).drop p).map (·.2.length)) (fun x hx => by
      obtain ⟨s, hs, rfl⟩ := List.mem_map.mp hx
      exact (ok.vers s (List.mem_of_mem_take (List.mem_of_mem_drop hs))).ne) (by
      rw [List.map_map]
      have : zs.map ((fun x => x.1) ∘ fun z : Nat × Nat => (z.1 - 1 - p, z.2)) = (zs.map (·.1)).map fun s => s - 1 - p := by rw [List.map_map]; rfl
      rw [this]
      refine List.pairwise_map.mpr (List.Pairwise.imp_of_mem (fun {a b} ha hb hne e => hne ?_) nd)
      obtain ⟨za, hza, rfl⟩ := List.mem_map.mp ha
      obtain ⟨zb, hzb, rfl⟩ := List.mem_map.mp hb
      have := (hz za hza).1
      have := (hz zb hzb).1
      omega) fun z hz' => by
      obtain ⟨y, hy, rfl⟩ := List.mem_map.mp hz'
      obtain ⟨g1, g2, t, g3, g4⟩ := hz y hy
      refine ⟨t.2.length, ?_, g4⟩
      rw [List.getElem?_map, List.getElem?_drop, List.getElem?_take_of_lt (by omega), show p + (y.1 - 1 - p) = y.1 - 1 by omega, g3]
      rfl
  rw [List.map_map, List.length_map, List.length_drop, List.length_take, List.length_map] at key
  have e : (zs.map ((fun z : Nat × Nat => z.2 + 1) ∘ fun z => (z.1 - 1 - p, z.2))) = zs.map fun z => z.2 + 1 := rfl
  rw [e] at key
  have := cnt_split (ss := ss) h1
  omega
section
variable {P : Program} {w : World} {K : PySem.W.Frag} {mg : Str → Option Value} {base : Heap}
/-- received slots, true of the slots -/
structure RcvT (H : Hp) (ss : List Slot) (kvs : List (Key × V)) : Prop where
  nd : (kvs.map (·.1)).Nodup
  ent : ∀ p ∈ kvs, ∃ (s v : Nat) (st : Int) (x : Option Int) (a : Addr), p = (Sum.inl (s : Int), V.ref a) ∧ H a = some (.tup [.int v, .int st, ov x]) ∧ 1 ≤ s ∧ ∃ t, ss[s - 1]? = some t ∧ t.1 = st ∧ v < t.2.length
theorem RcvT.mono {H H' : Hp} {ss : List Slot} {kvs : List (Key × V)} (h : RcvT H ss kvs) (e : TKeep H H') : RcvT H' ss kvs :=
  ⟨h.nd, fun p hp => by
    obtain ⟨s, v, st, x, a, h1, h2, h3⟩ := h.ent p hp
    exact ⟨s, v, st, x, a, h1, e _ _ h2, h3⟩⟩
theorem rkeys {H : Hp} {ss : List Slot} {kvs : List (Key × V)} (C : RcvT H ss kvs) : ∃ ks : List Int, kvs.map (·.1) = ks.map Sum.inl ∧ ks.Nodup ∧ ks.length = kvs.length := by
  have : ∀ l : List (Key × V), (∀ p ∈ l, ∃ i : Int, p.1 = Sum.inl i) → ∃ ks : List Int, l.map (·.1) = ks.map Sum.inl ∧ ks.length = l.length := by
    intro l
    induction l with
    | nil => intro _; exact ⟨[], rfl, rfl⟩
    | cons p l ih =>
      intro h
      obtain ⟨i, e⟩ := h p List.mem_cons_self
      obtain ⟨ks, e2, e3⟩ := ih fun q hq => h q (List.mem_cons_of_mem _ hq)
      exact ⟨i :: ks, by rw [List.map_cons, List.map_cons, e, e2], by rw [List.length_cons, List.length_cons, e3]⟩
  obtain ⟨ks, e, el⟩ := this kvs fun p hp => by
    obtain ⟨s, v, st, x, a, h1, _⟩ := C.ent p hp
    exact ⟨s, by rw [h1]⟩
  refine ⟨ks, e, ?_, el⟩
  have := C.nd
  rw [e] at this
  exact List.Pairwise.of_map Sum.inl (fun a b h z => h (congrArg Sum.inl z)) this
def spSlotsWithin : Sp := fun vs H Q _ => ∃ (d : Addr) (first : Int) (last : Option Int) (kvs : List (Key × V)) (ks : List Int), vs = [.ref d, .int first, ov last] ∧ H d = some (.dK kvs) ∧ kvs.map (·.1) = ks.map Sum.inl ∧ ks.Nodup ∧ ks.length < 64 ∧
  ∀ (a : Addr) (H' : Hp) (zs : List Int), Same H H' → H a = none → H' a = some (.lst (zs.map V.int)) → zs.Nodup → zs.length < 64 → (∀ x ∈ zs, x ∈ ks ∧ first ≤ x ∧ ∀ k, last = some k → x ≤ k) → Q (.ref a) H'
theorem C_slots_within (T : Tx K mg) : Callee P w K mg base CX0 "slots_within" P_slots_within 1 spSlotsWithin := by
  refine mk_slots_within T (k := 0) (fun vs H Q E h => ?_) (fun f cdv A outer s H vs Q E hr h => ?_)
  · obtain ⟨d, first, last, kvs, ks, rfl, _⟩ := h
    rfl
  · obtain ⟨d, first, last, kvs, ks, rfl, hd, eks, ndk, lk, k⟩ := h
    refine ⟨_, ((pss_one (ps_ret (pe_lc (own := [("slot", 3)]) (g := gName 3) rfl sc_slots_within.nd (pi_list (pe_callB (call_sortedDI rfl) (by rfl) T.f_sorted PyProof.Rows.boot_sorted (pa_cons (pv 0) pa_nil))) (blkOk_by (N := N_slots_within) (sc := defScope s_slots_within) (by decide +kernel)) (fun _ _ _ _ _ => (pg_name (i := 3) sc_slots_within.nd rfl (by first | exact Or.inl rfl | exact Or.inr rfl))) (fun _ _ _ _ _ => pts_one (PW.pt (pw_and (pt_cmpR op_ge (pv 3) (pv 1) (nomark _)) (pw_and1 (PW.pt (pw_or (pt_cmpR op_isN (pv 2) pe_non (nomark _)) (pw_or1 (pt_cmpR op_le (pv 3) (pv 2) (nomark _))))))))) (fun _ _ _ _ _ => (pv 3)))))), ?_⟩
    walk_at "tw"
    intro ys pl perm asc npl
    have ndy : ys.Nodup := perm.nodup_iff.mpr ndk
    have hl : ys.length < 64 := by rw [perm.length_eq]; exact lk
    walk_at "tw"
    intro D nD
    have hne : pl ≠ D := ne_of_none upd_same nD
    refine lc_list (K := K) (a := pl) (xs := ys.map V.int) (fun i H' => Same (upd H pl (.lst (ys.map V.int))) H' ∧ ∃ zs : List Int, H' D = some (.lst (zs.map V.int)) ∧ zs.length ≤ i ∧ zs.Sublist (ys.take i) ∧ ∀ x ∈ zs, first ≤ x ∧ ∀ k, last = some k → x ≤ k)
      ⟨Same.new nD, [], upd_same, Nat.le_refl _, List.nil_sublist _, fun x hx => by cases hx⟩ (fun i H' _ z => SqL.of (z.1 _ _ upd_same)) ?_ ?_
    · rintro i x H' hx ⟨e, zs, hD, hzl, hsub, hall⟩
      rw [List.getElem?_map] at hx
      obtain ⟨y, hy, rfl⟩ : ∃ y, ys[i]? = some y ∧ V.int y = x := by
        cases z : ys[i]? with
        | none => rw [z] at hx; cases hx
        | some y => rw [z] at hx; exact ⟨y, rfl, Option.some.inj hx⟩
      have hi : i < ys.length := (List.getElem?_eq_some_iff.mp hy).1
      have hz : (zs.map V.int).length < sizeLine := smallt (by rw [List.length_map]; omega)
      have no : Same (upd H pl (.lst (ys.map V.int))) H' ∧ ∃ zs : List Int, H' D = some (.lst (zs.map V.int)) ∧ zs.length ≤ i + 1 ∧ zs.Sublist (ys.take (i + 1)) ∧ ∀ x ∈ zs, first ≤ x ∧ ∀ k, last = some k → x ≤ k :=
        ⟨e, zs, hD, Nat.le_succ_of_le hzl, by rw [take_succ_get hy]; exact hsub.trans (List.sublist_append_left _ _), hall⟩
      have yes : first ≤ y → (∀ k, last = some k → y ≤ k) → Same (upd H pl (.lst (ys.map V.int))) (upd H' D (.lst (zs.map V.int ++ [V.int y]))) ∧ ∃ zs' : List Int, (upd H' D (.lst (zs.map V.int ++ [V.int y]))) D = some (.lst (zs'.map V.int)) ∧ zs'.length ≤ i + 1 ∧ zs'.Sublist (ys.take (i + 1)) ∧ ∀ x ∈ zs', first ≤ x ∧ ∀ k, last = some k → x ≤ k := fun h1 h2 => by
        refine ⟨e.mut nD, zs ++ [y], by rw [upd_same, List.map_append]; rfl, by rw [List.length_append]; exact Nat.succ_le_succ hzl, by rw [take_succ_get hy]; exact hsub.append (List.Sublist.refl _), fun x hx => ?_⟩
        rcases List.mem_append.mp hx with q | q
        · exact hall x q
        · rw [List.mem_singleton.mp q]; exact ⟨h1, h2⟩
      walk_at "tw"
      refine ite2 (fun hc => ?_) (fun hc => ?_)
      · have hc := of_decide_eq_true hc
        walk_at "tw"
        cases last with
        | none =>
          refine itt rfl ?_
          refine itt rfl ?_
          walk_at "tw"
          exact yes hc fun k e => by cases e
        | some kk =>
          refine itf rfl ?_
          walk_at "tw"
          refine ite2 (fun hc2 => ?_) (fun hc2 => ?_)
          · have hc2 := of_decide_eq_true hc2
            walk_at "tw"
            exact yes hc fun k e => by cases e; exact hc2
          · exact no
      · refine itf rfl ?_
        exact no
    · rintro H' ⟨e, zs, hD, hzl, hsub, hall⟩
      rw [List.take_of_length_le (by rw [List.length_map]; exact Nat.le_refl _)] at hsub
      have nD' : H D = none := by rw [upd_ne (Ne.symm hne)] at nD; exact nD
      exact k _ _ zs ((Same.new npl).trans e) nD' hD (ndy.sublist hsub) (by rw [List.length_map] at hzl; omega) fun x hx => ⟨perm.mem_iff.mp (hsub.subset hx), hall x hx⟩
end
end Tw
end

section
set_option maxHeartbeats 4000000
namespace Tw
open PySem PySem.Spec PyProof.Rows L2
/-! the machine of the readings: "tw" goes on through what has one answer; it stops at a branch, a loop, a new object, what comes behind a call -/
local macro_rules | `(tactic| walk_at "tw look") => `(tactic| first
  | assumption
  | exact upd_same
  | (refine Same.new (by assumption) _ _ ?_; walk_at "tw look")
  | (refine upd_oth (by assumption) ?_; walk_at "tw look")
  | (refine upd_dif (by assumption) (by intro z; cases z) ?_; walk_at "tw look")
  | (refine upd_dif upd_same (by intro z; cases z) ?_; walk_at "tw look"))
local macro_rules | `(tactic| walk_at "tw seq") => `(tactic| first
  | assumption
  | exact SqL.of (by walk_at "tw look")
  | exact SqT.of (by walk_at "tw look")
  | exact .inl (SqL.of (by walk_at "tw look"))
  | exact .inr (SqT.of (by walk_at "tw look"))
  | exact .inl (by assumption)
  | exact dget_of (by walk_at "tw look") (by assumption)
  | exact DGet.k (k := Sum.inl _) (by walk_at "tw look")
  | exact DPut.k (k := Sum.inl _) (by walk_at "tw look") (by assumption)
  | exact .inl ⟨_, .inl (by walk_at "tw look")⟩
  | exact .inr ⟨_, .inl (by walk_at "tw look")⟩
  | exact ⟨_, SqL.of (by walk_at "tw look")⟩
  | exact ⟨_, SqT.of (by walk_at "tw look")⟩
  | exact ⟨_, by assumption⟩
  | exact .inl ⟨rfl, _, SqL.of (by walk_at "tw look")⟩)
local macro_rules | `(tactic| walk_at "tw atom") => `(tactic| first
  | with_reducible rfl
  | assumption
  | rfl
  | walk_at "tw look"
  | walk_at "tw seq"
  | omega
  | exact small (by simp; done)
  | exact smallt (by simp; done)
  | exact cdiv_of rfl
  | exact fun _ h => h
  | exact Int.natCast_pos.mpr (Nat.zero_lt_succ _)
  | exact cmul_r rfl
  | exact cmul_l rfl
  | exact Nat.le_of_ble_eq_true rfl)
local macro_rules | `(tactic| walk_at "tw step") => `(tactic| first | (with_reducible refine iteT ?_) | (with_reducible refine iteF ?_) | (with_reducible refine itf nott ?_) | (with_reducible refine itt notf ?_) | ((fail_if_success (refine ite2 (fun _ => ?_) (fun _ => ?_))); first
  | ((fail_if_success (refine (?_ : ∃ W : Nat → Nat → L2.St → Hp → Prop, _))); (fail_if_success (refine (?_ : ∃ W : Nat → Nat → Hp → Prop, _))); apply Exists.intro)
  | (apply And.intro; (walk_at "tw atom"))))
local macro_rules | `(tactic| walk_at "tw") => `(tactic| repeat walk_at "tw step")

section
variable {P : Program} {w : World} {K : PySem.W.Frag} {mg : Str → Option Value} {base : Heap}
def spHiddenIn : Sp := fun vs H Q _ => ∃ (d : Addr) (lv : V) (kvs : List (Key × V)) (ss : List Slot) (m : Meter), vs = [.ref d, lv] ∧ H d = some (.dK kvs) ∧ RcvT H ss kvs ∧ kvs.length < 64 ∧ SlotsOk m ss ∧ IsSeg H ss lv ∧
  ∀ (h : Int) (H' : Hp), 0 ≤ h → Same H H' → Q (.int h) H'
theorem C_hidden_in (T : Tx K mg) : Callee P w K mg base CX0 "hidden_in" P_hidden_in 2 spHiddenIn := by
  refine mk_hidden_in T (k := 1) (fun vs H Q E h => ?_) (fun f cdv A outer s H vs Q E hr h => ?_)
  · obtain ⟨d, lv, kvs, ss, m, rfl, _⟩ := h
    rfl
  · obtain ⟨d, lv, kvs, ss, m, rfl, hd, R, few, ok, ⟨a, p, k', le, g, rfl, ha, hpk, hkl, hab, hg⟩, k⟩ := h
    obtain ⟨ks, eks, ndk, lks⟩ := rkeys R
    have lk : ks.length < 64 := by omega
    refine ⟨_, ((pss_cons (ps_asg (pv 1) (pg_tup rfl (pgs_cons (pg_name (i := 2) sc_hidden_in.nd rfl (by first | exact Or.inl rfl | exact Or.inr rfl)) (pgs_cons (pg_name (i := 3) sc_hidden_in.nd rfl (by first | exact Or.inl rfl | exact Or.inr rfl)) (pgs_cons (pg_name (i := 4) sc_hidden_in.nd rfl (by first | exact Or.inl rfl | exact Or.inr rfl)) (pgs_cons (pg_name (i := 5) sc_hidden_in.nd rfl (by first | exact Or.inl rfl | exact Or.inr rfl)) (pgs_cons (pg_name (i := 6) sc_hidden_in.nd rfl (by first | exact Or.inl rfl | exact Or.inr rfl)) pgs_nil)))))))
    (pss_cons (ps_if (pt_cmpR op_isN (pv 3) pe_non (nomark _))
    (pss_one (ps_ret pe_non))
    pss_nil)
    (pss_cons (ps_set (i := 7) sc_hidden_in.nd rfl (by first | exact Or.inl rfl | exact Or.inr rfl) (pe_cl (C_slots_within T) (hr.mono (by decide)) pass0 (pa_cons (pv 0) (pa_cons (pv 2) (pa_cons (pv 3) pa_nil)))))
    (pss_cons (ps_set (i := 8) sc_hidden_in.nd rfl (by first | exact Or.inl rfl | exact Or.inr rfl) (pe_op op_sub (pe_op op_add (pe_op op_sub (pv 3) (pv 2)) pe_int) (pe_callB (clen (K := K)) (by rfl) T.f_len PySem.boot_len (pa_cons (pv 7) pa_nil))))
    (pss_one (ps_ret (pe_op op_sub (pe_op op_sub (pv 6) (pv 8)) (pe_callB (csum (K := K) rfl) (by rfl) T.f_sum PyProof.Rows.boot_sum (pa_cons (pe_lc (own := [("slot", 9)]) (g := gName 9) (tt := tYes) rfl sc_hidden_in.nd (pi_list (pv 7)) (blkOk_by (N := N_hidden_in) (sc := defScope s_hidden_in) (by decide +kernel)) (fun _ _ _ _ _ => (pg_name (i := 9) sc_hidden_in.nd rfl (by first | exact Or.inl rfl | exact Or.inr rfl))) (fun _ _ _ _ _ => pts_nil) (fun _ _ _ _ _ => (pe_op op_add (pe_ix (ixT (K := K)) (pe_dget (hu_of hr) (pv 0) (pv 9) (fun _ _ => rfl)) pe_int (fun _ _ => rfl)) pe_int))) pa_nil)))))))))), ?_⟩
    walk_at "tw"
    refine itf rfl ?_
    walk_at "tw"
    refine ⟨(rfl : _ = [V.ref d, V.int ((p : Int) + 1), ov (some (k' : Int))]), ?_⟩
    walk_at "tw"
    intro b H1 zs e1 nb hb ndz lz hz
    walk_at "tw"
    intro D nD
    -- each slot with its known version
    have val : ∀ x ∈ zs, ∃ (s v : Nat) (st : Int) (y : Option Int) (c : Addr) (t : Slot), x = (s : Int) ∧ valV kvs (Sum.inl x) = some (.ref c) ∧ H c = some (.tup [.int v, .int st, ov y]) ∧ 1 ≤ s ∧ ss[s - 1]? = some t ∧ v < t.2.length := by
      intro x hx
      obtain ⟨u, hu⟩ := val_some (kvs := kvs) (k := Sum.inl x) (by rw [eks]; exact List.mem_map.mpr ⟨x, (hz x hx).1, rfl⟩)
      obtain ⟨s, v, st, y, c, h1, h2, h3, t, h4, _, h5⟩ := R.ent _ (val_mem hu)
      obtain ⟨h6, h7⟩ := Prod.mk.inj h1
      exact ⟨s, v, st, y, c, t, by injection h6, by rw [hu, h7], h2, h3, h4, h5⟩
    have hd1 := e1 _ _ hd
    refine lc_list (K := K) (a := b) (xs := zs.map V.int) (fun i H' => Same H1 H' ∧ ∃ ps : List (Nat × Nat), H' D = some (.lst ((ps.map fun z => ((z.2 : Int) + 1)).map V.int)) ∧ (ps.map fun z => ((z.1 : Nat) : Int)) = zs.take i ∧ ∀ z ∈ ps, 1 ≤ z.1 ∧ ∃ t, ss[z.1 - 1]? = some t ∧ z.2 < t.2.length)
      ⟨Same.new nD, [], upd_same, by simp, fun z hz => by cases hz⟩ (fun i H' _ z => SqL.of (z.1 _ _ hb)) ?_ ?_
    · rintro i x H' hx ⟨e, ps, hD, hps, hall⟩
      rw [List.getElem?_map] at hx
      obtain ⟨y, hy, rfl⟩ : ∃ y, zs[i]? = some y ∧ V.int y = x := by
        cases z : zs[i]? with
        | none => rw [z] at hx; cases hx
        | some y => rw [z] at hx; exact ⟨y, rfl, Option.some.inj hx⟩
      obtain ⟨s, v, st, y', c, t, rfl, hv, hc, h1, h2, h3⟩ := val y (List.mem_of_getElem? hy)
      have hd' := e _ _ hd1
      have hc' := e _ _ (e1 _ _ hc)
      have hi : i < zs.length := (List.getElem?_eq_some_iff.mp hy).1
      have hpl : ps.length = i := by
        have := congrArg List.length hps
        rw [List.length_map, List.length_take] at this
        omega
      have hz' : ((ps.map fun z => ((z.2 : Int) + 1)).map V.int).length < sizeLine := smallt (by rw [List.length_map, List.length_map]; omega)
      walk_at "tw"
      refine ⟨e.mut nD, ps ++ [(s, v)], by rw [upd_same, List.map_append, List.map_append]; rfl, by rw [take_succ_get hy, List.map_append, hps]; rfl, fun z hz => ?_⟩
      rcases List.mem_append.mp hz with q | q
      · exact hall z q
      · rw [List.mem_singleton.mp q]; exact ⟨h1, t, h2, h3⟩
    · rintro H' ⟨e, ps, hD, hps, hall⟩
      rw [List.take_of_length_le (by rw [List.length_map]; exact Nat.le_refl _)] at hps
      walk_at "tw"
      have hpl : zs.length = ps.length := by rw [← hps, List.length_map]
      have nd : (ps.map (·.1)).Nodup := by
        have : (ps.map fun z => ((z.1 : Nat) : Int)) = (ps.map (·.1)).map fun n : Nat => (n : Int) := by rw [List.map_map]; rfl
        rw [← hps, this] at ndz
        exact List.Pairwise.of_map (fun n : Nat => (n : Int)) (fun a b h z => h (by rw [z])) ndz
      have main := hidden_ge ok (Nat.le_of_lt hpk) hkl ps nd fun z hz' => by
        have hm : ((z.1 : Nat) : Int) ∈ zs := by rw [← hps]; exact List.mem_map.mpr ⟨z, hz', rfl⟩
        obtain ⟨_, g1, g2⟩ := hz _ hm
        have := g2 k' rfl
        exact ⟨by omega, by omega, (hall z hz').2⟩
      have es : (ps.map fun z => ((z.2 : Int) + 1)).sum = (((ps.map fun z => z.2 + 1).sum : Nat) : Int) := by
        rw [← sum_cast, List.map_map]
        congr 1
      refine k _ _ ?_ (e1.trans e)
      rw [es, List.length_map, hpl]
      omega
end
end Tw
end

section
set_option maxHeartbeats 4000000
namespace Tw
open PySem PySem.Spec PyProof.Rows L2
/-! the machine of the readings: "tw" goes on through what has one answer; it stops at a branch, a loop, a new object, what comes behind a call -/
local macro_rules | `(tactic| walk_at "tw look") => `(tactic| first
  | assumption
  | exact upd_same
  | (refine Same.new (by assumption) _ _ ?_; walk_at "tw look")
  | (refine upd_oth (by assumption) ?_; walk_at "tw look")
  | (refine upd_dif (by assumption) (by intro z; cases z) ?_; walk_at "tw look")
  | (refine upd_dif upd_same (by intro z; cases z) ?_; walk_at "tw look"))
local macro_rules | `(tactic| walk_at "tw seq") => `(tactic| first
  | assumption
  | exact SqL.of (by walk_at "tw look")
  | exact SqT.of (by walk_at "tw look")
  | exact .inl (SqL.of (by walk_at "tw look"))
  | exact .inr (SqT.of (by walk_at "tw look"))
  | exact .inl (by assumption)
  | exact dget_of (by walk_at "tw look") (by assumption)
  | exact DGet.k (k := Sum.inl _) (by walk_at "tw look")
  | exact DPut.k (k := Sum.inl _) (by walk_at "tw look") (by assumption)
  | exact .inl ⟨_, .inl (by walk_at "tw look")⟩
  | exact .inr ⟨_, .inl (by walk_at "tw look")⟩
  | exact ⟨_, SqL.of (by walk_at "tw look")⟩
  | exact ⟨_, SqT.of (by walk_at "tw look")⟩
  | exact ⟨_, by assumption⟩
  | exact .inl ⟨rfl, _, SqL.of (by walk_at "tw look")⟩)
local macro_rules | `(tactic| walk_at "tw atom") => `(tactic| first
  | with_reducible rfl
  | assumption
  | rfl
  | walk_at "tw look"
  | walk_at "tw seq"
  | omega
  | exact small (by simp; done)
  | exact smallt (by simp; done)
  | exact cdiv_of rfl
  | exact fun _ h => h
  | exact Int.natCast_pos.mpr (Nat.zero_lt_succ _)
  | exact cmul_r rfl
  | exact cmul_l rfl
  | exact Nat.le_of_ble_eq_true rfl)
local macro_rules | `(tactic| walk_at "tw step") => `(tactic| first | (with_reducible refine iteT ?_) | (with_reducible refine iteF ?_) | (with_reducible refine itf nott ?_) | (with_reducible refine itt notf ?_) | ((fail_if_success (refine ite2 (fun _ => ?_) (fun _ => ?_))); first
  | ((fail_if_success (refine (?_ : ∃ W : Nat → Nat → L2.St → Hp → Prop, _))); (fail_if_success (refine (?_ : ∃ W : Nat → Nat → Hp → Prop, _))); apply Exists.intro)
  | (apply And.intro; (walk_at "tw atom"))))
local macro_rules | `(tactic| walk_at "tw") => `(tactic| repeat walk_at "tw step")

section
variable {P : Program} {w : World} {K : PySem.W.Frag} {mg : Str → Option Value} {base : Heap}
def spReadsRight : Sp := fun vs H Q _ => ∃ (mv : V) (ra : Addr) (m : Meter) (Ls : List Letter) (off : Int) (ss : List Slot), vs = [mv, .ref ra] ∧ IsMeter H mv m ∧ Bag H ra Ls ∧ Ls.length ≤ 10000 ∧ SlotsOk m ss ∧
  (∀ L ∈ Ls, ∃ nm s v st x, L = .read nm s v st x ∧ TrueL off ss L) ∧ ∀ H', Same H H' → Q (.bl true) H'
theorem C_reads_right (T : Tx K mg) : Callee P w K mg base CX0 "reads_right" P_reads_right 1 spReadsRight := by
  refine mk_reads_right T (k := 0) (fun vs H Q E h => ?_) (fun f cdv A outer s H vs Q E hr h => ?_)
  · obtain ⟨mv, ra, m, Ls, off, ss, rfl, _⟩ := h
    rfl
  · obtain ⟨mv, ra, m, Ls, off, ss, rfl, ⟨ma, rfl, hma⟩, ⟨rs, hra, hrs⟩, lr, ok, tr, k⟩ := h
    have hlen := hrs.1
    refine ⟨_, ((pss_cons (ps_set (i := 2) sc_reads_right.nd rfl (by first | exact Or.inl rfl | exact Or.inr rfl) pe_dnewK)
    (pss_cons (ps_set (i := 3) sc_reads_right.nd rfl (by first | exact Or.inl rfl | exact Or.inr rfl) pe_dnewT)
    (pss_cons (ps_for PassesOwn.never rfl (pi_list (pv 1)) (pg_tup rfl (pgs_cons (pg_name (i := 4) sc_reads_right.nd rfl (by first | exact Or.inl rfl | exact Or.inr rfl)) (pgs_cons (pg_name (i := 5) sc_reads_right.nd rfl (by first | exact Or.inl rfl | exact Or.inr rfl)) (pgs_cons (pg_name (i := 6) sc_reads_right.nd rfl (by first | exact Or.inl rfl | exact Or.inr rfl)) (pgs_cons (pg_name (i := 7) sc_reads_right.nd rfl (by first | exact Or.inl rfl | exact Or.inr rfl)) (pgs_cons (pg_name (i := 8) sc_reads_right.nd rfl (by first | exact Or.inl rfl | exact Or.inr rfl)) (pgs_cons (pg_name (i := 9) sc_reads_right.nd rfl (by first | exact Or.inl rfl | exact Or.inr rfl)) pgs_nil)))))))
    (pss_cons (ps_if (PW.pt (pw_and (pt_cmpR op_isN (pv 9) pe_non (nomark _)) (pw_and1 (pt_cmpR op_eq (pv 7) pe_int (nomark _)))))
    (pss_one (ps_ret pe_bl))
    pss_nil)
    (pss_cons (ps_if (PW.pt (pw_and (pt_cmpR op_notN (pv 9) pe_non (nomark _)) (pw_and1 (pt_not (pt_chain op_le op_le (pe_ix (ixT (K := K)) (pv 0) pe_int (fun _ _ => rfl)) (pv 9) (pe_ix (ixT (K := K)) (pv 0) pe_int (fun _ _ => rfl)))))))
    (pss_one (ps_ret pe_bl))
    pss_nil)
    (pss_one (ps_if (PW.pt (pw_or (pt_cmpR op_ne (pe_dsetdN (pv 2) (pv 6) (pv 8) ⟨rfl, rfl, rfl, rfl⟩) (pv 8) (nomark _)) (pw_or1 (pt_cmpR op_ne (pe_dsetTN (hu64 hr) (pv 3) (pe_tup (pa_cons (pv 6) (pa_cons (pv 7) pa_nil))) (pv 9) ⟨rfl, rfl, rfl, rfl⟩) (pv 9) (nomark _)))))
    (pss_one (ps_ret pe_bl))
    pss_nil)))))
    (pss_one (ps_ret pe_bl)))))), ?_⟩
    walk_at "tw"
    intro sd nsd
    walk_at "tw"
    intro vd nvd
    have nsv : vd ≠ sd := fun z => by rw [z, upd_same] at nvd; cases nvd
    have nvd0 : H vd = none := by rw [upd_ne nsv] at nvd; exact nvd
    have hra2 : (upd (upd H sd (.dK [])) vd (.dT [])) ra = some (.lst rs) := Same.new nvd _ _ (Same.new nsd _ _ hra)
    walk_at "tw"
    refine for_list (K := K) (a := ra) (xs := rs) (fun i σ H' => (∃ x1 x2 x3 x4 x5 x6, σ = [some (.ref ma), some (.ref ra), some (.ref sd), some (.ref vd), x1, x2, x3, x4, x5, x6]) ∧ Same H H' ∧ ∃ (ks : List (Key × V)) (kt : List (List Key × V)), H' sd = some (.dK ks) ∧ H' vd = some (.dT kt) ∧
        ks.length ≤ i ∧ kt.length ≤ i ∧ (∀ p ∈ ks, ∃ (s : Nat) (t : Slot), p = (Sum.inl (s : Int), V.int t.1) ∧ ss[s - 1]? = some t) ∧ ∀ p ∈ kt, ∃ (s v : Nat) (t : Slot) (x : Option Int), p = (([Sum.inl (s : Int), Sum.inl (v : Int)] : List Key), ov x) ∧ ss[s - 1]? = some t ∧ t.2[v]? = some x)
      ⟨⟨_, _, _, _, _, _, rfl⟩, (Same.new nsd).trans (Same.new nvd), [], [], by rw [upd_ne (Ne.symm nsv), upd_same], upd_same, Nat.le_refl _, Nat.le_refl _, (fun p hp => by cases hp), fun p hp => by cases hp⟩ (fun i σ H' _ z => SqL.of (z.2.1 _ _ hra)) ?_ ?_
    · rintro i x σ H' hx ⟨⟨x1, x2, x3, x4, x5, x6, rfl⟩, e, ks, kt, hsd, hvd, lks, lkt, hks, hkt⟩
      have hi : i < rs.length := (List.getElem?_eq_some_iff.mp hx).1
      obtain ⟨L, hL, ⟨la, rfl, hla⟩⟩ := hrs.get hx
      obtain ⟨nm, s, v, st, y, rfl, h1, t, ht, est, hy⟩ := tr L (List.mem_of_getElem? hL)
      have hla' := e _ _ hla
      have hma' := e _ _ hma
      have hvs := ok.vers t (List.mem_of_getElem? ht)
      have z1 : ks.length < sizeLine := smallt (by omega)
      have z2 : kt.length < sizeLine := smallt (by omega)
      -- the two questions of the dicts
      have A1 : ∀ (r : V) (ks' : List (Key × V)), (valV ks (Sum.inl (s : Int)) = some r ∧ ks' = ks) ∨ (r = .int st ∧ ks' = putK ks (Sum.inl (s : Int)) (.int st)) → r = .int st ∧ ks'.length ≤ i + 1 ∧ ∀ p ∈ ks', ∃ (s : Nat) (t : Slot), p = (Sum.inl (s : Int), V.int t.1) ∧ ss[s - 1]? = some t := by
        rintro r ks' (⟨q, rfl⟩ | ⟨rfl, rfl⟩)
        · obtain ⟨s', t', g1, g2⟩ := hks _ (val_mem q)
          obtain ⟨g3, g4⟩ := Prod.mk.inj g1
          have g5 : s' = s := by injection g3 with z; omega
          subst g5
          rw [ht] at g2
          cases g2
          exact ⟨by rw [g4, est], Nat.le_succ_of_le lks, hks⟩
        · refine ⟨rfl, Nat.le_trans (length_putK _ _ _) (Nat.succ_le_succ lks), fun p hp => ?_⟩
          rcases keys_put _ _ _ p hp with rfl | ⟨g, _⟩
          · exact ⟨s, t, by rw [est], ht⟩
          · exact hks p g
      have A2 : ∀ (r : V) (kt' : List (List Key × V)), (valV kt [Sum.inl (s : Int), Sum.inl (v : Int)] = some r ∧ kt' = kt) ∨ (r = ov y ∧ kt' = putK kt [Sum.inl (s : Int), Sum.inl (v : Int)] (ov y)) → r = ov y ∧ kt'.length ≤ i + 1 ∧ ∀ p ∈ kt', ∃ (s v : Nat) (t : Slot) (x : Option Int), p = (([Sum.inl (s : Int), Sum.inl (v : Int)] : List Key), ov x) ∧ ss[s - 1]? = some t ∧ t.2[v]? = some x := by
        rintro r kt' (⟨q, rfl⟩ | ⟨rfl, rfl⟩)
        · obtain ⟨s', v', t', x', g1, g2, g6⟩ := hkt _ (val_mem q)
          obtain ⟨g3, g4⟩ := Prod.mk.inj g1
          have g5 : s' = s ∧ v' = v := by
            injection g3 with z1 z2
            injection z1 with z1
            injection z2 with z2 _
            injection z2 with z2
            omega
          obtain ⟨rfl, rfl⟩ := g5
          rw [ht] at g2
          cases g2
          rw [hy] at g6
          cases g6
          exact ⟨g4, Nat.le_succ_of_le lkt, hkt⟩
        · refine ⟨rfl, Nat.le_trans (length_putK _ _ _) (Nat.succ_le_succ lkt), fun p hp => ?_⟩
          rcases keys_put _ _ _ p hp with rfl | ⟨g, _⟩
          · exact ⟨s, v, t, y, rfl, ht, hy⟩
          · exact hkt p g
      have hv0 : y = none → v ≠ 0 := by rintro rfl rfl; exact hvs.first hy
      have hrg : ∀ z, y = some z → m.lo ≤ z ∧ z ≤ m.hi := fun z e => hvs.rng z (by rw [← e]; exact List.mem_of_getElem? hy)
      clear hvs tr
      cases y with
      | none =>
        walk_at "tw"
        refine itt rfl ?_
        walk_at "tw"
        refine itf (int_ne (by have := hv0 rfl; omega)) ?_
        walk_at "tw"
        refine itf rfl ?_
        refine itf rfl ?_
        walk_at "tw"
        refine ⟨(rfl : _ = kV (Sum.inl (s : Int))), ?_⟩
        walk_at "tw"
        intro r ks' hr1
        obtain ⟨rfl, l1, hks'⟩ := A1 r ks' hr1
        walk_at "tw"
        refine itf (by rw [decide_eq_true rfl]; rfl) ?_
        have hvd1 : (upd H' sd (.dK ks')) vd = some (.dT kt) := upd_dif hsd (by intro z; cases z) hvd
        walk_at "tw"
        intro tp ntp
        have hvd2 := Same.new ntp (o := .tup [.int (s : Nat), .int (v : Nat)]) _ _ hvd1
        walk_at "tw"
        refine ⟨(upd_same : _ = some (HO.tup (([Sum.inl (s : Int), Sum.inl (v : Int)] : List Key).map kV))), ?_⟩
        walk_at "tw"
        intro r2 kt' hr2
        obtain ⟨rfl, l2, hkt'⟩ := A2 r2 kt' hr2
        walk_at "tw"
        refine itf (by rw [decide_eq_true rfl]; rfl) ?_
        refine ⟨⟨_, _, _, _, _, _, rfl⟩, (((e.mut nsd).up ntp).mut nvd0), ks', kt', ?_, upd_same, l1, l2, hks', hkt'⟩
        exact upd_dif hvd2 (by intro z; cases z) (Same.new ntp _ _ upd_same)
      | some z =>
        obtain ⟨g1, g2⟩ := hrg z rfl
        walk_at "tw"
        refine itf rfl ?_
        refine itf rfl ?_
        walk_at "tw"
        refine itt rfl ?_
        walk_at "tw"
        refine itt (decide_eq_true g1) ?_
        walk_at "tw"
        simp only [decide_eq_true g2]
        walk_at "tw"
        walk_at "tw"
        refine ⟨(rfl : _ = kV (Sum.inl (s : Int))), ?_⟩
        walk_at "tw"
        intro r ks' hr1
        obtain ⟨rfl, l1, hks'⟩ := A1 r ks' hr1
        walk_at "tw"
        refine itf (by rw [decide_eq_true rfl]; rfl) ?_
        have hvd1 : (upd H' sd (.dK ks')) vd = some (.dT kt) := upd_dif hsd (by intro z; cases z) hvd
        walk_at "tw"
        intro tp ntp
        have hvd2 := Same.new ntp (o := .tup [.int (s : Nat), .int (v : Nat)]) _ _ hvd1
        walk_at "tw"
        refine ⟨(upd_same : _ = some (HO.tup (([Sum.inl (s : Int), Sum.inl (v : Int)] : List Key).map kV))), ?_⟩
        walk_at "tw"
        intro r2 kt' hr2
        obtain ⟨rfl, l2, hkt'⟩ := A2 r2 kt' hr2
        walk_at "tw"
        refine itf (by rw [decide_eq_true rfl]; rfl) ?_
        refine ⟨⟨_, _, _, _, _, _, rfl⟩, (((e.mut nsd).up ntp).mut nvd0), ks', kt', ?_, upd_same, l1, l2, hks', hkt'⟩
        exact upd_dif hvd2 (by intro z; cases z) (Same.new ntp _ _ upd_same)
    · rintro σ H' ⟨⟨x1, x2, x3, x4, x5, x6, rfl⟩, e, _⟩
      exact k _ e
end
end Tw
end

section
set_option maxHeartbeats 4000000
namespace Tw
open PySem PySem.Spec PyProof.Rows L2
/-! the machine of the readings: "tw" goes on through what has one answer; it stops at a branch, a loop, a new object, what comes behind a call -/
local macro_rules | `(tactic| walk_at "tw look") => `(tactic| first
  | assumption
  | exact upd_same
  | (refine Same.new (by assumption) _ _ ?_; walk_at "tw look")
  | (refine upd_oth (by assumption) ?_; walk_at "tw look")
  | (refine upd_dif (by assumption) (by intro z; cases z) ?_; walk_at "tw look")
  | (refine upd_dif upd_same (by intro z; cases z) ?_; walk_at "tw look"))
local macro_rules | `(tactic| walk_at "tw seq") => `(tactic| first
  | assumption
  | exact SqL.of (by walk_at "tw look")
  | exact SqT.of (by walk_at "tw look")
  | exact .inl (SqL.of (by walk_at "tw look"))
  | exact .inr (SqT.of (by walk_at "tw look"))
  | exact .inl (by assumption)
  | exact dget_of (by walk_at "tw look") (by assumption)
  | exact DGet.k (k := Sum.inl _) (by walk_at "tw look")
  | exact DPut.k (k := Sum.inl _) (by walk_at "tw look") (by assumption)
  | exact .inl ⟨_, .inl (by walk_at "tw look")⟩
  | exact .inr ⟨_, .inl (by walk_at "tw look")⟩
  | exact ⟨_, SqL.of (by walk_at "tw look")⟩
  | exact ⟨_, SqT.of (by walk_at "tw look")⟩
  | exact ⟨_, by assumption⟩
  | exact .inl ⟨rfl, _, SqL.of (by walk_at "tw look")⟩)
local macro_rules | `(tactic| walk_at "tw atom") => `(tactic| first
  | with_reducible rfl
  | assumption
  | rfl
  | walk_at "tw look"
  | walk_at "tw seq"
  | omega
  | exact small (by simp; done)
  | exact smallt (by simp; done)
  | exact cdiv_of rfl
  | exact fun _ h => h
  | exact Int.natCast_pos.mpr (Nat.zero_lt_succ _)
  | exact cmul_r rfl
  | exact cmul_l rfl
  | exact Nat.le_of_ble_eq_true rfl)
local macro_rules | `(tactic| walk_at "tw step") => `(tactic| first | (with_reducible refine iteT ?_) | (with_reducible refine iteF ?_) | (with_reducible refine itf nott ?_) | (with_reducible refine itt notf ?_) | ((fail_if_success (refine ite2 (fun _ => ?_) (fun _ => ?_))); first
  | ((fail_if_success (refine (?_ : ∃ W : Nat → Nat → L2.St → Hp → Prop, _))); (fail_if_success (refine (?_ : ∃ W : Nat → Nat → Hp → Prop, _))); apply Exists.intro)
  | (apply And.intro; (walk_at "tw atom"))))
local macro_rules | `(tactic| walk_at "tw") => `(tactic| repeat walk_at "tw step")

section
variable {P : Program} {w : World} {K : PySem.W.Frag} {mg : Str → Option Value} {base : Heap}
theorem cut_tail (xs : List V) : cutV xs (some 1) none = xs.drop 1 := by
  unfold cutV
  rw [HT.sIx_none, show (some (1 : Int)) = some ((1 : Nat) : Int) from rfl, HT.sIx_nat]
  by_cases h : 1 ≤ xs.length
  · rw [Nat.min_eq_left h, List.take_of_length_le (by rw [List.length_drop]; exact Nat.le_refl _)]
  · rw [List.drop_eq_nil_of_le (i := 1) (by omega), Nat.min_eq_right (by omega), List.drop_length, List.take_nil]
def spClosesRight : Sp := fun vs H Q _ => ∃ (ra d : Addr) (nm : Str) (Ls : List Letter) (off : Int) (ss : List Slot) (kvs : List (Key × V)), vs = [.ref ra, .str nm, .ref d] ∧ Bag H ra Ls ∧ Ls.length ≤ 10000 ∧ H d = some (.dK kvs) ∧ ClosT H ss kvs ∧ kvs.length < 64 ∧
  ClsAll Ls nm kvs ∧ (∀ L ∈ Ls, L.nm = nm → TrueL off ss L) ∧ ∀ H', Same H H' → Q (.bl true) H'
theorem C_closes_right (T : Tx K mg) : Callee P w K mg base CX0 "closes_right" P_closes_right 1 spClosesRight := by
  refine mk_closes_right T (k := 0) (fun vs H Q E h => ?_) (fun f cdv A outer s H vs Q E hr h => ?_)
  · obtain ⟨ra, d, nm, Ls, off, ss, kvs, rfl, _⟩ := h
    rfl
  · obtain ⟨ra, d, nm, Ls, off, ss, kvs, rfl, ⟨rs, hra, hrs⟩, lr, hd, C, few, CA, tr, k⟩ := h
    have hlen := hrs.1
    obtain ⟨ks, eks, ndk, lks⟩ := keys_ints C
    have lk : ks.length < 64 := by omega
    have ent : ∀ y ∈ ks, ∃ (n : Nat) (c f : Int) (a : Addr), y = (n : Int) ∧ valV kvs (Sum.inl y) = some (.ref a) ∧ H a = some (.tup [.int c, .int f, .int (cnt ss n)]) ∧ CEnt ss n c f (cnt ss n) := by
      intro y hy
      obtain ⟨u, hu⟩ := val_some (kvs := kvs) (k := Sum.inl y) (by rw [eks]; exact List.mem_map.mpr ⟨y, hy, rfl⟩)
      obtain ⟨n, c, f, ve, a, h1, h2, h3⟩ := C.ent _ (val_mem hu)
      obtain ⟨h4, h5⟩ := Prod.mk.inj h1
      have h6 := h3.v
      subst h6
      exact ⟨n, c, f, a, by injection h4, by rw [hu, h5], h2, h3⟩
    refine ⟨_, ((pss_cons (ps_for PassesOwn.never rfl (pi_list (pv 0)) (pg_name (i := 3) sc_closes_right.nd rfl (by first | exact Or.inl rfl | exact Or.inr rfl))
    (pss_one (ps_if (PW.pt (pw_and (pt_cmpR op_eq (pe_ix (ixT (K := K)) (pv 3) pe_int (fun _ _ => rfl)) pe_str (nomark _)) (pw_and (pt_cmpR op_eq (pe_ix (ixT (K := K)) (pv 3) pe_int (fun _ _ => rfl)) (pv 1) (nomark _)) (pw_and1 (pt_cmpR op_ne (pe_ix (ixT (K := K)) (pe_dget (hu_of hr) (pv 2) (pe_ix (ixT (K := K)) (pv 3) pe_int (fun _ _ => rfl)) (fun _ _ => rfl)) pe_int (fun _ _ => rfl)) (pe_ix (ixT (K := K)) (pv 3) pe_int (fun _ _ => rfl)) (nomark _))))))
    (pss_one (ps_ret pe_bl))
    pss_nil)))
    (pss_cons (ps_if (PW.pt (pw_and (pt_cmp (pc_din (hu_of hr) pe_int (pv 2))) (pw_and1 (pt_cmpR op_ne (pe_ix (ixT (K := K)) (pe_dget (hu_of hr) (pv 2) pe_int (fun _ _ => rfl)) pe_int (fun _ _ => rfl)) pe_int (nomark _)))))
    (pss_one (ps_ret pe_bl))
    pss_nil)
    (pss_cons (ps_set (i := 4) sc_closes_right.nd rfl (by first | exact Or.inl rfl | exact Or.inr rfl) (pe_callB (call_sortedDI rfl) (by rfl) T.f_sorted PyProof.Rows.boot_sorted (pa_cons (pv 2) pa_nil)))
    (pss_one (ps_ret (pe_callB (call_ (K := K) rfl) (by rfl) T.f_all PyProof.Rows.boot_all (pa_cons (pe_lc (own := [("n", 5), ("k", 6)]) (g := gTup K 2 (gCons (gName 5) (gCons (gName 6) gNil))) (tt := tYes) rfl sc_closes_right.nd (pi_zip (by rfl) T.f_zip (pa_cons (pv 4) (pa_cons (pe_slice (slL (K := K)) (pv 4) (po_some pe_int) po_none) pa_nil))) (blkOk_by (N := N_closes_right) (sc := defScope s_closes_right) (by decide +kernel)) (fun _ _ _ _ _ => (pg_tup rfl (pgs_cons (pg_name (i := 5) sc_closes_right.nd rfl (by first | exact Or.inl rfl | exact Or.inr rfl)) (pgs_cons (pg_name (i := 6) sc_closes_right.nd rfl (by first | exact Or.inl rfl | exact Or.inr rfl)) pgs_nil)))) (fun _ _ _ _ _ => pts_nil) (fun _ _ _ _ _ => (pe_cmpR op_lt (pe_ix (ixT (K := K)) (pe_dget (hu_of hr) (pv 2) (pv 5) (fun _ _ => rfl)) pe_int (fun _ _ => rfl)) (pe_ix (ixT (K := K)) (pe_dget (hu_of hr) (pv 2) (pv 6) (fun _ _ => rfl)) pe_int (fun _ _ => rfl)) (nomark _)))) pa_nil)))))))), ?_⟩
    walk_at "tw"
    refine for_list (K := K) (a := ra) (xs := rs) (fun i σ H' => (∃ x1 x2 x3 x4, σ = [some (.ref ra), some (.str nm), some (.ref d), x1, x2, x3, x4]) ∧ H' = H)
      ⟨⟨_, _, _, _, rfl⟩, rfl⟩ (fun i σ H' _ z => SqL.of (by rw [z.2]; exact hra)) ?_ ?_
    · rintro i x σ H' hx ⟨⟨x1, x2, x3, x4, rfl⟩, rfl⟩
      have hi : i < rs.length := (List.getElem?_eq_some_iff.mp hx).1
      obtain ⟨L, hL, ⟨la, rfl, hla⟩⟩ := hrs.get hx
      have hLm := List.mem_of_getElem? hL
      have trL := tr L hLm
      cases L with
      | read nm' s v st y =>
        walk_at "tw"
        refine itf (str_ne rc_ne) ?_
        walk_at "tw"
        exact ⟨⟨_, _, _, _, rfl⟩, rfl⟩
      | clock nm' lo hi =>
        walk_at "tw"
        refine itf (str_ne fun z => ck_ne z.symm) ?_
        walk_at "tw"
        exact ⟨⟨_, _, _, _, rfl⟩, rfl⟩
      | close nm' n st ve =>
        walk_at "tw"
        refine itt (str_eq rfl) ?_
        walk_at "tw"
        refine ite2 (fun hc => ?_) (fun hc => ?_)
        · obtain rfl : nm' = nm := V.str.inj (of_decide_eq_true hc)
          have hm := CA n st ve hLm
          rw [eks] at hm
          obtain ⟨y, hy, ey⟩ := List.mem_map.mp hm
          obtain rfl : y = (n : Int) := by injection ey
          obtain ⟨n', c, f, a, e1, hu, ha, E1⟩ := ent _ hy
          obtain rfl : n' = n := by omega
          have hv := (trL rfl).2.2
          walk_at "tw"
          refine itf (by rw [int_eq (show ((cnt ss n' : Nat) : Int) = ve by rw [← hv]; rfl)]; rfl) ?_
          exact ⟨⟨_, _, _, _, rfl⟩, rfl⟩
        · refine itf rfl ?_
          exact ⟨⟨_, _, _, _, rfl⟩, rfl⟩
    · rintro σ H' ⟨⟨x1, x2, x3, x4, rfl⟩, rfl⟩
      walk_at "tw"
      cases q : valV kvs (Sum.inl 0) with
      | none =>
        refine itf rfl ?_
        refine itf rfl ?_
        walk_at "tw"
        intro ys pl perm asc npl
        have ndy : ys.Nodup := perm.nodup_iff.mpr ndk
        have hl : ys.length < 64 := by rw [perm.length_eq]; exact lk
        walk_at "tw"
        intro zp nzp
        have hzp : zp ≠ pl := fun z => by rw [z, upd_same] at nzp; cases nzp
        have hpl : ∀ o, (upd (upd H' pl (.lst (ys.map V.int))) zp o) pl = some (.lst (ys.map V.int)) := fun o => by rw [upd_ne (Ne.symm hzp), upd_same]
        have hpl1 := hpl (.lst (cutV (ys.map V.int) (some 1) none))
        walk_at "tw"
        rw [cut_tail]
        intro D nD
        refine lc_it (walk_zip (K := K) (a := pl) (b := zp) (xs := ys.map V.int) (ys := (ys.map V.int).drop 1) (n := ys.length - 1) (by rw [List.length_drop, List.length_map]; omega))
          (fun i H2 => Same (upd (upd H' pl (.lst (ys.map V.int))) zp (.lst ((ys.map V.int).drop 1))) H2 ∧ H2 D = some (.lst ((List.replicate i true).map V.bl))) ⟨Same.new nD, upd_same⟩ (fun i H2 _ z => ⟨SqL.of (z.1 _ _ (hpl _)), SqL.of (z.1 _ _ upd_same)⟩) ?_ ?_
        · rintro i x H2 H3 hi ⟨e, hD⟩ ⟨TT, x1', x2', rfl, nT, rfl, g1, g2⟩
          simp only [] at g1 g2
          rw [List.getElem?_drop] at g2
          rw [List.getElem?_map] at g1 g2
          obtain ⟨y1, h1, rfl⟩ : ∃ y, ys[i]? = some y ∧ V.int y = x1' := by
            cases z : ys[i]? with
            | none => rw [z] at g1; cases g1
            | some y => rw [z] at g1; exact ⟨y, rfl, Option.some.inj g1⟩
          obtain ⟨y2, h2, rfl⟩ : ∃ y, ys[1 + i]? = some y ∧ V.int y = x2' := by
            cases z : ys[1 + i]? with
            | none => rw [z] at g2; cases g2
            | some y => rw [z] at g2; exact ⟨y, rfl, Option.some.inj g2⟩
          obtain ⟨n1, c1, f1, a1, rfl, hu1, ha1, E1⟩ := ent y1 (perm.mem_iff.mp (List.mem_of_getElem? h1))
          obtain ⟨n2, c2, f2, a2, rfl, hu2, ha2, E2⟩ := ent y2 (perm.mem_iff.mp (List.mem_of_getElem? h2))
          have hlt : n1 < n2 := by have := asc_lt ndy asc (by omega) h1 h2; omega
          have hfc : f1 < c2 := by
            have hb : n1 < ss.length := Nat.lt_of_lt_of_le hlt E2.le
            have q1 := E1.f n1 _ (List.getElem?_eq_getElem hb) (Nat.le_refl _)
            have q2 := E2.c n1 _ (List.getElem?_eq_getElem hb) hlt
            omega
          have e' : Same H' (upd H2 TT (.tup [.int (n1 : Nat), .int (n2 : Nat)])) := ((((Same.new npl).up nzp).trans e)).up nT
          have hd' := e' _ _ hd
          have ha1' := e' _ _ ha1
          have ha2' := e' _ _ ha2
          have hTT : (upd H2 TT (.tup [.int (n1 : Nat), .int (n2 : Nat)])) TT = some (.tup [.int (n1 : Nat), .int (n2 : Nat)]) := upd_same
          have hD' := Same.new nT (o := .tup [.int (n1 : Nat), .int (n2 : Nat)]) _ _ hD
          have hz : ((List.replicate i true).map V.bl).length < sizeLine := smallt (by rw [List.length_map, List.length_replicate]; omega)
          walk_at "tw"
          refine ⟨(e.up nT).mut nD, ?_⟩
          simp only [decide_eq_true hfc]
          rw [upd_same, List.replicate_succ', List.map_append]; rfl
        · rintro H2 ⟨e, hD⟩
          walk_at "tw"
          rw [all_rep]
          exact k _ (((Same.new npl).up nzp).trans e)
      | some u =>
        obtain ⟨n, c, f, a, e1, hu, ha, E1⟩ := ent 0 (by
          have := val_mem q
          have : Sum.inl (0 : Int) ∈ kvs.map (·.1) := List.mem_map.mpr ⟨_, this, rfl⟩
          rw [eks] at this
          obtain ⟨y, hy, ey⟩ := List.mem_map.mp this
          injection ey with ey
          rw [← ey]; exact hy)
        obtain rfl : n = 0 := by omega
        rw [q] at hu
        cases hu
        refine itt rfl ?_
        walk_at "tw"
        refine itf (by rw [int_eq (show ((cnt ss 0 : Nat) : Int) = 0 from rfl)]; rfl) ?_
        walk_at "tw"
        intro ys pl perm asc npl
        have ndy : ys.Nodup := perm.nodup_iff.mpr ndk
        have hl : ys.length < 64 := by rw [perm.length_eq]; exact lk
        walk_at "tw"
        intro zp nzp
        have hzp : zp ≠ pl := fun z => by rw [z, upd_same] at nzp; cases nzp
        have hpl : ∀ o, (upd (upd H' pl (.lst (ys.map V.int))) zp o) pl = some (.lst (ys.map V.int)) := fun o => by rw [upd_ne (Ne.symm hzp), upd_same]
        have hpl1 := hpl (.lst (cutV (ys.map V.int) (some 1) none))
        walk_at "tw"
        rw [cut_tail]
        intro D nD
        refine lc_it (walk_zip (K := K) (a := pl) (b := zp) (xs := ys.map V.int) (ys := (ys.map V.int).drop 1) (n := ys.length - 1) (by rw [List.length_drop, List.length_map]; omega))
          (fun i H2 => Same (upd (upd H' pl (.lst (ys.map V.int))) zp (.lst ((ys.map V.int).drop 1))) H2 ∧ H2 D = some (.lst ((List.replicate i true).map V.bl))) ⟨Same.new nD, upd_same⟩ (fun i H2 _ z => ⟨SqL.of (z.1 _ _ (hpl _)), SqL.of (z.1 _ _ upd_same)⟩) ?_ ?_
        · rintro i x H2 H3 hi ⟨e, hD⟩ ⟨TT, x1', x2', rfl, nT, rfl, g1, g2⟩
          simp only [] at g1 g2
          rw [List.getElem?_drop] at g2
          rw [List.getElem?_map] at g1 g2
          obtain ⟨y1, h1, rfl⟩ : ∃ y, ys[i]? = some y ∧ V.int y = x1' := by
            cases z : ys[i]? with
            | none => rw [z] at g1; cases g1
            | some y => rw [z] at g1; exact ⟨y, rfl, Option.some.inj g1⟩
          obtain ⟨y2, h2, rfl⟩ : ∃ y, ys[1 + i]? = some y ∧ V.int y = x2' := by
            cases z : ys[1 + i]? with
            | none => rw [z] at g2; cases g2
            | some y => rw [z] at g2; exact ⟨y, rfl, Option.some.inj g2⟩
          obtain ⟨n1, c1, f1, a1, rfl, hu1, ha1, E1⟩ := ent y1 (perm.mem_iff.mp (List.mem_of_getElem? h1))
          obtain ⟨n2, c2, f2, a2, rfl, hu2, ha2, E2⟩ := ent y2 (perm.mem_iff.mp (List.mem_of_getElem? h2))
          have hlt : n1 < n2 := by have := asc_lt ndy asc (by omega) h1 h2; omega
          have hfc : f1 < c2 := by
            have hb : n1 < ss.length := Nat.lt_of_lt_of_le hlt E2.le
            have q1 := E1.f n1 _ (List.getElem?_eq_getElem hb) (Nat.le_refl _)
            have q2 := E2.c n1 _ (List.getElem?_eq_getElem hb) hlt
            omega
          have e' : Same H' (upd H2 TT (.tup [.int (n1 : Nat), .int (n2 : Nat)])) := ((((Same.new npl).up nzp).trans e)).up nT
          have hd' := e' _ _ hd
          have ha1' := e' _ _ ha1
          have ha2' := e' _ _ ha2
          have hTT : (upd H2 TT (.tup [.int (n1 : Nat), .int (n2 : Nat)])) TT = some (.tup [.int (n1 : Nat), .int (n2 : Nat)]) := upd_same
          have hD' := Same.new nT (o := .tup [.int (n1 : Nat), .int (n2 : Nat)]) _ _ hD
          have hz : ((List.replicate i true).map V.bl).length < sizeLine := smallt (by rw [List.length_map, List.length_replicate]; omega)
          walk_at "tw"
          refine ⟨(e.up nT).mut nD, ?_⟩
          simp only [decide_eq_true hfc]
          rw [upd_same, List.replicate_succ', List.map_append]; rfl
        · rintro H2 ⟨e, hD⟩
          walk_at "tw"
          rw [all_rep]
          exact k _ (((Same.new npl).up nzp).trans e)
end
end Tw
end

section
set_option maxHeartbeats 4000000
namespace Tw
open PySem PySem.Spec PyProof.Rows L2
/-! the machine of the readings: "tw" goes on through what has one answer; it stops at a branch, a loop, a new object, what comes behind a call -/
local macro_rules | `(tactic| walk_at "tw look") => `(tactic| first
  | assumption
  | exact upd_same
  | (refine Same.new (by assumption) _ _ ?_; walk_at "tw look")
  | (refine upd_oth (by assumption) ?_; walk_at "tw look")
  | (refine upd_dif (by assumption) (by intro z; cases z) ?_; walk_at "tw look")
  | (refine upd_dif upd_same (by intro z; cases z) ?_; walk_at "tw look"))
local macro_rules | `(tactic| walk_at "tw seq") => `(tactic| first
  | assumption
  | exact SqL.of (by walk_at "tw look")
  | exact SqT.of (by walk_at "tw look")
  | exact .inl (SqL.of (by walk_at "tw look"))
  | exact .inr (SqT.of (by walk_at "tw look"))
  | exact .inl (by assumption)
  | exact dget_of (by walk_at "tw look") (by assumption)
  | exact DGet.k (k := Sum.inl _) (by walk_at "tw look")
  | exact DPut.k (k := Sum.inl _) (by walk_at "tw look") (by assumption)
  | exact .inl ⟨_, .inl (by walk_at "tw look")⟩
  | exact .inr ⟨_, .inl (by walk_at "tw look")⟩
  | exact ⟨_, SqL.of (by walk_at "tw look")⟩
  | exact ⟨_, SqT.of (by walk_at "tw look")⟩
  | exact ⟨_, by assumption⟩
  | exact .inl ⟨rfl, _, SqL.of (by walk_at "tw look")⟩)
local macro_rules | `(tactic| walk_at "tw atom") => `(tactic| first
  | with_reducible rfl
  | assumption
  | rfl
  | walk_at "tw look"
  | walk_at "tw seq"
  | omega
  | exact small (by simp; done)
  | exact smallt (by simp; done)
  | exact cdiv_of rfl
  | exact fun _ h => h
  | exact Int.natCast_pos.mpr (Nat.zero_lt_succ _)
  | exact cmul_r rfl
  | exact cmul_l rfl
  | exact Nat.le_of_ble_eq_true rfl)
local macro_rules | `(tactic| walk_at "tw step") => `(tactic| first | (with_reducible refine iteT ?_) | (with_reducible refine iteF ?_) | (with_reducible refine itf nott ?_) | (with_reducible refine itt notf ?_) | ((fail_if_success (refine ite2 (fun _ => ?_) (fun _ => ?_))); first
  | ((fail_if_success (refine (?_ : ∃ W : Nat → Nat → L2.St → Hp → Prop, _))); (fail_if_success (refine (?_ : ∃ W : Nat → Nat → Hp → Prop, _))); apply Exists.intro)
  | (apply And.intro; (walk_at "tw atom"))))
local macro_rules | `(tactic| walk_at "tw") => `(tactic| repeat walk_at "tw step")

section
variable {P : Program} {w : World} {K : PySem.W.Frag} {mg : Str → Option Value} {base : Heap}
theorem sorted_same {a b : List Int} (hp : a.Perm b) (ha : a.Pairwise (· ≤ ·)) (hb : b.Pairwise (· ≤ ·)) : a = b :=
  hp.eq_of_pairwise (fun x y _ _ h1 h2 => Int.le_antisymm h1 h2) ha hb
def IsLim (H : Hp) (ss : List Slot) (v : V) : Prop := ∃ (a : Addr) (p : Nat) (la le gr : Option Int) (ve : V), v = .ref a ∧ H a = some (.tup [.int ((p : Int) + 1), ov la, ov le, ov gr, ve]) ∧ Above ss p le ∧
  ∀ (i : Nat) t, ss[i]? = some t → (∀ k, la = some k → (i : Int) + 1 ≤ k) → ∀ g, gr = some g → t.1 ≤ g
theorem IsLim.mono {H H' : Hp} {ss : List Slot} {v : V} (h : IsLim H ss v) (e : TKeep H H') : IsLim H' ss v := by
  obtain ⟨a, p, la, le, gr, ve, h1, h2, h3⟩ := h
  exact ⟨a, p, la, le, gr, ve, h1, e _ _ h2, h3⟩
theorem IsSeg.lim {H : Hp} {ss : List Slot} {v : V} (h : IsSeg H ss v) : IsLim H ss v := by
  obtain ⟨a, p, k, le, g, h1, h2, h3, h4, h5, h6⟩ := h
  exact ⟨a, p, some (k : Int), le, some g, _, h1, h2, h5, fun i t ht hk g' e => by cases e; exact h6 i t ht (by have := hk _ rfl; omega)⟩
theorem IsTl.lim {H : Hp} {ss : List Slot} {v : V} (h : IsTl H ss v) : IsLim H ss v := by
  obtain ⟨a, p, le, h1, h2, h3⟩ := h
  exact ⟨a, p, none, le, none, _, h1, h2, h3, fun i t ht hk g' e => by cases e⟩
theorem ints_flat (ns : List Int) : (ns.map V.int).all flatN = true := by rw [List.all_map, List.all_eq_true]; intro x _; rfl
def spStampsRight : Sp := fun vs H Q _ => ∃ (d l : Addr) (kvs : List (Key × V)) (ss : List Slot) (m : Meter), vs = [.ref d, .ref l] ∧ H d = some (.dK kvs) ∧ RcvT H ss kvs ∧ kvs.length < 64 ∧ SlotsOk m ss ∧ LimD H ss l ∧
  ∀ H', Same H H' → Q (.bl true) H'
theorem C_stamps_right (T : Tx K mg) : Callee P w K mg base CX0 "stamps_right" P_stamps_right 2 spStampsRight := by
  refine mk_stamps_right T (k := 1) (fun vs H Q E h => ?_) (fun f cdv A outer s H vs Q E hr h => ?_)
  · obtain ⟨d, l, kvs, ss, m, rfl, _⟩ := h
    rfl
  · obtain ⟨d, l, kvs, ss, m, rfl, hd, R, few, ok, ⟨segs, tl, hl, hsegs, htl, lsegs⟩, k⟩ := h
    obtain ⟨ks, eks, ndk, lks⟩ := rkeys R
    have lk : ks.length < 64 := by omega
    have val : ∀ x ∈ ks, ∃ (s v : Nat) (y : Option Int) (c : Addr) (t : Slot), x = (s : Int) ∧ valV kvs (Sum.inl x) = some (.ref c) ∧ H c = some (.tup [.int v, .int t.1, ov y]) ∧ 1 ≤ s ∧ ss[s - 1]? = some t := by
      intro x hx
      obtain ⟨u, hu⟩ := val_some (kvs := kvs) (k := Sum.inl x) (by rw [eks]; exact List.mem_map.mpr ⟨x, hx, rfl⟩)
      obtain ⟨s, v, st, y, c, h1, h2, h3, t, h4, h5, _⟩ := R.ent _ (val_mem hu)
      obtain ⟨h6, h7⟩ := Prod.mk.inj h1
      exact ⟨s, v, y, c, t, by injection h6, by rw [hu, h7], by rw [h2, h5], h3, h4⟩
    have lims : ∀ v ∈ segs ++ [tl], IsLim H ss v := fun v hv => by
      rcases List.mem_append.mp hv with z | z
      · exact (hsegs v z).lim
      · rw [List.mem_singleton.mp z]; exact htl.lim
    refine ⟨_, ((pss_cons (ps_setLc (i := 2) (own := [("slot", 8)]) (g := gName 8) (tt := tYes) rfl sc_stamps_right.nd rfl rfl (sw_true rfl rfl rfl (by decide +kernel)) (pi_list (pe_callB (call_sortedDI rfl) (by rfl) T.f_sorted PyProof.Rows.boot_sorted (pa_cons (pv 0) pa_nil))) (blkOk_by (N := N_stamps_right) (sc := defScope s_stamps_right) (by decide +kernel)) (fun _ _ _ _ _ => (pg_name (i := 8) sc_stamps_right.nd rfl (by first | exact Or.inl rfl | exact Or.inr rfl))) (fun _ _ _ _ _ => pts_nil) (fun _ _ _ _ _ => (pe_ix (ixT (K := K)) (pe_dget (hu_of hr) (pv 0) (pv 8) (fun _ _ => rfl)) pe_int (fun _ _ => rfl))))
    (pss_cons (ps_if (pt_cmpR (opNe (K := K) (hu64 hr)) (pv 2) (pe_callB cr_sortedI (by rfl) T.f_sorted PyProof.Rows.boot_sorted (pa_cons (pv 2) pa_nil)) (nomark _))
    (pss_one (ps_ret pe_bl))
    pss_nil)
    (pss_cons (ps_for PassesOwn.never rfl (pi_list (pv 1)) (pg_tup rfl (pgs_cons (pg_name (i := 3) sc_stamps_right.nd rfl (by first | exact Or.inl rfl | exact Or.inr rfl)) (pgs_cons (pg_name (i := 4) sc_stamps_right.nd rfl (by first | exact Or.inl rfl | exact Or.inr rfl)) (pgs_cons (pg_name (i := 5) sc_stamps_right.nd rfl (by first | exact Or.inl rfl | exact Or.inr rfl)) (pgs_cons (pg_name (i := 6) sc_stamps_right.nd rfl (by first | exact Or.inl rfl | exact Or.inr rfl)) (pgs_cons (pg_name (i := 7) sc_stamps_right.nd rfl (by first | exact Or.inl rfl | exact Or.inr rfl)) pgs_nil))))))
    (pss_one (ps_for PassesOwn.never rfl (pi_list (pe_cl (C_slots_within T) (hr.mono (by decide)) pass0 (pa_cons (pv 0) (pa_cons (pv 3) (pa_cons (pv 4) pa_nil))))) (pg_name (i := 8) sc_stamps_right.nd rfl (by first | exact Or.inl rfl | exact Or.inr rfl))
    (pss_cons (ps_set (i := 9) sc_stamps_right.nd rfl (by first | exact Or.inl rfl | exact Or.inr rfl) (pe_ix (ixT (K := K)) (pe_dget (hu_of hr) (pv 0) (pv 8) (fun _ _ => rfl)) pe_int (fun _ _ => rfl)))
    (pss_one (ps_if (PW.pt (pw_or (PW.pt (pw_and (pt_cmpR op_notN (pv 5) pe_non (nomark _)) (pw_and1 (pt_cmpR op_lt (pv 9) (pv 5) (nomark _))))) (pw_or1 (PW.pt (pw_and (pt_cmpR op_notN (pv 6) pe_non (nomark _)) (pw_and1 (pt_cmpR op_gt (pv 9) (pv 6) (nomark _))))))))
    (pss_one (ps_ret pe_bl))
    pss_nil))))))
    (pss_one (ps_ret pe_bl)))))), ?_⟩
    walk_at "tw"
    intro ys pl perm asc npl
    have ndy : ys.Nodup := perm.nodup_iff.mpr ndk
    have hly : ys.length < 64 := by rw [perm.length_eq]; exact lk
    walk_at "tw"
    intro D nD
    refine lc_list (K := K) (a := pl) (xs := ys.map V.int) (fun i H' => Same (upd H pl (.lst (ys.map V.int))) H' ∧ ∃ ns : List Int, H' D = some (.lst (ns.map V.int)) ∧ ns.length ≤ i ∧ ns.Pairwise (· ≤ ·) ∧ ∀ x ∈ ns, ∃ (j : Nat) (s : Nat) (t : Slot), j < i ∧ ys[j]? = some (s : Int) ∧ 1 ≤ s ∧ ss[s - 1]? = some t ∧ x = t.1)
      ⟨Same.new nD, [], upd_same, Nat.le_refl _, List.Pairwise.nil, fun x hx => by cases hx⟩ (fun i H' _ z => SqL.of (z.1 _ _ upd_same)) ?_ ?_
    · rintro i x H' hx ⟨e, ns, hD, hnl, hpw, hall⟩
      rw [List.getElem?_map] at hx
      obtain ⟨y, hy, rfl⟩ : ∃ y, ys[i]? = some y ∧ V.int y = x := by
        cases z : ys[i]? with
        | none => rw [z] at hx; cases hx
        | some y => rw [z] at hx; exact ⟨y, rfl, Option.some.inj hx⟩
      obtain ⟨s, v, y', c, t, rfl, hv, hc, h1, h2⟩ := val y (perm.mem_iff.mp (List.mem_of_getElem? hy))
      have e' := (Same.new npl).trans e
      have hd' := e' _ _ hd
      have hc' := e' _ _ hc
      have hi : i < ys.length := (List.getElem?_eq_some_iff.mp hy).1
      have hz : (ns.map V.int).length < sizeLine := smallt (by rw [List.length_map]; omega)
      walk_at "tw"
      refine ⟨e.mut nD, ns ++ [t.1], by rw [upd_same, List.map_append]; rfl, by rw [List.length_append]; exact Nat.succ_le_succ hnl, ?_, fun x hx => ?_⟩
      · refine List.pairwise_append.mpr ⟨hpw, List.pairwise_singleton _ _, fun a ha b hb => ?_⟩
        rw [List.mem_singleton.mp hb]
        obtain ⟨j, s', t', g1, g2, g3, g4, rfl⟩ := hall a ha
        have := asc_lt ndy asc g1 g2 hy
        exact ok.le (by omega) g4 h2
      · rcases List.mem_append.mp hx with z | z
        · obtain ⟨j, s', t', g1, g2⟩ := hall x z
          exact ⟨j, s', t', by omega, g2⟩
        · exact ⟨i, s, t, by omega, hy, h1, h2, List.mem_singleton.mp z⟩
    · rintro H1 ⟨e, ns, hD, hnl, hpw, hall⟩
      have e1 := (Same.new npl (o := .lst (ys.map V.int))).trans e
      walk_at "tw"
      intro ns2 p2 perm2 asc2 np2
      obtain rfl := sorted_same perm2 asc2 hpw
      have hD2 := Same.new np2 (o := .lst (ns2.map V.int)) _ _ hD
      refine ⟨_, _, .lst (SqL.of hD2) (dpAll_flat (ints_flat _)), .lst (SqL.of upd_same) (dpAll_flat (ints_flat _)), flats_shaped (ints_flat _), flats_shaped (ints_flat _), ?_⟩
      walk_at "tw"
      refine itf (by rw [flats_eqv (ints_flat _) (ints_flat _)]; simp) ?_
      have e2 := e1.up (o := .lst (ns2.map V.int)) np2
      have hl2 := e2 _ _ hl
      walk_at "tw"
      refine for_list (K := K) (a := l) (xs := segs ++ [tl]) (fun i σ H' => (∃ x1 x2 x3 x4 x5 x6 x7 x8, σ = [some (.ref d), some (.ref l), x1, x2, x3, x4, x5, x6, x7, x8]) ∧ Same H H') ⟨⟨_, _, _, _, _, _, _, _, rfl⟩, e2⟩ (fun i σ H' _ z => SqL.of (z.2 _ _ hl)) ?_ ?_
      · rintro i x σ H' hx ⟨⟨x1, x2, x3, x4, x5, x6, x7, x8, rfl⟩, e⟩
        obtain ⟨a, p, la, le, gr, ve, rfl, ha, hab, hg⟩ := lims x (List.mem_of_getElem? hx)
        have ha' := e _ _ ha
        have hd' := e _ _ hd
        walk_at "tw"
        intro b H3 zs e3 nb hb ndz lz hz
        have e13 := e.trans e3
        walk_at "tw"
        refine for_list (K := K) (a := b) (xs := zs.map V.int) (fun i σ H' => (∃ x1 x8 x9, σ = [some (.ref d), some (.ref l), x1, some (.int ((p : Int) + 1)), some (ov la), some (ov le), some (ov gr), some ve, x8, x9]) ∧ Same H3 H') ⟨⟨_, _, _, rfl⟩, Same.refl _⟩ (fun i σ H' _ z => SqL.of (z.2 _ _ hb)) ?_ ?_
        · rintro i x σ H4 hx ⟨⟨x1, x8, x9, rfl⟩, e4⟩
          rw [List.getElem?_map] at hx
          obtain ⟨y, hy, rfl⟩ : ∃ y, zs[i]? = some y ∧ V.int y = x := by
            cases z : zs[i]? with
            | none => rw [z] at hx; cases hx
            | some y => rw [z] at hx; exact ⟨y, rfl, Option.some.inj hx⟩
          obtain ⟨hyk, hfy, hly2⟩ := hz y (List.mem_of_getElem? hy)
          obtain ⟨s, v, y', c, t, rfl, hv, hc, h1, h2⟩ := val y hyk
          have e04 := e13.trans e4
          have hd4 := e04 _ _ hd
          have hc4 := e04 _ _ hc
          have ga : ∀ st, le = some st → ¬ t.1 < st := fun st z => Int.not_lt.mpr (hab st z _ t h2 (by omega))
          have gb : ∀ g, gr = some g → ¬ t.1 > g := fun g z => Int.not_lt.mpr (hg _ t h2 (fun k' e => by have := hly2 k' e; omega) g z)
          walk_at "tw"
          cases le with
          | none =>
            refine itf rfl ?_
            walk_at "tw"
            cases gr with
            | none =>
              refine itf rfl ?_
              walk_at "tw"
              exact ⟨⟨_, _, _, rfl⟩, e4⟩
            | some g =>
              refine itt rfl ?_
              walk_at "tw"
              refine itf (decide_eq_false (gb g rfl)) ?_
              exact ⟨⟨_, _, _, rfl⟩, e4⟩
          | some st =>
            refine itt rfl ?_
            walk_at "tw"
            refine itf (decide_eq_false (ga st rfl)) ?_
            walk_at "tw"
            cases gr with
            | none =>
              refine itf rfl ?_
              walk_at "tw"
              exact ⟨⟨_, _, _, rfl⟩, e4⟩
            | some g =>
              refine itt rfl ?_
              walk_at "tw"
              refine itf (decide_eq_false (gb g rfl)) ?_
              exact ⟨⟨_, _, _, rfl⟩, e4⟩
        · rintro σ H4 ⟨⟨x1, x8, x9, rfl⟩, e4⟩
          exact ⟨⟨_, _, _, _, _, _, _, _, rfl⟩, e13.trans e4⟩
      · rintro σ H' ⟨⟨x1, x2, x3, x4, x5, x6, x7, x8, rfl⟩, e⟩
        walk_at "tw"
        exact k _ e
end
end Tw
end

section
set_option maxHeartbeats 4000000
namespace Tw
open PySem PySem.Spec PyProof.Rows L2
/-! the machine of the readings: "tw" goes on through what has one answer; it stops at a branch, a loop, a new object, what comes behind a call -/
local macro_rules | `(tactic| walk_at "tw look") => `(tactic| first
  | assumption
  | exact upd_same
  | (refine Same.new (by assumption) _ _ ?_; walk_at "tw look")
  | (refine upd_oth (by assumption) ?_; walk_at "tw look")
  | (refine upd_dif (by assumption) (by intro z; cases z) ?_; walk_at "tw look")
  | (refine upd_dif upd_same (by intro z; cases z) ?_; walk_at "tw look"))
local macro_rules | `(tactic| walk_at "tw seq") => `(tactic| first
  | assumption
  | exact SqL.of (by walk_at "tw look")
  | exact SqT.of (by walk_at "tw look")
  | exact .inl (SqL.of (by walk_at "tw look"))
  | exact .inr (SqT.of (by walk_at "tw look"))
  | exact .inl (by assumption)
  | exact dget_of (by walk_at "tw look") (by assumption)
  | exact DGet.k (k := Sum.inl _) (by walk_at "tw look")
  | exact DPut.k (k := Sum.inl _) (by walk_at "tw look") (by assumption)
  | exact .inl ⟨_, .inl (by walk_at "tw look")⟩
  | exact .inr ⟨_, .inl (by walk_at "tw look")⟩
  | exact ⟨_, SqL.of (by walk_at "tw look")⟩
  | exact ⟨_, SqT.of (by walk_at "tw look")⟩
  | exact ⟨_, by assumption⟩
  | exact .inl ⟨rfl, _, SqL.of (by walk_at "tw look")⟩)
local macro_rules | `(tactic| walk_at "tw atom") => `(tactic| first
  | with_reducible rfl
  | assumption
  | rfl
  | walk_at "tw look"
  | walk_at "tw seq"
  | omega
  | exact small (by simp; done)
  | exact smallt (by simp; done)
  | exact cdiv_of rfl
  | exact fun _ h => h
  | exact Int.natCast_pos.mpr (Nat.zero_lt_succ _)
  | exact cmul_r rfl
  | exact cmul_l rfl
  | exact Nat.le_of_ble_eq_true rfl)
local macro_rules | `(tactic| walk_at "tw step") => `(tactic| first | (with_reducible refine iteT ?_) | (with_reducible refine iteF ?_) | (with_reducible refine itf nott ?_) | (with_reducible refine itt notf ?_) | ((fail_if_success (refine ite2 (fun _ => ?_) (fun _ => ?_))); first
  | ((fail_if_success (refine (?_ : ∃ W : Nat → Nat → L2.St → Hp → Prop, _))); (fail_if_success (refine (?_ : ∃ W : Nat → Nat → Hp → Prop, _))); apply Exists.intro)
  | (apply And.intro; (walk_at "tw atom"))))
local macro_rules | `(tactic| walk_at "tw") => `(tactic| repeat walk_at "tw step")

section
variable {P : Program} {w : World} {K : PySem.W.Frag} {mg : Str → Option Value} {base : Heap}
theorem cut_but_last (xs : List V) (t : V) : cutV (xs ++ [t]) none (some (-1)) = xs := by
  unfold cutV
  rw [HT.sIx_none, List.drop_zero, Nat.sub_zero]
  have : HT.sIx (xs ++ [t]).length (xs ++ [t]).length (some (-1)) = xs.length := by
    unfold HT.sIx
    simp only [List.length_append, List.length_singleton]
    split <;> omega
  rw [this, List.take_left]
theorem keys_few {kvs : List (Key × V)} {n : Nat} (nd : (kvs.map (·.1)).Nodup) (h : ∀ p ∈ kvs, ∃ s : Nat, p.1 = Sum.inl (s : Int) ∧ s ≤ n) : kvs.length ≤ n + 1 := by
  have : ∀ l : List (Key × V), (∀ p ∈ l, ∃ s : Nat, p.1 = Sum.inl (s : Int) ∧ s ≤ n) → ∃ ks : List Nat, l.map (·.1) = ks.map (fun s : Nat => (Sum.inl (s : Int) : Key)) ∧ ∀ k ∈ ks, k ≤ n := by
    intro l
    induction l with
    | nil => intro _; exact ⟨[], rfl, fun k hk => by cases hk⟩
    | cons p l ih =>
      intro h
      obtain ⟨i, e, hi⟩ := h p List.mem_cons_self
      obtain ⟨ks, e2, e3⟩ := ih fun q hq => h q (List.mem_cons_of_mem _ hq)
      exact ⟨i :: ks, by rw [List.map_cons, List.map_cons, e, e2], fun k hk => by rcases List.mem_cons.mp hk with rfl | z; exact hi; exact e3 k z⟩
  obtain ⟨ks, e, hk⟩ := this kvs h
  have nd2 : ks.Nodup := by
    rw [e] at nd
    exact List.Pairwise.of_map (fun s : Nat => (Sum.inl (s : Int) : Key)) (fun (a b : Nat) (h : (Sum.inl (a : Int) : Key) ≠ Sum.inl (b : Int)) (z : a = b) => h (by rw [z])) nd
  have := nat_nodup_len ks (List.range (n + 1)) nd2 fun x hx => List.mem_range.mpr (by have := hk x hx; omega)
  rw [List.length_range] at this
  have e2 := congrArg List.length e
  rw [List.length_map, List.length_map] at e2
  omega
section
variable {off : Int} {ss : List Slot} {Ls : List Letter} {nm : Str} {H : Hp} {kvs : List (Key × V)}
theorem ClsD.true_ (D : ClsD H Ls nm kvs) (tr : ∀ L ∈ Ls, L.nm = nm → TrueL off ss L) : ClosT H ss kvs := by
  refine ⟨D.nd, fun p hp => ?_⟩
  obtain ⟨n, c, f, ve, a, h1, h2, ⟨u1, h3⟩, ⟨u2, h4⟩, ⟨t, h5⟩⟩ := D.ent p hp
  obtain ⟨a1, a2, a3⟩ := tr _ h3 rfl
  obtain ⟨b1, b2, b3⟩ := tr _ h4 rfl
  obtain ⟨c1, c2, c3⟩ := tr _ h5 rfl
  exact ⟨n, c, f, ve, a, h1, h2, a1, fun i t ht hi => (a2 i t ht).mpr hi, fun i t ht hi => by have := b2 i t ht; omega, c3.symm⟩
theorem RcvD.true_ (D : RcvD H Ls nm kvs) (tr : ∀ L ∈ Ls, L.nm = nm → TrueL off ss L) : RcvT H ss kvs := by
  refine ⟨D.nd, fun p hp => ?_⟩
  obtain ⟨s, v, st, x, a, h1, h2, h3⟩ := D.ent p hp
  obtain ⟨a1, t, a2, a3, a4⟩ := tr _ h3 rfl
  exact ⟨s, v, st, x, a, h1, h2, a1, t, a2, a3, (List.getElem?_eq_some_iff.mp a4).1⟩
theorem ClosT.few (C : ClosT H ss kvs) : kvs.length ≤ ss.length + 1 := keys_few C.nd fun p hp => by
  obtain ⟨n, c, f, ve, a, h1, h2, h3⟩ := C.ent p hp
  exact ⟨n, by rw [h1], h3.le⟩
theorem RcvT.few (C : RcvT H ss kvs) : kvs.length ≤ ss.length + 1 := keys_few C.nd fun p hp => by
  obtain ⟨s, v, st, x, a, h1, h2, h3, t, h4, h5⟩ := C.ent p hp
  have := (List.getElem?_eq_some_iff.mp h4).1
  exact ⟨s, by rw [h1], by omega⟩
end
theorem IsSeg.keep {H H' : Hp} {ss : List Slot} {v : V} (h : IsSeg H ss v) (e : Same H H') : IsSeg H' ss v := h.mono e.tk
def spMeterPossible : Sp := fun vs H Q _ => ∃ (p mv : V) (ra : Addr) (len : Int) (ms : List Meter) (m : Meter) (off : Int) (ss : List Slot) (Ls : List Letter), vs = [p, mv, .ref ra] ∧ IsPlan H p len ms ∧ IsMeter H mv m ∧ MsOk ms ∧ m ∈ ms ∧ Bag H ra Ls ∧ Ls.length ≤ 10000 ∧
  LogOk ⟨m, off, ss⟩ ∧ ss.length ≤ 60 ∧ (∀ L ∈ Ls, L.nm = m.name → TrueL off ss L) ∧ ∀ H', Same H H' → Q (.bl true) H'
theorem C_meter_possible (T : Tx K mg) : Callee P w K mg base CX0 "meter_possible" P_meter_possible 3 spMeterPossible := by
  refine mk_meter_possible T (k := 2) (fun vs H Q E h => ?_) (fun f cdv A outer s H vs Q E hr h => ?_)
  · obtain ⟨p, mv, ra, len, ms, m, off, ss, Ls, rfl, _⟩ := h
    rfl
  · obtain ⟨p, mv, ra, len, ms, m, off, ss, Ls, rfl, hp, ⟨ma, rfl, hma⟩, mok, hmm, hbag, lr, ok, lss, tr, k⟩ := h
    have nd := mok.nd
    have mfew := mok.few
    have so : SlotsOk m ss := ok.slots
    have o1 : -m.err ≤ off := ok.off.1
    have o2 : off ≤ m.err := ok.off.2
    have hck : ∀ lo hi, Letter.clock m.name lo hi ∈ Ls → lo ≤ off ∧ off ≤ hi := fun lo hi h => tr _ h rfl
    refine ⟨_, ((pss_cons (ps_set (i := 3) sc_meter_possible.nd rfl (by first | exact Or.inl rfl | exact Or.inr rfl) (pe_ix (ixT (K := K)) (pv 1) pe_int (fun _ _ => rfl)))
    (pss_cons (ps_set (i := 4) sc_meter_possible.nd rfl (by first | exact Or.inl rfl | exact Or.inr rfl) (pe_cl (C_closes_of T) (hr.mono (by decide)) pass0 (pa_cons (pv 2) (pa_cons (pv 3) pa_nil))))
    (pss_cons (ps_if (PW.pt (pw_or (pt_not (pt_val (pe_cl (C_reads_right T) (hr.mono (by decide)) pass0 (pa_cons (pv 1) (pa_cons (pe_cl (C_reads_about T) (hr.mono (by decide)) pass0 (pa_cons (pv 2) (pa_cons (pv 3) pa_nil))) pa_nil))))) (pw_or1 (pt_not (pt_val (pe_cl (C_closes_right T) (hr.mono (by decide)) pass0 (pa_cons (pv 2) (pa_cons (pv 3) (pa_cons (pv 4) pa_nil)))))))))
    (pss_one (ps_ret pe_bl))
    pss_nil)
    (pss_cons (ps_asg (pe_cl (C_offsets_of T) (hr.mono (by decide)) pass0 (pa_cons (pv 0) (pa_cons (pv 2) (pa_cons (pv 3) pa_nil)))) (pg_tup rfl (pgs_cons (pg_name (i := 5) sc_meter_possible.nd rfl (by first | exact Or.inl rfl | exact Or.inr rfl)) (pgs_cons (pg_name (i := 6) sc_meter_possible.nd rfl (by first | exact Or.inl rfl | exact Or.inr rfl)) pgs_nil))))
    (pss_cons (ps_set (i := 7) sc_meter_possible.nd rfl (by first | exact Or.inl rfl | exact Or.inr rfl) (pe_cl (C_received_of T) (hr.mono (by decide)) pass0 (pa_cons (pv 2) (pa_cons (pv 3) pa_nil))))
    (pss_cons (ps_set (i := 8) sc_meter_possible.nd rfl (by first | exact Or.inl rfl | exact Or.inr rfl) (pe_cl (C_limits_of T) (hr.mono (by decide)) pass0 (pa_cons (pv 4) pa_nil)))
    (pss_cons (ps_if (PW.pt (pw_or (pt_cmpR op_gt (pv 5) (pv 6) (nomark _)) (pw_or1 (pt_not (pt_val (pe_cl (C_stamps_right T) (hr.mono (by decide)) pass0 (pa_cons (pv 7) (pa_cons (pv 8) pa_nil))))))))
    (pss_one (ps_ret pe_bl))
    pss_nil)
    (pss_one (ps_ret (pe_callB (call_ (K := K) rfl) (by rfl) T.f_all PyProof.Rows.boot_all (pa_cons (pe_lc (own := [("part", 9)]) (g := gName 9) (tt := tYes) rfl sc_meter_possible.nd (pi_list (pe_slice (slL (K := K)) (pv 8) po_none (po_some (pe_un un_neg pe_int)))) (blkOk_by (N := N_meter_possible) (sc := defScope s_meter_possible) (by decide +kernel)) (fun _ _ _ _ _ => (pg_name (i := 9) sc_meter_possible.nd rfl (by first | exact Or.inl rfl | exact Or.inr rfl))) (fun _ _ _ _ _ => pts_nil) (fun _ _ _ _ _ => (pe_cmpR op_ge (pe_cl (C_hidden_in T) (hr.mono (by decide)) pass0 (pa_cons (pv 7) (pa_cons (pv 9) pa_nil))) pe_int (nomark _)))) pa_nil)))))))))))), ?_⟩
    walk_at "tw"
    intro d1 H1 kvs1 e1 nd1 hd1 C1 CA
    have CT1 := C1.true_ tr
    have few1 : kvs1.length < 64 := by have := CT1.few; omega
    have hbag1 := hbag.mono e1
    have hma1 := e1 _ _ hma
    walk_at "tw"
    intro ra2 H2 e2 nr2 hbag2
    have e02 := e1.trans e2
    have hmv2 : IsMeter H2 (.ref ma) m := ⟨ma, rfl, e02 _ _ hma⟩
    have lr2 : (readsAbout Ls m.name).length ≤ 10000 := Nat.le_trans (List.length_filter_le _ _) lr
    have trr : ∀ L ∈ readsAbout Ls m.name, ∃ nm s v st x, L = .read nm s v st x ∧ TrueL off ss L := fun L hL => by
      obtain ⟨g1, s, v, st, x, rfl⟩ := mem_reads hL
      exact ⟨_, s, v, st, x, rfl, tr _ g1 rfl⟩
    walk_at "tw"
    intro H3 e3
    have e03 := e02.trans e3
    have hbag3 := hbag.mono e03
    have e13 := e2.trans e3
    have hd3 := e13 _ _ hd1
    have CT3 := CT1.mono e13.tk
    walk_at "tw"
    intro H4 e4
    have e04 := e03.trans e4
    have hp4 := hp.mono e04.tk
    have hbag4 := hbag.mono e04
    walk_at "tw"
    intro c lo hi H5 e5 hc5 hlo
    have e05 := e04.trans e5
    have hbag5 := hbag.mono e05
    walk_at "tw"
    intro d2 H6 kvs2 e6 nd2 hd2 R2
    have RT := R2.true_ tr
    have few2 : kvs2.length < 64 := by have := RT.few; omega
    have e16 := (e13.trans e4).trans (e5.trans e6)
    have hd16 := e16 _ _ hd1
    have CT6 := CT1.mono e16.tk
    walk_at "tw"
    intro la H7 e7 LD
    have hd27 := e7 _ _ hd2
    have RT7 := RT.mono e7.tk
    walk_at "tw"
    refine itf (decide_eq_false (by omega)) ?_
    walk_at "tw"
    intro H8 e8
    obtain ⟨segs, tl, hl, hsegs, htl, lsegs⟩ := LD
    have hl8 := e8 _ _ hl
    walk_at "tw"
    intro zp nzp
    rw [cut_but_last]
    have hz8 : (upd H8 zp (HO.lst segs)) zp = some (.lst segs) := upd_same
    walk_at "tw"
    intro D nD
    refine lc_list (K := K) (a := zp) (xs := segs) (fun i H' => Same (upd H8 zp (.lst segs)) H' ∧ H' D = some (.lst ((List.replicate i true).map V.bl)))
      ⟨Same.new nD, upd_same⟩ (fun i H' _ z => SqL.of (z.1 _ _ upd_same)) ?_ ?_
    · rintro i x H' hx ⟨e, hD⟩
      have hi : i < segs.length := (List.getElem?_eq_some_iff.mp hx).1
      have e7' := (e8.trans (Same.new nzp)).trans e
      have hsg := (hsegs x (List.mem_of_getElem? hx)).mono e7'.tk
      have hd' := e7' _ _ hd27
      have RT' := RT7.mono e7'.tk
      have hz : ((List.replicate i true).map V.bl).length < sizeLine := smallt (by rw [List.length_map, List.length_replicate]; omega)
      walk_at "tw"
      intro h H9 h0 e9
      have hD9 := e9 _ _ hD
      walk_at "tw"
      refine ⟨(e.trans e9).mut nD, ?_⟩
      simp only [decide_eq_true (show h ≥ 0 from h0)]
      rw [upd_same, List.replicate_succ', List.map_append]; rfl
    · rintro H' ⟨e, hD⟩
      walk_at "tw"
      rw [all_rep]
      exact k _ ((((((e04.trans e5).trans e6).trans e7).trans e8).trans (Same.new nzp)).trans e)
def spIsPossible : Sp := fun vs H Q _ => ∃ (p : V) (ra : Addr) (len : Int) (ms : List Meter) (ls : List Log) (Ls : List Letter), vs = [p, .ref ra] ∧ IsPlan H p len ms ∧ MsOk ms ∧ Bag H ra Ls ∧ Ls.length ≤ 10000 ∧
  ls.map (·.m) = ms ∧ (∀ l ∈ ls, LogOk l ∧ l.ss.length ≤ 60) ∧ (∀ l ∈ ls, ∀ L ∈ Ls, L.nm = l.m.name → TrueL l.off l.ss L) ∧ ∀ H', Same H H' → Q (.bl true) H'
theorem C_is_possible (T : Tx K mg) : Callee P w K mg base CX0 "is_possible" P_is_possible 4 spIsPossible := by
  refine mk_is_possible T (k := 3) (fun vs H Q E h => ?_) (fun f cdv A outer s H vs Q E hr h => ?_)
  · obtain ⟨p, ra, len, ms, ls, Ls, rfl, _⟩ := h
    rfl
  · obtain ⟨p, ra, len, ms, ls, Ls, rfl, hp, mok, hbag, lr, em, ok, tr, k⟩ := h
    obtain ⟨a, b, us, rfl, ha, hb, hms⟩ := id hp
    have mfew := mok.few
    have nms : us.length ≤ 1000 := by rw [hms.1]; exact mfew
    refine ⟨_, ((pss_one (ps_ret (pe_callB (call_ (K := K) rfl) (by rfl) T.f_all PyProof.Rows.boot_all (pa_cons (pe_lc (own := [("meter", 2)]) (g := gName 2) (tt := tYes) rfl sc_is_possible.nd (pi_tup (pe_ix (ixT (K := K)) (pv 0) pe_int (fun _ _ => rfl))) (blkOk_by (N := N_is_possible) (sc := defScope s_is_possible) (by decide +kernel)) (fun _ _ _ _ _ => (pg_name (i := 2) sc_is_possible.nd rfl (by first | exact Or.inl rfl | exact Or.inr rfl))) (fun _ _ _ _ _ => pts_nil) (fun _ _ _ _ _ => (pe_cl (C_meter_possible T) (hr.mono (by decide)) pass0 (pa_cons (pv 0) (pa_cons (pv 2) (pa_cons (pv 1) pa_nil)))))) pa_nil))))), ?_⟩
    walk_at "tw"
    intro D nD
    refine lc_tup (K := K) (a := b) (xs := us) (fun i H' => Same H H' ∧ H' D = some (.lst ((List.replicate i true).map V.bl)))
      ⟨Same.new nD, upd_same⟩ (fun i H' _ z => SqT.of (z.1 _ _ hb)) ?_ ?_
    · rintro i x H' hx ⟨e, hD⟩
      have hi : i < us.length := (List.getElem?_eq_some_iff.mp hx).1
      obtain ⟨m, hm, hxm⟩ := hms.get hx
      have hmm := List.mem_of_getElem? hm
      obtain ⟨l, hl, rfl⟩ := List.mem_map.mp (em ▸ hmm)
      have hp' := hp.mono e.tk
      have hx' := hxm.mono e.tk
      have hbag' := hbag.mono e
      have ok' : LogOk ⟨l.m, l.off, l.ss⟩ := (ok l hl).1
      have few := (ok l hl).2
      have tr' := tr l hl
      have hz : ((List.replicate i true).map V.bl).length < sizeLine := smallt (by rw [List.length_map, List.length_replicate]; omega)
      walk_at "tw"
      intro H9 e9
      have hD9 := e9 _ _ hD
      walk_at "tw"
      refine ⟨(e.trans e9).mut nD, ?_⟩
      rw [upd_same, List.replicate_succ', List.map_append]; rfl
    · rintro H' ⟨e, hD⟩
      walk_at "tw"
      rw [all_rep]
      exact k _ e
end
end Tw
end

section
set_option maxHeartbeats 4000000
namespace Tw
open PySem PySem.Spec PyProof.Rows L2
/-! the machine of the readings: "tw" goes on through what has one answer; it stops at a branch, a loop, a new object, what comes behind a call -/
local macro_rules | `(tactic| walk_at "tw look") => `(tactic| first
  | assumption
  | exact upd_same
  | (refine Same.new (by assumption) _ _ ?_; walk_at "tw look")
  | (refine upd_oth (by assumption) ?_; walk_at "tw look")
  | (refine upd_dif (by assumption) (by intro z; cases z) ?_; walk_at "tw look")
  | (refine upd_dif upd_same (by intro z; cases z) ?_; walk_at "tw look"))
local macro_rules | `(tactic| walk_at "tw seq") => `(tactic| first
  | assumption
  | exact SqL.of (by walk_at "tw look")
  | exact SqT.of (by walk_at "tw look")
  | exact .inl (SqL.of (by walk_at "tw look"))
  | exact .inr (SqT.of (by walk_at "tw look"))
  | exact .inl (by assumption)
  | exact dget_of (by walk_at "tw look") (by assumption)
  | exact DGet.k (k := Sum.inl _) (by walk_at "tw look")
  | exact DPut.k (k := Sum.inl _) (by walk_at "tw look") (by assumption)
  | exact .inl ⟨_, .inl (by walk_at "tw look")⟩
  | exact .inr ⟨_, .inl (by walk_at "tw look")⟩
  | exact ⟨_, SqL.of (by walk_at "tw look")⟩
  | exact ⟨_, SqT.of (by walk_at "tw look")⟩
  | exact ⟨_, by assumption⟩
  | exact .inl ⟨rfl, _, SqL.of (by walk_at "tw look")⟩)
local macro_rules | `(tactic| walk_at "tw atom") => `(tactic| first
  | with_reducible rfl
  | assumption
  | rfl
  | walk_at "tw look"
  | walk_at "tw seq"
  | omega
  | exact small (by simp; done)
  | exact smallt (by simp; done)
  | exact cdiv_of rfl
  | exact fun _ h => h
  | exact Int.natCast_pos.mpr (Nat.zero_lt_succ _)
  | exact cmul_r rfl
  | exact cmul_l rfl
  | exact Nat.le_of_ble_eq_true rfl)
local macro_rules | `(tactic| walk_at "tw step") => `(tactic| first | (with_reducible refine iteT ?_) | (with_reducible refine iteF ?_) | (with_reducible refine itf nott ?_) | (with_reducible refine itt notf ?_) | ((fail_if_success (refine ite2 (fun _ => ?_) (fun _ => ?_))); first
  | ((fail_if_success (refine (?_ : ∃ W : Nat → Nat → L2.St → Hp → Prop, _))); (fail_if_success (refine (?_ : ∃ W : Nat → Nat → Hp → Prop, _))); apply Exists.intro)
  | (apply And.intro; (walk_at "tw atom"))))
local macro_rules | `(tactic| walk_at "tw") => `(tactic| repeat walk_at "tw step")

section
variable {P : Program} {w : World} {K : PySem.W.Frag} {mg : Str → Option Value} {base : Heap}
/-- the letters about the first k versions of the slot at place i -/
def verReads (nm : Str) (i : Nat) (s : Slot) (k : Nat) : List Letter := (List.range k).map fun v => Letter.read nm (i + 1) v s.1 (s.2.getD v none)
def slotReads (l : Log) (n : Nat) : List Letter := (List.range n).flatMap fun i => verReads l.m.name i (l.ss.getD i (0, [])) (l.ss.getD i (0, [])).2.length
def logReads (l : Log) : List Letter := slotReads l l.ss.length
def readsOf (ls : List Log) : List Letter := ls.flatMap logReads
theorem verReads_succ {nm : Str} {i : Nat} {s : Slot} {k : Nat} {x : Option Int} (h : s.2[k]? = some x) : verReads nm i s (k + 1) = verReads nm i s k ++ [.read nm (i + 1) k s.1 x] := by
  unfold verReads
  rw [List.range_succ, List.map_append, List.map_cons, List.map_nil, List.getD_eq_getElem?_getD, h, Option.getD_some]
theorem slotReads_succ {l : Log} {i : Nat} {s : Slot} (h : l.ss[i]? = some s) : slotReads l (i + 1) = slotReads l i ++ verReads l.m.name i s s.2.length := by
  unfold slotReads
  rw [List.range_succ, List.flatMap_append, List.flatMap_cons, List.flatMap_nil, List.append_nil, List.getD_eq_getElem?_getD, h, Option.getD_some]
theorem readsOf_succ {ls : List Log} {i : Nat} {l : Log} (h : ls[i]? = some l) : readsOf (ls.take (i + 1)) = readsOf (ls.take i) ++ logReads l := by
  unfold readsOf
  rw [take_succ_get h, List.flatMap_append, List.flatMap_cons, List.flatMap_nil, List.append_nil]
/-- few logs, few slots, few versions -/
def Few (l : Log) : Prop := l.ss.length ≤ 60 ∧ ∀ s ∈ l.ss, s.2.length ≤ 60
def spReadsOf : Sp := fun vs H Q _ => ∃ (hv : V) (ls : List Log), vs = [hv] ∧ IsHist H hv ls ∧ ls.length ≤ 10 ∧ (∀ l ∈ ls, Few l) ∧
  ∀ a rs H', Same H H' → H' a = some (.tup rs) → All2 (IsLetter H') rs (readsOf ls) → rs.length ≤ 36000 → Q (.ref a) H'
theorem C_reads_of (T : Tx K mg) : Callee P w K mg base CX0 "reads_of" P_reads_of 1 spReadsOf := by
  refine mk_reads_of T (k := 0) (fun vs H Q E h => ?_) (fun f cdv A outer s H vs Q E hr h => ?_)
  · obtain ⟨hv, ls, rfl, _⟩ := h
    rfl
  · obtain ⟨_, ls, rfl, ⟨ha, hs, rfl, hh, hls⟩, ll, few, k⟩ := h
    refine ⟨_, ((pss_cons (ps_set (i := 1) sc_reads_of.nd rfl (by first | exact Or.inl rfl | exact Or.inr rfl) (pe_lst pa_nil))
    (pss_cons (ps_for PassesOwn.never rfl (pi_tup (pv 0)) (pg_tup rfl (pgs_cons (pg_name (i := 2) sc_reads_of.nd rfl (by first | exact Or.inl rfl | exact Or.inr rfl)) (pgs_cons (pg_name (i := 3) sc_reads_of.nd rfl (by first | exact Or.inl rfl | exact Or.inr rfl)) (pgs_cons (pg_name (i := 4) sc_reads_of.nd rfl (by first | exact Or.inl rfl | exact Or.inr rfl)) pgs_nil))))
    (pss_one (ps_for PassesOwn.never rfl (pi_enumT (by rfl) T.f_enumerate (pa_cons (pv 4) pa_nil)) (pg_tup rfl (pgs_cons (pg_name (i := 5) sc_reads_of.nd rfl (by first | exact Or.inl rfl | exact Or.inr rfl)) (pgs_cons (pg_name (i := 6) sc_reads_of.nd rfl (by first | exact Or.inl rfl | exact Or.inr rfl)) pgs_nil)))
    (pss_one (ps_for PassesOwn.never rfl (pi_enumT (by rfl) T.f_enumerate (pa_cons (pe_ix (ixT (K := K)) (pv 6) pe_int (fun _ _ => rfl)) pa_nil)) (pg_tup rfl (pgs_cons (pg_name (i := 7) sc_reads_of.nd rfl (by first | exact Or.inl rfl | exact Or.inr rfl)) (pgs_cons (pg_name (i := 8) sc_reads_of.nd rfl (by first | exact Or.inl rfl | exact Or.inr rfl)) pgs_nil)))
    (pss_one (ps_expr (pe_bm PySem.F.plainAttrs_list PySem.F.slot_list_append PySem.F.type_list_append mt_append (pv 1) (pa_cons (pe_tup (pa_cons pe_str (pa_cons (pv 2) (pa_cons (pe_op op_add (pv 5) pe_int) (pa_cons (pv 7) (pa_cons (pe_ix (ixT (K := K)) (pv 6) pe_int (fun _ _ => rfl)) (pa_cons (pv 8) pa_nil))))))) pa_nil)))))))))
    (pss_one (ps_ret (pe_callTy (ctuple (K := K)) (by rfl) T.f_tuple Pv.boot_tuple (pa_cons (pv 1) pa_nil))))))), ?_⟩
    walk_at "tw"
    intro fd nfd
    have hh1 : (upd H fd (.lst [])) ha = some (.tup hs) := Same.new nfd _ _ hh
    walk_at "tw"
    refine for_tup (K := K) (a := ha) (xs := hs) (fun i σ H' => (∃ x2 x3 x4 x5 x6 x7 x8, σ = [some (.ref ha), some (.ref fd), x2, x3, x4, x5, x6, x7, x8]) ∧ Same H H' ∧ ∃ rs, H' fd = some (.lst rs) ∧ All2 (IsLetter H') rs (readsOf (ls.take i)) ∧ rs.length ≤ i * 3600)
      ⟨⟨_, _, _, _, _, _, _, rfl⟩, Same.new nfd, [], upd_same, All2.nil, Nat.zero_le _⟩ (fun i σ H' _ z => SqT.of (z.2.1 _ _ hh)) ?_ ?_
    · rintro i x σ H' hx ⟨⟨x2, x3, x4, x5, x6, x7, x8, rfl⟩, e, rs, hfd, hrs, lrs⟩
      have hi : i < hs.length := (List.getElem?_eq_some_iff.mp hx).1
      have hi10 : i < 10 := by have := hls.1; omega
      obtain ⟨l, hl, ⟨t, sv, rfl, ht, ⟨sa, sl, rfl, hsa, hsl⟩⟩⟩ := hls.get hx
      obtain ⟨fw1, fw2⟩ := few l (List.mem_of_getElem? hl)
      have ht' := e _ _ ht
      have hsa' := e _ _ hsa
      walk_at "tw"
      refine for_it (walk_enumT (K := K) (a := sa) (xs := sl)) (fun j σ H' => (∃ x5 x6 x7 x8, σ = [some (.ref ha), some (.ref fd), some (.str l.m.name), some (.int l.off), some (.ref sa), x5, x6, x7, x8]) ∧ Same H H' ∧ ∃ rs, H' fd = some (.lst rs) ∧ All2 (IsLetter H') rs (readsOf (ls.take i) ++ slotReads l j) ∧ rs.length ≤ i * 3600 + j * 60)
        ⟨⟨_, _, _, _, rfl⟩, e, rs, hfd, by rw [show slotReads l 0 = [] from rfl, List.append_nil]; exact hrs, by omega⟩ (fun j σ H' _ z => z.2.1 _ _ hsa) ?_ ?_
      · rintro j x σ H1 H2 hj ⟨⟨x5, x6, x7, x8, rfl⟩, e1, rs1, hfd1, hrs1, lrs1⟩ ⟨tt, y1, y2, rfl, ntt, rfl, g1, g2⟩
        obtain rfl : V.int (j : Nat) = y1 := Option.some.inj g1
        obtain ⟨s', hs', ⟨pa, pb, rfl, hpa, hpb⟩⟩ := hsl.get g2
        have hj60 : j < 60 := by have := hsl.1; omega
        have fw3 := fw2 s' (List.mem_of_getElem? hs')
        have e2 : Same H (upd H1 tt (.tup [.int (j : Nat), .ref pa])) := e1.up ntt
        have hpa2 := e2 _ _ hpa
        have hpb2 := e2 _ _ hpb
        have hfd2 := Same.new ntt (o := .tup [.int (j : Nat), .ref pa]) _ _ hfd1
        walk_at "tw"
        refine for_it (walk_enumT (K := K) (a := pb) (xs := s'.2.map ov)) (fun k σ H' => (∃ x7 x8, σ = [some (.ref ha), some (.ref fd), some (.str l.m.name), some (.int l.off), some (.ref sa), some (.int (j : Nat)), some (.ref pa), x7, x8]) ∧ Same H H' ∧ ∃ rs, H' fd = some (.lst rs) ∧ All2 (IsLetter H') rs ((readsOf (ls.take i) ++ slotReads l j) ++ verReads l.m.name j s' k) ∧ rs.length ≤ i * 3600 + j * 60 + k)
          ⟨⟨_, _, rfl⟩, e2, rs1, hfd2, by rw [show verReads l.m.name j s' 0 = [] from rfl, List.append_nil]; exact hrs1.mono fun _ _ z => z.mono (Same.new ntt).tk, by omega⟩ (fun k σ H' _ z => z.2.1 _ _ hpb) ?_ ?_
        · rintro k x σ H3 H4 hk ⟨⟨x7, x8, rfl⟩, e3, rs3, hfd3, hrs3, lrs3⟩ ⟨uu, z1, z2, rfl, nuu, rfl, g3, g4⟩
          obtain rfl : V.int (k : Nat) = z1 := Option.some.inj g3
          simp only [List.getElem?_map] at g4
          obtain ⟨y, hy, rfl⟩ : ∃ y, s'.2[k]? = some y ∧ ov y = z2 := by
            cases z : s'.2[k]? with
            | none => rw [z] at g4; cases g4
            | some y => rw [z] at g4; exact ⟨y, rfl, Option.some.inj g4⟩
          have hk60 : k < 60 := by rw [List.length_map] at hk; omega
          have e4 : Same H (upd H3 uu (.tup [.int (k : Nat), ov y])) := e3.up nuu
          have hpa4 := e4 _ _ hpa
          have hfd4 := Same.new nuu (o := .tup [.int (k : Nat), ov y]) _ _ hfd3
          walk_at "tw"
          intro nt nnt
          have hfd5 : (upd (upd H3 uu (.tup [.int (k : Nat), ov y])) nt (.tup [.str "read", .str l.m.name, .int ((j : Int) + 1), .int (k : Nat), .int s'.1, ov y])) fd = some (.lst rs3) := Same.new nnt _ _ hfd4
          have hz : rs3.length < sizeLine := smallt (by omega)
          walk_at "tw"
          have tk : TKeep H3 (upd (upd (upd H3 uu (.tup [.int (k : Nat), ov y])) nt (.tup [.str "read", .str l.m.name, .int ((j : Int) + 1), .int (k : Nat), .int s'.1, ov y])) fd (.lst (rs3 ++ [.ref nt]))) :=
            ((Same.new nuu).tk.trans (Same.new nnt).tk).trans (TKeep.upd hfd5 fun xs z => by cases z)
          refine ⟨⟨_, _, rfl⟩, (e4.up nnt).mut nfd, _, upd_same, ?_, by rw [List.length_append]; simp only [List.length_singleton]; omega⟩
          rw [verReads_succ hy, ← List.append_assoc]
          refine (hrs3.mono fun _ _ z => z.mono tk).snoc ⟨nt, rfl, upd_dif hfd5 (by intro z; cases z) (by rw [upd_same]; rfl)⟩
        · rintro σ H3 ⟨⟨x7, x8, rfl⟩, e3, rs3, hfd3, hrs3, lrs3⟩
          rw [List.length_map] at hrs3 lrs3
          refine ⟨⟨_, _, _, _, rfl⟩, e3, rs3, hfd3, ?_, by omega⟩
          rw [slotReads_succ hs', ← List.append_assoc]
          exact hrs3
      · rintro σ H1 ⟨⟨x5, x6, x7, x8, rfl⟩, e1, rs1, hfd1, hrs1, lrs1⟩
        rw [hsl.1] at hrs1 lrs1
        refine ⟨⟨_, _, _, _, _, _, _, rfl⟩, e1, rs1, hfd1, ?_, by omega⟩
        rw [readsOf_succ hl]
        exact hrs1
    · rintro σ H' ⟨⟨x2, x3, x4, x5, x6, x7, x8, rfl⟩, e, rs, hfd, hrs, lrs⟩
      rw [List.take_of_length_le (by rw [hls.1]; exact Nat.le_refl _)] at hrs
      have := hls.1
      walk_at "tw"
      intro c nc
      exact k c rs _ (e.up nc) upd_same (hrs.mono fun _ _ z => z.mono (Same.new nc).tk) (by omega)
end
end Tw
end

section
set_option maxHeartbeats 4000000
namespace Tw
open PySem PySem.Spec PyProof.Rows L2
/-! the machine of the readings: "tw" goes on through what has one answer; it stops at a branch, a loop, a new object, what comes behind a call -/
local macro_rules | `(tactic| walk_at "tw look") => `(tactic| first
  | assumption
  | exact upd_same
  | (refine Same.new (by assumption) _ _ ?_; walk_at "tw look")
  | (refine upd_oth (by assumption) ?_; walk_at "tw look")
  | (refine upd_dif (by assumption) (by intro z; cases z) ?_; walk_at "tw look")
  | (refine upd_dif upd_same (by intro z; cases z) ?_; walk_at "tw look"))
local macro_rules | `(tactic| walk_at "tw seq") => `(tactic| first
  | assumption
  | exact SqL.of (by walk_at "tw look")
  | exact SqT.of (by walk_at "tw look")
  | exact .inl (SqL.of (by walk_at "tw look"))
  | exact .inr (SqT.of (by walk_at "tw look"))
  | exact .inl (by assumption)
  | exact dget_of (by walk_at "tw look") (by assumption)
  | exact DGet.k (k := Sum.inl _) (by walk_at "tw look")
  | exact DPut.k (k := Sum.inl _) (by walk_at "tw look") (by assumption)
  | exact .inl ⟨_, .inl (by walk_at "tw look")⟩
  | exact .inr ⟨_, .inl (by walk_at "tw look")⟩
  | exact ⟨_, SqL.of (by walk_at "tw look")⟩
  | exact ⟨_, SqT.of (by walk_at "tw look")⟩
  | exact ⟨_, by assumption⟩
  | exact .inl ⟨rfl, _, SqL.of (by walk_at "tw look")⟩)
local macro_rules | `(tactic| walk_at "tw atom") => `(tactic| first
  | with_reducible rfl
  | assumption
  | rfl
  | walk_at "tw look"
  | walk_at "tw seq"
  | omega
  | exact small (by simp; done)
  | exact smallt (by simp; done)
  | exact cdiv_of rfl
  | exact fun _ h => h
  | exact Int.natCast_pos.mpr (Nat.zero_lt_succ _)
  | exact cmul_r rfl
  | exact cmul_l rfl
  | exact Nat.le_of_ble_eq_true rfl)
local macro_rules | `(tactic| walk_at "tw step") => `(tactic| first | (with_reducible refine iteT ?_) | (with_reducible refine iteF ?_) | (with_reducible refine itf nott ?_) | (with_reducible refine itt notf ?_) | ((fail_if_success (refine ite2 (fun _ => ?_) (fun _ => ?_))); first
  | ((fail_if_success (refine (?_ : ∃ W : Nat → Nat → L2.St → Hp → Prop, _))); (fail_if_success (refine (?_ : ∃ W : Nat → Nat → Hp → Prop, _))); apply Exists.intro)
  | (apply And.intro; (walk_at "tw atom"))))
local macro_rules | `(tactic| walk_at "tw") => `(tactic| repeat walk_at "tw step")

section
variable {P : Program} {w : World} {K : PySem.W.Frag} {mg : Str → Option Value} {base : Heap}
abbrev lnF (a : V) : List (Str × V) := [("_letters", a)]
/-- a line: its letters lie in the list at a -/
def LineAt (K : PySem.W.Frag) (H : Hp) (x a : Addr) (Ls : List Letter) : Prop := ∃ dx rs, H x = some (.ins (He.ga K "Line") dx (lnF (.ref a))) ∧ H a = some (.lst rs) ∧ All2 (IsLetter H) rs Ls
theorem Keep.tk' {S : List Addr} {H H' : Hp} (e : Keep S H H') (h : ∀ b ∈ S, ∃ o, H b = some o ∧ ∀ xs, o ≠ .tup xs) : TKeep H H' := e.tk fun b hb xs z => by
  obtain ⟨o, h1, h2⟩ := h b hb
  rw [h1] at z
  exact h2 xs (Option.some.inj z)
theorem LineAt.tk {H H' : Hp} {x a : Addr} {Ls : List Letter} (h : LineAt K H x a Ls) (e : Keep [x, a] H H') : TKeep H H' := by
  obtain ⟨dx, rs, h1, h2, _⟩ := h
  refine e.tk' fun b hb => ?_
  rcases (show b = x ∨ b = a by simpa using hb) with rfl | rfl
  · exact ⟨_, h1, fun xs z => by cases z⟩
  · exact ⟨_, h2, fun xs z => by cases z⟩
theorem LineAt.ne {H : Hp} {x a : Addr} {Ls : List Letter} (h : LineAt K H x a Ls) : x ≠ a := by
  obtain ⟨dx, rs, h1, h2, _⟩ := h
  rintro rfl
  rw [h1] at h2
  cases h2
theorem LineAt.keep {S : List Addr} {H H' : Hp} {x a : Addr} {Ls : List Letter} (h : LineAt K H x a Ls) (e : Keep S H H') (t : TKeep H H') (n1 : x ∉ S) (n2 : a ∉ S) : LineAt K H' x a Ls := by
  obtain ⟨dx, rs, h1, h2, h3⟩ := h
  exact ⟨dx, rs, e _ _ n1 h1, e _ _ n2 h2, h3.mono fun _ _ z => z.mono t⟩
theorem LineAt.same {H H' : Hp} {x a : Addr} {Ls : List Letter} (h : LineAt K H x a Ls) (e : Same H H') : LineAt K H' x a Ls := h.keep (e.keep []) e.tk (by simp) (by simp)
/-- a tuple of letters -/
def Tups (H : Hp) (t : Addr) (Ls : List Letter) : Prop := ∃ rs, H t = some (.tup rs) ∧ All2 (IsLetter H) rs Ls
theorem Tups.mono {H H' : Hp} {t : Addr} {Ls : List Letter} (h : Tups H t Ls) (e : TKeep H H') : Tups H' t Ls := by
  obtain ⟨rs, h1, h2⟩ := h
  exact ⟨rs, e _ _ h1, h2.mono fun _ _ z => z.mono e⟩
def spLineInit (K : PySem.W.Frag) : Sp := fun vs H Q _ => ∃ x dx, vs = [.ref x] ∧ H x = some (.ins (He.ga K "Line") dx []) ∧ ∀ a H', Keep [x] H H' → H a = none → LineAt K H' x a [] → Q .non H'
theorem C_Line_init (T : Tx K mg) : NCallee P w K mg base CX0 "Line" P_Line_init 1 (spLineInit K) := by
  refine mk_Line_init T (k := 0) (fun vs H Q E h => ?_) (fun f cdv A outer s H vs Q E hr h => ?_)
  · obtain ⟨x, dx, rfl, _⟩ := h
    rfl
  · obtain ⟨x, dx, rfl, hx, k⟩ := h
    have c1 := T.c_Line
    have n1 := T.n_Line_letters
    refine ⟨_, ((pss_one (ps_fld (pv 0) (pe_lst pa_nil) rfl))), ?_⟩
    walk_at "tw"
    intro a na
    have hx1 := Same.new na (o := .lst []) _ _ hx
    walk_at "tw"
    exact k a _ ((Keep.new na).trans (Keep.upd (by simp))) na ⟨dx, [], upd_same, upd_dif hx1 (by intro z; cases z) upd_same, All2.nil⟩
def spLineNeed (K : PySem.W.Frag) : Sp := fun vs H Q _ => ∃ x a Ls i, vs = [.ref x, .int i] ∧ LineAt K H x a Ls ∧ 0 ≤ i ∧ i < Ls.length ∧ Q .non H
theorem C_Line_need (T : Tx K mg) : MCallee P w K mg base CX0 (He.ga K "Line") "_need" P_Line_need 1 (spLineNeed K) := by
  refine mk_Line_need T (k := 0) (fun vs H Q E h => ?_) (fun f cdv A outer s H vs Q E hr h => ?_)
  · obtain ⟨x, a, Ls, i, rfl, _⟩ := h
    rfl
  · obtain ⟨x, a, Ls, i, rfl, ⟨dx, rs, hx, ha, hrs⟩, h0, h1, k⟩ := h
    have hl := hrs.1
    have c1 := T.c_Line
    have n1 := T.n_Line_letters
    refine ⟨_, ((pss_one (ps_if (PW.pt (pw_or (pt_cmpR op_lt (pv 1) pe_int (nomark _)) (pw_or1 (pt_cmpR op_ge (pv 1) (pe_callB (clen (K := K)) (by rfl) T.f_len PySem.boot_len (pa_cons (pe_fld (pv 0) rfl) pa_nil)) (nomark _)))))
    (pss_one ps_never)
    pss_nil))), ?_⟩
    walk_at "tw"
    refine itf (decide_eq_false (by omega)) ?_
    walk_at "tw"
    refine itf (decide_eq_false (by omega)) ?_
    exact k
def spLineSend (K : PySem.W.Frag) : Sp := fun vs H Q _ => ∃ x a Ls t Ms, vs = [.ref x, .ref t] ∧ LineAt K H x a Ls ∧ Tups H t Ms ∧ Ls.length + Ms.length ≤ 10000 ∧
  ∀ a' H', Keep [x, a] H H' → H a' = none → LineAt K H' x a' (Ls ++ Ms) → Q .non H'
theorem C_Line_send (T : Tx K mg) : MCallee P w K mg base CX0 (He.ga K "Line") "send" P_Line_send 1 (spLineSend K) := by
  refine mk_Line_send T (k := 0) (fun vs H Q E h => ?_) (fun f cdv A outer s H vs Q E hr h => ?_)
  · obtain ⟨x, a, Ls, t, Ms, rfl, _⟩ := h
    rfl
  · obtain ⟨x, a, Ls, t, Ms, rfl, hL, ⟨us, ht, hus⟩, hsz, k⟩ := h
    obtain ⟨dx, rs, hx, ha, hrs⟩ := id hL
    have hl := hrs.1
    have hl2 := hus.1
    have c1 := T.c_Line
    have n1 := T.n_Line_letters
    refine ⟨_, ((pss_one (ps_fld (pv 0) (pe_op op_cat (pe_fld (pv 0) rfl) (pe_callTy (clist (K := K)) (by rfl) T.f_list Pv.boot_list (pa_cons (pv 1) pa_nil))) rfl))), ?_⟩
    walk_at "tw"
    intro l nl
    have ha1 := Same.new nl (o := .lst us) _ _ ha
    have hz : rs.length + us.length ≤ sizeLine := small (by omega)
    walk_at "tw"
    intro p np
    have np0 : H p = none := (Same.new nl).none np
    have hx2 := Same.new np (o := .lst (rs ++ us)) _ _ (Same.new nl (o := .lst us) _ _ hx)
    walk_at "tw"
    have kp : Keep [x, a] H (upd (upd (upd H l (.lst us)) p (.lst (rs ++ us))) x (.ins (He.ga K "Line") dx (lnF (.ref p)))) := ((Keep.new nl).trans (Keep.new np)).trans (Keep.upd (by simp))
    have tk := hL.tk kp
    exact k p _ kp np0 ⟨dx, rs ++ us, upd_same, upd_dif hx2 (by intro z; cases z) upd_same, (hrs.append hus).mono fun _ _ z => z.mono tk⟩
def spLineWaiting (K : PySem.W.Frag) : Sp := fun vs H Q _ => ∃ x a Ls, vs = [.ref x] ∧ LineAt K H x a Ls ∧ ∀ t H', Same H H' → Tups H' t Ls → Q (.ref t) H'
theorem C_Line_waiting (T : Tx K mg) : MCallee P w K mg base CX0 (He.ga K "Line") "waiting" P_Line_waiting 1 (spLineWaiting K) := by
  refine mk_Line_waiting T (k := 0) (fun vs H Q E h => ?_) (fun f cdv A outer s H vs Q E hr h => ?_)
  · obtain ⟨x, a, Ls, rfl, _⟩ := h
    rfl
  · obtain ⟨x, a, Ls, rfl, ⟨dx, rs, hx, ha, hrs⟩, k⟩ := h
    have c1 := T.c_Line
    have n1 := T.n_Line_letters
    refine ⟨_, ((pss_one (ps_ret (pe_callTy (ctuple (K := K)) (by rfl) T.f_tuple Pv.boot_tuple (pa_cons (pe_fld (pv 0) rfl) pa_nil))))), ?_⟩
    walk_at "tw"
    intro t nt
    walk_at "tw"
    exact k t _ (Same.new nt) ⟨rs, upd_same, hrs.mono fun _ _ z => z.mono (Same.new nt).tk⟩
theorem seqIx {i n : Nat} (h : i < n) : seqIndex? ((i : Nat) : Int) n = some i := by
  unfold seqIndex?
  simp only [if_neg (show ¬ ((i : Nat) : Int) < 0 by omega)]
  rw [if_pos (by rw [Bool.and_eq_true]; exact ⟨decide_eq_true (by omega), decide_eq_true (by omega)⟩), Int.toNat_natCast]
def spLineDeliver (K : PySem.W.Frag) : Sp := fun vs H Q _ => ∃ (x a : Addr) (Ls : List Letter) (i : Nat) (L : Letter), vs = [.ref x, .int i] ∧ LineAt K H x a Ls ∧ Ls[i]? = some L ∧ Ls.length ≤ 10000 ∧
  ∀ v H', Keep [x, a] H H' → LineAt K H' x a (Ls.eraseIdx i) → IsLetter H' v L → Q v H'
theorem C_Line_deliver (T : Tx K mg) : MCallee P w K mg base CX0 (He.ga K "Line") "deliver" P_Line_deliver 2 (spLineDeliver K) := by
  refine mk_Line_deliver T (k := 1) (fun vs H Q E h => ?_) (fun f cdv A outer s H vs Q E hr h => ?_)
  · obtain ⟨x, a, Ls, i, L, rfl, _⟩ := h
    rfl
  · obtain ⟨x, a, Ls, i, L, rfl, hL, hi, hsz, k⟩ := h
    obtain ⟨dx, rs, hx, ha, hrs⟩ := id hL
    have c1 := T.c_Line
    have n1 := T.n_Line_letters
    have hil := (List.getElem?_eq_some_iff.mp hi).1
    have hl := hrs.1
    obtain ⟨v, hv, hvL⟩ := hrs.get' hi
    refine ⟨_, ((pss_cons (ps_expr (pe_mcl (C_Line_need T) (hr.mono (by decide)) pass0 (pv 0) (pa_cons (pv 1) pa_nil)))
    (pss_one (ps_ret (pe_bm PySem.F.plainAttrs_list PySem.F.slot_list_pop PySem.F.type_list_pop mt_popAt (pe_fld (pv 0) rfl) (pa_cons (pv 1) pa_nil)))))), ?_⟩
    walk_at "tw"
    have sx : seqIndex? ((i : Nat) : Int) rs.length = some i := seqIx (by omega)
    walk_at "tw"
    have kp : Keep [x, a] H (upd H a (.lst (rs.eraseIdx i))) := Keep.upd (by simp)
    have tk := hL.tk kp
    exact k v _ kp ⟨dx, _, upd_dif ha (by intro z; cases z) hx, upd_same, (hrs.erase i).mono fun _ _ z => z.mono tk⟩ (hvL.mono tk)
def spLineLose (K : PySem.W.Frag) : Sp := fun vs H Q _ => ∃ (x a : Addr) (Ls : List Letter) (i : Nat), vs = [.ref x, .int i] ∧ LineAt K H x a Ls ∧ i < Ls.length ∧ Ls.length ≤ 10000 ∧
  ∀ H', Keep [x, a] H H' → LineAt K H' x a (Ls.eraseIdx i) → Q .non H'
theorem C_Line_lose (T : Tx K mg) : MCallee P w K mg base CX0 (He.ga K "Line") "lose" P_Line_lose 2 (spLineLose K) := by
  refine mk_Line_lose T (k := 1) (fun vs H Q E h => ?_) (fun f cdv A outer s H vs Q E hr h => ?_)
  · obtain ⟨x, a, Ls, i, rfl, _⟩ := h
    rfl
  · obtain ⟨x, a, Ls, i, rfl, hL, hil, hsz, k⟩ := h
    obtain ⟨dx, rs, hx, ha, hrs⟩ := id hL
    have c1 := T.c_Line
    have n1 := T.n_Line_letters
    have hl := hrs.1
    refine ⟨_, ((pss_cons (ps_expr (pe_mcl (C_Line_need T) (hr.mono (by decide)) pass0 (pv 0) (pa_cons (pv 1) pa_nil)))
    (pss_one (ps_delL (pe_fld (pv 0) rfl) (pv 1))))), ?_⟩
    walk_at "tw"
    have sx : seqIndex? ((i : Nat) : Int) rs.length = some i := seqIx (by omega)
    walk_at "tw"
    have kp : Keep [x, a] H (upd H a (.lst (rs.eraseIdx i))) := Keep.upd (by simp)
    have tk := hL.tk kp
    exact k _ kp ⟨dx, _, upd_dif ha (by intro z; cases z) hx, upd_same, (hrs.erase i).mono fun _ _ z => z.mono tk⟩
def spLineDouble (K : PySem.W.Frag) : Sp := fun vs H Q _ => ∃ (x a : Addr) (Ls : List Letter) (i : Nat) (L : Letter), vs = [.ref x, .int i] ∧ LineAt K H x a Ls ∧ Ls[i]? = some L ∧ Ls.length ≤ 10000 ∧
  ∀ H', Keep [x, a] H H' → LineAt K H' x a (Ls ++ [L]) → Q .non H'
theorem C_Line_double (T : Tx K mg) : MCallee P w K mg base CX0 (He.ga K "Line") "double" P_Line_double 2 (spLineDouble K) := by
  refine mk_Line_double T (k := 1) (fun vs H Q E h => ?_) (fun f cdv A outer s H vs Q E hr h => ?_)
  · obtain ⟨x, a, Ls, i, L, rfl, _⟩ := h
    rfl
  · obtain ⟨x, a, Ls, i, L, rfl, hL, hi, hsz, k⟩ := h
    obtain ⟨dx, rs, hx, ha, hrs⟩ := id hL
    have c1 := T.c_Line
    have n1 := T.n_Line_letters
    have hil := (List.getElem?_eq_some_iff.mp hi).1
    have hl := hrs.1
    obtain ⟨v, hv, hvL⟩ := hrs.get' hi
    refine ⟨_, ((pss_cons (ps_expr (pe_mcl (C_Line_need T) (hr.mono (by decide)) pass0 (pv 0) (pa_cons (pv 1) pa_nil)))
    (pss_one (ps_expr (pe_bm PySem.F.plainAttrs_list PySem.F.slot_list_append PySem.F.type_list_append mt_append (pe_fld (pv 0) rfl) (pa_cons (pe_ix (ixL (K := K)) (pe_fld (pv 0) rfl) (pv 1) (fun _ _ => rfl)) pa_nil)))))), ?_⟩
    walk_at "tw"
    refine ⟨atI_nat (j := i) hv, ?_⟩
    have hz : rs.length < sizeLine := smallt (by omega)
    walk_at "tw"
    have kp : Keep [x, a] H (upd H a (.lst (rs ++ [v]))) := Keep.upd (by simp)
    have tk := hL.tk kp
    exact k _ kp ⟨dx, _, upd_dif ha (by intro z; cases z) hx, upd_same, (hrs.snoc hvL).mono fun _ _ z => z.mono tk⟩
end
end Tw
end

section
set_option maxHeartbeats 4000000
/-! TwErr: an own error made of a value, with the context told. -/
namespace Tw
open PySem PySem.Spec PyProof.Rows L2
section
variable {X : Cx} {C : Addr} {bmB : List Value} {B newId initId : String} {x : Str} {p pos : Pos} {e : Expr} {es : List Expr} {t : TA}
theorem pmk_ownN (F : ExcBaseFacts B newId initId bmB) (q : PySem.W.excIn X.K C bmB newId = true) (gC : X.mg x = some (.ref C)) (kC : PySem.W.keepIn X.K (.ref C) = true) (r : Raises X (.ref C)) (hg : Gl X x) (ha : PA X (e :: es) t)
    (hdb : (x == ("__debug__" : Str)) = false := by decide) (he : starEach (e :: es) X.env = (false, eval e X.env) :: starEach es X.env := by rfl) (hpl : (backTo pos (starEach es X.env)).any (·.1) = false := by rfl) :
    L2N.PMk X (.Call (.Name x p) (e :: es) [] pos) (fun σ H Q => t σ H fun vs H1 => vs.length ≤ sizeLine ∧ Q (.ref C) none H1) := by
  intro pins s σ H Q I h
  refine wpAny_Call_Name_kw (ld_glob I hg gC ?_ hdb)
  refine PySem.W.callWith_K (h₀ := X.base) I.ok.mod.kin kC (thn (ha.run pos pins s σ H _ I h) fun us s1 hh => ?_) he hpl
  obtain ⟨vs, H1, I1, r1, hz, q1⟩ := hh
  refine ⟨I1.kIn, ?_⟩
  obtain ⟨bm, N, nm, qn, bs, hdct, sn, sub, ab, col, dd, k0, k1, k2, k3, k5, mN, hC, hN, hni, T⟩ := exc_obj I1.kIn q
  exact wpAny_call_exc_subT F T hC hN hni (fun h' u hm => L2N.mk_of I1 hm r q1 (I1.hok.gone hm.new)) (by rw [List.nil_append, ← r1.length]; exact hz)
end
end Tw
end

section
set_option maxHeartbeats 4000000
/-! TwCut: a statement behind which all ways go on alike: what holds there is said once. -/
namespace Tw
open PySem PySem.Spec PyProof.Rows L2
/-- P holds behind t, whatever t's way; from P on it goes on as D says -/
inductive Cut (t : TS) (D : Ends) (σ : L2.St) (H : Hp) : Prop
  | mk (P : L2.St → Hp → Prop) (main : ∀ N : L2.St → Hp → Prop, (∀ σ H, P σ H → N σ H) → t { D with nx := N } σ H) (tail : ∀ σ H, P σ H → D.nx σ H)
def tCut (t : TS) : TS := fun D σ H => Cut t D σ H
theorem ps_cut {X : Cx} {st : Stmt} {t : TS} (h : PS X st t) : PS X st (tCut t) := ⟨fun pins s σ H D I ⟨_, main, tail⟩ => h.run pins s σ H D I (main D.nx tail)⟩
/-- C(e, ..) where the written part is named -/
theorem pe_nclK {X : Cx} {CX : CXT} {k : Nat} {ps : List Str} {sp : Sp} {E : XK} {x : Str} {p pos : Pos} {e : Expr} {es : List Expr} {t : TA} {K : PySem.W.Frag} (c : NCallee X.prog X.w X.K X.mg X.base CX x ps k sp) (hr : Room (k + 1) X.A) (hx : Passes CX X E) (ha : PA X (e :: es) t) (hK : X.K = K := by rfl) (hg : Gl X x := by rfl) (hdb : (x == ("__debug__" : Str)) = false := by decide)
    (he : starEach (e :: es) X.env = (false, eval e X.env) :: starEach es X.env := by rfl) (hpl : (backTo pos (starEach es X.env)).any (·.1) = false := by rfl) : PE X (.Call (.Name x p) (e :: es) [] pos) (tMake (He.ga K x) sp [] E t) := by
  subst hK
  exact pe_ncl c hr hx ha hg hdb he hpl
end Tw
end

section
set_option maxHeartbeats 4000000
namespace Tw
open PySem PySem.Spec PyProof.Rows L2
/-! the machine of the readings: "tw" goes on through what has one answer; it stops at a branch, a loop, a new object, what comes behind a call -/
local macro_rules | `(tactic| walk_at "tw look") => `(tactic| first
  | assumption
  | exact upd_same
  | (refine Same.new (by assumption) _ _ ?_; walk_at "tw look")
  | (refine upd_oth (by assumption) ?_; walk_at "tw look")
  | (refine upd_dif (by assumption) (by intro z; cases z) ?_; walk_at "tw look")
  | (refine upd_dif upd_same (by intro z; cases z) ?_; walk_at "tw look"))
local macro_rules | `(tactic| walk_at "tw seq") => `(tactic| first
  | assumption
  | exact SqL.of (by walk_at "tw look")
  | exact SqT.of (by walk_at "tw look")
  | exact .inl (SqL.of (by walk_at "tw look"))
  | exact .inr (SqT.of (by walk_at "tw look"))
  | exact .inl (by assumption)
  | exact dget_of (by walk_at "tw look") (by assumption)
  | exact DGet.k (k := Sum.inl _) (by walk_at "tw look")
  | exact DPut.k (k := Sum.inl _) (by walk_at "tw look") (by assumption)
  | exact .inl ⟨_, .inl (by walk_at "tw look")⟩
  | exact .inr ⟨_, .inl (by walk_at "tw look")⟩
  | exact ⟨_, SqL.of (by walk_at "tw look")⟩
  | exact ⟨_, SqT.of (by walk_at "tw look")⟩
  | exact ⟨_, by assumption⟩
  | exact .inl ⟨rfl, _, SqL.of (by walk_at "tw look")⟩)
local macro_rules | `(tactic| walk_at "tw atom") => `(tactic| first
  | with_reducible rfl
  | assumption
  | rfl
  | walk_at "tw look"
  | walk_at "tw seq"
  | omega
  | exact small (by simp; done)
  | exact smallt (by simp; done)
  | exact cdiv_of rfl
  | exact fun _ h => h
  | exact Int.natCast_pos.mpr (Nat.zero_lt_succ _)
  | exact cmul_r rfl
  | exact cmul_l rfl
  | exact Nat.le_of_ble_eq_true rfl)
local macro_rules | `(tactic| walk_at "tw step") => `(tactic| first | (with_reducible refine iteT ?_) | (with_reducible refine iteF ?_) | (with_reducible refine itf nott ?_) | (with_reducible refine itt notf ?_) | ((fail_if_success (refine ite2 (fun _ => ?_) (fun _ => ?_))); first
  | ((fail_if_success (refine (?_ : ∃ W : Nat → Nat → L2.St → Hp → Prop, _))); (fail_if_success (refine (?_ : ∃ W : Nat → Nat → Hp → Prop, _))); apply Exists.intro)
  | (apply And.intro; (walk_at "tw atom"))))
local macro_rules | `(tactic| walk_at "tw") => `(tactic| repeat walk_at "tw step")

section
variable {P : Program} {w : World} {K : PySem.W.Frag} {mg : Str → Option Value} {base : Heap}
abbrev srcF (a b c d e f : V) : List (Str × V) := [("_meter", a), ("_offset", b), ("_slots", c), ("_closed_number", d), ("_closed_stamp", e), ("_due", f)]
structure Src where
  m : Meter
  off : Int
  ss : List Slot
  cn : Nat
  cs : Option Int
  due : List Letter
def SrcAt (K : PySem.W.Frag) (H : Hp) (x sa da : Addr) (S : Src) : Prop := ∃ dx mv rs ds, H x = some (.ins (He.ga K "Source") dx (srcF mv (.int S.off) (.ref sa) (.int S.cn) (ov S.cs) (.ref da))) ∧ IsMeter H mv S.m ∧
  H sa = some (.lst rs) ∧ All2 (IsSlot H) rs S.ss ∧ H da = some (.lst ds) ∧ All2 (IsLetter H) ds S.due ∧ sa ≠ da
theorem SrcAt.tk {H H' : Hp} {x sa da : Addr} {S : Src} (h : SrcAt K H x sa da S) (e : Keep [x, sa, da] H H') : TKeep H H' := by
  obtain ⟨dx, mv, rs, ds, h1, h2, h3, h4, h5, _⟩ := h
  refine e.tk' fun b hb => ?_
  rcases (show b = x ∨ b = sa ∨ b = da by simpa using hb) with rfl | rfl | rfl
  · exact ⟨_, h1, fun xs z => by cases z⟩
  · exact ⟨_, h3, fun xs z => by cases z⟩
  · exact ⟨_, h5, fun xs z => by cases z⟩
theorem SrcAt.keep {S : List Addr} {H H' : Hp} {x sa da : Addr} {s : Src} (h : SrcAt K H x sa da s) (e : Keep S H H') (t : TKeep H H') (n1 : x ∉ S) (n2 : sa ∉ S) (n3 : da ∉ S) : SrcAt K H' x sa da s := by
  obtain ⟨dx, mv, rs, ds, h1, h2, h3, h4, h5, h6, h7⟩ := h
  exact ⟨dx, mv, rs, ds, e _ _ n1 h1, h2.mono t, e _ _ n2 h3, h4.mono fun _ _ z => z.mono t, e _ _ n3 h5, h6.mono fun _ _ z => z.mono t, h7⟩
theorem SrcAt.same {H H' : Hp} {x sa da : Addr} {s : Src} (h : SrcAt K H x sa da s) (e : Same H H') : SrcAt K H' x sa da s := h.keep (e.keep []) e.tk (by simp) (by simp) (by simp)
def addDue (ds : List Letter) (L : Letter) : List Letter := if L ∈ ds then ds else ds ++ [L]
def spSourceMake (K : PySem.W.Frag) : Sp := fun vs H Q _ => ∃ x sa da S lv L, vs = [.ref x, lv] ∧ SrcAt K H x sa da S ∧ IsLetter H lv L ∧ LOk L ∧ (∀ L ∈ S.due, LOk L) ∧ S.due.length ≤ 1000 ∧
  ∀ H', Keep [da] H H' → SrcAt K H' x sa da { S with due := addDue S.due L } → Q .non H'
theorem C_Source_make (T : Tx K mg) : MCallee P w K mg base CX0 (He.ga K "Source") "_make" P_Source_make 1 (spSourceMake K) := by
  refine mk_Source_make T (k := 0) (fun vs H Q E h => ?_) (fun f cdv A outer s H vs Q E hr h => ?_)
  · obtain ⟨x, sa, da, S, lv, L, rfl, _⟩ := h
    rfl
  · obtain ⟨x, sa, da, S, lv, L, rfl, hS, hlv, lok, dok, few, k⟩ := h
    obtain ⟨dx, mv, rs, ds, hx, hm, hsa, hrs, hda, hds, hne⟩ := id hS
    have c1 := T.c_Source
    have n1 := T.n_Source_due
    refine ⟨_, ((pss_one (ps_if (pt_cmpR (opNotIn (K := K) (hu65 hr)) (pv 1) (pe_fld (pv 0) rfl) (by rfl))
    (pss_one (ps_expr (pe_bm PySem.F.plainAttrs_list PySem.F.slot_list_append PySem.F.type_list_append mt_append (pe_fld (pv 0) rfl) (pa_cons (pv 1) pa_nil))))
    pss_nil))), ?_⟩
    walk_at "tw"
    refine ⟨dp_letter hlv lok, .lst (SqL.of hda) (dpAll_letters hds dok), row_shaped (items_flat lok), rows_shaped (fun l hl => by obtain ⟨L', h1, rfl⟩ := List.mem_map.mp hl; exact items_flat (dok L' h1)), ?_⟩
    rw [any_letters lok dok]
    walk_at "tw"
    by_cases hc : L ∈ S.due
    · refine itf (by rw [decide_eq_true hc]; rfl) ?_
      have hS2 : SrcAt K H x sa da { S with due := addDue S.due L } := by
        have : addDue S.due L = S.due := if_pos hc
        rw [this]; exact hS
      exact k H (Keep.refl _ _) hS2
    · refine itt (by rw [decide_eq_false hc]; rfl) ?_
      have hl := hds.1
      have hz : ds.length < sizeLine := smallt (by omega)
      walk_at "tw"
      have kp : Keep [da] H (upd H da (.lst (ds ++ [lv]))) := Keep.upd (by simp)
      have kp3 : Keep [x, sa, da] H (upd H da (.lst (ds ++ [lv]))) := kp.mono (by simp)
      have tk := hS.tk kp3
      refine k _ kp ⟨dx, mv, rs, ds ++ [lv], upd_dif hda (by intro z; cases z) hx, hm.mono tk, upd_oth hne hsa, hrs.mono fun _ _ z => z.mono tk, upd_same, ?_, hne⟩
      have : addDue S.due L = S.due ++ [L] := if_neg hc
      show All2 _ _ (addDue S.due L)
      rw [this]
      exact (hds.snoc hlv).mono fun _ _ z => z.mono tk
def spSourceNeed (K : PySem.W.Frag) : Sp := fun vs H Q E => ∃ x b why, vs = [x, .bl b, .str why] ∧ (b = true → Q .non H) ∧ (b = false → E (.ref (He.ga K "InvalidEntry")) none H)
theorem C_Source_need (T : Tx K mg) : MCallee P w K mg base (L2N.CX P w) (He.ga K "Source") "_need" P_Source_need 1 (spSourceNeed K) := by
  refine mk_Source_need T (k := 0) (fun vs H Q E h => ?_) (fun f cdv A outer s H vs Q E hr h => ?_)
  · obtain ⟨x, b, why, rfl, _⟩ := h
    rfl
  · obtain ⟨x, b, why, rfl, k1, k2⟩ := h
    refine ⟨_, ((pss_one (ps_if (pt_not (pt_val (pv 1)))
    (pss_one (L2N.ps_raise rfl (L2N.takes_of rfl rfl rfl rfl) (pmk_ownN PySem.F.excBase_ValueError T.x_InvalidEntry T.g_InvalidEntry T.k_InvalidEntry (raises_own T.b_InvalidEntry T.t_InvalidEntry) (by exact rfl) (pa_cons (pv 2) pa_nil))))
    pss_nil))), ?_⟩
    walk_at "tw"
    cases b with
    | true =>
      refine itf rfl ?_
      exact k1 rfl
    | false =>
      refine itt rfl ?_
      walk_at "tw"
      exact k2 rfl
def spSourceIsValue (K : PySem.W.Frag) : Sp := fun vs H Q _ => ∃ x sa da S v, vs = [.ref x, .int v] ∧ SrcAt K H x sa da S ∧ Q (.bl (decide (S.m.lo ≤ v) && decide (v ≤ S.m.hi))) H
theorem C_Source_is_value (T : Tx K mg) : MCallee P w K mg base CX0 (He.ga K "Source") "_is_value" P_Source_is_value 1 (spSourceIsValue K) := by
  refine mk_Source_is_value T (k := 0) (fun vs H Q E h => ?_) (fun f cdv A outer s H vs Q E hr h => ?_)
  · obtain ⟨x, sa, da, S, v, rfl, _⟩ := h
    rfl
  · obtain ⟨x, sa, da, S, v, rfl, ⟨dx, mv, rs, ds, hx, ⟨ma, rfl, hma⟩, hsa, hrs, hda, hds, hne⟩, k⟩ := h
    have c1 := T.c_Source
    have n1 := T.n_Source_meter
    refine ⟨_, ((pss_one (ps_ret (pe_chain op_le op_le (pe_ix (ixT (K := K)) (pe_fld (pv 0) rfl) pe_int (fun _ _ => rfl)) (pv 1) (pe_ix (ixT (K := K)) (pe_fld (pv 0) rfl) pe_int (fun _ _ => rfl)))))), ?_⟩
    walk_at "tw"
    refine ite3 (fun h => ?_) (fun h => ?_)
    · walk_at "tw"
      rw [h, Bool.true_and] at k
      exact k
    · rw [h, Bool.false_and] at k
      exact k
def spSourceNeedOpen (K : PySem.W.Frag) : Sp := fun vs H Q E => ∃ x sa da S i, vs = [.ref x, .int i] ∧ SrcAt K H x sa da S ∧
  ((i < 1 ∨ (S.ss.length : Int) < i) → E (.ref (He.ga K "NoSlot")) none H) ∧ (1 ≤ i → i ≤ S.ss.length → i ≤ S.cn → E (.ref (He.ga K "Closed")) none H) ∧ (1 ≤ i → i ≤ S.ss.length → (S.cn : Int) < i → Q .non H)
theorem C_Source_need_open (T : Tx K mg) : MCallee P w K mg base (L2N.CX P w) (He.ga K "Source") "_need_open" P_Source_need_open 1 (spSourceNeedOpen K) := by
  refine mk_Source_need_open T (k := 0) (fun vs H Q E h => ?_) (fun f cdv A outer s H vs Q E hr h => ?_)
  · obtain ⟨x, sa, da, S, i, rfl, _⟩ := h
    rfl
  · obtain ⟨x, sa, da, S, i, rfl, ⟨dx, mv, rs, ds, hx, ⟨ma, rfl, hma⟩, hsa, hrs, hda, hds, hne⟩, k1, k2, k3⟩ := h
    have c1 := T.c_Source
    have n1 := T.n_Source_slots
    have n2 := T.n_Source_closed_number
    have hl := hrs.1
    refine ⟨_, ((pss_cons (ps_if (PW.pt (pw_or (pt_cmpR op_lt (pv 1) pe_int (nomark _)) (pw_or1 (pt_cmpR op_gt (pv 1) (pe_callB (clen (K := K)) (by rfl) T.f_len PySem.boot_len (pa_cons (pe_fld (pv 0) rfl) pa_nil)) (nomark _)))))
    (pss_one (L2N.ps_raise rfl (L2N.takes_of rfl rfl rfl rfl) (L2N.pmk_own PySem.F.excBase_ValueError T.x_NoSlot T.g_NoSlot T.k_NoSlot (raises_own T.b_NoSlot T.t_NoSlot) (by exact rfl))))
    pss_nil)
    (pss_one (ps_if (pt_cmpR op_le (pv 1) (pe_fld (pv 0) rfl) (nomark _))
    (pss_one (L2N.ps_raise rfl (L2N.takes_of rfl rfl rfl rfl) (L2N.pmk_own PySem.F.excBase_ValueError T.x_Closed T.g_Closed T.k_Closed (raises_own T.b_Closed T.t_Closed) (by exact rfl))))
    pss_nil)))), ?_⟩
    walk_at "tw"
    refine ite2 (fun h => ?_) (fun h => ?_)
    · refine itt rfl ?_
      exact k1 (.inl (of_decide_eq_true h))
    · have h1 : 1 ≤ i := Int.not_lt.mp fun z => h (decide_eq_true z)
      walk_at "tw"
      refine ite3 (fun h2 => ?_) (fun h2 => ?_)
      · exact k1 (.inr (by have := of_decide_eq_true h2; omega))
      · have h3 : i ≤ S.ss.length := by have := of_decide_eq_false h2; omega
        walk_at "tw"
        refine ite3 (fun h4 => ?_) (fun h4 => ?_)
        · exact k2 h1 h3 (of_decide_eq_true h4)
        · exact k3 h1 h3 (by have := of_decide_eq_false h4; omega)
theorem ixN_nat {n : Nat} {i : Int} {j : Nat} (e : i = (j : Int)) (h : j < n) : ixN n i = some j := by
  subst e
  unfold ixN
  rw [if_pos (by omega), if_pos (by omega), Int.toNat_natCast]
theorem atI_last {xs : List V} {v : V} (h : 0 < xs.length) (e : xs[xs.length - 1]? = some v) : atI xs (-1) = some v := by
  unfold atI
  have : ixN xs.length (-1) = some (xs.length - 1) := by
    unfold ixN
    rw [if_neg (by omega), if_pos (by omega)]
    congr 1
    omega
  rw [this]
  exact e
/-- what the source's letter about a new version is -/
def Src.add (S : Src) (i : Nat) (t : Slot) (y : Option Int) : Src := { S with ss := S.ss.set i (t.1, t.2 ++ [y]), due := addDue S.due (.read S.m.name (i + 1) t.2.length t.1 y) }
structure Src.Fit (S : Src) : Prop where
  str : PyData.strOk S.m.name = true
  dok : ∀ L ∈ S.due, LOk L
  fewd : S.due.length ≤ 1000
  fews : S.ss.length ≤ 1000
  fewv : ∀ t ∈ S.ss, t.2.length ≤ 1000
def spSourceAdd (K : PySem.W.Frag) : Sp := fun vs H Q _ => ∃ (x sa da : Addr) (S : Src) (i : Nat) (t : Slot) (y : Option Int), vs = [.ref x, .int ((i : Int) + 1), ov y] ∧ SrcAt K H x sa da S ∧ S.ss[i]? = some t ∧ S.Fit ∧
  ∀ H', Keep [sa, da] H H' → SrcAt K H' x sa da (S.add i t y) → Q .non H'
theorem C_Source_add (T : Tx K mg) : MCallee P w K mg base CX0 (He.ga K "Source") "_add" P_Source_add 2 (spSourceAdd K) := by
  refine mk_Source_add T (k := 1) (fun vs H Q E h => ?_) (fun f cdv A outer s H vs Q E hr h => ?_)
  · obtain ⟨x, sa, da, S, i, t, y, rfl, _⟩ := h
    rfl
  · obtain ⟨x, sa, da, S, i, t, y, rfl, hS, ht, fit, k⟩ := h
    obtain ⟨dx, mv, rs, ds, hx, ⟨ma, rfl, hma⟩, hsa, hrs, hda, hds, hne⟩ := id hS
    have c1 := T.c_Source
    have n1 := T.n_Source_slots
    have n2 := T.n_Source_meter
    have hl := hrs.1
    have hi := (List.getElem?_eq_some_iff.mp ht).1
    have fv := fit.fewv t (List.mem_of_getElem? ht)
    obtain ⟨v, hv, ⟨pa, pb, rfl, hpa, hpb⟩⟩ := hrs.get' ht
    refine ⟨_, ((pss_cons (ps_asg (pe_ix (ixL (K := K)) (pe_fld (pv 0) rfl) (pe_op op_sub (pv 1) pe_int) (fun _ _ => rfl)) (pg_tup rfl (pgs_cons (pg_name (i := 3) sc_Source_add.nd rfl (by first | exact Or.inl rfl | exact Or.inr rfl)) (pgs_cons (pg_name (i := 4) sc_Source_add.nd rfl (by first | exact Or.inl rfl | exact Or.inr rfl)) pgs_nil))))
    (pss_cons (ps_asg (pe_tup (pa_cons (pv 3) (pa_cons (pe_op opCatN (pv 4) (pe_tup (pa_cons (pv 2) pa_nil))) pa_nil))) (pg_sub (pe_fld (pv 0) rfl) (pe_op op_sub (pv 1) pe_int) set_list))
    (pss_one (ps_expr (pe_mcl (C_Source_make T) (hr.mono (by decide)) pass0 (pv 0) (pa_cons (pe_tup (pa_cons pe_str (pa_cons (pe_ix (ixT (K := K)) (pe_fld (pv 0) rfl) pe_int (fun _ _ => rfl)) (pa_cons (pv 1) (pa_cons (pe_callB (clen (K := K)) (by rfl) T.f_len PySem.boot_len (pa_cons (pv 4) pa_nil)) (pa_cons (pv 3) (pa_cons (pv 2) pa_nil))))))) pa_nil))))))), ?_⟩
    walk_at "tw"
    refine ⟨at_of (j := i) (by omega) hv, ?_⟩
    walk_at "tw"
    intro p np
    have hpb1 := Same.new np (o := .tup [ov y]) _ _ hpb
    have hz : (t.2.map ov).length + [ov y].length ≤ sizeLine := small (by simp; omega)
    walk_at "tw"
    intro c H2 e2 hc
    have e02 := (Same.new np (o := .tup [ov y])).trans e2
    walk_at "tw"
    intro q nq
    have e03 := e02.up (o := .tup [.int t.1, .ref c]) nq
    have hx3 := e03 _ _ hx
    have hsa3 := e03 _ _ hsa
    walk_at "tw"
    refine ⟨ixN_nat (j := i) (by omega) (by omega), ?_⟩
    have kp : Keep [sa, da] H (upd (upd H2 q (.tup [.int t.1, .ref c])) sa (.lst (rs.set i (.ref q)))) := (e03.keep _).trans (Keep.upd (by simp))
    have hS4 : SrcAt K (upd (upd H2 q (.tup [.int t.1, .ref c])) sa (.lst (rs.set i (.ref q)))) x sa da { S with ss := S.ss.set i (t.1, t.2 ++ [y]) } := by
      have tk := hS.tk (kp.mono (S' := [x, sa, da]) (by simp))
      refine ⟨dx, .ref ma, rs.set i (.ref q), ds, upd_dif hsa3 (by intro z; cases z) hx3, ⟨ma, rfl, tk _ _ hma⟩, upd_same, ?_, upd_oth (Ne.symm hne) (e03 _ _ hda), hds.mono fun _ _ z => z.mono tk, hne⟩
      refine All2.set (s := (t.1, t.2 ++ [y])) (hrs.mono fun _ _ z => z.mono tk) ⟨q, c, rfl, upd_dif hsa3 (by intro z; cases z) upd_same, upd_dif hsa3 (by intro z; cases z) (Same.new nq _ _ ?_)⟩ i
      rw [hc, List.map_append]
      rfl
    obtain ⟨dx4, mv4, rs4, ds4, hx4, ⟨ma4, rfl, hma4⟩, hsa4, hrs4, hda4, hds4, hne4⟩ := id hS4
    have hpb4 : (upd (upd H2 q (.tup [.int t.1, .ref c])) sa (.lst (rs.set i (.ref q)))) pb = some (.tup (t.2.map ov)) := upd_dif hsa3 (by intro z; cases z) (e03 _ _ hpb)
    walk_at "tw"
    intro l nl
    have hS5 := hS4.same (Same.new nl (o := .tup [.str "read", .str S.m.name, .int ((i : Int) + 1), .int ((t.2.map ov).length : Nat), .int t.1, ov y]))
    have hL : IsLetter (upd (upd (upd H2 q (.tup [.int t.1, .ref c])) sa (.lst (rs.set i (.ref q)))) l (.tup [.str "read", .str S.m.name, .int ((i : Int) + 1), .int ((t.2.map ov).length : Nat), .int t.1, ov y])) (.ref l) (.read S.m.name (i + 1) t.2.length t.1 y) := ⟨l, rfl, by rw [upd_same, List.length_map]; rfl⟩
    have lok : LOk (.read S.m.name (i + 1) t.2.length t.1 y) := fit.str
    have dok := fit.dok
    have fewd := fit.fewd
    walk_at "tw"
    intro H6 e6 hS6
    exact k H6 ((kp.trans (Keep.new nl)).trans (e6.mono (by simp))) hS6
def Src.recd (S : Src) (st v : Int) : Src := { S with ss := S.ss ++ [(st, [some v])], due := addDue S.due (.read S.m.name (S.ss.length + 1) 0 st (some v)) }
def Src.RecOk (S : Src) (st v : Int) : Prop := (S.m.lo ≤ v ∧ v ≤ S.m.hi) ∧ (∀ t, S.ss[S.ss.length - 1]? = some t → t.1 ≤ st) ∧ ∀ c, S.cs = some c → c ≤ st
def spSourceRecord (K : PySem.W.Frag) : Sp := fun vs H Q E => ∃ (x sa da : Addr) (S : Src) (st v : Int), vs = [.ref x, .int st, .int v] ∧ SrcAt K H x sa da S ∧ S.Fit ∧
  (¬ S.RecOk st v → E (.ref (He.ga K "InvalidEntry")) none H) ∧ (S.RecOk st v → ∀ n H', Keep [sa, da] H H' → SrcAt K H' x sa da (S.recd st v) → Q (.int n) H')
theorem C_Source_record (T : Tx K mg) : MCallee P w K mg base (L2N.CX P w) (He.ga K "Source") "record" P_Source_record 2 (spSourceRecord K) := by
  refine mk_Source_record T (k := 1) (fun vs H Q E h => ?_) (fun f cdv A outer s H vs Q E hr h => ?_)
  · obtain ⟨x, sa, da, S, st, v, rfl, _⟩ := h
    rfl
  · obtain ⟨x, sa, da, S, st, v, rfl, hS, fit, k1, k2⟩ := h
    obtain ⟨dx, mv, rs, ds, hx, ⟨ma, rfl, hma⟩, hsa, hrs, hda, hds, hne⟩ := id hS
    have c1 := T.c_Source
    have n1 := T.n_Source_slots
    have n2 := T.n_Source_meter
    have n3 := T.n_Source_closed_stamp
    have hl := hrs.1
    have fews := fit.fews
    refine ⟨_, ((pss_cons (ps_expr (pe_mcl (C_Source_need T) (hr.mono (by decide)) (L2N.passes_call (L2N.takes_of rfl rfl rfl rfl) (fun _ _ _ _ z => z)) (pv 0) (pa_cons (pe_mcl (C_Source_is_value T) (hr.mono (by decide)) pass0 (pv 0) (pa_cons (pv 2) pa_nil)) (pa_cons pe_str pa_nil))))
    (pss_cons (ps_cut (ps_if (pt_cmpR op_gt (pe_callB (clen (K := K)) (by rfl) T.f_len PySem.boot_len (pa_cons (pe_fld (pv 0) rfl) pa_nil)) pe_int (nomark _))
    (pss_one (ps_expr (pe_mcl (C_Source_need T) (hr.mono (by decide)) (L2N.passes_call (L2N.takes_of rfl rfl rfl rfl) (fun _ _ _ _ z => z)) (pv 0) (pa_cons (pe_cmpR op_ge (pv 1) (pe_ix (ixT (K := K)) (pe_ix (ixL (K := K)) (pe_fld (pv 0) rfl) (pe_un un_neg pe_int) (fun _ _ => rfl)) pe_int (fun _ _ => rfl)) (nomark _)) (pa_cons pe_str pa_nil)))))
    pss_nil))
    (pss_cons (ps_cut (ps_if (pt_cmpR op_notN (pe_fld (pv 0) rfl) pe_non (nomark _))
    (pss_one (ps_expr (pe_mcl (C_Source_need T) (hr.mono (by decide)) (L2N.passes_call (L2N.takes_of rfl rfl rfl rfl) (fun _ _ _ _ z => z)) (pv 0) (pa_cons (pe_cmpR op_ge (pv 1) (pe_fld (pv 0) rfl) (nomark _)) (pa_cons pe_str pa_nil)))))
    pss_nil))
    (pss_cons (ps_expr (pe_bm PySem.F.plainAttrs_list PySem.F.slot_list_append PySem.F.type_list_append mt_append (pe_fld (pv 0) rfl) (pa_cons (pe_tup (pa_cons (pv 1) (pa_cons (pe_tup (pa_cons (pv 2) pa_nil)) pa_nil))) pa_nil)))
    (pss_cons (ps_expr (pe_mcl (C_Source_make T) (hr.mono (by decide)) pass0 (pv 0) (pa_cons (pe_tup (pa_cons pe_str (pa_cons (pe_ix (ixT (K := K)) (pe_fld (pv 0) rfl) pe_int (fun _ _ => rfl)) (pa_cons (pe_callB (clen (K := K)) (by rfl) T.f_len PySem.boot_len (pa_cons (pe_fld (pv 0) rfl) pa_nil)) (pa_cons pe_int (pa_cons (pv 1) (pa_cons (pv 2) pa_nil))))))) pa_nil)))
    (pss_one (ps_ret (pe_callB (clen (K := K)) (by rfl) T.f_len PySem.boot_len (pa_cons (pe_fld (pv 0) rfl) pa_nil)))))))))), ?_⟩
    walk_at "tw"
    refine ⟨fun h1 => ?_, fun h1 => k1 fun z => by rw [decide_eq_true z.1.1, decide_eq_true z.1.2] at h1; cases h1⟩
    have hv : S.m.lo ≤ v ∧ v ≤ S.m.hi := by rw [Bool.and_eq_true] at h1; exact ⟨of_decide_eq_true h1.1, of_decide_eq_true h1.2⟩
    walk_at "tw"
    refine .mk (fun σ G => σ = [some (.ref x), some (.int st), some (.int v)] ∧ G = H ∧ ∀ t, S.ss[S.ss.length - 1]? = some t → t.1 ≤ st) (fun N hN => ?_) ?_
    · walk_at "tw"
      refine ite3 (fun hg => ?_) (fun hg => ?_)
      · have hg0 : 0 < rs.length := by have := of_decide_eq_true hg; omega
        obtain ⟨t, ht⟩ : ∃ t, S.ss[S.ss.length - 1]? = some t := ⟨S.ss[S.ss.length - 1]'(by omega), List.getElem?_eq_getElem _⟩
        obtain ⟨tv, htv, ⟨pa, pb, rfl, hpa, hpb⟩⟩ := hrs.get' ht
        walk_at "tw"
        refine ⟨atI_last hg0 (by rw [hl]; exact htv), ?_⟩
        walk_at "tw"
        refine ⟨fun h2 => ?_, fun h2 => k1 fun z => of_decide_eq_false h2 (z.2.1 t ht)⟩
        exact hN _ _ ⟨rfl, rfl, fun t' z => by rw [ht] at z; cases z; exact of_decide_eq_true h2⟩
      · exact hN _ _ ⟨rfl, rfl, fun t' z => by
          have := of_decide_eq_false hg
          have := (List.getElem?_eq_some_iff.mp z).1
          omega⟩
    · rintro σ G ⟨rfl, eG, hlast⟩
      rw [eG]
      clear eG
      walk_at "tw"
      refine .mk (fun σ G' => σ = [some (.ref x), some (.int st), some (.int v)] ∧ G' = H ∧ ∀ c, S.cs = some c → c ≤ st) (fun N hN => ?_) ?_
      · walk_at "tw"
        cases hc : S.cs with
        | none =>
          refine itf rfl ?_
          exact hN _ _ ⟨rfl, rfl, fun c z => by rw [hc] at z; cases z⟩
        | some c =>
          rw [hc] at hx
          refine itt rfl ?_
          walk_at "tw"
          refine ⟨fun h3 => ?_, fun h3 => k1 fun z => of_decide_eq_false h3 (z.2.2 c hc)⟩
          exact hN _ _ ⟨rfl, rfl, fun c' z => by rw [hc] at z; cases z; exact of_decide_eq_true h3⟩
      · rintro σ G' ⟨rfl, eG, hcs⟩
        rw [eG]
        clear eG
        have hok : S.RecOk st v := ⟨hv, hlast, hcs⟩
        walk_at "tw"
        intro p np
        walk_at "tw"
        intro q nq
        have e2 : Same H (upd (upd H p (.tup [.int v])) q (.tup [.int st, .ref p])) := (Same.new np).up nq
        have hx2 := e2 _ _ hx
        have hsa2 := e2 _ _ hsa
        have hz : rs.length < sizeLine := smallt (by omega)
        walk_at "tw"
        have kp : Keep [sa, da] H (upd (upd (upd H p (.tup [.int v])) q (.tup [.int st, .ref p])) sa (.lst (rs ++ [.ref q]))) := (e2.keep _).trans (Keep.upd (by simp))
        have hS4 : SrcAt K (upd (upd (upd H p (.tup [.int v])) q (.tup [.int st, .ref p])) sa (.lst (rs ++ [.ref q]))) x sa da { S with ss := S.ss ++ [(st, [some v])] } := by
          have tk := hS.tk (kp.mono (S' := [x, sa, da]) (by simp))
          refine ⟨dx, .ref ma, rs ++ [.ref q], ds, upd_dif hsa2 (by intro z; cases z) hx2, ⟨ma, rfl, tk _ _ hma⟩, upd_same, ?_, upd_oth (Ne.symm hne) (e2 _ _ hda), hds.mono fun _ _ z => z.mono tk, hne⟩
          exact All2.snoc (hrs.mono fun _ _ z => z.mono tk) ⟨q, p, rfl, upd_dif hsa2 (by intro z; cases z) upd_same, upd_dif hsa2 (by intro z; cases z) (Same.new nq _ _ upd_same)⟩
        obtain ⟨dx4, mv4, rs4, ds4, hx4, ⟨ma4, rfl, hma4⟩, hsa4, hrs4, hda4, hds4, hne4⟩ := id hS4
        have hl4 : (rs ++ [V.ref q]).length = S.ss.length + 1 := by rw [List.length_append, hl]; rfl
        walk_at "tw"
        intro l nl
        have hS5 := hS4.same (Same.new nl (o := .tup [.str "read", .str S.m.name, .int ((rs ++ [V.ref q]).length : Nat), .int 0, .int st, .int v]))
        have hL : IsLetter (upd (upd (upd (upd H p (.tup [.int v])) q (.tup [.int st, .ref p])) sa (.lst (rs ++ [.ref q]))) l (.tup [.str "read", .str S.m.name, .int ((rs ++ [V.ref q]).length : Nat), .int 0, .int st, .int v])) (.ref l) (.read S.m.name (S.ss.length + 1) 0 st (some v)) := ⟨l, rfl, by rw [upd_same, hl4]; rfl⟩
        have lok : LOk (.read S.m.name (S.ss.length + 1) 0 st (some v)) := fit.str
        have dok := fit.dok
        have fewd := fit.fewd
        walk_at "tw"
        intro H6 e6 hS6
        obtain ⟨dx7, mv7, rs7, ds7, hx7, hm7, hsa7, hrs7, hda7, hds7, hne7⟩ := id hS6
        walk_at "tw"
        exact k2 hok _ H6 ((kp.trans (Keep.new nl)).trans (e6.mono (by simp))) hS6
end
end Tw
end

section
set_option maxHeartbeats 4000000
namespace Tw
open PySem PySem.Spec PyProof.Rows L2
/-! the machine of the readings: "tw" goes on through what has one answer; it stops at a branch, a loop, a new object, what comes behind a call -/
local macro_rules | `(tactic| walk_at "tw look") => `(tactic| first
  | assumption
  | exact upd_same
  | (refine Same.new (by assumption) _ _ ?_; walk_at "tw look")
  | (refine upd_oth (by assumption) ?_; walk_at "tw look")
  | (refine upd_dif (by assumption) (by intro z; cases z) ?_; walk_at "tw look")
  | (refine upd_dif upd_same (by intro z; cases z) ?_; walk_at "tw look"))
local macro_rules | `(tactic| walk_at "tw seq") => `(tactic| first
  | assumption
  | exact SqL.of (by walk_at "tw look")
  | exact SqT.of (by walk_at "tw look")
  | exact .inl (SqL.of (by walk_at "tw look"))
  | exact .inr (SqT.of (by walk_at "tw look"))
  | exact .inl (by assumption)
  | exact dget_of (by walk_at "tw look") (by assumption)
  | exact DGet.k (k := Sum.inl _) (by walk_at "tw look")
  | exact DPut.k (k := Sum.inl _) (by walk_at "tw look") (by assumption)
  | exact .inl ⟨_, .inl (by walk_at "tw look")⟩
  | exact .inr ⟨_, .inl (by walk_at "tw look")⟩
  | exact ⟨_, SqL.of (by walk_at "tw look")⟩
  | exact ⟨_, SqT.of (by walk_at "tw look")⟩
  | exact ⟨_, by assumption⟩
  | exact .inl ⟨rfl, _, SqL.of (by walk_at "tw look")⟩)
local macro_rules | `(tactic| walk_at "tw atom") => `(tactic| first
  | with_reducible rfl
  | assumption
  | rfl
  | walk_at "tw look"
  | walk_at "tw seq"
  | omega
  | exact small (by simp; done)
  | exact smallt (by simp; done)
  | exact cdiv_of rfl
  | exact fun _ h => h
  | exact Int.natCast_pos.mpr (Nat.zero_lt_succ _)
  | exact cmul_r rfl
  | exact cmul_l rfl
  | exact Nat.le_of_ble_eq_true rfl)
local macro_rules | `(tactic| walk_at "tw step") => `(tactic| first | (with_reducible refine iteT ?_) | (with_reducible refine iteF ?_) | (with_reducible refine itf nott ?_) | (with_reducible refine itt notf ?_) | ((fail_if_success (refine ite2 (fun _ => ?_) (fun _ => ?_))); first
  | ((fail_if_success (refine (?_ : ∃ W : Nat → Nat → L2.St → Hp → Prop, _))); (fail_if_success (refine (?_ : ∃ W : Nat → Nat → Hp → Prop, _))); apply Exists.intro)
  | (apply And.intro; (walk_at "tw atom"))))
local macro_rules | `(tactic| walk_at "tw") => `(tactic| repeat walk_at "tw step")

section
variable {P : Program} {w : World} {K : PySem.W.Frag} {mg : Str → Option Value} {base : Heap}
/-- what a deed may raise -/
def Bad (c : Str) : Prop := c = "NoSlot" ∨ c = "Closed" ∨ c = "InvalidEntry"
theorem Bad.ns : Bad "NoSlot" := .inl rfl
theorem Bad.cl : Bad "Closed" := .inr (.inl rfl)
theorem Bad.ie : Bad "InvalidEntry" := .inr (.inr rfl)
def spSourceCorrect (K : PySem.W.Frag) : Sp := fun vs H Q E => ∃ (x sa da : Addr) (S : Src) (i v : Int), vs = [.ref x, .int i, .int v] ∧ SrcAt K H x sa da S ∧ S.Fit ∧
  (∀ c, Bad c → E (.ref (He.ga K c)) none H) ∧ ∀ (j : Nat) t, i = (j : Int) + 1 → S.ss[j]? = some t → S.cn ≤ j → S.m.lo ≤ v ∧ v ≤ S.m.hi → ∀ H', Keep [sa, da] H H' → SrcAt K H' x sa da (S.add j t (some v)) → Q .non H'
theorem C_Source_correct (T : Tx K mg) : MCallee P w K mg base (L2N.CX P w) (He.ga K "Source") "correct" P_Source_correct 3 (spSourceCorrect K) := by
  refine mk_Source_correct T (k := 2) (fun vs H Q E h => ?_) (fun f cdv A outer s H vs Q E hr h => ?_)
  · obtain ⟨x, sa, da, S, i, v, rfl, _⟩ := h
    rfl
  · obtain ⟨x, sa, da, S, i, v, rfl, hS, fit, k1, k2⟩ := h
    obtain ⟨dx, mv, rs, ds, hx, hm, hsa, hrs, hda, hds, hne⟩ := id hS
    refine ⟨_, ((pss_cons (ps_expr (pe_mcl (C_Source_need_open T) (hr.mono (by decide)) (L2N.passes_call (L2N.takes_of rfl rfl rfl rfl) (fun _ _ _ _ z => z)) (pv 0) (pa_cons (pv 1) pa_nil)))
    (pss_cons (ps_expr (pe_mcl (C_Source_need T) (hr.mono (by decide)) (L2N.passes_call (L2N.takes_of rfl rfl rfl rfl) (fun _ _ _ _ z => z)) (pv 0) (pa_cons (pe_mcl (C_Source_is_value T) (hr.mono (by decide)) pass0 (pv 0) (pa_cons (pv 2) pa_nil)) (pa_cons pe_str pa_nil))))
    (pss_one (ps_expr (pe_mcl (C_Source_add T) (hr.mono (by decide)) pass0 (pv 0) (pa_cons (pv 1) (pa_cons (pv 2) pa_nil)))))))), ?_⟩
    walk_at "tw"
    refine ⟨fun _ => k1 _ Bad.ns, fun _ _ _ => k1 _ Bad.cl, fun h1 h2 h3 => ?_⟩
    obtain ⟨j, rfl⟩ : ∃ j : Nat, i = (j : Int) + 1 := ⟨(i - 1).toNat, by omega⟩
    obtain ⟨t, ht⟩ : ∃ t, S.ss[j]? = some t := ⟨S.ss[j]'(by omega), List.getElem?_eq_getElem _⟩
    walk_at "tw"
    refine ⟨fun h4 => ?_, fun h4 => k1 _ Bad.ie⟩
    rw [Bool.and_eq_true] at h4
    walk_at "tw"
    refine ⟨(rfl : _ = [V.ref x, V.int ((j : Int) + 1), ov (some v)]), ?_⟩
    walk_at "tw"
    intro H' e hS'
    exact k2 j t rfl ht (by omega) ⟨of_decide_eq_true h4.1, of_decide_eq_true h4.2⟩ H' e hS'
def spSourceTakeBack (K : PySem.W.Frag) : Sp := fun vs H Q E => ∃ (x sa da : Addr) (S : Src) (i : Int), vs = [.ref x, .int i] ∧ SrcAt K H x sa da S ∧ S.Fit ∧
  (∀ c, Bad c → E (.ref (He.ga K c)) none H) ∧ ∀ (j : Nat) t, i = (j : Int) + 1 → S.ss[j]? = some t → S.cn ≤ j → ∀ H', Keep [sa, da] H H' → SrcAt K H' x sa da (S.add j t none) → Q .non H'
theorem C_Source_take_back (T : Tx K mg) : MCallee P w K mg base (L2N.CX P w) (He.ga K "Source") "take_back" P_Source_take_back 3 (spSourceTakeBack K) := by
  refine mk_Source_take_back T (k := 2) (fun vs H Q E h => ?_) (fun f cdv A outer s H vs Q E hr h => ?_)
  · obtain ⟨x, sa, da, S, i, rfl, _⟩ := h
    rfl
  · obtain ⟨x, sa, da, S, i, rfl, hS, fit, k1, k2⟩ := h
    obtain ⟨dx, mv, rs, ds, hx, hm, hsa, hrs, hda, hds, hne⟩ := id hS
    refine ⟨_, ((pss_cons (ps_expr (pe_mcl (C_Source_need_open T) (hr.mono (by decide)) (L2N.passes_call (L2N.takes_of rfl rfl rfl rfl) (fun _ _ _ _ z => z)) (pv 0) (pa_cons (pv 1) pa_nil)))
    (pss_one (ps_expr (pe_mcl (C_Source_add T) (hr.mono (by decide)) pass0 (pv 0) (pa_cons (pv 1) (pa_cons pe_non pa_nil))))))), ?_⟩
    walk_at "tw"
    refine ⟨fun _ => k1 _ Bad.ns, fun _ _ _ => k1 _ Bad.cl, fun h1 h2 h3 => ?_⟩
    obtain ⟨j, rfl⟩ : ∃ j : Nat, i = (j : Int) + 1 := ⟨(i - 1).toNat, by omega⟩
    obtain ⟨t, ht⟩ : ∃ t, S.ss[j]? = some t := ⟨S.ss[j]'(by omega), List.getElem?_eq_getElem _⟩
    walk_at "tw"
    refine ⟨(rfl : _ = [V.ref x, V.int ((j : Int) + 1), ov none]), ?_⟩
    walk_at "tw"
    intro H' e hS'
    exact k2 j t rfl ht (by omega) H' e hS'
def spSourceCheck (K : PySem.W.Frag) : Sp := fun vs H Q E => ∃ (x sa da : Addr) (S : Src) (lo hi : Int), vs = [.ref x, .int lo, .int hi] ∧ SrcAt K H x sa da S ∧ S.Fit ∧
  (∀ c, Bad c → E (.ref (He.ga K c)) none H) ∧ (lo ≤ S.off → S.off ≤ hi → ∀ H', Keep [sa, da] H H' → SrcAt K H' x sa da { S with due := addDue S.due (.clock S.m.name lo hi) } → Q .non H')
theorem C_Source_check (T : Tx K mg) : MCallee P w K mg base (L2N.CX P w) (He.ga K "Source") "check" P_Source_check 2 (spSourceCheck K) := by
  refine mk_Source_check T (k := 1) (fun vs H Q E h => ?_) (fun f cdv A outer s H vs Q E hr h => ?_)
  · obtain ⟨x, sa, da, S, lo, hi, rfl, _⟩ := h
    rfl
  · obtain ⟨x, sa, da, S, lo, hi, rfl, hS, fit, k1, k2⟩ := h
    obtain ⟨dx, mv, rs, ds, hx, ⟨ma, rfl, hma⟩, hsa, hrs, hda, hds, hne⟩ := id hS
    have c1 := T.c_Source
    have n1 := T.n_Source_offset
    have n2 := T.n_Source_meter
    refine ⟨_, ((pss_cons (ps_expr (pe_mcl (C_Source_need T) (hr.mono (by decide)) (L2N.passes_call (L2N.takes_of rfl rfl rfl rfl) (fun _ _ _ _ z => z)) (pv 0) (pa_cons (pe_chain op_le op_le (pv 1) (pe_fld (pv 0) rfl) (pv 2)) (pa_cons pe_str pa_nil))))
    (pss_one (ps_expr (pe_mcl (C_Source_make T) (hr.mono (by decide)) pass0 (pv 0) (pa_cons (pe_tup (pa_cons pe_str (pa_cons (pe_ix (ixT (K := K)) (pe_fld (pv 0) rfl) pe_int (fun _ _ => rfl)) (pa_cons (pv 1) (pa_cons (pv 2) pa_nil))))) pa_nil)))))), ?_⟩
    walk_at "tw"
    have bad : ∀ c, Bad c → E (.ref (He.ga K c)) none H := k1
    refine ite3 (fun h => ?_) (fun h => ?_)
    · walk_at "tw"
      refine ⟨fun h2 => ?_, fun _ => k1 _ Bad.ie⟩
      walk_at "tw"
      intro l nl
      have hS5 := hS.same (Same.new nl (o := .tup [.str "clock", .str S.m.name, .int lo, .int hi]))
      have hL : IsLetter (upd H l (.tup [.str "clock", .str S.m.name, .int lo, .int hi])) (.ref l) (.clock S.m.name lo hi) := ⟨l, rfl, upd_same⟩
      have lok : LOk (.clock S.m.name lo hi) := fit.str
      have dok := fit.dok
      have fewd := fit.fewd
      have hx5 := Same.new nl (o := .tup [.str "clock", .str S.m.name, .int lo, .int hi]) _ _ hx
      walk_at "tw"
      intro H6 e6 hS6
      exact k2 (of_decide_eq_true h) (of_decide_eq_true h2) H6 ((Keep.new nl).trans (e6.mono (by simp))) hS6
    · walk_at "tw"
      exact ⟨fun h2 => (nomatch h2), fun _ => k1 _ Bad.ie⟩
def spSourceLog (K : PySem.W.Frag) : Sp := fun vs H Q _ => ∃ (x sa da : Addr) (S : Src), vs = [.ref x] ∧ SrcAt K H x sa da S ∧ ∀ v H', Same H H' → IsLog H' v ⟨S.m, S.off, S.ss⟩ → Q v H'
theorem C_Source_log (T : Tx K mg) : MCallee P w K mg base CX0 (He.ga K "Source") "log" P_Source_log 1 (spSourceLog K) := by
  refine mk_Source_log T (k := 0) (fun vs H Q E h => ?_) (fun f cdv A outer s H vs Q E hr h => ?_)
  · obtain ⟨x, sa, da, S, rfl, _⟩ := h
    rfl
  · obtain ⟨x, sa, da, S, rfl, hS, k⟩ := h
    obtain ⟨dx, mv, rs, ds, hx, ⟨ma, rfl, hma⟩, hsa, hrs, hda, hds, hne⟩ := id hS
    have c1 := T.c_Source
    have n1 := T.n_Source_offset
    have n2 := T.n_Source_meter
    have n3 := T.n_Source_slots
    refine ⟨_, ((pss_one (ps_ret (pe_tup (pa_cons (pe_ix (ixT (K := K)) (pe_fld (pv 0) rfl) pe_int (fun _ _ => rfl)) (pa_cons (pe_fld (pv 0) rfl) (pa_cons (pe_callTy (ctuple (K := K)) (by rfl) T.f_tuple Pv.boot_tuple (pa_cons (pe_fld (pv 0) rfl) pa_nil)) pa_nil))))))), ?_⟩
    walk_at "tw"
    intro p np
    walk_at "tw"
    intro q nq
    walk_at "tw"
    have e2 := (Same.new np (o := .tup rs)).trans (Same.new nq (o := .tup [.str S.m.name, .int S.off, .ref p]))
    exact k (.ref q) _ e2 ⟨q, .ref p, rfl, upd_same, p, rs, rfl, Same.new nq _ _ upd_same, hrs.mono fun _ _ z => z.mono e2.tk⟩
def spSourceDue (K : PySem.W.Frag) : Sp := fun vs H Q _ => ∃ (x sa da : Addr) (S : Src), vs = [.ref x] ∧ SrcAt K H x sa da S ∧ ∀ t H', Same H H' → Tups H' t S.due → Q (.ref t) H'
theorem C_Source_due (T : Tx K mg) : MCallee P w K mg base CX0 (He.ga K "Source") "due" P_Source_due 1 (spSourceDue K) := by
  refine mk_Source_due T (k := 0) (fun vs H Q E h => ?_) (fun f cdv A outer s H vs Q E hr h => ?_)
  · obtain ⟨x, sa, da, S, rfl, _⟩ := h
    rfl
  · obtain ⟨x, sa, da, S, rfl, hS, k⟩ := h
    obtain ⟨dx, mv, rs, ds, hx, ⟨ma, rfl, hma⟩, hsa, hrs, hda, hds, hne⟩ := id hS
    have c1 := T.c_Source
    have n1 := T.n_Source_due
    refine ⟨_, ((pss_one (ps_ret (pe_callTy (ctuple (K := K)) (by rfl) T.f_tuple Pv.boot_tuple (pa_cons (pe_fld (pv 0) rfl) pa_nil))))), ?_⟩
    walk_at "tw"
    intro p np
    walk_at "tw"
    exact k p _ (Same.new np) ⟨ds, upd_same, hds.mono fun _ _ z => z.mono (Same.new np).tk⟩
def spSourceInit (K : PySem.W.Frag) : Sp := fun vs H Q _ => ∃ (x dx : Addr) (p : V) (len : Int) (ms : List Meter) (m : Meter) (off : Int), vs = [.ref x, p, .str m.name, .int off] ∧ H x = some (.ins (He.ga K "Source") dx []) ∧ IsPlan H p len ms ∧ MsOk ms ∧ m ∈ ms ∧
  ∀ sa da H', Keep [x] H H' → H sa = none → H da = none → SrcAt K H' x sa da ⟨m, off, [], 0, none, []⟩ → Q .non H'
theorem C_Source_init (T : Tx K mg) : NCallee P w K mg base CX0 "Source" P_Source_init 2 (spSourceInit K) := by
  refine mk_Source_init T (k := 1) (fun vs H Q E h => ?_) (fun f cdv A outer s H vs Q E hr h => ?_)
  · obtain ⟨x, dx, p, len, ms, m, off, rfl, _⟩ := h
    rfl
  · obtain ⟨x, dx, p, len, ms, m, off, rfl, hx, hp, mok, hm, k⟩ := h
    have c1 := T.c_Source
    have n1 := T.n_Source_offset
    have n2 := T.n_Source_meter
    have n3 := T.n_Source_slots
    have n4 := T.n_Source_closed_number
    have n5 := T.n_Source_closed_stamp
    have n6 := T.n_Source_due
    have nd := mok.nd
    have few := mok.few
    refine ⟨_, ((pss_cons (ps_fld (pv 0) (pe_cl (C_meter_of T) (hr.mono (by decide)) pass0 (pa_cons (pv 1) (pa_cons (pv 2) pa_nil))) rfl)
    (pss_cons (ps_fld (pv 0) (pv 3) rfl)
    (pss_cons (ps_fld (pv 0) (pe_lst pa_nil) rfl)
    (pss_cons (ps_fld (pv 0) pe_int rfl)
    (pss_cons (ps_fld (pv 0) pe_non rfl)
    (pss_one (ps_fld (pv 0) (pe_lst pa_nil) rfl)))))))), ?_⟩
    walk_at "tw"
    intro mv H1 e1 hmv
    have hx1 := e1 _ _ hx
    walk_at "tw"
    intro sa nsa
    walk_at "tw"
    intro da nda
    have hsx : sa ≠ x := fun z => by rw [z, upd_same] at nsa; cases nsa
    have nsa1 : H1 sa = none := by rw [upd_ne hsx, upd_ne hsx] at nsa; exact nsa
    have hdx : da ≠ x := fun z => by rw [z, upd_same] at nda; cases nda
    have hds : da ≠ sa := fun z => by rw [z, upd_ne hsx, upd_ne hsx, upd_ne hsx, upd_same] at nda; cases nda
    have nda1 : H1 da = none := by rw [upd_ne hdx, upd_ne hdx, upd_ne hdx, upd_ne hds, upd_ne hdx, upd_ne hdx] at nda; exact nda
    walk_at "tw"
    have kx : ∀ {G : Hp} {o : HO}, Keep [x] G (upd G x o) := Keep.upd (by simp)
    have xo : ∀ b ∈ [x], ∃ o, H1 b = some o ∧ ∀ xs, o ≠ .tup xs := fun b hb => by
      rw [show b = x by simpa using hb]
      exact ⟨_, hx1, fun xs z => by cases z⟩
    refine (fun kp => k sa da _ ((e1.keep _).trans kp) (e1.none nsa1) (e1.none nda1) ⟨dx, mv, [], [], upd_same, hmv.mono (e1.tk.trans (kp.tk' xo)), by rw [upd_ne hsx, upd_ne (Ne.symm hds), upd_ne hsx, upd_ne hsx, upd_ne hsx, upd_same], All2.nil, by rw [upd_ne hdx, upd_same], All2.nil, Ne.symm hds⟩) (?_ : Keep [x] H1 _)
    exact (((((((kx (G := H1)).trans kx).trans (Keep.new nsa)).trans kx).trans kx).trans kx).trans (Keep.new nda)).trans kx
def spSourceAck (K : PySem.W.Frag) : Sp := fun vs H Q _ => ∃ (x sa da : Addr) (S : Src) (lv : V) (L : Letter), vs = [.ref x, lv] ∧ SrcAt K H x sa da S ∧ IsLetter H lv L ∧ LOk L ∧ S.Fit ∧
  ∀ da' H', Keep [x] H H' → H da' = none → SrcAt K H' x sa da' { S with due := S.due.filter fun M => decide (M ≠ L) } → Q .non H'
theorem C_Source_acknowledge (T : Tx K mg) : MCallee P w K mg base CX0 (He.ga K "Source") "acknowledge" P_Source_acknowledge 1 (spSourceAck K) := by
  refine mk_Source_acknowledge T (k := 0) (fun vs H Q E h => ?_) (fun f cdv A outer s H vs Q E hr h => ?_)
  · obtain ⟨x, sa, da, S, lv, L, rfl, _⟩ := h
    rfl
  · obtain ⟨x, sa, da, S, lv, L, rfl, hS, hlv, lok, fit, k⟩ := h
    obtain ⟨dx, mv, rs, ds, hx, ⟨ma, rfl, hma⟩, hsa, hrs, hda, hds, hne⟩ := id hS
    have c1 := T.c_Source
    have n1 := T.n_Source_due
    refine ⟨_, ((pss_one (ps_fld (pv 0) (pe_lc (own := [("other", 2)]) (g := gName 2) rfl sc_Source_acknowledge.nd (pi_list (pe_fld (pv 0) rfl)) (blkOk_by (N := N_Source_acknowledge) (sc := defScope s_Source_acknowledge) (by decide +kernel)) (fun _ _ _ _ _ => (pg_name (i := 2) sc_Source_acknowledge.nd rfl (by first | exact Or.inl rfl | exact Or.inr rfl))) (fun _ _ _ _ _ => pts_one (pt_cmpR (opNe (K := K) (hu64 hr)) (pv 2) (pv 1) (nomark _))) (fun _ _ _ _ _ => (pv 2))) rfl))), ?_⟩
    walk_at "tw"
    intro D nD
    refine lc_list (K := K) (a := da) (xs := ds) (fun i H' => Same H H' ∧ ∃ acc, H' D = some (.lst acc) ∧ acc.length ≤ i ∧ All2 (IsLetter H) acc ((S.due.take i).filter fun M => decide (M ≠ L)))
      ⟨Same.new nD, [], upd_same, Nat.le_refl _, All2.nil⟩ (fun i H' _ z => SqL.of (z.1 _ _ hda)) ?_ ?_
    · rintro i v H' hv ⟨e, acc, hD, hacc, hall⟩
      have hi : i < ds.length := (List.getElem?_eq_some_iff.mp hv).1
      obtain ⟨M, hM, hvM⟩ := hds.get hv
      have hMo := fit.dok M (List.mem_of_getElem? hM)
      have fewd := fit.fewd
      have hdl := hds.1
      have hz : acc.length < sizeLine := smallt (by omega)
      walk_at "tw"
      refine ⟨dp_letter (hvM.mono e.tk) hMo, dp_letter (hlv.mono e.tk) lok, row_shaped (items_flat hMo), row_shaped (items_flat lok), ?_⟩
      rw [letter_eqv hMo lok]
      walk_at "tw"
      rw [take_succ_get hM, List.filter_append]
      by_cases hc : M = L
      · refine itf (by rw [decide_eq_true hc]; rfl) ?_
        refine ⟨e, acc, hD, Nat.le_succ_of_le hacc, ?_⟩
        rw [List.filter_cons_of_neg (by simp [hc]), List.filter_nil, List.append_nil]
        exact hall
      · refine itt (by rw [decide_eq_false hc]; rfl) ?_
        walk_at "tw"
        refine ⟨e.mut nD, _, upd_same, by rw [List.length_append]; exact Nat.succ_le_succ hacc, ?_⟩
        rw [List.filter_cons_of_pos (by simp [hc]), List.filter_nil]
        exact hall.snoc hvM
    · rintro H' ⟨e, acc, hD, hacc, hall⟩
      rw [List.take_of_length_le (by rw [hds.1]; exact Nat.le_refl _)] at hall
      have hx' := e _ _ hx
      walk_at "tw"
      have kp : Keep [x] H (upd H' x (.ins (He.ga K "Source") dx (srcF (.ref ma) (.int S.off) (.ref sa) (.int S.cn) (ov S.cs) (.ref D)))) := (e.keep _).trans (Keep.upd (by simp))
      have tk := hS.tk (kp.mono (S' := [x, sa, da]) (by simp))
      exact k D _ kp nD ⟨dx, .ref ma, rs, acc, upd_same, ⟨ma, rfl, tk _ _ hma⟩, upd_dif hx' (by intro z; cases z) (e _ _ hsa), hrs.mono fun _ _ z => z.mono tk, upd_dif hx' (by intro z; cases z) hD, hall.mono fun _ _ z => z.mono tk, ne_of_none hsa nD⟩
end
end Tw
end

section
set_option maxHeartbeats 4000000
namespace Tw
open PySem PySem.Spec PyProof.Rows L2
/-! the machine of the readings: "tw" goes on through what has one answer; it stops at a branch, a loop, a new object, what comes behind a call -/
local macro_rules | `(tactic| walk_at "tw look") => `(tactic| first
  | assumption
  | exact upd_same
  | (refine Same.new (by assumption) _ _ ?_; walk_at "tw look")
  | (refine upd_oth (by assumption) ?_; walk_at "tw look")
  | (refine upd_dif (by assumption) (by intro z; cases z) ?_; walk_at "tw look")
  | (refine upd_dif upd_same (by intro z; cases z) ?_; walk_at "tw look"))
local macro_rules | `(tactic| walk_at "tw seq") => `(tactic| first
  | assumption
  | exact SqL.of (by walk_at "tw look")
  | exact SqT.of (by walk_at "tw look")
  | exact .inl (SqL.of (by walk_at "tw look"))
  | exact .inr (SqT.of (by walk_at "tw look"))
  | exact .inl (by assumption)
  | exact dget_of (by walk_at "tw look") (by assumption)
  | exact DGet.k (k := Sum.inl _) (by walk_at "tw look")
  | exact DPut.k (k := Sum.inl _) (by walk_at "tw look") (by assumption)
  | exact .inl ⟨_, .inl (by walk_at "tw look")⟩
  | exact .inr ⟨_, .inl (by walk_at "tw look")⟩
  | exact ⟨_, SqL.of (by walk_at "tw look")⟩
  | exact ⟨_, SqT.of (by walk_at "tw look")⟩
  | exact ⟨_, by assumption⟩
  | exact .inl ⟨rfl, _, SqL.of (by walk_at "tw look")⟩)
local macro_rules | `(tactic| walk_at "tw atom") => `(tactic| first
  | with_reducible rfl
  | assumption
  | rfl
  | walk_at "tw look"
  | walk_at "tw seq"
  | omega
  | exact small (by simp; done)
  | exact smallt (by simp; done)
  | exact cdiv_of rfl
  | exact fun _ h => h
  | exact Int.natCast_pos.mpr (Nat.zero_lt_succ _)
  | exact cmul_r rfl
  | exact cmul_l rfl
  | exact Nat.le_of_ble_eq_true rfl)
local macro_rules | `(tactic| walk_at "tw step") => `(tactic| first | (with_reducible refine iteT ?_) | (with_reducible refine iteF ?_) | (with_reducible refine itf nott ?_) | (with_reducible refine itt notf ?_) | ((fail_if_success (refine ite2 (fun _ => ?_) (fun _ => ?_))); first
  | ((fail_if_success (refine (?_ : ∃ W : Nat → Nat → L2.St → Hp → Prop, _))); (fail_if_success (refine (?_ : ∃ W : Nat → Nat → Hp → Prop, _))); apply Exists.intro)
  | (apply And.intro; (walk_at "tw atom"))))
local macro_rules | `(tactic| walk_at "tw") => `(tactic| repeat walk_at "tw step")

section
variable {P : Program} {w : World} {K : PySem.W.Frag} {mg : Str → Option Value} {base : Heap}
def Src.closed (S : Src) (st : Int) : List Slot := S.ss.filter fun t => decide (t.1 < st)
def Src.close (S : Src) (st : Int) : Src := { S with cn := (S.closed st).length, cs := some st, due := addDue S.due (.close S.m.name (S.closed st).length st ((S.closed st).map (·.2.length)).sum) }
def spSourceClose (K : PySem.W.Frag) : Sp := fun vs H Q E => ∃ (x sa da : Addr) (S : Src) (st : Int), vs = [.ref x, .int st] ∧ SrcAt K H x sa da S ∧ S.Fit ∧
  (∀ c, Bad c → E (.ref (He.ga K c)) none H) ∧ ((∀ c, S.cs = some c → c ≤ st) → ∀ H', Keep [x, da] H H' → SrcAt K H' x sa da (S.close st) → Q .non H')
theorem C_Source_close (T : Tx K mg) : MCallee P w K mg base (L2N.CX P w) (He.ga K "Source") "close" P_Source_close 2 (spSourceClose K) := by
  refine mk_Source_close T (k := 1) (fun vs H Q E h => ?_) (fun f cdv A outer s H vs Q E hr h => ?_)
  · obtain ⟨x, sa, da, S, st, rfl, _⟩ := h
    rfl
  · obtain ⟨x, sa, da, S, st, rfl, hS, fit, k1, k2⟩ := h
    obtain ⟨dx, mv, rs, ds, hx, ⟨ma, rfl, hma⟩, hsa, hrs, hda, hds, hne⟩ := id hS
    have c1 := T.c_Source
    have n1 := T.n_Source_closed_stamp
    have n2 := T.n_Source_meter
    have n3 := T.n_Source_slots
    have n4 := T.n_Source_closed_number
    have hl := hrs.1
    have fews := fit.fews
    refine ⟨_, ((pss_cons (ps_cut (ps_if (pt_cmpR op_notN (pe_fld (pv 0) rfl) pe_non (nomark _))
    (pss_one (ps_expr (pe_mcl (C_Source_need T) (hr.mono (by decide)) (L2N.passes_call (L2N.takes_of rfl rfl rfl rfl) (fun _ _ _ _ z => z)) (pv 0) (pa_cons (pe_cmpR op_ge (pv 1) (pe_fld (pv 0) rfl) (nomark _)) (pa_cons pe_str pa_nil)))))
    pss_nil))
    (pss_cons (ps_setLc (i := 2) (own := [("slot", 3)]) (g := gName 3) rfl sc_Source_close.nd rfl rfl (sw_true rfl rfl rfl (by decide +kernel)) (pi_list (pe_fld (pv 0) rfl)) (blkOk_by (N := N_Source_close) (sc := defScope s_Source_close) (by decide +kernel)) (fun _ _ _ _ _ => (pg_name (i := 3) sc_Source_close.nd rfl (by first | exact Or.inl rfl | exact Or.inr rfl))) (fun _ _ _ _ _ => pts_one (pt_cmpR op_lt (pe_ix (ixT (K := K)) (pv 3) pe_int (fun _ _ => rfl)) (pv 1) (nomark _))) (fun _ _ _ _ _ => (pv 3)))
    (pss_cons (ps_fld (pv 0) (pe_callB (clen (K := K)) (by rfl) T.f_len PySem.boot_len (pa_cons (pv 2) pa_nil)) rfl)
    (pss_cons (ps_fld (pv 0) (pv 1) rfl)
    (pss_one (ps_expr (pe_mcl (C_Source_make T) (hr.mono (by decide)) pass0 (pv 0) (pa_cons (pe_tup (pa_cons pe_str (pa_cons (pe_ix (ixT (K := K)) (pe_fld (pv 0) rfl) pe_int (fun _ _ => rfl)) (pa_cons (pe_callB (clen (K := K)) (by rfl) T.f_len PySem.boot_len (pa_cons (pv 2) pa_nil)) (pa_cons (pv 1) (pa_cons (pe_callB (csum (K := K) rfl) (by rfl) T.f_sum PyProof.Rows.boot_sum (pa_cons (pe_lc (own := [("slot", 3)]) (g := gName 3) (tt := tYes) rfl sc_Source_close.nd (pi_list (pv 2)) (blkOk_by (N := N_Source_close) (sc := defScope s_Source_close) (by decide +kernel)) (fun _ _ _ _ _ => (pg_name (i := 3) sc_Source_close.nd rfl (by first | exact Or.inl rfl | exact Or.inr rfl))) (fun _ _ _ _ _ => pts_nil) (fun _ _ _ _ _ => (pe_callB (clen (K := K)) (by rfl) T.f_len PySem.boot_len (pa_cons (pe_ix (ixT (K := K)) (pv 3) pe_int (fun _ _ => rfl)) pa_nil)))) pa_nil)) pa_nil)))))) pa_nil))))))))), ?_⟩
    walk_at "tw"
    refine .mk (fun σ G => σ = [some (.ref x), some (.int st), none, none] ∧ G = H ∧ ∀ c, S.cs = some c → c ≤ st) (fun N hN => ?_) ?_
    · walk_at "tw"
      cases hc : S.cs with
      | none =>
        refine itf rfl ?_
        exact hN _ _ ⟨rfl, rfl, fun c z => by rw [hc] at z; cases z⟩
      | some c =>
        rw [hc] at hx
        refine itt rfl ?_
        walk_at "tw"
        refine ⟨fun h3 => ?_, fun h3 => k1 _ Bad.ie⟩
        exact hN _ _ ⟨rfl, rfl, fun c' z => by rw [hc] at z; cases z; exact of_decide_eq_true h3⟩
    · rintro σ G ⟨rfl, eG, hok⟩
      rw [eG]
      clear eG
      walk_at "tw"
      intro D nD
      refine lc_list (K := K) (a := sa) (xs := rs) (fun i H' => Same H H' ∧ ∃ acc, H' D = some (.lst acc) ∧ acc.length ≤ i ∧ All2 (IsSlot H) acc ((S.ss.take i).filter fun t => decide (t.1 < st)))
        ⟨Same.new nD, [], upd_same, Nat.le_refl _, All2.nil⟩ (fun i H' _ z => SqL.of (z.1 _ _ hsa)) ?_ ?_
      · rintro i v H' hv ⟨e, acc, hD, hacc, hall⟩
        have hi : i < rs.length := (List.getElem?_eq_some_iff.mp hv).1
        obtain ⟨t, ht, ⟨pa, pb, rfl, hpa, hpb⟩⟩ := hrs.get hv
        have hpa' := e _ _ hpa
        have hrl := hrs.1
        have hz : acc.length < sizeLine := smallt (by omega)
        rw [take_succ_get ht, List.filter_append]
        walk_at "tw"
        refine ite3 (fun hc => ?_) (fun hc => ?_)
        · walk_at "tw"
          refine ⟨e.mut nD, _, upd_same, by rw [List.length_append]; exact Nat.succ_le_succ hacc, ?_⟩
          rw [List.filter_cons_of_pos (p := fun t : Slot => decide (t.1 < st)) (a := t) (l := []) hc, List.filter_nil]
          exact hall.snoc ⟨pa, pb, rfl, hpa, hpb⟩
        · refine ⟨e, acc, hD, Nat.le_succ_of_le hacc, ?_⟩
          rw [List.filter_cons_of_neg (p := fun t : Slot => decide (t.1 < st)) (a := t) (l := []) (by rw [hc]; exact Bool.false_ne_true), List.filter_nil, List.append_nil]
          exact hall
      · rintro H1 ⟨e1, cl, hD, hcl, hall⟩
        rw [List.take_of_length_le (by rw [hrs.1]; exact Nat.le_refl _)] at hall
        have hx1 := e1 _ _ hx
        have hma1 := e1 _ _ hma
        walk_at "tw"
        obtain ⟨G, eG⟩ : ∃ G, G = (upd (upd H1 x (.ins (He.ga K "Source") dx (putF "_closed_number" (.int (cl.length : Nat)) (srcF (.ref ma) (.int S.off) (.ref sa) (.int S.cn) (ov S.cs) (.ref da))))) x (.ins (He.ga K "Source") dx (putF "_closed_stamp" (.int st) (putF "_closed_number" (.int (cl.length : Nat)) (srcF (.ref ma) (.int S.off) (.ref sa) (.int S.cn) (ov S.cs) (.ref da)))))) := ⟨_, rfl⟩
        rw [← eG]
        have kx : ∀ {G : Hp} {o : HO}, Keep [x] G (upd G x o) := Keep.upd (by simp)
        have kp : Keep [x] H G := by rw [eG]; exact ((e1.keep _).trans kx).trans kx
        have tk := hS.tk (kp.mono (S' := [x, sa, da]) (by simp))
        have hcl2 : cl.length = (S.closed st).length := hall.1
        have hcl3 : (S.closed st).length ≤ 1000 := Nat.le_trans (List.length_filter_le _ _) fews
        have hsx : sa ≠ x := ne_of hsa hx (by intro z; cases z)
        have hdx : da ≠ x := ne_of hda hx (by intro z; cases z)
        have hDx : D ≠ x := Ne.symm (ne_of_none hx nD)
        have hDG : G D = some (.lst cl) := by rw [eG, upd_ne hDx, upd_ne hDx]; exact hD
        have hclG : All2 (IsSlot G) cl (S.closed st) := hall.mono fun _ _ z => z.mono tk
        have hS2 : SrcAt K G x sa da { S with cn := (S.closed st).length, cs := some st } := by
          refine ⟨dx, .ref ma, rs, ds, by rw [eG, upd_same, hcl2]; rfl, ⟨ma, rfl, tk _ _ hma⟩, ?_, hrs.mono fun _ _ z => z.mono tk, ?_, hds.mono fun _ _ z => z.mono tk, hne⟩
          · rw [eG, upd_ne hsx, upd_ne hsx]; exact e1 _ _ hsa
          · rw [eG, upd_ne hdx, upd_ne hdx]; exact e1 _ _ hda
        have hxG : G x = some (.ins (He.ga K "Source") dx (putF "_closed_stamp" (.int st) (putF "_closed_number" (.int (cl.length : Nat)) (srcF (.ref ma) (.int S.off) (.ref sa) (.int S.cn) (ov S.cs) (.ref da))))) := by rw [eG, upd_same]
        clear eG hD hx1
        walk_at "tw"
        intro D2 nD2
        refine lc_list (K := K) (a := D) (xs := cl) (fun i H' => Same G H' ∧ H' D2 = some (.lst ((((S.closed st).take i).map fun s => ((s.2.length : Nat) : Int)).map V.int)))
          ⟨Same.new nD2, upd_same⟩ (fun i H' _ z => SqL.of (z.1 _ _ hDG)) ?_ ?_
        · rintro i v H' hv ⟨e, hD2⟩
          obtain ⟨t, ht, ⟨pa, pb, rfl, hpa, hpb⟩⟩ := hclG.get hv
          have hpa' := e _ _ hpa
          have hpb' := e _ _ hpb
          have hz : ((((S.closed st).take i).map fun s => ((s.2.length : Nat) : Int)).map V.int).length < sizeLine := smallt (by rw [List.length_map, List.length_map, List.length_take]; omega)
          have e5 : Same G (upd H' D2 (.lst ((((S.closed st).take i).map fun s => ((s.2.length : Nat) : Int)).map V.int ++ [V.int ((t.2.map ov).length : Nat)]))) := e.mut nD2
          walk_at "tw"
          rw [upd_same, take_succ_get ht, List.map_append, List.map_append, List.length_map]
          rfl
        · rintro H3 ⟨e3, hD2⟩
          rw [List.take_of_length_le (by rw [hclG.1]; exact Nat.le_refl _)] at hD2
          walk_at "tw"
          intro l nl
          have es : ((S.closed st).map fun s => ((s.2.length : Nat) : Int)).sum = ((((S.closed st).map (·.2.length)).sum : Nat) : Int) := by
            rw [show ((S.closed st).map fun s => ((s.2.length : Nat) : Int)) = ((S.closed st).map (·.2.length)).map (fun (n : Nat) => (n : Int)) by rw [List.map_map]; rfl, sum_cast]
          have hL : IsLetter (upd H3 l (.tup [.str "close", .str S.m.name, .int (cl.length : Nat), .int st, .int ((S.closed st).map fun s => ((s.2.length : Nat) : Int)).sum])) (.ref l) (.close S.m.name (S.closed st).length st ((S.closed st).map (·.2.length)).sum) := ⟨l, rfl, by rw [upd_same, es, hcl2]; rfl⟩
          have hS5 := hS2.same (e3.up (o := .tup [.str "close", .str S.m.name, .int (cl.length : Nat), .int st, .int ((S.closed st).map fun s => ((s.2.length : Nat) : Int)).sum]) nl)
          have lok : LOk (.close S.m.name (S.closed st).length st ((S.closed st).map (·.2.length)).sum) := fit.str
          have dok := fit.dok
          have fewd := fit.fewd
          have hx5 := Same.new nl (o := .tup [.str "close", .str S.m.name, .int (cl.length : Nat), .int st, .int ((S.closed st).map fun s => ((s.2.length : Nat) : Int)).sum]) _ _ (e3 _ _ hxG)
          walk_at "tw"
          intro H6 e6 hS6
          exact k2 hok H6 (((kp.mono (by simp)).trans ((e3.keep _).trans (Keep.new nl))).trans (e6.mono (by simp))) hS6
end
end Tw
end

section
set_option maxHeartbeats 4000000
namespace Tw
open PySem PySem.Spec PyProof.Rows L2
/-! the machine of the readings: "tw" goes on through what has one answer; it stops at a branch, a loop, a new object, what comes behind a call -/
local macro_rules | `(tactic| walk_at "tw look") => `(tactic| first
  | assumption
  | exact upd_same
  | (refine Same.new (by assumption) _ _ ?_; walk_at "tw look")
  | (refine upd_oth (by assumption) ?_; walk_at "tw look")
  | (refine upd_dif (by assumption) (by intro z; cases z) ?_; walk_at "tw look")
  | (refine upd_dif upd_same (by intro z; cases z) ?_; walk_at "tw look"))
local macro_rules | `(tactic| walk_at "tw seq") => `(tactic| first
  | assumption
  | exact SqL.of (by walk_at "tw look")
  | exact SqT.of (by walk_at "tw look")
  | exact .inl (SqL.of (by walk_at "tw look"))
  | exact .inr (SqT.of (by walk_at "tw look"))
  | exact .inl (by assumption)
  | exact dget_of (by walk_at "tw look") (by assumption)
  | exact DGet.k (k := Sum.inl _) (by walk_at "tw look")
  | exact DPut.k (k := Sum.inl _) (by walk_at "tw look") (by assumption)
  | exact .inl ⟨_, .inl (by walk_at "tw look")⟩
  | exact .inr ⟨_, .inl (by walk_at "tw look")⟩
  | exact ⟨_, SqL.of (by walk_at "tw look")⟩
  | exact ⟨_, SqT.of (by walk_at "tw look")⟩
  | exact ⟨_, by assumption⟩
  | exact .inl ⟨rfl, _, SqL.of (by walk_at "tw look")⟩)
local macro_rules | `(tactic| walk_at "tw atom") => `(tactic| first
  | with_reducible rfl
  | assumption
  | rfl
  | walk_at "tw look"
  | walk_at "tw seq"
  | omega
  | exact small (by simp; done)
  | exact smallt (by simp; done)
  | exact cdiv_of rfl
  | exact fun _ h => h
  | exact Int.natCast_pos.mpr (Nat.zero_lt_succ _)
  | exact cmul_r rfl
  | exact cmul_l rfl
  | exact Nat.le_of_ble_eq_true rfl)
local macro_rules | `(tactic| walk_at "tw step") => `(tactic| first | (with_reducible refine iteT ?_) | (with_reducible refine iteF ?_) | (with_reducible refine itf nott ?_) | (with_reducible refine itt notf ?_) | ((fail_if_success (refine ite2 (fun _ => ?_) (fun _ => ?_))); first
  | ((fail_if_success (refine (?_ : ∃ W : Nat → Nat → L2.St → Hp → Prop, _))); (fail_if_success (refine (?_ : ∃ W : Nat → Nat → Hp → Prop, _))); apply Exists.intro)
  | (apply And.intro; (walk_at "tw atom"))))
local macro_rules | `(tactic| walk_at "tw") => `(tactic| repeat walk_at "tw step")

section
variable {P : Program} {w : World} {K : PySem.W.Frag} {mg : Str → Option Value} {base : Heap}
/-- the draws: a list of numbers -/
def Draw (H : Hp) (d : Addr) : Prop := ∃ ds : List Int, H d = some (.lst (ds.map V.int))
theorem Draw.tk {H H' : Hp} {d : Addr} (h : Draw H d) (e : Keep [d] H H') : TKeep H H' := by
  obtain ⟨ds, hd⟩ := h
  refine e.tk' fun b hb => ?_
  rw [show b = d by simpa using hb]
  exact ⟨_, hd, fun xs z => by cases z⟩
theorem Draw.same {H H' : Hp} {d : Addr} (h : Draw H d) (e : Same H H') : Draw H' d := by
  obtain ⟨ds, hd⟩ := h
  exact ⟨ds, e _ _ hd⟩
theorem Draw.keep {S : List Addr} {H H' : Hp} {d : Addr} (h : Draw H d) (e : Keep S H H') (n : d ∉ S) : Draw H' d := by
  obtain ⟨ds, hd⟩ := h
  exact ⟨ds, e _ _ n hd⟩
theorem Draw.ne {H : Hp} {d p : Addr} (h : Draw H d) (n : H p = none) : p ≠ d := by
  obtain ⟨ds, hd⟩ := h
  rintro rfl
  rw [n] at hd
  cases hd
def spTakeD : Sp := fun vs H Q _ => ∃ (d : Addr) (many : Int), vs = [.ref d, .int many] ∧ Draw H d ∧ 0 < many ∧ ∀ (r : Int) (H' : Hp), Keep [d] H H' → Draw H' d → 0 ≤ r → r < many → Q (.int r) H'
theorem C_law_takeD (T : Tx K mg) : Callee P w K mg base CX0 "_law_take" P_law_take 1 spTakeD := by
  refine mk_law_take T (k := 0) (fun vs H Q E h => ?_) (fun f cdv A outer s H vs Q E hr h => ?_)
  · obtain ⟨d, many, rfl, _⟩ := h
    rfl
  · obtain ⟨d, many, rfl, ⟨ds, hd⟩, hm, k⟩ := h
    refine ⟨_, ((pss_cons (ps_if (pt_cmpR op_eq (pe_callB (clen (K := K)) (by rfl) T.f_len PySem.boot_len (pa_cons (pv 0) pa_nil)) pe_int (nomark _))
    (pss_one (ps_ret pe_int))
    pss_nil)
    (pss_one (ps_ret (pe_op op_mod (pe_callTy cint (by rfl) T.f_int Pv.boot_int (pa_cons (pe_bm0 PySem.F.plainAttrs_list PySem.F.slot_list_pop PySem.F.type_list_pop mt_pop (pv 0)) pa_nil)) (pv 1)))))), ?_⟩
    walk_at "tw"
    refine ite2 (fun hc => ?_) (fun hc => ?_)
    · exact k 0 H (Keep.refl _ _) ⟨ds, hd⟩ (by omega) hm
    · have hne : ds ≠ [] := fun e => hc (by rw [e]; rfl)
      obtain ⟨init, z, rfl⟩ : ∃ init z, ds = init ++ [z] := ⟨ds.dropLast, ds.getLast hne, (List.dropLast_concat_getLast hne).symm⟩
      walk_at "tw"
      refine ⟨(by simp : _ = some (V.int z)), ?_⟩
      rw [show (List.map V.int (init ++ [z])).dropLast = init.map V.int by simp]
      walk_at "tw"
      exact k _ _ (Keep.upd (by simp)) ⟨init, upd_same⟩ (Int.emod_nonneg _ (by omega)) (Int.emod_lt_of_pos _ hm)
/-- the script -/
def Scr (K : PySem.W.Frag) (H : Hp) (a : Addr) (ns : List Int) : Prop := SqL K H a (ns.map V.int)
theorem Scr.same {H H' : Hp} {a : Addr} {ns : List Int} (h : Scr K H a ns) (e : Same H H') : Scr K H' a ns := by
  rcases h with (h | ⟨o, h⟩) | h
  · exact .inl (.inl (e _ _ h))
  · exact .inl (.inr ⟨o, e _ _ h⟩)
  · exact .inr h
def spCell (K : PySem.W.Frag) : Sp := fun vs H Q _ => ∃ (a d : Addr) (ns : List Int), vs = [.ref a, .ref d] ∧ Scr K H a ns ∧ Draw H d ∧ (∀ H', Keep [d] H H' → Draw H' d → Scr K H' a ns) ∧ ∀ (r : Int) (H' : Hp), Keep [d] H H' → Draw H' d → Q (.int r) H'
theorem C_law_cell (T : Tx K mg) : Callee P w K mg base CX0 "_law_cell" P_law_cell 2 (spCell K) := by
  refine mk_law_cell T (k := 1) (fun vs H Q E h => ?_) (fun f cdv A outer s H vs Q E hr h => ?_)
  · obtain ⟨a, d, ns, rfl, _⟩ := h
    rfl
  · obtain ⟨a, d, ns, rfl, hs, hd, hk, k⟩ := h
    have hs' : SqL K H a (ns.map V.int) := hs
    refine ⟨_, ((pss_cons (ps_if (pt_cmpR op_eq (pe_callB (clen (K := K)) (by rfl) T.f_len PySem.boot_len (pa_cons (pv 0) pa_nil)) pe_int (nomark _))
    (pss_one (ps_ret pe_int))
    pss_nil)
    (pss_one (ps_ret (pe_callTy cint (by rfl) T.f_int Pv.boot_int (pa_cons (pe_ix (ixL (K := K)) (pv 0) (pe_cl (C_law_takeD T) (hr.mono (by decide)) pass0 (pa_cons (pv 1) (pa_cons (pe_callB (clen (K := K)) (by rfl) T.f_len PySem.boot_len (pa_cons (pv 0) pa_nil)) pa_nil))) (fun _ _ => rfl)) pa_nil)))))), ?_⟩
    walk_at "tw"
    refine ite2 (fun hc => ?_) (fun hc => ?_)
    · exact k 0 H (Keep.refl _ _) hd
    · have hne : 0 < ns.length := by
        rcases Nat.eq_zero_or_pos ns.length with z | z
        · exact absurd (int_eq (by rw [List.length_map, z]; rfl)) hc
        · exact z
      have hz : (0 : Int) < ((ns.map V.int).length : Nat) := by rw [List.length_map]; omega
      walk_at "tw"
      intro r H' e hd' h0 h1
      have hs2 : SqL K H' a (ns.map V.int) := hk H' e hd'
      rw [List.length_map] at h1
      obtain ⟨j, rfl⟩ : ∃ j : Nat, r = (j : Int) := ⟨r.toNat, by omega⟩
      obtain ⟨n, hn⟩ : ∃ n, ns[j]? = some n := ⟨ns[j]'(by omega), List.getElem?_eq_getElem _⟩
      walk_at "tw"
      refine ⟨atI_nat (j := j) (show (ns.map V.int)[j]? = some (V.int n) by rw [List.getElem?_map, hn]; rfl), ?_⟩
      walk_at "tw"
      exact k _ H' e hd'
end
end Tw
end

section
set_option maxHeartbeats 4000000
/-! TwSep: parts of the world with the addresses that they own; what a call may write. -/
namespace Tw
open PySem L2
structure Comp where
  fp : List Addr
  ok : Hp → Prop
  keep : ∀ {H H' : Hp} {S : List Addr}, ok H → Keep S H H' → TKeep H H' → (∀ b ∈ fp, b ∉ S) → ok H'
  known : ∀ {H : Hp}, ok H → ∀ b ∈ fp, ∃ o, H b = some o ∧ ∀ xs, o ≠ .tup xs
def fpL (cs : List Comp) : List Addr := cs.flatMap Comp.fp
section
variable {A A' B B' C : List Comp} {H H' H1 H2 : Hp} {c c' : Comp} {b : Addr}
theorem mem_fpL : b ∈ fpL A ↔ ∃ c ∈ A, b ∈ c.fp := List.mem_flatMap
theorem fpL_perm (p : A.Perm B) : b ∈ fpL A ↔ b ∈ fpL B := by
  rw [mem_fpL, mem_fpL]
  exact ⟨fun ⟨c, h1, h2⟩ => ⟨c, p.mem_iff.mp h1, h2⟩, fun ⟨c, h1, h2⟩ => ⟨c, p.mem_iff.mpr h1, h2⟩⟩
theorem fpL_app : b ∈ fpL (A ++ B) ↔ b ∈ fpL A ∨ b ∈ fpL B := by
  unfold fpL
  rw [List.flatMap_append, List.mem_append]
def Dis (c c' : Comp) : Prop := ∀ b ∈ c.fp, b ∉ c'.fp
theorem Dis.symm (h : Dis c c') : Dis c' c := fun b hb hb' => h b hb' hb
structure Sep (H : Hp) (cs : List Comp) : Prop where
  ok : ∀ c ∈ cs, c.ok H
  ap : cs.Pairwise Dis
theorem Sep.knownL (s : Sep H A) (h : b ∈ fpL A) : ∃ o, H b = some o ∧ ∀ xs, o ≠ .tup xs := by
  obtain ⟨c, hc, hb⟩ := mem_fpL.mp h
  exact c.known (s.ok c hc) b hb
theorem Sep.fresh (s : Sep H A) (n : H b = none) : b ∉ fpL A := fun z => by
  obtain ⟨o, h, _⟩ := s.knownL z
  rw [n] at h
  cases h
theorem Sep.tk (s : Sep H A) (e : Keep (fpL A) H H') : TKeep H H' := e.tk' fun b hb => s.knownL hb
theorem Sep.perm (s : Sep H A) (p : A.Perm B) : Sep H B := ⟨fun c hc => s.ok c (p.mem_iff.mpr hc), (p.pairwise_iff fun h => h.symm).mp s.ap⟩
/-- from A in H to A' in H' -/
structure Frm (A A' : List Comp) (H H' : Hp) : Prop where
  keep : Keep (fpL A) H H'
  new : ∀ b ∈ fpL A', b ∈ fpL A ∨ H b = none
  sep : Sep H' A'
theorem Sep.frm (s : Sep H (A ++ B)) (f : Frm A A' H H') : Frm (A ++ B) (A' ++ B) H H' where
  keep := f.keep.mono fun b h => fpL_app.mpr (.inl h)
  new := fun b h => by
    rcases fpL_app.mp h with h | h
    · rcases f.new b h with h | h
      · exact .inl (fpL_app.mpr (.inl h))
      · exact .inr h
    · exact .inl (fpL_app.mpr (.inr h))
  sep := by
    have ap := List.pairwise_append.mp s.ap
    have sA : Sep H A := ⟨fun c hc => s.ok c (List.mem_append_left _ hc), ap.1⟩
    have tk := sA.tk f.keep
    refine ⟨fun c hc => ?_, List.pairwise_append.mpr ⟨f.sep.ap, ap.2.1, fun a ha c hc b hb hb' => ?_⟩⟩
    · rcases List.mem_append.mp hc with h | h
      · exact f.sep.ok c h
      · refine c.keep (s.ok c (List.mem_append_right _ h)) f.keep tk fun b hb z => ?_
        obtain ⟨a, ha, hb'⟩ := mem_fpL.mp z
        exact ap.2.2 a ha c h b hb' hb
    · rcases f.new b (mem_fpL.mpr ⟨a, ha, hb⟩) with z | z
      · obtain ⟨a0, ha0, hb0⟩ := mem_fpL.mp z
        exact ap.2.2 a0 ha0 c hc b hb0 hb'
      · obtain ⟨o, h, _⟩ := c.known (s.ok c (List.mem_append_right _ hc)) b hb'
        rw [z] at h
        cases h
theorem Frm.trans (f : Frm A B H H1) (g : Frm B C H1 H2) : Frm A C H H2 where
  keep := fun b o n e => g.keep b o (fun z => (f.new b z).elim n fun z' => by rw [z'] at e; cases e) (f.keep b o n e)
  new := fun b h => by
    rcases g.new b h with z | z
    · exact f.new b z
    · by_cases n : b ∈ fpL A
      · exact .inl n
      · exact .inr (f.keep.free n z)
  sep := g.sep
theorem Frm.perm (f : Frm A A' H H') (p : A.Perm B) (p' : A'.Perm B') : Frm B B' H H' where
  keep := f.keep.mono fun b h => (fpL_perm p).mp h
  new := fun b h => (f.new b ((fpL_perm p').mpr h)).imp (fpL_perm p).mp id
  sep := f.sep.perm p'
theorem Sep.same (s : Sep H A) (e : Same H H') : Frm A A H H' where
  keep := e.keep _
  new := fun b h => .inl h
  sep := ⟨fun c hc => c.keep (s.ok c hc) (e.keep []) e.tk (by simp), s.ap⟩
theorem Sep.refl (s : Sep H A) : Frm A A H H := s.same (Same.refl H)
theorem Frm.one {S : List Addr} (k : Keep S H H') (hs : ∀ b ∈ S, b ∈ c.fp) (ok : c'.ok H') (n : ∀ b ∈ c'.fp, b ∈ c.fp ∨ H b = none) : Frm [c] [c'] H H' where
  keep := k.mono fun b hb => mem_fpL.mpr ⟨c, List.mem_singleton.mpr rfl, hs b hb⟩
  new := fun b h => by
    obtain ⟨c0, h0, hb⟩ := mem_fpL.mp h
    rw [List.mem_singleton.mp h0] at hb
    exact (n b hb).imp (fun z => mem_fpL.mpr ⟨c, List.mem_singleton.mpr rfl, z⟩) id
  sep := ⟨fun c0 h0 => by rw [List.mem_singleton.mp h0]; exact ok, List.pairwise_singleton ..⟩
theorem perm_at {i : Nat} (h : A[i]? = some c) (c' : Comp) : A.Perm ([c] ++ (A.take i ++ A.drop (i + 1))) ∧ (A.set i c').Perm ([c'] ++ (A.take i ++ A.drop (i + 1))) := by
  obtain ⟨hi, e⟩ := List.getElem?_eq_some_iff.mp h
  constructor
  · have : A = A.take i ++ c :: A.drop (i + 1) := by
      rw [← e, ← List.drop_eq_getElem_cons hi, List.take_append_drop]
    exact (List.Perm.of_eq this).trans List.perm_middle
  · rw [List.set_eq_take_append_cons_drop, if_pos hi]
    exact List.perm_middle
/-- one part changes -/
theorem Sep.set (s : Sep H A) (i : Nat) (h : A[i]? = some c) (f : Frm [c] [c'] H H') : Frm A (A.set i c') H H' := by
  obtain ⟨p, p'⟩ := perm_at h c'
  exact ((s.perm p).frm f).perm p.symm p'.symm
theorem Sep.get (s : Sep H A) (i : Nat) (h : A[i]? = some c) : c.ok H := s.ok c (List.mem_of_getElem? h)
/-- a new part -/
theorem Sep.add (s : Sep H A) (e : Same H H') (ok : c.ok H') (n : ∀ b ∈ c.fp, H b = none) : Frm A (c :: A) H H' where
  keep := e.keep _
  new := fun b h => by
    obtain ⟨c0, h0, hb⟩ := mem_fpL.mp h
    rcases List.mem_cons.mp h0 with rfl | h0
    · exact .inr (n b hb)
    · exact .inl (mem_fpL.mpr ⟨c0, h0, hb⟩)
  sep := ⟨fun c0 h0 => by
      rcases List.mem_cons.mp h0 with rfl | h0
      · exact ok
      · exact (s.same e).sep.ok c0 h0, List.pairwise_cons.mpr ⟨fun c0 h0 b hb hb' => s.fresh (n b hb) (mem_fpL.mpr ⟨c0, h0, hb'⟩), s.ap⟩⟩
/-- some parts, seen as one -/
def cAll (cs : List Comp) : Comp where
  fp := fpL cs
  ok := fun H => Sep H cs
  keep := fun s e t n => ⟨fun c hc => c.keep (s.ok c hc) e t fun b hb => n b (mem_fpL.mpr ⟨c, hc, hb⟩), s.ap⟩
  known := fun s b hb => s.knownL hb
theorem Frm.all (f : Frm A A' H H') : Frm [cAll A] [cAll A'] H H' := Frm.one (c := cAll A) (c' := cAll A') f.keep (fun b h => h) f.sep f.new
end
section
variable {K : PySem.W.Frag}
theorem mem1 {b x : Addr} (h : b ∈ [x]) : b = x := List.mem_singleton.mp h
theorem mem2 {b x y : Addr} (h : b ∈ [x, y]) : b = x ∨ b = y := (List.mem_cons.mp h).imp id mem1
theorem mem3 {b x y z : Addr} (h : b ∈ [x, y, z]) : b = x ∨ b = y ∨ b = z := (List.mem_cons.mp h).imp id mem2
def cDraw (d : Addr) : Comp where
  fp := [d]
  ok := fun H => Draw H d
  keep := fun h e t n => h.keep e (n d (by simp))
  known := fun h b hb => by
    obtain ⟨ds, h⟩ := h
    rw [show b = d by simpa using hb]
    exact ⟨_, h, fun xs z => by cases z⟩
def cLn (K : PySem.W.Frag) (t : Addr × Addr) (L : List Letter) : Comp where
  fp := [t.1, t.2]
  ok := fun H => LineAt K H t.1 t.2 L
  keep := fun h e t n => h.keep e t (n _ (by simp)) (n _ (by simp))
  known := fun h b hb => by
    obtain ⟨dx, rs, h1, h2, _⟩ := h
    rcases mem2 hb with rfl | rfl
    · exact ⟨_, h1, fun xs z => by cases z⟩
    · exact ⟨_, h2, fun xs z => by cases z⟩
def cSrc (K : PySem.W.Frag) (t : Addr × Addr × Addr) (S : Src) : Comp where
  fp := [t.1, t.2.1, t.2.2]
  ok := fun H => SrcAt K H t.1 t.2.1 t.2.2 S
  keep := fun h e t n => h.keep e t (n _ (by simp)) (n _ (by simp)) (n _ (by simp))
  known := fun h b hb => by
    obtain ⟨dx, mv, rs, ds, h1, h2, h3, h4, h5, _⟩ := h
    rcases mem3 hb with rfl | rfl | rfl
    · exact ⟨_, h1, fun xs z => by cases z⟩
    · exact ⟨_, h3, fun xs z => by cases z⟩
    · exact ⟨_, h5, fun xs z => by cases z⟩
def cLst (l : Addr) (xs : List V) : Comp where
  fp := [l]
  ok := fun H => H l = some (.lst xs)
  keep := fun h e t n => e _ _ (n _ (by simp)) h
  known := fun h b hb => by
    rw [show b = l by simpa using hb]
    exact ⟨_, h, fun xs z => by cases z⟩
def cBag (l : Addr) (Ls : List Letter) : Comp where
  fp := [l]
  ok := fun H => Bag H l Ls
  keep := fun ⟨rs, h1, h2⟩ e t n => ⟨rs, e _ _ (n _ (by simp)) h1, h2.mono fun _ _ z => z.mono t⟩
  known := fun ⟨rs, h1, _⟩ b hb => by
    rw [show b = l by simpa using hb]
    exact ⟨_, h1, fun xs z => by cases z⟩
def cPlan (p : V) (len : Int) (ms : List Meter) : Comp where
  fp := []
  ok := fun H => IsPlan H p len ms
  keep := fun h e t n => h.mono t
  known := fun h b hb => by cases hb
/-- a source and where it lies -/
abbrev SL := (Addr × Addr × Addr) × Src
abbrev LL := (Addr × Addr) × List Letter
def cSrcs (K : PySem.W.Frag) (ts : List SL) : Comp := cAll (ts.map fun t => cSrc K t.1 t.2)
def cLines (K : PySem.W.Frag) (ts : List LL) : Comp := cAll (ts.map fun t => cLn K t.1 t.2)
def SrcsAt (K : PySem.W.Frag) (H : Hp) (ts : List SL) : Prop := ∀ t ∈ ts, SrcAt K H t.1.1 t.1.2.1 t.1.2.2 t.2
theorem srcs_ok {H : Hp} {ts : List SL} (h : (cSrcs K ts).ok H) : SrcsAt K H ts := fun t ht => h.ok (cSrc K t.1 t.2) (List.mem_map.mpr ⟨t, ht, rfl⟩)
theorem SrcsAt.same {H H' : Hp} {ts : List SL} (h : SrcsAt K H ts) (e : Same H H') : SrcsAt K H' ts := fun t ht => (h t ht).same e
/-- one source changes -/
theorem srcs_set {H H' : Hp} {ts : List SL} {j : Nat} {t t' : SL} (s : (cSrcs K ts).ok H) (h : ts[j]? = some t) (f : Frm [cSrc K t.1 t.2] [cSrc K t'.1 t'.2] H H') : Frm [cSrcs K ts] [cSrcs K (ts.set j t')] H H' := by
  have s' : Sep H (ts.map fun t => cSrc K t.1 t.2) := s
  have := s'.set j (by rw [List.getElem?_map, h]; rfl) f
  have e : (ts.map fun t => cSrc K t.1 t.2).set j (cSrc K t'.1 t'.2) = (ts.set j t').map fun t => cSrc K t.1 t.2 := by rw [List.map_set]
  rw [e] at this
  exact this.all
theorem lines_set {H H' : Hp} {ts : List LL} {j : Nat} {t t' : LL} (s : (cLines K ts).ok H) (h : ts[j]? = some t) (f : Frm [cLn K t.1 t.2] [cLn K t'.1 t'.2] H H') : Frm [cLines K ts] [cLines K (ts.set j t')] H H' := by
  have s' : Sep H (ts.map fun t => cLn K t.1 t.2) := s
  have := s'.set j (by rw [List.getElem?_map, h]; rfl) f
  have e : (ts.map fun t => cLn K t.1 t.2).set j (cLn K t'.1 t'.2) = (ts.set j t').map fun t => cLn K t.1 t.2 := by rw [List.map_set]
  rw [e] at this
  exact this.all
theorem line_ok {H : Hp} {ts : List LL} {j : Nat} {t : LL} (s : (cLines K ts).ok H) (h : ts[j]? = some t) : LineAt K H t.1.1 t.1.2 t.2 := s.ok (cLn K t.1 t.2) (List.mem_map.mpr ⟨t, List.mem_of_getElem? h, rfl⟩)
theorem frm_line {H H' : Hp} {y a a' : Addr} {L L' : List Letter} (k : Keep [y, a] H H') (h : LineAt K H' y a' L') (n : a' = a ∨ H a' = none) : Frm [cLn K (y, a) L] [cLn K (y, a') L'] H H' := by
  refine Frm.one (c := cLn K (y, a) L) (c' := cLn K (y, a') L') k (fun b h => h) h fun b hb => ?_
  rcases mem2 hb with rfl | rfl
  · exact .inl (List.mem_cons_self ..)
  · rcases n with rfl | n
    · exact .inl (List.mem_cons_of_mem _ (List.mem_cons_self ..))
    · exact .inr n
theorem frm_src {H H' : Hp} {x sa da da' : Addr} {S S' : Src} (k : Keep [x, sa, da] H H') (h : SrcAt K H' x sa da' S') (n : da' = da ∨ H da' = none) : Frm [cSrc K (x, sa, da) S] [cSrc K (x, sa, da') S'] H H' := by
  refine Frm.one (c := cSrc K (x, sa, da) S) (c' := cSrc K (x, sa, da') S') k (fun b h => h) h fun b hb => ?_
  rcases mem3 hb with rfl | rfl | rfl
  · exact .inl (List.mem_cons_self ..)
  · exact .inl (List.mem_cons_of_mem _ (List.mem_cons_self ..))
  · rcases n with rfl | n
    · exact .inl (List.mem_cons_of_mem _ (List.mem_cons_of_mem _ (List.mem_cons_self ..)))
    · exact .inr n
theorem frm_draw {H H' : Hp} {d : Addr} (k : Keep [d] H H') (h : Draw H' d) : Frm [cDraw d] [cDraw d] H H' := Frm.one (c := cDraw d) (c' := cDraw d) k (fun b h => h) h fun b hb => .inl hb
end
end Tw
end

section
set_option maxHeartbeats 4000000
/-! TwInv: what is true of sources, lines and bags at each step of the law; it stays true. Plain Lean. -/
namespace Tw
open PySem L2
/-- what a deed may do to a source -/
inductive Src.Step (S : Src) : Src → Prop
  | same : Step S S
  | recd (st v : Int) (h : S.RecOk st v) : Step S (S.recd st v)
  | add (j : Nat) (t : Slot) (y : Option Int) (h : S.ss[j]? = some t) (n : S.cn ≤ j) (v : ∀ z, y = some z → S.m.lo ≤ z ∧ z ≤ S.m.hi) : Step S (S.add j t y)
  | close (st : Int) (h : ∀ c, S.cs = some c → c ≤ st) : Step S (S.close st)
  | check (lo hi : Int) (h1 : lo ≤ S.off) (h2 : S.off ≤ hi) : Step S { S with due := addDue S.due (.clock S.m.name lo hi) }
def Src.log (S : Src) : Log := ⟨S.m, S.off, S.ss⟩
structure SrcInv (S : Src) : Prop where
  slots : SlotsOk S.m S.ss
  off : -S.m.err ≤ S.off ∧ S.off ≤ S.m.err
  cn : S.cn ≤ S.ss.length
  cl : ∀ c, S.cs = some c → ∀ (i : Nat) t, S.ss[i]? = some t → (t.1 < c ↔ i < S.cn)
/-- true, and stays true -/
def Safe (S : Src) (L : Letter) : Prop := TrueL S.off S.ss L ∧ ∀ nm n st ve, L = .close nm n st ve → ∃ c, S.cs = some c ∧ st ≤ c ∧ n ≤ S.cn
/-- how many versions -/
def Src.nv (S : Src) : Nat := (S.ss.map (·.2.length)).sum
theorem mem_addDue {ds : List Letter} {L M : Letter} : M ∈ addDue ds L ↔ M ∈ ds ∨ M = L := by
  unfold addDue
  split
  · rename_i h
    exact ⟨.inl, fun z => z.elim id fun e => by rw [e]; exact h⟩
  · rw [List.mem_append, List.mem_singleton]
theorem addDue_len (ds : List Letter) (L : Letter) : (addDue ds L).length ≤ ds.length + 1 := by
  unfold addDue
  split
  · exact Nat.le_succ _
  · rw [List.length_append]; exact Nat.le_refl _
/-- in a log in order, the slots below a stamp are the first ones -/
theorem closed_first (st : Int) : ∀ (l : List Slot), l.Pairwise (fun a b => a.1 ≤ b.1) → (l.filter fun t => decide (t.1 < st)) = l.take (l.filter fun t => decide (t.1 < st)).length ∧
    ∀ (i : Nat) t, l[i]? = some t → (t.1 < st ↔ i < (l.filter fun t => decide (t.1 < st)).length)
  | [], _ => ⟨rfl, fun i t h => by simp at h⟩
  | a :: l, h => by
    have h2 := List.pairwise_cons.mp h
    obtain ⟨i1, i2⟩ := closed_first st l h2.2
    by_cases ha : a.1 < st
    · rw [List.filter_cons_of_pos (by simpa using ha)]
      refine ⟨?_, fun i t ht => ?_⟩
      · rw [List.length_cons, List.take_succ_cons, ← i1]
      · cases i with
        | zero =>
          obtain rfl : a = t := Option.some.inj ht
          exact ⟨fun _ => Nat.succ_pos _, fun _ => ha⟩
        | succ i =>
          rw [List.getElem?_cons_succ] at ht
          rw [i2 i t ht, List.length_cons]
          omega
    · have hn : (l.filter fun t => decide (t.1 < st)) = [] := List.filter_eq_nil_iff.mpr fun t ht => by
        have := h2.1 t ht
        simp
        omega
      rw [List.filter_cons_of_neg (by simpa using ha), hn]
      refine ⟨rfl, fun i t ht => ?_⟩
      have : a.1 ≤ t.1 := by
        cases i with
        | zero =>
          obtain rfl : a = t := Option.some.inj ht
          exact Int.le_refl _
        | succ i =>
          rw [List.getElem?_cons_succ] at ht
          exact h2.1 t (List.mem_of_getElem? ht)
      exact ⟨fun z => absurd z (by omega), fun z => absurd z (Nat.not_lt_zero _)⟩
theorem set_get {l : List Slot} {j : Nat} {t t' : Slot} (h : l[j]? = some t) (i : Nat) (u : Slot) (hu : (l.set j t')[i]? = some u) : (i = j ∧ u = t') ∨ (i ≠ j ∧ l[i]? = some u) := by
  by_cases e : j = i
  · subst e
    rw [List.getElem?_set_self (List.getElem?_eq_some_iff.mp h).1] at hu
    exact .inl ⟨rfl, (Option.some.inj hu).symm⟩
  · rw [List.getElem?_set_ne e] at hu
    exact .inr ⟨Ne.symm e, hu⟩
/-- the stamps are as they were -/
theorem set_stamp {l : List Slot} {j : Nat} {t : Slot} {vs : List (Option Int)} (h : l[j]? = some t) (i : Nat) (u : Slot) (hu : (l.set j (t.1, vs))[i]? = some u) : ∃ u', l[i]? = some u' ∧ u'.1 = u.1 := by
  rcases set_get h i u hu with ⟨rfl, rfl⟩ | ⟨_, e⟩
  · exact ⟨t, h, rfl⟩
  · exact ⟨u, e, rfl⟩
theorem recd_get {l : List Slot} {s : Slot} (i : Nat) (u : Slot) (hu : (l ++ [s])[i]? = some u) : l[i]? = some u ∨ (i = l.length ∧ u = s) := by
  by_cases e : i < l.length
  · rw [List.getElem?_append_left e] at hu
    exact .inl hu
  · rw [List.getElem?_append_right (by omega)] at hu
    have : i - l.length = 0 := by
      rcases Nat.eq_zero_or_pos (i - l.length) with z | z
      · exact z
      · rw [List.getElem?_eq_none (show [s].length ≤ i - l.length from z)] at hu
        cases hu
    rw [this] at hu
    exact .inr ⟨by omega, (Option.some.inj hu).symm⟩
theorem SlotsOk.last {m : Meter} {ss : List Slot} (ok : SlotsOk m ss) {st : Int} (h : ∀ t, ss[ss.length - 1]? = some t → t.1 ≤ st) (t : Slot) (ht : t ∈ ss) : t.1 ≤ st := by
  obtain ⟨i, hi, e⟩ := List.mem_iff_getElem.mp ht
  have h1 : ss[i]? = some t := by rw [List.getElem?_eq_getElem hi, e]
  have h2 : ss[ss.length - 1]? = some (ss[ss.length - 1]'(by omega)) := List.getElem?_eq_getElem _
  exact Int.le_trans (ok.le (by omega) h1 h2) (h _ h2)
theorem Src.Step.inv {S S' : Src} (h : S.Step S') (i : SrcInv S) : SrcInv S' := by
  cases h with
  | same => exact i
  | recd st v h =>
    obtain ⟨hv, hl, hc⟩ := h
    refine ⟨⟨fun s hs => ?_, ?_⟩, i.off, ?_, fun c hc' j t ht => ?_⟩
    · rcases List.mem_append.mp hs with z | z
      · exact i.slots.vers s z
      · rw [List.mem_singleton.mp z]
        exact ⟨Nat.zero_lt_one, fun z => by simp at z, fun x hx => by rw [List.mem_singleton] at hx; cases hx; exact hv⟩
    · refine List.pairwise_append.mpr ⟨i.slots.sorted, List.pairwise_singleton .., fun a ha b hb => ?_⟩
      rw [List.mem_singleton.mp hb]
      exact i.slots.last hl a ha
    · exact Nat.le_trans i.cn (by show S.ss.length ≤ (S.ss ++ [(st, [some v])]).length; rw [List.length_append]; exact Nat.le_add_right _ _)
    · have hc2 := hc c hc'
      rcases recd_get j t ht with z | ⟨rfl, rfl⟩
      · exact i.cl c hc' j t z
      · have := i.cn
        exact ⟨fun z => absurd z (by show ¬ st < c; omega), fun z => absurd z (by show ¬ S.ss.length < S.cn; omega)⟩
  | add j t y h n v =>
    have vt := i.slots.vers t (List.mem_of_getElem? h)
    refine ⟨⟨fun s hs => ?_, ?_⟩, i.off, ?_, fun c hc k u hu => ?_⟩
    · obtain ⟨k, hk, e⟩ := List.mem_iff_getElem.mp hs
      have hks : (S.ss.set j (t.1, t.2 ++ [y]))[k]? = some s := by
        rw [← e]
        exact List.getElem?_eq_getElem hk
      rcases set_get h k s hks with ⟨_, rfl⟩ | ⟨_, z⟩
      · refine ⟨by show 0 < (t.2 ++ [y]).length; rw [List.length_append]; exact Nat.lt_of_lt_of_le vt.ne (Nat.le_add_right _ _), ?_, fun x hx => ?_⟩
        · show (t.2 ++ [y])[0]? ≠ _
          rw [List.getElem?_append_left vt.ne]
          exact vt.first
        · rcases List.mem_append.mp hx with z | z
          · exact vt.rng x z
          · exact v x (List.mem_singleton.mp z).symm
      · exact i.slots.vers s (List.mem_of_getElem? z)
    · refine List.pairwise_iff_getElem.mpr fun a b ha hb hab => ?_
      obtain ⟨u1, e1, q1⟩ := set_stamp h a _ (List.getElem?_eq_getElem ha)
      obtain ⟨u2, e2, q2⟩ := set_stamp h b _ (List.getElem?_eq_getElem hb)
      rw [← q1, ← q2]
      exact i.slots.le (Nat.le_of_lt hab) e1 e2
    · show S.cn ≤ (S.ss.set j _).length
      rw [List.length_set]
      exact i.cn
    · obtain ⟨u', e, q⟩ := set_stamp h k u hu
      rw [← q]
      exact i.cl c hc k u' e
  | close st h =>
    refine ⟨i.slots, i.off, List.length_filter_le _ _, fun c hc j t ht => ?_⟩
    cases hc
    exact (closed_first st S.ss i.slots.sorted).2 j t ht
  | check lo hi h1 h2 => exact ⟨i.slots, i.off, i.cn, i.cl⟩
theorem Src.Step.m {S S' : Src} (h : S.Step S') : S'.m = S.m := by cases h <;> rfl
theorem Src.Step.off {S S' : Src} (h : S.Step S') : S'.off = S.off := by cases h <;> rfl
theorem Src.Step.keepL {S S' : Src} (h : S.Step S') (i : SrcInv S) {L : Letter} (s : Safe S L) : Safe S' L := by
  cases h with
  | same => exact s
  | recd st v h =>
    obtain ⟨hv, hl, hc⟩ := h
    refine ⟨?_, s.2⟩
    cases L with
    | read nm a b c x =>
      obtain ⟨h1, t, h2, h3⟩ := s.1
      exact ⟨h1, t, by show (S.ss ++ [_])[a - 1]? = _; rw [List.getElem?_append_left (List.getElem?_eq_some_iff.mp h2).1]; exact h2, h3⟩
    | close nm n c ve =>
      obtain ⟨h1, h2, h3⟩ := s.1
      obtain ⟨c0, e0, h4, h5⟩ := s.2 nm n c ve rfl
      have := hc c0 e0
      refine ⟨Nat.le_trans h1 (by show S.ss.length ≤ (S.ss ++ [(st, [some v])]).length; rw [List.length_append]; exact Nat.le_add_right _ _), fun j t ht => ?_, ?_⟩
      · rcases recd_get j t ht with z | ⟨rfl, rfl⟩
        · exact h2 j t z
        · exact ⟨fun z => absurd z (by show ¬ st < c; omega), fun z => absurd z (by omega)⟩
      · show (((S.ss ++ [_]).take n).map _).sum = ve
        rw [List.take_append_of_le_length h1]
        exact h3
    | clock nm lo hi => exact s.1
  | add j t y h n v =>
    refine ⟨?_, s.2⟩
    cases L with
    | read nm a b c x =>
      obtain ⟨h1, u, h2, h3, h4⟩ := s.1
      refine ⟨h1, ?_⟩
      by_cases e : j = a - 1
      · have hu : t = u := by rw [e] at h; rw [h] at h2; exact Option.some.inj h2
        subst hu
        refine ⟨(t.1, t.2 ++ [y]), ?_, h3, ?_⟩
        · show (S.ss.set j _)[a - 1]? = _
          rw [← e, List.getElem?_set_self (List.getElem?_eq_some_iff.mp h).1]
        · show (t.2 ++ [y])[b]? = _
          rw [List.getElem?_append_left (List.getElem?_eq_some_iff.mp h4).1]
          exact h4
      · exact ⟨u, by show (S.ss.set j _)[a - 1]? = _; rw [List.getElem?_set_ne e]; exact h2, h3, h4⟩
    | close nm k c ve =>
      obtain ⟨h1, h2, h3⟩ := s.1
      obtain ⟨c0, e0, h4, h5⟩ := s.2 nm k c ve rfl
      refine ⟨by show k ≤ (S.ss.set j _).length; rw [List.length_set]; exact h1, fun i u hu => ?_, ?_⟩
      · obtain ⟨u', e, q⟩ := set_stamp h i u hu
        rw [← q]
        exact h2 i u' e
      · show (((S.ss.set j _).take k).map _).sum = ve
        rw [List.take_set_of_le (by omega)]
        exact h3
    | clock nm lo hi => exact s.1
  | close st h =>
    refine ⟨s.1, fun nm n c ve e => ?_⟩
    obtain ⟨c0, e0, h4, h5⟩ := s.2 nm n c ve e
    have hc := h c0 e0
    refine ⟨st, rfl, by omega, ?_⟩
    rcases Nat.eq_zero_or_pos S.cn with z | z
    · omega
    · have hi : S.cn - 1 < S.ss.length := by have := i.cn; omega
      have hg := List.getElem?_eq_getElem hi
      have h6 := (i.cl c0 e0 _ _ hg).mpr (by omega)
      have h7 := ((closed_first st S.ss i.slots.sorted).2 _ _ hg).mp (by omega)
      show n ≤ (S.closed st).length
      unfold Src.closed
      omega
  | check lo hi h1 h2 => exact s
theorem Src.Step.due_mono {S S' : Src} (h : S.Step S') {L : Letter} (hL : L ∈ S.due) : L ∈ S'.due := by
  cases h with
  | same => exact hL
  | recd st v h => exact mem_addDue.mpr (.inl hL)
  | add j t y h n v => exact mem_addDue.mpr (.inl hL)
  | close st h => exact mem_addDue.mpr (.inl hL)
  | check lo hi h1 h2 => exact mem_addDue.mpr (.inl hL)
theorem Src.Step.due_len {S S' : Src} (h : S.Step S') : S'.due.length ≤ S.due.length + 1 := by
  cases h with
  | same => exact Nat.le_succ _
  | recd st v h => exact addDue_len _ _
  | add j t y h n v => exact addDue_len _ _
  | close st h => exact addDue_len _ _
  | check lo hi h1 h2 => exact addDue_len _ _
theorem Src.Step.due_new {S S' : Src} (h : S.Step S') (i : SrcInv S) {L : Letter} (hL : L ∈ S'.due) : L ∈ S.due ∨ (L.nm = S.m.name ∧ Safe S' L) := by
  cases h with
  | same => exact .inl hL
  | recd st v h =>
    rcases mem_addDue.mp hL with z | rfl
    · exact .inl z
    · refine .inr ⟨rfl, ⟨Nat.le_add_left _ _, (st, [some v]), ?_, rfl, rfl⟩, fun nm n c ve e => by cases e⟩
      show (S.ss ++ [_])[S.ss.length]? = _
      rw [List.getElem?_append_right (Nat.le_refl _), Nat.sub_self]
      rfl
  | add j t y h n v =>
    rcases mem_addDue.mp hL with z | rfl
    · exact .inl z
    · refine .inr ⟨rfl, ⟨Nat.le_add_left _ _, (t.1, t.2 ++ [y]), ?_, rfl, ?_⟩, fun nm n c ve e => by cases e⟩
      · show (S.ss.set j _)[j]? = _
        rw [List.getElem?_set_self (List.getElem?_eq_some_iff.mp h).1]
      · show (t.2 ++ [y])[t.2.length]? = _
        rw [List.getElem?_append_right (Nat.le_refl _), Nat.sub_self]
        rfl
  | close st h =>
    rcases mem_addDue.mp hL with z | rfl
    · exact .inl z
    · obtain ⟨q1, q2⟩ := closed_first st S.ss i.slots.sorted
      refine .inr ⟨rfl, ⟨List.length_filter_le _ _, q2, ?_⟩, fun nm n c ve e => ?_⟩
      · show ((S.ss.take (S.closed st).length).map _).sum = ((S.closed st).map _).sum
        unfold Src.closed
        rw [← q1]
      · cases e
        exact ⟨st, rfl, Int.le_refl _, Nat.le_refl _⟩
  | check lo hi h1 h2 =>
    rcases mem_addDue.mp hL with z | rfl
    · exact .inl z
    · exact .inr ⟨rfl, ⟨h1, h2⟩, fun nm n c ve e => by cases e⟩
/-- the letters that are true of a log -/
theorem mem_logReads {l : Log} {L : Letter} : L ∈ logReads l ↔ ∃ (i v : Nat) (t : Slot) (x : Option Int), l.ss[i]? = some t ∧ t.2[v]? = some x ∧ L = .read l.m.name (i + 1) v t.1 x := by
  unfold logReads slotReads verReads
  rw [List.mem_flatMap]
  constructor
  · rintro ⟨i, hi, h⟩
    rw [List.mem_range] at hi
    obtain ⟨v, hv, rfl⟩ := List.mem_map.mp h
    rw [List.mem_range] at hv
    have e : l.ss.getD i (0, []) = l.ss[i] := by rw [List.getD_eq_getElem?_getD, List.getElem?_eq_getElem hi]; rfl
    rw [e] at hv ⊢
    exact ⟨i, v, l.ss[i], l.ss[i].2[v], List.getElem?_eq_getElem hi, List.getElem?_eq_getElem hv, by rw [List.getD_eq_getElem?_getD, List.getElem?_eq_getElem hv]; rfl⟩
  · rintro ⟨i, v, t, x, ht, hx, rfl⟩
    have e : l.ss.getD i (0, []) = t := by rw [List.getD_eq_getElem?_getD, ht]; rfl
    refine ⟨i, List.mem_range.mpr (List.getElem?_eq_some_iff.mp ht).1, List.mem_map.mpr ⟨v, ?_, ?_⟩⟩
    · rw [e]
      exact List.mem_range.mpr (List.getElem?_eq_some_iff.mp hx).1
    · rw [e, List.getD_eq_getElem?_getD, hx]
      rfl
theorem Src.Step.reads {S S' : Src} (h : S.Step S') {L : Letter} (hL : L ∈ logReads S'.log) : L ∈ logReads S.log ∨ L ∈ S'.due := by
  cases h with
  | same => exact .inl hL
  | recd st v h =>
    obtain ⟨i, v', t, x, ht, hx, rfl⟩ := mem_logReads.mp hL
    rcases recd_get i t ht with z | ⟨rfl, rfl⟩
    · exact .inl (mem_logReads.mpr ⟨i, v', t, x, z, hx, rfl⟩)
    · refine .inr (mem_addDue.mpr (.inr ?_))
      have hv : v' = 0 := by
        have h1 : v' < [some v].length := (List.getElem?_eq_some_iff.mp hx).1
        simpa using h1
      subst hv
      obtain rfl : some v = x := Option.some.inj hx
      rfl
  | add j t y h n v =>
    obtain ⟨i, v', u, x, hu, hx, rfl⟩ := mem_logReads.mp hL
    rcases set_get h i u hu with ⟨rfl, rfl⟩ | ⟨_, z⟩
    · by_cases e : v' < t.2.length
      · refine .inl (mem_logReads.mpr ⟨i, v', t, x, h, ?_, rfl⟩)
        rw [← List.getElem?_append_left e (l₂ := [y])]
        exact hx
      · have h1 : v' < (t.2 ++ [y]).length := (List.getElem?_eq_some_iff.mp hx).1
        rw [List.length_append] at h1
        have hv : v' = t.2.length := by
          have : [y].length = 1 := rfl
          omega
        subst hv
        have hx' : (t.2 ++ [y])[t.2.length]? = some x := hx
        rw [List.getElem?_append_right (Nat.le_refl _), Nat.sub_self] at hx'
        obtain rfl : y = x := Option.some.inj hx'
        exact .inr (mem_addDue.mpr (.inr rfl))
    · exact .inl (mem_logReads.mpr ⟨i, v', u, x, z, hx, rfl⟩)
  | close st h => exact .inl hL
  | check lo hi h1 h2 => exact .inl hL
theorem Src.Step.nv {S S' : Src} (h : S.Step S') : S'.nv ≤ S.nv + 1 := by
  cases h with
  | same => exact Nat.le_succ _
  | recd st v h =>
    show ((S.ss ++ [_]).map _).sum ≤ _
    rw [List.map_append, List.sum_append]
    exact Nat.le_refl _
  | add j t y h n v =>
    show ((S.ss.set j _).map _).sum ≤ _
    rw [List.map_set]
    have h1 : (S.ss.map (·.2.length))[j]? = some t.2.length := by rw [List.getElem?_map, h]; rfl
    have h2 := sum_set_nat (y := t.2.length + 1) h1
    have h3 : ((S.ss.map (·.2.length)).set j (t.2.length + 1)).sum ≤ (S.ss.map (·.2.length)).sum + 1 := by omega
    show ((S.ss.map (·.2.length)).set j (t.2 ++ [y]).length).sum ≤ _
    rw [List.length_append]
    exact h3
  | close st h => exact Nat.le_succ _
  | check lo hi h1 h2 => exact Nat.le_succ _
end Tw
end

section
set_option maxHeartbeats 4000000
/-! TwSet: a set of tuples whose items are numbers and texts. -/
namespace Tw
open PySem PySem.Spec PyProof.Rows L2
theorem klass_no (n : Nat) {v : Value} (h : carriedByValue v = true) : ofAClassStatement n v = pure false := by
  cases v <;> first | (cases h; done) | (cases n <;> rfl)
theorem hbv_some (n : Nat) {v : Value} (h : carriedByValue v = true) : ∃ b, hashByValue n v = pure b := by
  cases v <;> first | (cases h; done) | (cases n <;> exact ⟨_, rfl⟩)
section
variable {κ : Type} [DecidableEq κ] {P : Program} {w : World} {g : PySem.KeyKind P w κ} {A : Around} {E : Value → Shared → Prop} {s : Shared}
theorem klass_tup {k : List κ} {b : Addr} {Q : Bool → Shared → Prop} (hk : IsTupleKey g s.heap k b) (q : Q false s) : wpAny (model P w) A (ofAClassStatement 8 (.ref b)) Q E s := by
  have ty := hk.typeIs
  obtain ⟨o, its, n, ho, _, hd, hit⟩ := hk
  unfold ofAClassStatement
  refine wpAny_bind (wpAny_typeOf ty ?_)
  dsimp only
  simp only [show (("tuple" : String) == "tuple") = true by decide, if_true, Bool.not_true, Bool.false_eq_true, if_false]
  try refine wpAny_bind (wpAny_pure ?_)
  try simp only [Bool.not_true, Bool.false_eq_true, if_false]
  refine wpAny_bind (wpAny_seqItems ho hd ?_)
  dsimp only
  refine wpAny_bind ?_
  rw [← Array.forIn_toList]
  refine wpAny_forIn_list _ (fun todo acc s' => s' = s ∧ acc.1 = none ∧ ∀ v ∈ todo, carriedByValue v = true) _ ?_ ?_ _ _ ⟨rfl, rfl, hit.byValue⟩
  · rintro v todo acc s' ⟨rfl, ha, hv⟩
    rw [klass_no _ (hv v List.mem_cons_self)]
    refine wpAny_bind (wpAny_pure ?_)
    simp only [Bool.false_eq_true, if_false]
    exact wpAny_pure ⟨rfl, rfl, fun u hu => hv u (List.mem_cons_of_mem _ hu)⟩
  · rintro ⟨a1, a2⟩ s' ⟨rfl, ha, _⟩
    obtain rfl : a1 = none := ha
    exact wpAny_pure q
theorem hbv_tup {k : List κ} {b : Addr} {Q : Bool → Shared → Prop} (hk : IsTupleKey g s.heap k b) (q : ∀ z, Q z s) : wpAny (model P w) A (hashByValue 8 (.ref b)) Q E s := by
  have ty := hk.typeIs
  obtain ⟨o, its, n, ho, _, hd, hit⟩ := hk
  unfold hashByValue
  refine wpAny_bind (wpAny_specialOf ty F.slot_tuple_hash.lookup ?_)
  refine wpAny_bind (wpAny_seqItems ho hd ?_)
  refine wpAny_bind ?_
  show wpAny _ _ (forIn its _ _) _ _ s
  rw [← Array.forIn_toList]
  refine wpAny_forIn_list _ (fun todo acc s' => s' = s ∧ ∀ v ∈ todo, carriedByValue v = true) _ ?_ ?_ _ _ ⟨rfl, hit.byValue⟩
  · rintro v todo acc s' ⟨rfl, hv⟩
    obtain ⟨z, ez⟩ := hbv_some 7 (hv v List.mem_cons_self)
    rw [ez]
    refine wpAny_bind (wpAny_pure ?_)
    have r : ∀ u ∈ todo, carriedByValue u = true := fun u hu => hv u (List.mem_cons_of_mem _ hu)
    cases z with
    | true =>
      simp only [Bool.not_true, Bool.false_eq_true, if_false]
      exact wpAny_pure ⟨rfl, r⟩
    | false =>
      simp only [Bool.not_false, if_true]
      exact wpAny_pure (wpAny_pure (q _))
  · rintro ⟨a1, a2⟩ s' ⟨rfl, _⟩
    cases a1 with
    | none => exact wpAny_pure (q _)
    | some z => exact wpAny_pure (q _)
/-- a search among tuples may be seen by none -/
theorem unseen {k : List κ} {b : Addr} {Q : Bool → Shared → Prop} (hk : IsTupleKey g s.heap k b) {ys : List Value} (hy : ∀ y ∈ ys, ∃ k' c, y = Value.ref c ∧ IsTupleKey g s.heap k' c) (q : Q false s) :
    wpAny (model P w) A (searchCouldBeSeen (.ref b) ys) Q E s := by
  unfold searchCouldBeSeen
  refine wpAny_bind ?_
  refine wpAny_forIn_list _ (fun todo acc s' => s' = s ∧ acc.1 = none ∧ ∀ y ∈ todo, ∃ k' c, y = Value.ref c ∧ IsTupleKey g s.heap k' c) _ ?_ ?_ _ _ ⟨rfl, rfl, hy⟩
  · rintro y todo acc s' ⟨rfl, ha, hv⟩
    have r : ∀ y ∈ todo, ∃ k' c, y = Value.ref c ∧ IsTupleKey g s'.heap k' c := fun u hu => hv u (List.mem_cons_of_mem _ hu)
    obtain ⟨k', c, rfl, hc⟩ := hv y List.mem_cons_self
    dsimp only
    by_cases same : (b == c || (carriedByValue (.ref b) && carriedByValue (.ref c))) = true
    · exact wp_if_pos same (wpAny_pure ⟨rfl, rfl, r⟩)
    · refine wp_if_neg same (wpAny_bind (wpAny_eqIsQuiet_tuple hk ?_))
      simp only [Bool.not_true, Bool.false_eq_true, if_false]
      refine wpAny_bind (wpAny_eqIsQuiet_tuple hc ?_)
      simp only [Bool.not_true, Bool.false_eq_true, if_false]
      refine wpAny_bind (klass_tup hk ?_)
      simp only [Bool.false_eq_true, if_false]
      refine wpAny_bind (klass_tup hc ?_)
      simp only [Bool.false_eq_true, if_false]
      exact wpAny_pure ⟨rfl, rfl, r⟩
  · rintro ⟨a1, a2⟩ s' ⟨rfl, ha, _⟩
    obtain rfl : a1 = none := ha
    exact wpAny_pure q
/-- an element's row: its hash, its address -/
abbrev row1 (g : PySem.KeyKind P w κ) (p : Addr × List κ) : Int × Value := (tupleKeyHash g p.2, .ref p.1)
abbrev hs1 (g : PySem.KeyKind P w κ) (L : List (Addr × List κ)) : List Int := L.map fun p => tupleKeyHash g p.2
/-- the set at a holds the tuples of L, in the table's order -/
structure Holds3 (g : PySem.KeyKind P w κ) (h : Heap) (a : Addr) (L : List (Addr × List κ)) (es : Array (Int × Value)) (ep : Nat) (t : SetTable) : Prop where
  obj : ∃ o, h.get? a = some o ∧ o.ExactSet ∧ o.data = .set es ep t
  rows : es.toList = L.map (row1 g)
  tab : TabOk t (hs1 g L)
  nd : (L.map (·.2)).Nodup
  tups : ∀ p ∈ L, IsTupleKey g h p.2 p.1
  led : w.params.followText "set-order" = true ∨ t.led = true
  room : L.length * 5 < t.mask * 3
  few : L.length < 64
section
variable {a : Addr} {L : List (Addr × List κ)} {es : Array (Int × Value)} {ep : Nat} {t : SetTable}
theorem Holds3.len (R : Holds3 g s.heap a L es ep t) : es.size = L.length := by
  rw [← Array.length_toList, R.rows, List.length_map]
theorem Holds3.fit (R : Holds3 g s.heap a L es ep t) : t.fits es.size = true := by
  have e1 : t.place.size = L.length := by rw [R.tab.sz, List.length_map]
  have e2 := R.room
  unfold SetTable.fits SetTable.fill
  rw [R.tab.dm, R.len, Bool.and_eq_true, beq_iff_eq, decide_eq_true_eq]
  exact ⟨e1, by show t.place.size + 0 ≤ t.mask; omega⟩
theorem Holds3.at_ (R : Holds3 g s.heap a L es ep t) {i : Nat} {p : Addr × List κ} (h : L[i]? = some p) : es[i]? = some (row1 g p) := by
  rw [← Array.getElem?_toList, R.rows, List.getElem?_map, h]
  rfl
theorem Holds3.steady (R : Holds3 g s.heap a L es ep t) : ¬ t.gaveWay = true := by
  unfold SetTable.gaveWay
  rw [mask_odd R.tab.mok]
  decide
/-- no dummy stands on a way -/
theorem nth_clean (m : Nat) : ∀ (n : Nat) (p : SetTable.Probe), p.dummy = none → (nth m p n).dummy = none
  | 0, _, h => h
  | n + 1, p, h => nth_clean m n (adv m p) (by unfold adv; split <;> exact h)
abbrev stp (m : Nat) (h : Int) (c : Nat) : SetTable.Probe := nth m (runAt m (SetTable.bits h % (m + 1)) (SetTable.bits h)) c
theorem stp_add (m : Nat) (h : Int) (c q : Nat) : nth m (stp m h c) q = stp m h (c + q) := (nth_add m c _ q).symm
theorem Holds3.hash_at (R : Holds3 g s.heap a L es ep t) {i : Nat} {p : Addr × List κ} (h : L[i]? = some p) : (fun i => (es[i]?.map (·.1)).getD 0) i = tupleKeyHash g p.2 := by
  show (es[i]?.map (·.1)).getD 0 = _
  rw [R.at_ h]
  rfl
theorem Holds3.entry_of (R : Holds3 g s.heap a L es ep t) {i j : Nat} (h : t.place.toList[i]? = some j) : ∃ p, L[i]? = some p := by
  have e1 := (List.getElem?_eq_some_iff.mp h).1
  have e2 := R.tab.sz
  rw [List.length_map] at e2
  rw [Array.length_toList, e2] at e1
  exact ⟨L[i], List.getElem?_eq_getElem e1⟩
/-- the search that an add asks for, from the c-th stop of the way on -/
theorem seek (R : Holds3 g s.heap a L es ep t) {x : Addr} {k : List κ} (hx : IsTupleKey g s.heap k x) (hu : A.units < cLine) {K : Nat} (hf : K < 10 * SetTable.turns t.mask)
    (free : way t.mask (tupleKeyHash g k) K ∉ t.place.toList) (full : ∀ c, c < K → way t.mask (tupleKeyHash g k) c ∈ t.place.toList) {Q : SetFound → Shared → Prop}
    (yes : k ∈ L.map (·.2) → Q (.there none) s) (no : k ∉ L.map (·.2) → Q (.free (way t.mask (tupleKeyHash g k) K) false) s) :
    ∀ (fuel c : Nat) (stand : Option SetTable.Probe), stand.getD (t.probeStart (tupleKeyHash g k)) = stp t.mask (tupleKeyHash g k) c → c ≤ K → K < fuel + c →
      (∀ (i : Nat) p, L[i]? = some p → p.2 = k → ∃ c', c ≤ c' ∧ c' < K ∧ t.place.toList[i]? = some (way t.mask (tupleKeyHash g k) c')) →
      wpAny (model P w) A (setSearchFrom a (.ref x) (tupleKeyHash g k) true fuel stand) Q E s := by
  obtain ⟨o, ho, hex, hd⟩ := R.obj
  intro fuel
  induction fuel with
  | zero => intro c stand _ h1 h2 _; omega
  | succ fuel ih =>
    intro c stand hst hc hlt ahead
    rw [setSearchFrom_succ]
    refine wpAny_bind (wpAny_setState_of ho hd R.fit ?_)
    dsimp only
    refine wp_if_neg R.steady ?_
    try refine wpAny_bind (wpAny_pure ?_)
    have jj : ∀ q, (nth t.mask (stp t.mask (tupleKeyHash g k) c) q).j = way t.mask (tupleKeyHash g k) (c + q) := fun q => congrArg SetTable.Probe.j (stp_add _ _ c q)
    have met := go_spec t R.tab.ris R.tab.dm (fun i => (es[i]?.map (·.1)).getD 0) (tupleKeyHash g k) (10 * SetTable.turns t.mask) (K - c) (stp t.mask (tupleKeyHash g k) c) (nth_clean _ _ _ rfl) (by omega)
      (fun q hq => by rw [jj q]; exact full _ (by omega)) (by rw [jj, Nat.add_sub_cancel' hc]; exact free)
    -- an equal key that is ahead is met
    have passed : ∀ (i : Nat) p c', L[i]? = some p → p.2 = k → c ≤ c' → t.place.toList[i]? = some (way t.mask (tupleKeyHash g k) c') → ∀ n, (∀ q i', q < n → t.place.toList[i']? = some (nth t.mask (stp t.mask (tupleKeyHash g k) c) q).j → (fun i : Nat => (es[i]?.map (fun z : Int × Value => z.1)).getD 0) i' ≠ tupleKeyHash g k) → c + n ≤ c' := by
      intro i p c' hp ek h1 h2 n hn
      refine Nat.not_lt.mp fun h3 => hn (c' - c) i (by omega) (by rw [jj, Nat.add_sub_cancel' h1]; exact h2) ?_
      rw [R.hash_at hp, ek]
    rcases met with ⟨q, i, hq, hi, hh, hno, hpr⟩ | ⟨hno, hpr⟩
    · have e1 : t.probe (fun i => (es[i]?.map (·.1)).getD 0) (tupleKeyHash g k) (stand.getD (t.probeStart (tupleKeyHash g k))) = some (.candidate (way t.mask (tupleKeyHash g k) (c + q)) i (stp t.mask (tupleKeyHash g k) (c + (q + 1)))) := by
        rw [hst, ← jj q, ← stp_add]
        exact hpr
      rw [e1]
      dsimp only
      rw [jj] at hi
      obtain ⟨p, hp⟩ := R.entry_of hi
      have hpm : p ∈ L := List.mem_of_getElem? hp
      have live := slot_live R.tab.ris hi
      have go : wpAny (model P w) A (searchRest a (.ref x) (tupleKeyHash g k) true fuel es t (way t.mask (tupleKeyHash g k) (c + q)) i (stp t.mask (tupleKeyHash g k) (c + (q + 1)))) Q E s := by
        unfold searchRest
        rw [R.at_ hp]
        dsimp only
        refine wpAny_bind (wpAny_holding (wpAny_eqBool_tuple hu (R.tups p hpm) hx ?_))
        refine wpAny_bind (wpAny_setState_of ho hd R.fit ?_)
        dsimp only
        by_cases ek : p.2 = k
        · refine wp_if_pos (by rw [decide_eq_true ek]; rfl) (wpAny_pure (yes ?_))
          exact List.mem_map.mpr ⟨p, hpm, ek⟩
        · refine wp_if_neg (by rw [decide_eq_false ek]; decide) ?_
          try refine wpAny_bind (wpAny_pure ?_)
          rw [sameMem]
          dsimp only
          simp only [if_true, live, R.at_ hp]
          refine wpAny_bind (wpAny_isSame_ref_self (wpAny_bind (wpAny_pure ?_)))
          simp only [if_true]
          refine wp_if_neg (by rw [decide_eq_false ek]; decide) ?_
          refine ih (c + (q + 1)) _ rfl (by omega) (by omega) fun i0 p0 h0 e0 => ?_
          obtain ⟨c', a1, a2, a3⟩ := ahead i0 p0 h0 e0
          have a4 := passed i0 p0 c' h0 e0 a1 a3 q hno
          refine ⟨c', Nat.lt_of_le_of_ne a4 fun e => ?_, a2, a3⟩
          rw [← e] at a3
          have l2 := slot_live R.tab.ris a3
          have l3 : SetTable.Slot.live i = .live i0 := live.symm.trans l2
          injection l3 with l3
          rw [← l3, hp] at h0
          cases h0
          exact ek e0
      by_cases hl : t.led = true
      · refine wp_if_neg (by rw [hl]; decide) ?_
        try refine wpAny_bind (wpAny_pure ?_)
        exact go
      · refine wp_if_pos (by rw [eq_false_of_ne_true hl]; rfl) ?_
        refine wpAny_bind (unseen hx (fun y hy => ?_) ?_)
        · obtain ⟨e, he, rfl⟩ := List.mem_map.mp hy
          have he2 : e ∈ es.toList := by simpa using (show e ∈ es ∧ e.1 = tupleKeyHash g k by simpa using he).1
          rw [R.rows] at he2
          obtain ⟨p2, hp2, rfl⟩ := List.mem_map.mp he2
          exact ⟨p2.2, p2.1, rfl, R.tups p2 hp2⟩
        · refine wp_if_neg (by decide) ?_
          try refine wpAny_bind (wpAny_pure ?_)
          exact go
    · have e1 : t.probe (fun i => (es[i]?.map (·.1)).getD 0) (tupleKeyHash g k) (stand.getD (t.probeStart (tupleKeyHash g k))) = some (.empty (way t.mask (tupleKeyHash g k) K) none) := by
        have e2 := jj (K - c)
        rw [Nat.add_sub_cancel' hc] at e2
        rw [hst, ← e2]
        exact hpr
      rw [e1]
      dsimp only
      refine wpAny_pure (no fun hm => ?_)
      obtain ⟨p0, h0, e0⟩ := List.mem_map.mp hm
      obtain ⟨i0, hi0, g0⟩ := List.getElem_of_mem h0
      have h1 : L[i0]? = some p0 := by rw [List.getElem?_eq_getElem hi0, g0]
      obtain ⟨c', a1, a2, a3⟩ := ahead i0 p0 h1 e0
      have := passed i0 p0 c' h1 e0 a1 a3 (K - c) hno
      omega
theorem search3 (R : Holds3 g s.heap a L es ep t) {x : Addr} {k : List κ} (hx : IsTupleKey g s.heap k x) (hu : A.units < cLine) {Q : SetFound → Shared → Prop} (yes : k ∈ L.map (·.2) → Q (.there none) s)
    (no : ∀ K, k ∉ L.map (·.2) → way t.mask (tupleKeyHash g k) K ∉ t.place.toList → (∀ c, c < K → way t.mask (tupleKeyHash g k) c ∈ t.place.toList) → Q (.free (way t.mask (tupleKeyHash g k) K) false) s) :
    wpAny (model P w) A (setSearch a (.ref x) (tupleKeyHash g k) true) Q E s := by
  have e1 := R.room
  obtain ⟨K, k1, k2, k3⟩ := R.tab.first (by rw [List.length_map]; omega) (tupleKeyHash g k)
  have big : K < 100000 := by
    have e2 : SetTable.turns t.mask ≤ 142 := by
      rcases R.tab.mok with e | e | e <;> rw [e] <;> decide
    omega
  refine seek R hx hu k1 k2 k3 yes (fun z => no K z k2 k3) 100000 0 none rfl (Nat.zero_le _) big fun i p hp ek => ?_
  have h1 : (hs1 g L)[i]? = some (tupleKeyHash g k) := by rw [List.getElem?_map, hp, ← ek]; rfl
  have h2 : i < t.place.toList.length := by
    have e3 := R.tab.sz
    rw [List.length_map] at e3
    rw [Array.length_toList, e3]
    exact (List.getElem?_eq_some_iff.mp hp).1
  obtain ⟨c, c1, c2⟩ := R.tab.before k2 h1 (List.getElem?_eq_getElem h2)
  exact ⟨c, Nat.zero_le _, c1, by rw [c2]; exact List.getElem?_eq_getElem h2⟩
theorem Tk_same {h h' : Heap} {k : List κ} {a b : Addr} {o : Obj} {es : Array (Int × Value)} {ep : Nat} {t : SetTable} (x : IsTupleKey g h k b) (ho : h.get? a = some o) (hd : o.data = .set es ep t) (sb : Heap.SameBut a h h') : IsTupleKey g h' k b := by
  obtain ⟨u, its, n, hu, r⟩ := x
  have ne : b ≠ a := fun e => by
    rw [e, ho] at hu
    cases hu
    rw [hd] at r
    exact nomatch r.2.1
  exact ⟨u, its, n, by rw [sb.2 b ne]; exact hu, r⟩
theorem pick_rows {α β : Type} (L : List α) (f : α → β) (es : List β) (he : es = L.map f) (l : List Nat) (hl : l.Perm (List.range L.length)) :
    l.filterMap (fun i => es[i]?) = (l.filterMap fun i => L[i]?).map f ∧ (l.filterMap fun i => L[i]?).Perm L := by
  subst he
  refine ⟨?_, ?_⟩
  · rw [List.map_filterMap]
    congr 1
    funext i
    rw [List.getElem?_map]
  · refine (hl.filterMap _).trans (List.Perm.of_eq ?_)
    refine List.ext_getElem? fun i => ?_
    have q : ∀ n, n ≤ L.length → (List.range n).filterMap (fun i => L[i]?) = L.take n := by
      intro n
      induction n with
      | zero => intro _; rfl
      | succ n ih =>
        intro hn
        rw [List.range_succ, List.filterMap_append, ih (by omega), List.take_succ]
        congr 1
    rw [q _ (Nat.le_refl _), List.take_length]
theorem pick_all {α β : Type} (L : List α) (f : α → β) (z : β) : ∀ l : List Nat, (∀ i ∈ l, i < L.length) → (l.filterMap fun i => L[i]?).map f = l.map fun i => (L.map f).getD i z
  | [], _ => rfl
  | i :: l, h => by
    have hi := h i List.mem_cons_self
    rw [List.filterMap_cons, List.getElem?_eq_getElem hi]
    simp only [List.map_cons]
    rw [pick_all L f z l fun j hj => h j (List.mem_cons_of_mem _ hj)]
    congr 1
    rw [List.getD_eq_getElem?_getD, List.getElem?_map, List.getElem?_eq_getElem hi]
    rfl
/-- the table is laid anew -/
theorem relay3 {o : Obj} (ho : s.heap.get? a = some o) (hex : o.ExactSet) (hd : o.data = .set es ep t) (rows : es.toList = L.map (row1 g)) (sz : t.place.size = L.length) (dm : t.dummies = #[]) (fl : L.length ≤ t.mask) (nd : (L.map (·.2)).Nodup)
    (tups : ∀ p ∈ L, IsTupleKey g s.heap p.2 p.1) (ld : w.params.followText "set-order" = true ∨ t.led = true) (few : L.length < 64) {wanted M : Nat} (hw : SetTable.sizeAbove wanted = M + 1) (hM : MaskOk M) (room : L.length * 5 < M * 3) {Q : Unit → Shared → Prop}
    (q : ∀ h' L' es' ep' t', Heap.SameBut a s.heap h' → Holds3 g h' a L' es' ep' t' → L'.Perm L → Q () { s with heap := h' }) : wpAny (model P w) A (setRelay a wanted) Q E s := by
  have esz : es.size = L.length := by rw [← Array.length_toList, rows, List.length_map]
  have fit : t.fits es.size = true := by
    unfold SetTable.fits SetTable.fill
    rw [dm, esz, Bool.and_eq_true, beq_iff_eq, decide_eq_true_eq]
    exact ⟨sz, by show t.place.size + 0 ≤ t.mask; omega⟩
  have hM3 : M ≤ 127 := by rcases hM with e | e | e <;> omega
  obtain ⟨t', order, er, pm, tab, em, el, _, _⟩ := relaid_ok t (hs := es.map (·.1)) (wanted := wanted) (by rw [hw]; rfl) hM (by rw [Array.size_map, esz]; omega)
  rw [Array.size_map, esz] at pm
  obtain ⟨k1, k2⟩ := pick_rows L (row1 g) es.toList rows order.toList pm
  have k3 : (order.filterMap (es[·]?)).toList = (order.toList.filterMap fun i => L[i]?).map (row1 g) := by
    rw [← k1, Array.toList_filterMap]
    congr 1
    funext i
    rw [Array.getElem?_toList]
  have k4 : hs1 g (order.toList.filterMap fun i => L[i]?) = order.toList.map fun i => (es.map (·.1)).getD i 0 := by
    refine (pick_all L (fun p => tupleKeyHash g p.2) 0 _ fun i hi => List.mem_range.mp (pm.mem_iff.mp hi)).trans (List.map_congr_left fun i hi => ?_)
    have e1 : (es.map (·.1)).getD i 0 = (es.toList.map (·.1)).getD i 0 := by
      rw [List.getD_eq_getElem?_getD, Array.getD_eq_getD_getElem?, ← Array.getElem?_toList, Array.toList_map]
    rw [e1, rows, List.map_map]
    rfl
  rw [← k4] at tab
  generalize (order.toList.filterMap fun i => L[i]?) = L2 at k1 k2 k3 tab
  generalize hes2 : order.filterMap (es[·]?) = es2 at k3
  have esz2 : es2.size = L.length := by rw [← Array.length_toList, k3, List.length_map, k2.length_eq]
  rw [setRelay_eq]
  refine wpAny_bind (wpAny_setState_of ho hd fit ?_)
  dsimp only
  refine wp_if_neg (by rw [hw, sizeLine_eq]; omega) ?_
  try refine wpAny_bind (wpAny_pure ?_)
  rw [er]
  dsimp only
  rw [hes2]
  refine wpAny_bind (wp_if_neg (by rw [esz2, esz]; simp) ?_)
  try refine wpAny_bind (wpAny_pure ?_)
  refine wpAny_pure ?_
  dsimp only
  refine wpAny_storeSet_of ho hd ?_ (by rw [esz2, sizeLine_eq]; omega)
  have sb : Heap.SameBut a s.heap (s.heap.update a (Obj.putSet es2 t')) := Heap.SameBut.update ..
  refine q _ L2 es2 (ep + 1) t' sb ⟨⟨_, store_at ho hd, ⟨hex.1, hex.2.1, hex.2.2⟩, rfl⟩, k3, tab, (k2.map (·.2)).nodup_iff.mpr nd, fun p hp => Tk_same (tups p (k2.mem_iff.mp hp)) ho hd sb, by rw [el]; exact ld, ?_, by rw [k2.length_eq]; exact few⟩ k2
  rw [k2.length_eq, em]
  exact room
theorem grown5 : SetTable.sizeAbove (SetTable.grown 5) = 31 + 1 := size_20
theorem grown19 : SetTable.sizeAbove (SetTable.grown 19) = 127 + 1 := size_76
/-- an add -/
theorem add3 (R : Holds3 g s.heap a L es ep t) {x : Addr} {k : List κ} (hx : IsTupleKey g s.heap k x) (hu : A.units < cLine) (few : L.length + 1 < 64) {Q : Bool → Shared → Prop}
    (q : ∀ b h' L' es' ep' t', Heap.SameBut a s.heap h' → Holds3 g h' a L' es' ep' t' → (k ∈ L.map (·.2) → L' = L) → (k ∉ L.map (·.2) → L'.Perm ((x, k) :: L)) → Q b { s with heap := h' }) :
    wpAny (model P w) A (setAddHashed a (.ref x) (tupleKeyHash g k)) Q E s := by
  obtain ⟨o, ho, hex, hd⟩ := R.obj
  have esz := R.len
  have room := R.room
  unfold setAddHashed
  refine wpAny_holding ?_
  rw [show (100000 : Nat) = 99999 + 1 from rfl, setAddHashedIn_succ]
  refine wpAny_bind (wpAny_setState_of ho hd R.fit ?_)
  dsimp only
  refine wp_if_neg (by simp [byScan, Value.scannable]) ?_
  try refine wpAny_bind (wpAny_pure ?_)
  refine wpAny_bind (search3 R hx hu (fun hm => ?_) fun K hm free full => ?_)
  · exact wpAny_pure (q false s.heap L es ep t (Heap.SameBut.refl a s.heap) R (fun _ => rfl) fun z => absurd hm z)
  dsimp only
  refine wpAny_bind (wpAny_setState_of ho hd R.fit ?_)
  dsimp only
  obtain ⟨p1, p2, p3, p4, p5, _, _, _, p9⟩ := R.tab.put free full
  generalize t.put (way t.mask (tupleKeyHash g k) K) = pt at p1 p3 p4 p5 p9 ⊢
  obtain ⟨t1, pl⟩ := pt
  dsimp only at p1 p3 p4 p5 p9 ⊢
  subst p1
  generalize SetTable.below t.place (way t.mask (tupleKeyHash g k) K) = pl at p2 p3 ⊢
  have pm : (L.take pl ++ (x, k) :: L.drop pl).Perm ((x, k) :: L) := List.perm_middle.trans (by rw [List.take_append_drop])
  have rows1 : (SetTable.insertAt es pl (tupleKeyHash g k, Value.ref x)).toList = (L.take pl ++ (x, k) :: L.drop pl).map (row1 g) := by
    rw [SetTable.toList_insertAt, R.rows, List.map_append, List.map_cons, List.map_take, List.map_drop]
  have tab1 : TabOk t1 (hs1 g (L.take pl ++ (x, k) :: L.drop pl)) := by
    unfold hs1
    rw [List.map_append, List.map_cons, List.map_take, List.map_drop]
    exact p3
  have len1 : (L.take pl ++ (x, k) :: L.drop pl).length = L.length + 1 := pm.length_eq
  have nd1 : ((L.take pl ++ (x, k) :: L.drop pl).map (·.2)).Nodup := (pm.map (·.2)).nodup_iff.mpr (List.nodup_cons.mpr ⟨hm, R.nd⟩)
  generalize SetTable.insertAt es pl (tupleKeyHash g k, Value.ref x) = es1 at rows1 ⊢
  generalize L.take pl ++ (x, k) :: L.drop pl = L1 at pm rows1 tab1 len1 nd1
  have esz1 : es1.size = L.length + 1 := by rw [← Array.length_toList, rows1, List.length_map, len1]
  rw [List.length_map] at p9
  -- what follows, for either mark
  have rest : ∀ t2 : SetTable, (t2 = t1 ∨ t2 = { t1 with plain := false }) → wpAny (model P w) A (do
      storeSet a es1 t2
      if (!false && t2.tooFull) = true then do
        setRelay a (SetTable.grown (es.size + 1))
        pure true
      else pure true) Q E s := by
    intro t2 ht2
    have tab2 : TabOk t2 (hs1 g L1) := by rcases ht2 with rfl | rfl <;> exact ⟨tab1.ris, tab1.dm, tab1.sz, tab1.mok, tab1.bd, tab1.reach⟩
    have m2 : t2.mask = t.mask := by rcases ht2 with rfl | rfl <;> exact p4
    have l2 : t2.led = t.led := by rcases ht2 with rfl | rfl <;> exact p5
    have f2 : t2.fill = L.length + 1 := by rcases ht2 with rfl | rfl <;> exact p9
    have sz2 : t2.place.size = L1.length := by rw [tab2.sz, List.length_map]
    have led2 : w.params.followText "set-order" = true ∨ t2.led = true := by rw [l2]; exact R.led
    refine wpAny_bind (wpAny_storeSet_of ho hd ?_ (by rw [esz1, sizeLine_eq]; omega))
    have ho1 := store_at (es' := es1) (t' := t2) ho hd
    have sb : Heap.SameBut a s.heap (s.heap.update a (Obj.putSet es1 t2)) := Heap.SameBut.update ..
    generalize s.heap.update a (Obj.putSet es1 t2) = h1 at ho1 sb ⊢
    have tups1 : ∀ p ∈ L1, IsTupleKey g h1 p.2 p.1 := fun p hp => by
      rcases List.mem_cons.mp (pm.mem_iff.mp hp) with rfl | hp
      · exact Tk_same hx ho hd sb
      · exact Tk_same (R.tups p hp) ho hd sb
    by_cases full2 : t2.tooFull = true
    · refine wp_if_pos (by rw [full2]; rfl) (wpAny_bind ?_)
      have e1 : t.mask * 3 ≤ (L.length + 1) * 5 := by
        have e := full2
        unfold SetTable.tooFull at e
        rw [decide_eq_true_eq, f2, m2] at e
        exact e
      have which : (t.mask = 7 ∧ L.length = 4) ∨ (t.mask = 31 ∧ L.length = 18) := by
        rcases R.tab.mok with e | e | e <;> rw [e] at e1 room <;> omega
      rw [esz]
      have go : ∀ M, SetTable.sizeAbove (SetTable.grown (L.length + 1)) = M + 1 → MaskOk M → L1.length * 5 < M * 3 → wpAny (model P w) A (setRelay a (SetTable.grown (L.length + 1))) (fun _ s' => wpAny (model P w) A (pure true) Q E s') E { s with heap := h1 } := fun M g1 g2 g3 =>
        relay3 (s := { s with heap := h1 }) ho1 ⟨hex.1, hex.2.1, hex.2.2⟩ rfl rows1 sz2 tab2.dm (by rw [len1, m2]; rcases which with ⟨e, e2⟩ | ⟨e, e2⟩ <;> omega) nd1 tups1 led2 (by rw [len1]; exact few) g1 g2 g3 fun h2 L2 es2 ep2 t3 sb2 R2 pm2 =>
          wpAny_pure (q true h2 L2 es2 ep2 t3 (sb.trans sb2) R2 (fun z => absurd z hm) fun _ => pm2.trans pm)
      rcases which with ⟨_, e⟩ | ⟨_, e⟩
      · exact go 31 (by rw [e]; exact grown5) (.inr (.inl rfl)) (by rw [len1]; omega)
      · exact go 127 (by rw [e]; exact grown19) (.inr (.inr rfl)) (by rw [len1]; omega)
    · refine wp_if_neg (by rw [eq_false_of_ne_true full2]; decide) (wpAny_pure (q true h1 L1 es1 (ep + 1) t2 sb ⟨⟨_, ho1, ⟨hex.1, hex.2.1, hex.2.2⟩, rfl⟩, rows1, tab2, nd1, tups1, led2, ?_, by rw [len1]; exact few⟩ (fun z => absurd z hm) fun _ => pm))
      have e := full2
      unfold SetTable.tooFull at e
      rw [decide_eq_true_eq, f2, m2] at e
      rw [len1, m2]
      omega
  by_cases hp : t1.plain = true
  · refine wp_if_pos hp (wpAny_bind (hbv_tup hx fun z => ?_))
    cases z with
    | true =>
      simp only [if_true]
      exact rest t1 (.inl rfl)
    | false =>
      simp only [Bool.false_eq_true, if_false]
      exact rest _ (.inr rfl)
  · refine wp_if_neg hp (wpAny_bind (wpAny_pure ?_))
    simp only [if_true]
    exact rest t1 (.inl rfl)
end
end
end Tw
end

section
set_option maxHeartbeats 4000000
/-! TwSet2: set(list), the set's growth told by any wish. -/
namespace PySem
open PySem.Spec PyProof.Rows L2
section
variable {P : Program} {w : World} {A : Around} {E : Value → Shared → Prop} {s : Shared}
/-- what an add at S makes of the wish: the i-th gives the next -/
def AddsTo (P : Program) (w : World) (A : Around) (S : Addr) (h0 : Heap) (Pv : Nat → Value → Prop) (Iv : Nat → Heap → Prop) (n : Nat) : Prop :=
  ∀ (i : Nat) (v : Value) (s' : Shared) (Q : Bool → Shared → Prop) (F : Value → Shared → Prop), Pv i v → i < n → Iv i s'.heap → (∀ b o, h0.get? b = some o → s'.heap.get? b = some o) →
    (∀ b h' tk, s'.toks ≤ tk → Heap.SameBut S s'.heap h' → Iv (i + 1) h' → Q b { s' with heap := h', toks := tk }) → wpAny (model P w) A (setAdd S v) Q F s'
theorem tw_upd_loop {I : Addr} {fp wr : List Addr} {G : Array GenState → Array GenState → Prop} {n : Nat} {Pv : Nat → Value → Prop} {St : Nat → Shared → Prop} {R : Result → Shared → Prop} (W : WalksS P w A.in1 I fp wr G n Pv St) {S : Addr}
    (apart : S ∉ fp) (h0 : Heap) (new : h0.get? S = none) (own : ∀ b ∈ wr, h0.get? b = none) (Iv : Nat → Heap → Prop)
    (keep : ∀ i h h', Iv i h → (∀ o, h.get? S = some o → h'.get? S = some o) → (∀ b o, h0.get? b = some o → h'.get? b = some o) → Iv i h') (adds : AddsTo P w A.in1 S h0 Pv Iv n) :
    ∀ (k i : Nat) (s : Shared), i + k = n → St i s → (∀ b o, h0.get? b = some o → s.heap.get? b = some o) → Iv i s.heap →
      (∀ s', Moved (S :: wr) G s s' → Iv n s'.heap → (∀ b o, h0.get? b = some o → s'.heap.get? b = some o) → R (.ok (.ret .none)) s') →
      codeAny (model P w) A (.builtin "set.update.loop" ⟨[.ref S, .ref I], []⟩) R s := by
  have nw : S ∉ wr := fun z => apart (W.sub _ z)
  have more : ∀ b ∈ wr, b ∈ S :: wr := fun b z => List.mem_cons_of_mem _ z
  have kept : ∀ {s s' : Shared}, Moved wr G s s' → (∀ b o, h0.get? b = some o → s.heap.get? b = some o) → ∀ b o, h0.get? b = some o → s'.heap.get? b = some o := fun m z b o e =>
    m.heap b o (fun y => by rw [own b y] at e; cases e) (z b o e)
  intro k
  induction k with
  | zero =>
    intro i s e st kp iv fin
    obtain rfl : i = n := e
    refine codeAny_builtin F.entry_set_update_loop ?_
    rw [Around.under_plainId F.plain_set_update_loop _]
    refine wpAny_bind (W.done s _ _ st fun s' m => ?_)
    have kp' := kept m kp
    exact wpAny_pure (fin s' (m.mono more) (keep _ _ _ iv (fun o e => m.heap S o nw e) kp') kp')
  | succ k ih =>
    intro i s e st kp iv fin
    refine codeAny_builtin F.entry_set_update_loop ?_
    rw [Around.under_plainId F.plain_set_update_loop _]
    refine wpAny_bind (W.item i s _ _ (by omega) st fun v s' pv st' m => ?_)
    have kp' := kept m kp
    refine wpAny_bind (wpAny_holding (adds i v s' _ _ pv (by omega) (keep _ _ _ iv (fun o e => m.heap S o nw e) kp') kp' fun b h' tk ht sb iv' => ?_))
    have kp2 : ∀ b o, h0.get? b = some o → h'.get? b = some o := fun b o e => (sb.2 b (fun z => by rw [z, new] at e; cases e)).trans (kp' b o e)
    refine wpAny_pure ⟨plainId_quiet F.plain_set_update_loop _, ih (i + 1) _ (by omega) (W.frame _ s' _ _ st' ht fun b hb o e => ?_) kp2 iv' fun s2 m2 iv2 kp3 => ?_⟩
    · rw [sb.2 b (fun z => apart (z ▸ hb))]; exact e
    · refine fin s2 (Moved.trans W.gtrans ((m.mono more).then_heap ht fun b o hb e => ?_) m2) iv2 kp3
      rw [sb.2 b (fun z => hb (z ▸ List.mem_cons_self))]; exact e
/-- the empty set -/
abbrev tw_empty (w : World) : Obj := { cls := .type "set", dict := none, data := .set #[] 0 (.fresh 0 0 (!w.params.followText "set-order")) }
theorem tw_set_list {l : Addr} {items : Array Value} {Q : Value → Shared → Prop} (hh : A.handled = none) (hl : s.heap.IsList l items) (Iv : Nat → Heap → Prop)
    (keep : ∀ i h h', Iv i h → (∀ o, h.get? s.heap.objs.size = some o → h'.get? s.heap.objs.size = some o) → (∀ b o, s.heap.get? b = some o → h'.get? b = some o) → Iv i h')
    (adds : AddsTo P w A.in1.in1.in1 s.heap.objs.size s.heap (fun i v => items[i]? = some v) Iv items.size) (start : ∀ h, h.get? s.heap.objs.size = some (tw_empty w) → Iv 0 h)
    (h : ∀ (h' : Heap) (tk : Nat), Iv items.size h' → (∀ b o, s.heap.get? b = some o → h'.get? b = some o) → Q (.ref s.heap.objs.size) { s with heap := h', toks := tk }) :
    wpAny (model P w) A (call (.type "set") [.ref l]) Q E s := by
  obtain ⟨c, tl, hmro⟩ := F.called_set.mro
  have hmade := F.called_set.made
  have hsub := F.called_set.sub
  refine wpAny_call (codeAny_of_tree ?_)
  refine wpAny_pure ⟨Code.quiet_builtin _ (by decide +kernel), codeAny_builtin F.entry_type_call ?_⟩
  rw [Around.under_plain (weight_type_call_type "set" [.ref l] []) rfl]
  have h1 := F.called_set.notType
  have h2 := F.called_set.canCreate
  have h3 := F.typeCall_set_1 (.ref l)
  repeat (any_goals (first | assumption | wp_step))
  refine codeAny_mono (code_set_led1 (.ref l) (E := E) (Q₁ := fun u s₁ => u = .ref s.heap.objs.size ∧ s₁ = { s with heap := s.heap.push (tw_empty w) }) ⟨rfl, rfl⟩) fun r s₁ hr => ?_
  match r, hr with
  | .error e, hr => exact hr
  | .ok .next, hr => exact hr.elim
  | .ok .brk, hr => exact hr.elim
  | .ok .cont, hr => exact hr.elim
  | .ok (.ret u), hr =>
    obtain ⟨rfl, rfl⟩ := hr
    have at0 : (s.heap.push (tw_empty w)).get? s.heap.objs.size = some (tw_empty w) := Heap.get?_push_size _ rfl
    have ty0 : Shared.TypeIs { s with heap := s.heap.push (tw_empty w) } (.ref s.heap.objs.size) "set" := ⟨_, at0, rfl⟩
    have k1 := F.called_set.init.lookup
    have k2 := F.called_set.init.bind (.ref s.heap.objs.size)
    repeat (any_goals (first | assumption | wp_step))
    refine codeAny_mono (codeAny_call_builtin (R := wants (fun r s₂ => r = .none ∧ ∃ h' tk, s₂ = { s with heap := h', toks := tk } ∧ Iv items.size h' ∧ (∀ b o, s.heap.get? b = some o → h'.get? b = some o)) E) F.called_set.init.plain F.entry_set_init (check_set_init_1 ty0 ?_)) fun r₂ s₂ hr₂ => ?_
    · obtain ⟨⟨oc, od, oda, osl⟩, hol, hcl, nl, hdl⟩ := hl
      simp only at hcl hdl
      subst hcl hdl
      have hol' : (s.heap.push (tw_empty w)).get? l = some { cls := .type "list", dict := od, data := .seq items nl, slots := osl } := Heap.get?_push_of_some _ hol
      have s1 := F.sub_list_set
      have s2 := F.sub_list_frozenset
      have s3 : (Value.type "list" == Value.type "dict") = false := by decide
      have hl1 : (s.heap.push (tw_empty w)).IsList l items := ⟨_, hol', rfl, nl, rfl⟩
      have ln : l < s.heap.objs.size := Heap.lt_size hol
      unfold Builtin.«set.__init__» noKeywords Builtin.Frozenset.updateFrom
      generalize hit : pyIter = itf
      wp_walk
      subst hit
      refine wpAny_pyIter_list hl1 (wpAny_bind (wpAny_runValue ?_))
      have z1 : (s.heap.push (tw_empty w)).objs.size = s.heap.objs.size + 1 := Heap.size_push ..
      have fresh : ∀ b, s.heap.objs.size ≤ b → s.heap.get? b = none := fun b hb => by
        cases q : s.heap.get? b with
        | none => rfl
        | some o => exact absurd (Nat.lt_of_lt_of_le (Heap.lt_size q) hb) (Nat.lt_irrefl _)
      refine tw_upd_loop ((Walks.list (by simp [hh]) _ l (by rw [z1]; exact Nat.ne_of_lt (Nat.lt_succ_of_lt ln)) items).toS) (by rw [z1]; simp only [List.mem_cons, List.not_mem_nil, or_false, not_or]; exact ⟨Nat.ne_of_lt (Nat.lt_succ_self _), Nat.ne_of_gt ln⟩) s.heap (fresh _ (Nat.le_refl _))
        (fun b hb => fresh b (by rw [List.mem_singleton.mp hb, z1]; exact Nat.le_succ _)) Iv keep adds items.size 0 _ (by omega) ⟨⟨_, Heap.get?_push_size _ rfl, rfl, rfl⟩, (hl1.push _)⟩ (fun b o e => Heap.get?_push_of_some _ (Heap.get?_push_of_some _ e)) (start _ (Heap.get?_push_of_some _ at0)) ?_
      intro s' m iv kp
      obtain ⟨h', g2, d', tk', os'⟩ := s'
      obtain rfl : g2 = s.gens := m.gens
      obtain rfl : d' = s.drawn := m.drawn
      obtain rfl : os' = s.os := m.os
      exact wpAny_pure (wpAny_pure ⟨rfl, h', tk', rfl, iv, kp⟩)
    · match r₂, hr₂ with
      | .error e, hr₂ => exact hr₂
      | .ok .next, hr₂ => exact hr₂.elim
      | .ok .brk, hr₂ => exact hr₂.elim
      | .ok .cont, hr₂ => exact hr₂.elim
      | .ok (.ret r), hr₂ =>
        obtain ⟨rfl, h', tk, rfl, iv, kp⟩ := hr₂
        repeat (any_goals (first | assumption | wp_step))
        exact h _ _ iv kp
end
end PySem
end

section
set_option maxHeartbeats 4000000
/-! TwSort: the order of triples (a text, two numbers); sorted of a set, of a list of them. -/
namespace Tw
open PySem PySem.Spec PyProof.Rows L2
abbrev T3 := Str × Int × Int
theorem str_ext {a b : Str} (h : a.cps.toList = b.cps.toList) : a = b := by
  obtain ⟨x⟩ := a
  obtain ⟨y⟩ := b
  have : x = y := Array.toList_inj.mp h
  rw [this]
theorem cps_tri (a b : List Nat) : a < b ∨ a = b ∨ b < a := by
  by_cases h1 : a < b
  · exact .inl h1
  · by_cases h2 : b < a
    · exact .inr (.inr h2)
    · exact .inr (.inl (List.le_antisymm (List.not_lt.mp h2) (List.not_lt.mp h1)))
def Lt3 (p q : T3) : Prop := p.1.cps.toList < q.1.cps.toList ∨ (p.1 = q.1 ∧ (p.2.1 < q.2.1 ∨ (p.2.1 = q.2.1 ∧ p.2.2 < q.2.2)))
def lt3 (p q : T3) : Bool := if p.1 = q.1 then (if p.2.1 = q.2.1 then decide (p.2.2 < q.2.2) else decide (p.2.1 < q.2.1)) else decide (p.1.cps.toList < q.1.cps.toList)
theorem lt3_iff {p q : T3} : lt3 p q = true ↔ Lt3 p q := by
  unfold lt3 Lt3
  by_cases e : p.1 = q.1
  · rw [if_pos e, e]
    have ir : ¬ q.1.cps.toList < q.1.cps.toList := List.lt_irrefl _
    by_cases e2 : p.2.1 = q.2.1
    · rw [if_pos e2, decide_eq_true_eq]
      constructor
      · intro h; exact .inr ⟨rfl, .inr ⟨e2, h⟩⟩
      · rintro (h | ⟨_, h | ⟨_, h⟩⟩)
        · exact absurd h ir
        · omega
        · exact h
    · rw [if_neg e2, decide_eq_true_eq]
      constructor
      · intro h; exact .inr ⟨rfl, .inl h⟩
      · rintro (h | ⟨_, h | ⟨h, _⟩⟩)
        · exact absurd h ir
        · exact h
        · exact absurd h e2
  · rw [if_neg e, decide_eq_true_eq]
    constructor
    · intro h; exact .inl h
    · rintro (h | ⟨h, _⟩)
      · exact h
      · exact absurd h e
theorem Lt3.trans {p q r : T3} (h1 : Lt3 p q) (h2 : Lt3 q r) : Lt3 p r := by
  rcases h1 with a | ⟨a, b⟩
  · rcases h2 with c | ⟨c, _⟩
    · exact .inl (List.lt_trans a c)
    · exact .inl (by rw [← c]; exact a)
  · rcases h2 with c | ⟨c, d⟩
    · exact .inl (by rw [a]; exact c)
    · refine .inr ⟨a.trans c, ?_⟩
      rcases b with b | ⟨b, b'⟩ <;> rcases d with d | ⟨d, d'⟩ <;> omega
theorem Lt3.irrefl {p : T3} (h : Lt3 p p) : False := by
  rcases h with a | ⟨_, a | ⟨_, a⟩⟩
  · exact List.lt_irrefl _ a
  · omega
  · omega
theorem lt3_tri (p q : T3) : Lt3 p q ∨ p = q ∨ Lt3 q p := by
  rcases cps_tri p.1.cps.toList q.1.cps.toList with h | h | h
  · exact .inl (.inl h)
  · have e := str_ext h
    rcases Int.lt_trichotomy p.2.1 q.2.1 with a | a | a
    · exact .inl (.inr ⟨e, .inl a⟩)
    · rcases Int.lt_trichotomy p.2.2 q.2.2 with b | b | b
      · exact .inl (.inr ⟨e, .inr ⟨a, b⟩⟩)
      · exact .inr (.inl (Prod.ext e (Prod.ext a b)))
      · exact .inr (.inr (.inr ⟨e.symm, .inr ⟨a.symm, b⟩⟩))
    · exact .inr (.inr (.inr ⟨e.symm, .inl a⟩))
  · exact .inr (.inr (.inl h))
theorem lt3_no {p q : T3} : lt3 p q = false ↔ ¬ Lt3 p q := by
  rw [← lt3_iff]
  cases lt3 p q <;> simp
theorem swo3 {α : Type} (k : α → T3) : SrtO.Swo fun v u => lt3 (k v) (k u) := by
  refine ⟨fun x y h => lt3_no.mpr fun z => (Lt3.trans (lt3_iff.mp h) z).irrefl, fun x y z h1 h2 => lt3_no.mpr fun h => ?_⟩
  have a := lt3_no.mp h1
  have b := lt3_no.mp h2
  rcases lt3_tri (k z) (k y) with c | c | c
  · exact b c
  · rw [c] at h; exact a h
  · exact a (Lt3.trans c h)
/-- sorted: none stands behind a greater one -/
abbrev Asc3 (l : List T3) : Prop := l.Pairwise fun a b => lt3 b a = false
theorem asc3_same {a b : List T3} (hp : a.Perm b) (ha : Asc3 a) (hb : Asc3 b) : a = b :=
  hp.eq_of_pairwise (fun x y _ _ h1 h2 => by
    rcases lt3_tri x y with c | c | c
    · exact absurd c (lt3_no.mp h2)
    · exact c
    · exact absurd c (lt3_no.mp h1)) ha hb
end Tw
namespace SrtO
open PySem PyProof.Rows Srt Tw
section
variable {prog : Program} {w : World} {A : Around} {E : Value → Shared → Prop} {s : Shared}
/-- v is the tuple of the triple -/
def IsT3 (h : Heap) (v : Value) (k : T3) : Prop := ∃ (a : Addr) (o : Obj) (t u r : Tok) (n : Nat), v = .ref a ∧ h.get? a = some o ∧ o.cls = .type "tuple" ∧ o.data = .seq #[.str k.1 t, .int k.2.1 u, .int k.2.2 r] n
theorem IsT3.keeps {h h' : Heap} {v : Value} {k : T3} (x : IsT3 h v k) (q : ∀ b o, h.get? b = some o → o.cls = .type "tuple" → h'.get? b = some o) : IsT3 h' v k := by
  obtain ⟨a, o, t, u, r, n, e, ho, hc, hd⟩ := x
  exact ⟨a, o, t, u, r, n, e, q a o ho hc, hc, hd⟩
theorem t3_cmp {vs : List Value} {k : Value → T3} (hp : ∀ v ∈ vs, IsT3 s.heap v (k v)) : Cmp prog w A s (tuples' true) (fun p => p.1 ∈ vs) (lt2 fun v u => lt3 (k v) (k u)) := by
  intro p q hm hm'
  have h1 := hp _ hm
  have h2 := hp _ hm'
  show wpAny (model prog w) A (keyLt' (tuples' true) p.1 q.1) (fun r s' => s' = s ∧ r = lt3 (k p.1) (k q.1)) (fun _ _ => False) s
  unfold lt3
  generalize k p.1 = x at h1 ⊢
  generalize k q.1 = y at h2 ⊢
  obtain ⟨x1, x2, x3⟩ := x
  obtain ⟨y1, y2, y3⟩ := y
  dsimp only at h1 h2 ⊢
  obtain ⟨a, o, t, u, r, n, e, ho, hc, hd⟩ := h1
  obtain ⟨a', o', t', u', r', n', e', ho', hc', hd'⟩ := h2
  rw [e, e']
  refine PySem.W.kat_lt ho hd ho' hd' ?_
  show PySem.W.KatLex prog w A true (decide (3 < 3)) _ [(.str x1 t, .str y1 t'), (.int x2 u, .int y2 u'), (.int x3 r, .int y3 r')] 0 s
  refine PySem.W.kat_cons (SeqAt.EqAt.str_str x1 t y1 t' prog w _ _ ?_)
  refine PySem.W.kat_go (fun g1 => ?_) (fun g1 => ?_)
  · have e1 : x1 = y1 := by simpa using g1
    rw [if_pos e1]
    refine PySem.W.kat_yes (PySem.W.kat_cons (SeqAt.EqAt.int_int x2 u y2 u' prog w _ _ ?_))
    refine PySem.W.kat_go (fun g2 => ?_) (fun g2 => ?_)
    · have e2 : x2 = y2 := by simpa using g2
      rw [if_pos e2]
      refine PySem.W.kat_yes (PySem.W.kat_cons (SeqAt.EqAt.int_int x3 r y3 r' prog w _ _ ?_))
      refine PySem.W.kat_go (fun g3 => ?_) (fun g3 => ?_)
      · have e3 : x3 = y3 := by simpa using g3
        exact PySem.W.kat_yes (PySem.W.kat_nil ⟨rfl, (decide_eq_false (by omega)).symm⟩)
      · exact PySem.W.kat_no (PySem.W.kat_one _ _ (PyProof.Rows.lt_int (show s = s ∧ _ from ⟨rfl, rfl⟩)))
    · have e2 : ¬ x2 = y2 := by simpa using g2
      rw [if_neg e2]
      exact PySem.W.kat_no (PySem.W.kat_one _ _ (PyProof.Rows.lt_int (show s = s ∧ _ from ⟨rfl, rfl⟩)))
  · have e1 : ¬ x1 = y1 := by simpa using g1
    rw [if_neg e1]
    exact PySem.W.kat_no (oneLt_str ⟨rfl, rfl⟩)
theorem t3_firsts {h : Heap} {k : Value → T3} : ∀ vs : List Value, (∀ v ∈ vs, IsT3 h v (k v)) → ∃ fs : List Value, PySem.W.KatTups h vs fs ∧ fs.length = vs.length ∧ ∀ f ∈ fs, ∃ x t, f = Value.str x t
  | [], _ => ⟨[], .nil, rfl, fun f hf => by cases hf⟩
  | v :: vs, x => by
    obtain ⟨fs, h1, h2, h3⟩ := t3_firsts vs fun u hu => x u (List.mem_cons_of_mem _ hu)
    obtain ⟨a, o, t, u, r, n, e, ho, hc, hd⟩ := x v List.mem_cons_self
    rw [e]
    refine ⟨.str (k v).1 t :: fs, PySem.W.KatTups.cons ho hc hd rfl h1, by rw [List.length_cons, List.length_cons, h2], fun f hf => ?_⟩
    rcases List.mem_cons.mp hf with rfl | hf
    · exact ⟨_, _, rfl⟩
    · exact h3 f hf
theorem t3_sortable {a : Addr} {vs : List Value} {k : Value → T3} (h0 : 0 < vs.length) (hp : ∀ v ∈ vs, IsT3 s.heap v (k v)) (ha : ∀ o, s.heap.get? a = some o → o.cls ≠ .type "tuple") : SortableO prog w A s a vs fun v u => lt3 (k v) (k u) := by
  intro h' keep
  have hp' : ∀ v ∈ vs, IsT3 h' v (k v) := fun v hm => (hp v hm).keeps fun b o e c => keep b o (fun z => ha o (z ▸ e) c) e
  obtain ⟨fs, h1, h2, h3⟩ := t3_firsts vs hp'
  refine ⟨tuples' true, fun Q F hq => ?_, t3_cmp hp'⟩
  refine PySem.W.kat_kind (T := .type "str") h1 (by omega) (fun f hm => ?_) (by rfl) ?_
  · obtain ⟨x, t, rfl⟩ := h3 f hm
    exact PySem.W.Looks.now
  · have e : (Value.type "str" != Value.type "tuple") = true := by decide +kernel
    rw [e]
    exact hq
/-- sorted of a set, whose members compare -/
theorem tw_sorted_set {a : Addr} {es : Array (Int × Value)} {ep : Nat} {t : SetTable} {ltv : Value → Value → Bool} {Q : Value → Shared → Prop} (O : Swo ltv) (hh : A.handled = none) (ha : L2.SetAt s.heap a es ep t) (hf : t.fits es.size = true) (hz : es.size < 64) (ri : L2.Ris t.place.toList)
    (ld : w.params.followText "set-order" = true ∨ t.led = true)
    (srt : ∀ (vs : List Value) (s1 : Shared) (b : Addr), vs.Perm (es.toList.map (·.2)) → 2 ≤ vs.length → s1.heap.get? b = some (seqObj "list" vs.toArray 0) → (∀ c o, s.heap.get? c = some o → s1.heap.get? c = some o) → SortableO prog w A.in1.in1 s1 b vs ltv)
    (q : ∀ s' p (out : List Value) (c : Nat), (∀ b o, s.heap.get? b = some o → s'.heap.get? b = some o) → s'.gens = s.gens → s'.os = s.os → s.heap.objs.size ≤ p → s'.heap.get? p = some (seqObj "list" out.toArray c) → Srtd ltv out → out.Perm (es.toList.map (·.2)) → Q (.ref p) s') :
    wpAny (model prog w) A (call (.builtin "sorted") [.ref a]) Q E s := by
  refine Calls.call_function_entry kind_sorted plain_sorted entry_sorted (args_sorted1 _) ?_
  unfold Builtin.«sorted»
  refine wpAny_bind (m := checkCount "sorted" 1 1 _) (wpAny_pure ?_)
  refine wpAny_bind (L2.collect_set (A := A.in1) hh ha hf (by unfold scanBound; omega) ri ld fun s1 vs k1 z1 g1 o1 pm => ?_)
  have len : vs.length < 64 := by rw [pm.length_eq, List.length_map, Array.length_toList]; exact hz
  refine wpAny_bind (wpAny_newList ?_ (by rw [sizeLine_eq]; omega))
  have at1 : (s1.heap.push (seqObj "list" vs.toArray 0)).get? s1.heap.objs.size = some (seqObj "list" vs.toArray 0) := Heap.get?_push_size _ rfl
  refine wpAny_bind (wpAny_holding (wpAny_call_entry slot_list_sort ⟨_, at1, rfl⟩ entry_list_sort (list_sort_ord O at1 (by rw [sizeLine_eq]; omega) (fun h2 => srt vs _ _ pm h2 at1 fun c o e => Heap.get?_push_of_some _ (k1 c o e)) fun out h1 h2 => ⟨_, rfl, ?_⟩) (args_list_sort _)))
  obtain ⟨c, hc⟩ := sortedHeap_at (vs := vs) (out := out.toArray) at1
  refine wpAny_pure ⟨_, rfl, q _ s1.heap.objs.size out c (fun b u e => ?_) g1 o1 z1 hc h1 (h2.perm.trans pm)⟩
  have e1 := k1 b u e
  have lt := Heap.lt_size e1
  show (sortedHeap (s1.heap.push (seqObj "list" vs.toArray 0)) s1.heap.objs.size vs out.toArray).get? b = some u
  rw [sortedHeap_old (Nat.ne_of_lt lt) (by rw [size_push']; exact Nat.lt_succ_of_lt lt)]
  exact Heap.get?_push_of_some _ e1
end
end SrtO
end

section
set_option maxHeartbeats 4000000
/-! TwRules3: sorted(set(e)) of triples, sorted(e) of a list of them. -/
namespace Tw
open PySem PySem.Spec PyProof.Rows L2
def t3V (k : T3) : List V := [.str k.1, .int k.2.1, .int k.2.2]
def t3K (k : T3) : List Key := [.inr k.1, .inl k.2.1, .inl k.2.2]
theorem t3K_inj {a b : T3} (h : t3K a = t3K b) : a = b := by
  unfold t3K at h
  injection h with h1 h
  injection h with h2 h
  injection h with h3 h
  injection h1 with h1
  injection h2 with h2
  injection h3 with h3
  exact Prod.ext h1 (Prod.ext h2 h3)
/-- the triple of the tuple that v names -/
def t3At (h : Heap) : Value → T3
  | .ref a => match h.get? a with
    | some o => match o.data with
      | .seq xs _ => match xs.toList with
        | [.str x _, .int i _, .int j _] => (x, i, j)
        | _ => (⟨#[]⟩, 0, 0)
      | _ => (⟨#[]⟩, 0, 0)
    | none => (⟨#[]⟩, 0, 0)
  | _ => (⟨#[]⟩, 0, 0)
theorem t3At_of {h : Heap} {v : Value} {k : T3} (x : SrtO.IsT3 h v k) : t3At h v = k := by
  obtain ⟨a, o, t, u, r, n, rfl, ho, hc, hd⟩ := x
  unfold t3At
  simp only [ho, hd]
def refAt : Value → Addr
  | .ref a => a
  | _ => 0
theorem vals_cons1 {x : V} {xs : List V} {us : List Value} (r : Vals (x :: xs) us) : ∃ u us', us = u :: us' ∧ RelV x u ∧ Vals xs us' := by
  cases r with
  | cons h t => exact ⟨_, _, rfl, h, t⟩
theorem raw_t3 {X : Cx} {pins : List (Addr × Obj)} {σ : L2.St} {H : Hp} {s : Shared} {a : Addr} {k : T3} (I : Inv X pins σ H s) (h : H a = some (.tup (t3V k))) : SrtO.IsT3 s.heap (.ref a) k ∧ IsTupleKey (mixKind X.prog X.w) s.heap (t3K k) a := by
  obtain ⟨its, rv, ⟨o, ho, hc, n, hd⟩, _⟩ := I.tuple (SqT.of h)
  obtain ⟨u1, us, rfl, r1, rv⟩ := vals_cons1 rv
  obtain ⟨u2, us, rfl, r2, rv⟩ := vals_cons1 rv
  obtain ⟨u3, us, rfl, r3, rv⟩ := vals_cons1 rv
  cases rv
  obtain ⟨t1, rfl⟩ := r1
  obtain ⟨t2, rfl⟩ := r2
  obtain ⟨t3, rfl⟩ := r3
  exact ⟨⟨a, o, t1, t2, t3, n, rfl, ho, hc, hd⟩, o, _, n, ho, hc, hd, .cons (keyIs_str _ t1) (.cons (keyIs_int _ t2) (.cons (keyIs_int _ t3) .nil))⟩
theorem vals_refs {α : Type} (f : α → Addr) : ∀ {ks : List α} {us : List Value}, Vals (ks.map fun p => V.ref (f p)) us → us = ks.map fun p => Value.ref (f p)
  | [], _, .nil => rfl
  | p :: ks, _, .cons r t => by
    cases r
    rw [vals_refs f t]
    rfl
theorem refs_vals {α : Type} (f : α → Addr) : ∀ ks : List α, Vals (ks.map fun p => V.ref (f p)) (ks.map fun p => Value.ref (f p))
  | [] => .nil
  | p :: ks => .cons rfl (refs_vals f ks)
theorem nodup_le {α : Type} [DecidableEq α] : ∀ {l D : List α}, l.Nodup → (∀ x ∈ l, x ∈ D) → l.length ≤ D.length
  | [], D, _, _ => Nat.zero_le _
  | x :: l, D, n, h => by
    obtain ⟨n1, n2⟩ := List.nodup_cons.mp n
    have hx := h x List.mem_cons_self
    have := nodup_le (D := D.erase x) n2 fun y hy => (List.mem_erase_of_ne (fun e => n1 (by rw [← e]; exact hy))).mpr (h y (List.mem_cons_of_mem _ hy))
    rw [List.length_erase_of_mem hx] at this
    have := List.length_pos_of_mem hx
    rw [List.length_cons]
    omega
theorem Holds3.carry {κ : Type} [DecidableEq κ] {P : Program} {w : World} {g : PySem.KeyKind P w κ} {h h' : Heap} {a : Addr} {L : List (Addr × List κ)} {es : Array (Int × Value)} {ep : Nat} {t : SetTable} (R : Holds3 g h a L es ep t) (ho : ∀ o, h.get? a = some o → h'.get? a = some o)
    (tp : ∀ p ∈ L, IsTupleKey g h' p.2 p.1) : Holds3 g h' a L es ep t := by
  obtain ⟨o, h1, h2, h3⟩ := R.obj
  exact ⟨⟨o, ho o h1, h2, h3⟩, R.rows, R.tab, R.nd, tp, R.led, R.room, R.few⟩
theorem holds3_new {κ : Type} [DecidableEq κ] {P : Program} {w : World} {g : PySem.KeyKind P w κ} {h : Heap} {a : Addr} (ho : h.get? a = some (tw_empty w)) : Holds3 g h a [] #[] 0 (.fresh 0 0 (!w.params.followText "set-order")) where
  obj := ⟨_, ho, ⟨rfl, rfl, rfl⟩, rfl⟩
  rows := rfl
  tab := ⟨List.Pairwise.nil, rfl, rfl, .inl rfl, fun x hx => (by cases hx), fun i h j hi => (by simp at hi)⟩
  nd := List.nodup_nil
  tups := fun p hp => (by cases hp)
  led := by
    show _ ∨ (!w.params.followText "set-order") = true
    cases w.params.followText "set-order"
    · exact .inr rfl
    · exact .inl rfl
  room := by show 0 * 5 < 7 * 3; decide
  few := by show 0 < 64; decide
theorem take_succ_get' {α : Type} {l : List α} {i : Nat} {x : α} (h : l[i]? = some x) : l.take (i + 1) = l.take i ++ [x] := by
  rw [List.take_succ, h]; rfl
/-- set(l) of tuples -/
theorem set_tuples {P : Program} {w : World} {A : Around} {E : Value → Shared → Prop} {s : Shared} {κ : Type} [DecidableEq κ] {g : PySem.KeyKind P w κ} {l : Addr} {items : Array Value} {Q : Value → Shared → Prop} (hh : A.handled = none) (hu : A.units + 3 < cLine) (hl : s.heap.IsList l items) (kk : List (Addr × List κ))
    (hit : items.toList = kk.map fun p => Value.ref p.1) (tp : ∀ p ∈ kk, IsTupleKey g s.heap p.2 p.1) (D : List (List κ)) (hD : ∀ p ∈ kk, p.2 ∈ D) (few : D.length < 60)
    (h : ∀ (h' : Heap) (tk : Nat) L es ep t, Holds3 g h' s.heap.objs.size L es ep t → (∀ p ∈ L, p ∈ kk) → (∀ k, k ∈ L.map (·.2) ↔ k ∈ kk.map (·.2)) → (∀ b o, s.heap.get? b = some o → h'.get? b = some o) → Q (.ref s.heap.objs.size) { s with heap := h', toks := tk }) :
    wpAny (model P w) A (call (.type "set") [.ref l]) Q E s := by
  have isz : items.size = kk.length := by rw [← Array.length_toList, hit, List.length_map]
  have tk : ∀ {h' : Heap} {p : Addr × List κ}, (∀ b o, s.heap.get? b = some o → h'.get? b = some o) → p ∈ kk → IsTupleKey g h' p.2 p.1 := fun kp hp => by
    obtain ⟨o, its, n, ho, r⟩ := tp _ hp
    exact ⟨o, its, n, kp _ _ ho, r⟩
  refine tw_set_list hh hl (fun i h' => ∃ L es ep t h0, Holds3 g h0 s.heap.objs.size L es ep t ∧ (∀ o, h0.get? s.heap.objs.size = some o → h'.get? s.heap.objs.size = some o) ∧ (∀ p ∈ L, p ∈ kk) ∧ ∀ k, k ∈ L.map (·.2) ↔ k ∈ (kk.take i).map (·.2)) ?_ ?_ ?_ ?_
  · rintro i h1 h2 ⟨L, es, ep, t, h0, R, k0, h3, h4⟩ ho kp
    exact ⟨L, es, ep, t, h0, R, fun o e => ho o (k0 o e), h3, h4⟩
  · intro i v s' Q F hv hi iv kp q
    obtain ⟨L, es, ep, t, h0, R0, k0, sub, mem⟩ := iv
    have R := R0.carry k0 fun p hp => tk kp (sub p hp)
    obtain ⟨p, hp, rfl⟩ : ∃ p, kk[i]? = some p ∧ v = .ref p.1 := by
      have e : items.toList[i]? = some v := by rw [Array.getElem?_toList]; exact hv
      rw [hit, List.getElem?_map] at e
      cases z : kk[i]? with
      | none => rw [z] at e; cases e
      | some p => rw [z] at e; exact ⟨p, rfl, (Option.some.inj e).symm⟩
    have hpm := List.mem_of_getElem? hp
    have len : L.length < 60 := by
      have := nodup_le (D := D) R.nd fun k hk => by
        obtain ⟨q, hq, rfl⟩ := List.mem_map.mp hk
        exact hD q (sub q hq)
      rw [List.length_map] at this
      omega
    unfold setAdd
    refine wpAny_holding (wpAny_bind (wpAny_pyHash_tuple hu (tk kp hpm) ?_))
    refine add3 (s := { s' with toks := s'.toks + (p.2.length + 1) }) R (tk kp hpm) hu (by omega) fun b h' L' es' ep' t' sb R' c1 c2 => ?_
    refine q b h' _ (Nat.le_add_right _ _) sb ⟨L', es', ep', t', h', R', fun o e => e, ?_, ?_⟩
    · intro r hr
      rcases Classical.em (p.2 ∈ L.map (·.2)) with c | c
      · rw [c1 c] at hr; exact sub r hr
      · rcases List.mem_cons.mp ((c2 c).mem_iff.mp hr) with rfl | hr
        · exact hpm
        · exact sub r hr
    · intro k
      rw [take_succ_get' hp, List.map_append, List.mem_append, ← mem k]
      rcases Classical.em (p.2 ∈ L.map (·.2)) with c | c
      · rw [c1 c]
        refine ⟨.inl, fun z => z.elim id fun z => ?_⟩
        rw [show k = p.2 by simpa using z]
        exact c
      · have e := ((c2 c).map (·.2)).mem_iff (a := k)
        rw [e, List.map_cons, List.mem_cons, List.map_cons, List.map_nil, List.mem_singleton]
        exact Or.comm
  · intro h' ho
    exact ⟨[], _, _, _, h', holds3_new ho, fun o e => e, fun p hp => (by cases hp), fun k => by simp⟩
  · intro h' tk' ⟨L, es, ep, t, h0, R0, k0, h1, h2⟩ kp
    rw [isz, List.take_of_length_le (Nat.le_refl _)] at h2
    exact h h' tk' L es ep t (R0.carry k0 fun p hp => tk kp (h1 p hp)) h1 h2 kp
section
variable {X : Cx}
/-- what a sort leaves: a list, its members named by triples -/
theorem out_t3 {h : Heap} {ks : List (Addr × T3)} {out : List Value} (sub : ∀ v ∈ out, ∃ p ∈ ks, v = Value.ref p.1) (at3 : ∀ p ∈ ks, t3At h (.ref p.1) = p.2) :
    ∃ o2 : List (Addr × T3), out = o2.map (fun q => Value.ref q.1) ∧ (∀ q ∈ o2, q ∈ ks) ∧ o2.map (·.2) = out.map (t3At h) := by
  induction out with
  | nil => exact ⟨[], rfl, fun q hq => (by cases hq), rfl⟩
  | cons v out ih =>
    obtain ⟨o2, e1, e2, e3⟩ := ih fun u hu => sub u (List.mem_cons_of_mem _ hu)
    obtain ⟨p, hp, rfl⟩ := sub v List.mem_cons_self
    refine ⟨p :: o2, by rw [List.map_cons, ← e1], fun q hq => ?_, by rw [List.map_cons, List.map_cons, e3, at3 p hp]⟩
    rcases List.mem_cons.mp hq with rfl | hq
    · exact hp
    · exact e2 q hq
theorem inv_new {pins : List (Addr × Obj)} {σ : L2.St} {H : Hp} {s s' : Shared} {xs : List V} {out : List Value} {c : Nat} {p : Addr} (I : L2.Inv X pins σ H s) (k : ∀ b o, s.heap.get? b = some o → s'.heap.get? b = some o) (hg : s'.gens = s.gens) (ho : s'.os = s.os) (hp : s.heap.objs.size ≤ p)
    (hl : s'.heap.get? p = some (seqObj "list" out.toArray c)) (r : Vals xs out) (hz : xs.length ≤ sizeLine) : L2.Inv X pins σ (upd H p (.lst xs)) s' ∧ H p = none := by
  have hn : H p = none := I.hok.fresh hp
  have J : L2.Inv X pins σ (upd H p (.lst xs)) { s with heap := s'.heap, gens := s'.gens, drawn := s'.drawn, toks := s'.toks } :=
    I.call (ch := []) (Un.laid k hp hn) (I.hok.laid k hp ⟨hz, out, c, r, hl⟩) (by rw [hg]; exact I.bare) (fun _ z => nomatch z)
  refine ⟨?_, hn⟩
  obtain ⟨h1, g1, d1, t1, o1⟩ := s'
  obtain ⟨h0, g0, d0, t0, o0⟩ := s
  cases ho
  exact J
def tSortT (K : PySem.W.Frag) (ta : TE) : TE := fun σ H Q => ta σ H fun x H1 => ∃ (l : Addr) (ks : List (Addr × T3)) (D : List T3), x = .ref l ∧ SqL K H1 l (ks.map fun p => V.ref p.1) ∧ (∀ p ∈ ks, H1 p.1 = some (.tup (t3V p.2))) ∧ (∀ p ∈ ks, p.2 ∈ D) ∧ D.length < 60 ∧
  ∀ (out : List (Addr × T3)) (p : Addr), (∀ q ∈ out, q ∈ ks) → (out.map (·.2)).Nodup → (∀ k, k ∈ out.map (·.2) ↔ k ∈ ks.map (·.2)) → Asc3 (out.map (·.2)) → H1 p = none → Q (.ref p) (upd H1 p (.lst (out.map fun q => V.ref q.1)))
/-- sorted(set(e)) -/
theorem pe_sortedTSet {a : Expr} {ta : TE} {p p2 q pos : Pos} (hc : X.calm = true) (hu : X.A.units + 64 < cLine) (hg : Gl X "sorted") (hm : X.mg "sorted" = none) (hg2 : Gl X "set") (hm2 : X.mg "set" = none) (ha : PE X a ta)
    (na : starEach [a] X.env = (false, eval a X.env) :: starEach [] X.env := by rfl) : PE X (.Call (.Name "sorted" p) [.Call (.Name "set" p2) [a] [] q] [] pos) (tSortT X.K ta) := by
  refine ⟨fun pins s σ H Q I h => ?_⟩
  refine Call_ (ld_blt I hg hm boot_sorted (PyProof.Rows.callWith_builtin1 (PyProof.Rows.args_cons ?_ rfl) rfl rfl))
  refine Call_ (ld_blt I hg2 hm2 boot_set (PyProof.Rows.callWith_type1 (PyProof.Rows.args_cons (thn (ha.run pins s σ H _ I h) fun v s1 hv => PyProof.Rows.args_nil ?_) na) na rfl))
  obtain ⟨x, H1, I1, r1, l, ks, D, rfl, hl, ht, hD, few, q1⟩ := hv
  obtain rfl : v = .ref l := r1
  obtain ⟨its, rv, pl, hz⟩ := I1.list hl
  have raw := fun (z : Addr × T3) (hp : z ∈ ks) => raw_t3 I1 (ht z hp)
  have hit : its = ks.map fun p => Value.ref p.1 := vals_refs (fun p : Addr × T3 => p.1) rv
  have hcalm := I1.ok.hd hc
  refine set_tuples (g := mixKind X.prog X.w) (s := s1) hcalm (by omega) pl.isList (ks.map fun p => (p.1, t3K p.2)) (by rw [hit, List.map_map]; rfl) (fun p hp => ?_) (D.map t3K) (fun p hp => ?_) (by rw [List.length_map]; exact few) fun h' tk L es ep t R sub mem kp => ?_
  · obtain ⟨z, hz, rfl⟩ := List.mem_map.mp hp
    exact (raw z hz).2
  · obtain ⟨z, hz, rfl⟩ := List.mem_map.mp hp
    exact List.mem_map.mpr ⟨z.2, hD z hz, rfl⟩
  refine PyProof.Rows.args_nil ?_
  have I2 : L2.Inv X pins σ H1 { s1 with heap := h', toks := tk } := I1.kept kp
  have raw2 := fun (z : Addr × T3) (hp : z ∈ ks) => (raw_t3 I2 (ht z hp)).1
  have at3 : ∀ p ∈ ks, t3At h' (.ref p.1) = p.2 := fun p hp => t3At_of (raw2 p hp)
  have vals : es.toList.map (·.2) = L.map fun p => Value.ref p.1 := by rw [R.rows, List.map_map]; rfl
  have inks : ∀ v ∈ es.toList.map (·.2), ∃ p ∈ ks, v = Value.ref p.1 ∧ ∃ r ∈ L, r.1 = p.1 ∧ r.2 = t3K p.2 := fun v hv => by
    rw [vals] at hv
    obtain ⟨r, hr, rfl⟩ := List.mem_map.mp hv
    obtain ⟨z, hz, e⟩ := List.mem_map.mp (sub r hr)
    exact ⟨z, hz, by rw [← e], r, hr, by rw [← e], by rw [← e]⟩
  obtain ⟨o, ho, hex, hd⟩ := R.obj
  refine SrtO.tw_sorted_set (s := { s1 with heap := h', toks := tk }) (swo3 (t3At h')) hcalm ⟨o, ho, hex.1, hd⟩ (Holds3.fit (s := { s1 with heap := h', toks := tk }) R) (by rw [Holds3.len (s := { s1 with heap := h', toks := tk }) R]; exact R.few) R.tab.ris R.led (fun vs s2 b pm h2 hb k2 => ?_) fun s' p out c k2 g2 o2 hp hlst srt pm => ?_
  · refine SrtO.t3_sortable (by omega) (fun v hv => ?_) fun o e => ?_
    · obtain ⟨z, hz, rfl, _⟩ := inks v (pm.mem_iff.mp hv)
      rw [at3 z hz]
      exact (raw2 z hz).keeps fun b o e _ => k2 b o e
    · rw [hb] at e
      obtain rfl := Option.some.inj e
      intro z
      injection z with z
      exact absurd z (by decide)
  · obtain ⟨ob, e1, e2, e3⟩ := out_t3 (h := h') (ks := ks) (fun v hv => by
      obtain ⟨z, hz, e, _⟩ := inks v (pm.mem_iff.mp hv)
      exact ⟨z, hz, e⟩) at3
    have pm2 : (ob.map (·.2)).Perm (L.map fun r => t3At h' (.ref r.1)) := by
      rw [e3]
      have := pm.map (t3At h')
      rw [vals, List.map_map] at this
      exact this
    have key : ∀ r ∈ L, t3K (t3At h' (.ref r.1)) = r.2 := fun r hr => by
      obtain ⟨z, hz, e⟩ := List.mem_map.mp (sub r hr)
      rw [← e]
      exact congrArg t3K (at3 z hz)
    have nd : (L.map fun r => t3At h' (.ref r.1)).Nodup := by
      have e : (L.map fun r => t3At h' (.ref r.1)).map t3K = L.map (·.2) := by
        rw [List.map_map]
        exact List.map_congr_left key
      have n := R.nd
      rw [← e] at n
      exact List.Pairwise.of_map t3K (fun a b h z => h (by rw [z])) n
    have len : (ob.map fun q => V.ref q.1).length ≤ sizeLine := by
      have e := pm2.length_eq
      rw [List.length_map, List.length_map] at e
      rw [List.length_map, e]
      have := R.few
      exact small (by omega)
    obtain ⟨J, hn⟩ := inv_new (xs := ob.map fun q => V.ref q.1) I2 k2 g2 o2 hp hlst (by rw [e1]; exact refs_vals (fun q : Addr × T3 => q.1) ob) len
    refine ⟨.ref p, _, J, rfl, q1 ob p e2 (pm2.nodup_iff.mpr nd) (fun k => ?_) ?_ hn⟩
    · rw [pm2.mem_iff]
      constructor
      · intro hk
        obtain ⟨r, hr, rfl⟩ := List.mem_map.mp hk
        obtain ⟨z, hz, e⟩ := List.mem_map.mp (sub r hr)
        rw [← e]
        exact List.mem_map.mpr ⟨z, hz, (at3 z hz).symm⟩
      · intro hk
        obtain ⟨z, hz, rfl⟩ := List.mem_map.mp hk
        have hm : t3K z.2 ∈ L.map (·.2) := (mem _).mpr (List.mem_map.mpr ⟨(z.1, t3K z.2), List.mem_map.mpr ⟨z, hz, rfl⟩, rfl⟩)
        obtain ⟨r, hr, e⟩ := List.mem_map.mp hm
        refine List.mem_map.mpr ⟨r, hr, t3K_inj ?_⟩
        rw [key r hr, e]
    · rw [e3]
      exact List.pairwise_map.mpr srt
/-- sorted(xs) of triples -/
def rSortTL (K : PySem.W.Frag) : List V → Hp → VK → Prop := fun vs H Q => ∃ (l : Addr) (ks : List (Addr × T3)), vs = [.ref l] ∧ SqL K H l (ks.map fun p => V.ref p.1) ∧ (∀ p ∈ ks, H p.1 = some (.tup (t3V p.2))) ∧
  ∀ (out : List (Addr × T3)) (p : Addr), (∀ q ∈ out, q ∈ ks) → (out.map (·.2)).Perm (ks.map (·.2)) → Asc3 (out.map (·.2)) → H p = none → Q (.ref p) (upd H p (.lst (out.map fun q => V.ref q.1)))
theorem cr_sortedTL (_hc : X.calm = true) (_hu : X.A.units + 64 < cLine) : CallR X (.builtin "sorted") (rSortTL X.K) := by
  intro pins s σ H vs us Q I r h
  obtain ⟨l, ks, rfl, hl, ht, q⟩ := h
  rw [Vals.ref1 r]
  obtain ⟨its, rv, pl, hz⟩ := I.list hl
  have raw := fun (z : Addr × T3) (hp : z ∈ ks) => (raw_t3 I (ht z hp)).1
  have hit : its = ks.map fun p => Value.ref p.1 := vals_refs (fun p : Addr × T3 => p.1) rv
  have at3 : ∀ p ∈ ks, t3At s.heap (.ref p.1) = p.2 := fun p hp => t3At_of (raw p hp)
  have inks : ∀ v ∈ its, ∃ p ∈ ks, v = Value.ref p.1 := fun v hv => by
    rw [hit] at hv
    obtain ⟨z, hz, rfl⟩ := List.mem_map.mp hv
    exact ⟨z, hz, rfl⟩
  refine SrtO.sorted_ord (swo3 (t3At s.heap)) pl.isList (by rw [← rv.length]; exact hz) (fun h2 h₁ a ha keep => ?_) fun out srt stb => ?_
  · refine SrtO.t3_sortable (by omega) (fun v hv => ?_) fun o e => ?_
    · obtain ⟨z, hz, rfl⟩ := inks v hv
      rw [at3 z hz]
      exact (raw z hz).keeps fun b o e _ => (keep b o e).2
    · rw [ha] at e
      obtain rfl := Option.some.inj e
      intro z
      injection z with z
      exact absurd z (by decide)
  · obtain ⟨ob, e1, e2, e3⟩ := out_t3 (h := s.heap) (ks := ks) (fun v hv => inks v (stb.perm.mem_iff.mp hv)) at3
    have pm2 : (ob.map (·.2)).Perm (ks.map (·.2)) := by
      rw [e3]
      have := stb.perm.map (t3At s.heap)
      rw [hit, List.map_map] at this
      refine this.trans (List.Perm.of_eq (List.map_congr_left fun z hz => at3 z hz))
    obtain ⟨ep, he⟩ := PyProof.Rows.sortedAll_at s.heap its out.toArray
    have len : (ob.map fun q => V.ref q.1).length ≤ sizeLine := by
      have e := pm2.length_eq
      rw [List.length_map, List.length_map] at e
      rw [List.length_map, e]
      rw [List.length_map] at hz
      exact hz
    refine ⟨.ref _, upd H (s.heap.objs.size + 1) (.lst (ob.map fun q => V.ref q.1)), I.laid (t' := s.toks) (fun _ _ => PyProof.Rows.sortedAll_old) (Nat.le_succ _) ⟨len, out, ep, ?_, he⟩, rfl, q ob _ e2 pm2 ?_ (I.hok.fresh (Nat.le_succ _))⟩
    · rw [e1]; exact refs_vals (fun q : Addr × T3 => q.1) ob
    · rw [e3]; exact List.pairwise_map.mpr srt
end
end Tw
end

section
set_option maxHeartbeats 4000000
/-! TwInv2: the law's invariant, what each of its steps does to it, and what it says. Plain Lean. -/
namespace Tw
open PySem L2
/-- the letter is about one of the sources, and true of it for good -/
def OkL (Ss : List Src) (L : Letter) : Prop := (∃ S ∈ Ss, S.m.name = L.nm) ∧ ∀ S ∈ Ss, S.m.name = L.nm → Safe S L
structure Inv (k : Nat) (ms : List Meter) (Ss : List Src) (ls : List (List Letter)) (R M : List Letter) : Prop where
  mok : MsOk ms
  mfew : ms.length ≤ 6
  mt : Ss.map (·.m) = ms
  src : ∀ S ∈ Ss, SrcInv S
  tot : (Ss.map Src.nv).sum ≤ k
  dlen : ∀ S ∈ Ss, S.due.length ≤ k
  llen : ∀ l ∈ ls, l.length ≤ 30 * k
  rlen : R.length ≤ k
  mlen : M.length ≤ 30 * k
  own : ∀ S ∈ Ss, ∀ L ∈ S.due, L.nm = S.m.name ∧ OkL Ss L
  lok : ∀ l ∈ ls, ∀ L ∈ l, OkL Ss L
  rok : ∀ L ∈ R, OkL Ss L
  made : ∀ L ∈ M, OkL Ss L ∧ (L ∈ R ∨ ∃ S ∈ Ss, L ∈ S.due)
  reads : ∀ S ∈ Ss, ∀ L ∈ logReads S.log, L ∈ R ∨ L ∈ S.due
section
variable {k : Nat} {ms : List Meter} {Ss Ss' : List Src} {ls : List (List Letter)} {R R' M M' : List Letter} {S S' : Src} {j i : Nat}
theorem mem_set' {α : Type} {l : List α} {j : Nat} {a x : α} (h : x ∈ l.set j a) : x = a ∨ x ∈ l := (List.mem_or_eq_of_mem_set h).symm
theorem mem_set_self {α : Type} {l : List α} {j : Nat} {a x : α} (h : l[j]? = some x) : a ∈ l.set j a := by
  have hj := (List.getElem?_eq_some_iff.mp h).1
  exact List.mem_of_getElem? (i := j) (by rw [List.getElem?_set_self hj])
theorem mem_set_ne {α : Type} {l : List α} {j : Nat} {a x y : α} (h : l[j]? = some x) (hy : y ∈ l) : y = x ∨ y ∈ l.set j a := by
  obtain ⟨i, hi, e⟩ := List.mem_iff_getElem.mp hy
  by_cases q : j = i
  · subst q
    rw [List.getElem?_eq_getElem hi, e] at h
    exact .inl (Option.some.inj h)
  · refine .inr (List.mem_of_getElem? (i := i) ?_)
    rw [List.getElem?_set_ne q, List.getElem?_eq_getElem hi, e]
theorem OkL.step (o : OkL Ss L) (hj : Ss[j]? = some S) (i : SrcInv S) (h : S.Step S') : OkL (Ss.set j S') L := by
  obtain ⟨⟨S0, h0, e0⟩, h2⟩ := o
  refine ⟨?_, fun S1 h1 e1 => ?_⟩
  · rcases mem_set_ne (a := S') hj h0 with rfl | z
    · exact ⟨S', mem_set_self hj, by rw [h.m]; exact e0⟩
    · exact ⟨S0, z, e0⟩
  · rcases mem_set' h1 with rfl | z
    · exact h.keepL i (h2 S (List.mem_of_getElem? hj) (by rw [← h.m]; exact e1))
    · exact h2 S1 z e1
theorem sum_le_of_mem : ∀ {l : List Nat} {x : Nat}, x ∈ l → x ≤ l.sum
  | a :: r, x, h => by
    rw [List.sum_cons]
    rcases List.mem_cons.mp h with rfl | z
    · omega
    · have := sum_le_of_mem z
      omega
theorem Inv.nv (I : Inv k ms Ss ls R M) (h : S ∈ Ss) : S.nv ≤ k := Nat.le_trans (sum_le_of_mem (List.mem_map.mpr ⟨S, h, rfl⟩)) I.tot
theorem Inv.fews (I : Inv k ms Ss ls R M) (h : S ∈ Ss) : S.ss.length ≤ k := by
  have h1 := I.nv h
  have h2 := len_le_sum (L := S.ss.map (·.2.length)) fun x hx => by
    obtain ⟨t, ht, rfl⟩ := List.mem_map.mp hx
    exact ((I.src S h).slots.vers t ht).ne
  rw [List.length_map] at h2
  exact Nat.le_trans h2 h1
theorem Inv.fewv (I : Inv k ms Ss ls R M) (h : S ∈ Ss) {t : Slot} (ht : t ∈ S.ss) : t.2.length ≤ k := Nat.le_trans (sum_le_of_mem (List.mem_map.mpr ⟨t, ht, rfl⟩)) (I.nv h)
theorem Inv.str (I : Inv k ms Ss ls R M) (h : S ∈ Ss) : PyData.strOk S.m.name = true := I.mok.str _ (by rw [← I.mt]; exact List.mem_map.mpr ⟨S, h, rfl⟩)
theorem Inv.lstr (I : Inv k ms Ss ls R M) {L : Letter} (o : OkL Ss L) : LOk L := by
  obtain ⟨⟨S, h, e⟩, _⟩ := o
  show PyData.strOk L.nm = true
  rw [← e]
  exact I.str h
theorem Inv.fit (I : Inv k ms Ss ls R M) (h : S ∈ Ss) (hk : k ≤ 1000) : S.Fit := ⟨I.str h, fun L hL => I.lstr (I.own S h L hL).2, Nat.le_trans (I.dlen S h) hk, Nat.le_trans (I.fews h) hk, fun t ht => Nat.le_trans (I.fewv h ht) hk⟩
theorem Inv.mono (I : Inv k ms Ss ls R M) {k' : Nat} (h : k ≤ k') : Inv k' ms Ss ls R M :=
  { I with tot := Nat.le_trans I.tot h, dlen := fun S hS => Nat.le_trans (I.dlen S hS) h, llen := fun l hl => Nat.le_trans (I.llen l hl) (Nat.mul_le_mul_left 30 h), rlen := Nat.le_trans I.rlen h, mlen := Nat.le_trans I.mlen (Nat.mul_le_mul_left 30 h) }
/-- a deed -/
theorem Inv.deed (I : Inv k ms Ss ls R M) (hk : k < 25) (hj : Ss[j]? = some S) (h : S.Step S') (hM : ∀ L ∈ M', L ∈ M ∨ L ∈ S'.due) (lM : M'.length ≤ M.length + S'.due.length) : Inv (k + 1) ms (Ss.set j S') ls R M' := by
  have hS := List.mem_of_getElem? hj
  have iS := I.src S hS
  have dn := I.dlen S hS
  have dl := h.due_len
  have okd : ∀ L ∈ S'.due, L.nm = S'.m.name ∧ OkL (Ss.set j S') L := fun L hL => by
    rcases h.due_new iS hL with z | ⟨e, z⟩
    · obtain ⟨a, b⟩ := I.own S hS L z
      exact ⟨by rw [h.m]; exact a, b.step hj iS h⟩
    · refine ⟨by rw [h.m]; exact e, ⟨S', mem_set_self hj, by rw [h.m]; exact e.symm⟩, fun S1 h1 e1 => ?_⟩
      rcases List.mem_iff_getElem.mp h1 with ⟨i, hi, ei⟩
      by_cases q : j = i
      · subst q
        rw [List.getElem_set_self] at ei
        rw [← ei]
        exact z
      · exfalso
        rw [List.getElem_set_ne q] at ei
        have hi' : i < Ss.length := by rw [List.length_set] at hi; exact hi
        have nd := I.mok.nd
        rw [← I.mt, List.map_map] at nd
        have hjl := (List.getElem?_eq_some_iff.mp hj).1
        have := (List.getElem_inj (xs := Ss.map (Meter.name ∘ Src.m)) (i := i) (j := j) (h₀ := by simpa using hi') (h₁ := by simpa using hjl) nd).mp (by
          rw [List.getElem_map, List.getElem_map]
          show (Ss[i]).m.name = (Ss[j]).m.name
          rw [ei, e1, e, (List.getElem?_eq_some_iff.mp hj).2])
        exact q this.symm
  refine { mok := I.mok, mfew := I.mfew, mt := ?_, src := fun S1 h1 => ?_, tot := ?_, dlen := fun S1 h1 => ?_, llen := fun l hl => ?_, rlen := ?_, mlen := ?_, own := fun S1 h1 L hL => ?_, lok := fun l hl L hL => (I.lok l hl L hL).step hj iS h, rok := fun L hL => (I.rok L hL).step hj iS h, made := fun L hL => ?_, reads := fun S1 h1 L hL => ?_ }
  · rw [List.map_set, h.m, ← I.mt]
    refine List.ext_getElem? fun i => ?_
    by_cases q : j = i
    · subst q
      rw [List.getElem?_set_self (by rw [List.length_map]; exact (List.getElem?_eq_some_iff.mp hj).1), List.getElem?_map, hj]
      rfl
    · rw [List.getElem?_set_ne q]
  · rcases mem_set' h1 with rfl | z
    · exact h.inv iS
    · exact I.src S1 z
  · rw [List.map_set]
    have h1 : (Ss.map Src.nv)[j]? = some S.nv := by rw [List.getElem?_map, hj]; rfl
    have h2 := sum_set_nat (y := S'.nv) h1
    have h3 := h.nv
    have h4 := I.tot
    omega
  · rcases mem_set' h1 with rfl | z
    · omega
    · exact Nat.le_succ_of_le (I.dlen S1 z)
  · have := I.llen l hl
    omega
  · exact Nat.le_succ_of_le I.rlen
  · have := I.mlen
    omega
  · rcases mem_set' h1 with rfl | z
    · exact okd L hL
    · obtain ⟨a, b⟩ := I.own S1 z L hL
      exact ⟨a, b.step hj iS h⟩
  · rcases hM L hL with z | z
    · obtain ⟨a, b⟩ := I.made L z
      refine ⟨a.step hj iS h, b.imp id ?_⟩
      rintro ⟨S1, h1, hd⟩
      rcases mem_set_ne (a := S') hj h1 with rfl | z
      · exact ⟨S', mem_set_self hj, h.due_mono hd⟩
      · exact ⟨S1, z, hd⟩
    · exact ⟨(okd L z).2, .inr ⟨S', mem_set_self hj, z⟩⟩
  · rcases mem_set' h1 with rfl | z
    · rcases h.reads hL with q | q
      · exact (I.reads S hS L q).imp id fun q => h.due_mono q
      · exact .inr q
    · exact I.reads S1 z L hL
/-- a source sends -/
theorem Inv.send (I : Inv k ms Ss ls R M) (hk : k < 25) (hS : S ∈ Ss) {l : List Letter} (hi : ls[i]? = some l) : Inv (k + 1) ms Ss (ls.set i (l ++ S.due)) R M := by
  have dn := I.dlen S hS
  have hl := I.llen l (List.mem_of_getElem? hi)
  refine { I.mono (Nat.le_succ k) with llen := fun l' h' => ?_, lok := fun l' h' L hL => ?_ }
  · rcases mem_set' h' with rfl | z
    · rw [List.length_append]
      omega
    · have := I.llen l' z
      omega
  · rcases mem_set' h' with rfl | z
    · rcases List.mem_append.mp hL with q | q
      · exact I.lok l (List.mem_of_getElem? hi) L q
      · exact (I.own S hS L q).2
    · exact I.lok l' z L hL
/-- what a delivery, a loss or a doubling does: the line, the sources, the letters received -/
structure Mv (l l' : List Letter) (Ss Ss' : List Src) (R R' : List Letter) : Prop where
  lsub : ∀ L ∈ l', L ∈ l
  llen : l'.length ≤ l.length + 1
  rsub : ∀ L ∈ R', L ∈ R ∨ L ∈ l
  rsup : ∀ L ∈ R, L ∈ R'
  rlen : R'.length ≤ R.length + 1
  slen : Ss'.length = Ss.length
  src : ∀ (j : Nat) S S', Ss[j]? = some S → Ss'[j]? = some S' → ∃ ds, S' = { S with due := ds } ∧ ds.length ≤ S.due.length ∧ (∀ L ∈ ds, L ∈ S.due) ∧ ∀ L ∈ S.due, L ∈ ds ∨ L ∈ R'
theorem Mv.back (h : Mv l l' Ss Ss' R R') (hS : S' ∈ Ss') : ∃ S ∈ Ss, ∃ ds, S' = { S with due := ds } ∧ ds.length ≤ S.due.length ∧ (∀ L ∈ ds, L ∈ S.due) ∧ ∀ L ∈ S.due, L ∈ ds ∨ L ∈ R' := by
  obtain ⟨j, hj, e⟩ := List.mem_iff_getElem.mp hS
  have hj' : j < Ss.length := by rw [← h.slen]; exact hj
  exact ⟨Ss[j], List.getElem_mem hj', h.src j _ _ (List.getElem?_eq_getElem hj') (by rw [List.getElem?_eq_getElem hj, e])⟩
theorem Mv.forth (h : Mv l l' Ss Ss' R R') (hS : S ∈ Ss) : ∃ S' ∈ Ss', ∃ ds, S' = { S with due := ds } ∧ ds.length ≤ S.due.length ∧ (∀ L ∈ ds, L ∈ S.due) ∧ ∀ L ∈ S.due, L ∈ ds ∨ L ∈ R' := by
  obtain ⟨j, hj, e⟩ := List.mem_iff_getElem.mp hS
  have hj' : j < Ss'.length := by rw [h.slen]; exact hj
  exact ⟨Ss'[j], List.getElem_mem hj', h.src j _ _ (by rw [List.getElem?_eq_getElem hj, e]) (List.getElem?_eq_getElem hj')⟩
theorem Mv.okl (h : Mv l l' Ss Ss' R R') {L : Letter} (o : OkL Ss L) : OkL Ss' L := by
  obtain ⟨⟨S, h1, e⟩, h2⟩ := o
  refine ⟨?_, fun S' h' e' => ?_⟩
  · obtain ⟨S', h', ds, rfl, _⟩ := h.forth h1
    exact ⟨_, h', e⟩
  · obtain ⟨S1, hS1, ds, rfl, _⟩ := h.back h'
    exact h2 S1 hS1 e'
theorem Inv.move (I : Inv k ms Ss ls R M) (hk : k < 25) {l l' : List Letter} (hi : ls[i]? = some l) (h : Mv l l' Ss Ss' R R') : Inv (k + 1) ms Ss' (ls.set i l') R' M := by
  have hl := List.mem_of_getElem? hi
  have mt : Ss'.map (·.m) = Ss.map (·.m) := by
    refine List.ext_getElem (by rw [List.length_map, List.length_map, h.slen]) fun j h1 h2 => ?_
    rw [List.getElem_map, List.getElem_map]
    obtain ⟨ds, e, _⟩ := h.src j _ _ (List.getElem?_eq_getElem (by rw [List.length_map] at h2; exact h2)) (List.getElem?_eq_getElem (by rw [List.length_map] at h1; exact h1))
    rw [e]
  have nv : Ss'.map Src.nv = Ss.map Src.nv := by
    refine List.ext_getElem (by rw [List.length_map, List.length_map, h.slen]) fun j h1 h2 => ?_
    rw [List.getElem_map, List.getElem_map]
    obtain ⟨ds, e, _⟩ := h.src j _ _ (List.getElem?_eq_getElem (by rw [List.length_map] at h2; exact h2)) (List.getElem?_eq_getElem (by rw [List.length_map] at h1; exact h1))
    rw [e]
    rfl
  refine { mok := I.mok, mfew := I.mfew, mt := by rw [mt]; exact I.mt, src := fun S' h' => ?_, tot := by rw [nv]; exact Nat.le_succ_of_le I.tot, dlen := fun S' h' => ?_, llen := fun x hx => ?_, rlen := by have := h.rlen; have := I.rlen; omega, mlen := by have := I.mlen; omega, own := fun S' h' L hL => ?_, lok := fun x hx L hL => ?_, rok := fun L hL => ?_, made := fun L hL => ?_, reads := fun S' h' L hL => ?_ }
  · obtain ⟨S1, hS1, ds, rfl, _⟩ := h.back h'
    exact ⟨(I.src S1 hS1).slots, (I.src S1 hS1).off, (I.src S1 hS1).cn, (I.src S1 hS1).cl⟩
  · obtain ⟨S1, hS1, ds, rfl, q, _⟩ := h.back h'
    exact Nat.le_succ_of_le (Nat.le_trans q (I.dlen S1 hS1))
  · rcases mem_set' hx with rfl | z
    · have := h.llen
      have := I.llen l hl
      omega
    · have := I.llen x z
      omega
  · obtain ⟨S1, hS1, ds, rfl, _, q, _⟩ := h.back h'
    obtain ⟨a, b⟩ := I.own S1 hS1 L (q L hL)
    exact ⟨a, h.okl b⟩
  · rcases mem_set' hx with rfl | z
    · exact h.okl (I.lok l hl L (h.lsub L hL))
    · exact h.okl (I.lok x z L hL)
  · rcases h.rsub L hL with z | z
    · exact h.okl (I.rok L z)
    · exact h.okl (I.lok l hl L z)
  · obtain ⟨a, b⟩ := I.made L hL
    refine ⟨h.okl a, ?_⟩
    rcases b with z | ⟨S1, h1, hd⟩
    · exact .inl (h.rsup L z)
    · obtain ⟨S', h', ds, rfl, _, _, q⟩ := h.forth h1
      rcases q L hd with z | z
      · exact .inr ⟨_, h', z⟩
      · exact .inl z
  · obtain ⟨S1, hS1, ds, rfl, _, _, q⟩ := h.back h'
    rcases I.reads S1 hS1 L hL with z | z
    · exact .inl (h.rsup L z)
    · exact (q L z).symm
/-- what the law looks at -/
structure Good (ms : List Meter) (Ss : List Src) (R M : List Letter) : Prop where
  mok : MsOk ms
  mfew : ms.length ≤ 6
  mt : Ss.map (·.m) = ms
  src : ∀ S ∈ Ss, SrcInv S
  few : ∀ S ∈ Ss, S.ss.length ≤ 60 ∧ (∀ t ∈ S.ss, t.2.length ≤ 60) ∧ S.due.length ≤ 60 ∧ ∀ L ∈ S.due, LOk L
  rlen : R.length ≤ 10000
  mlen : M.length ≤ 10000
  rcv : ∀ L ∈ R, LOk L ∧ OkL Ss L
  made : ∀ L ∈ M, LOk L ∧ (L ∈ R ∨ ∃ S ∈ Ss, L ∈ S.due)
theorem Inv.good (I : Inv k ms Ss ls R M) (hk : k ≤ 25) : Good ms Ss R M where
  mok := I.mok
  mfew := I.mfew
  mt := I.mt
  src := I.src
  few := fun S h => ⟨by have := I.fews h; omega, fun t ht => by have := I.fewv h ht; omega, by have := I.dlen S h; omega, fun L hL => I.lstr (I.own S h L hL).2⟩
  rlen := by have := I.rlen; omega
  mlen := by have := I.mlen; omega
  rcv := fun L hL => ⟨I.lstr (I.rok L hL), I.rok L hL⟩
  made := fun L hL => ⟨I.lstr (I.made L hL).1, (I.made L hL).2⟩
theorem Inv.last (I : Inv k ms Ss ls R M) (hk : k ≤ 25) {F : List Letter} (hF : ∀ L ∈ F, (∃ l ∈ ls, L ∈ l) ∨ ∃ S ∈ Ss, L ∈ S.due) (lF : F.length ≤ 5000) : Good ms Ss (R ++ F) M := by
  have G := I.good hk
  have okF : ∀ L ∈ F, OkL Ss L := fun L hL => by
    rcases hF L hL with ⟨l, h1, h2⟩ | ⟨S, h1, h2⟩
    · exact I.lok l h1 L h2
    · exact (I.own S h1 L h2).2
  refine { G with rlen := ?_, rcv := fun L hL => ?_, made := fun L hL => ⟨(G.made L hL).1, (G.made L hL).2.imp (fun z => List.mem_append_left _ z) id⟩ }
  · rw [List.length_append]
    have := I.rlen
    omega
  · rcases List.mem_append.mp hL with z | z
    · exact G.rcv L z
    · exact ⟨I.lstr (okF L z), okF L z⟩
/-! ### the slots told at the end -/
def Letter.tri : Letter → T3
  | .read nm s v _ _ => (nm, s, v)
  | .close nm n st _ => (nm, n, st)
  | .clock nm lo hi => (nm, lo, hi)
def Letter.isRead : Letter → Bool
  | .read .. => true
  | _ => false
theorem readsOf_mem {ls : List Log} {L : Letter} : L ∈ readsOf ls ↔ ∃ l ∈ ls, L ∈ logReads l := List.mem_flatMap
theorem pw_range {α : Type} {n : Nat} {f : Nat → α} {Q : α → α → Prop} (h : ∀ i j, i < j → j < n → Q (f i) (f j)) : ((List.range n).map f).Pairwise Q := by
  rw [List.pairwise_map]
  refine List.pairwise_iff_getElem.mpr fun a b ha hb hab => ?_
  rw [List.getElem_range, List.getElem_range]
  exact h a b hab (by rw [List.length_range] at hb; exact hb)
theorem tri_nodup {ls : List Log} (nd : (ls.map (·.m.name)).Nodup) : ((readsOf ls).map Letter.tri).Nodup := by
  unfold readsOf
  rw [List.map_flatMap]
  refine List.pairwise_flatMap.mpr ⟨fun l hl => ?_, ?_⟩
  · unfold logReads slotReads
    rw [List.map_flatMap]
    refine List.pairwise_flatMap.mpr ⟨fun i hi => ?_, ?_⟩
    · unfold verReads
      rw [List.map_map]
      refine pw_range fun a b hab hb e => ?_
      have : ((a : Nat) : Int) = (b : Nat) := congrArg (fun z : T3 => z.2.2) e
      omega
    · refine List.pairwise_iff_getElem.mpr fun a b ha hb hab x hx y hy e => ?_
      rw [List.getElem_range] at hx hy
      unfold verReads at hx hy
      rw [List.map_map] at hx hy
      obtain ⟨v, _, rfl⟩ := List.mem_map.mp hx
      obtain ⟨v', _, rfl⟩ := List.mem_map.mp hy
      have : (((a + 1 : Nat)) : Int) = ((b + 1 : Nat) : Int) := congrArg (fun z : T3 => z.2.1) e
      omega
  · rw [List.Nodup, List.pairwise_map] at nd
    refine nd.imp_of_mem fun {l l'} h h' hne x hx y hy e => ?_
    obtain ⟨L, hL, rfl⟩ := List.mem_map.mp hx
    obtain ⟨L', hL', rfl⟩ := List.mem_map.mp hy
    obtain ⟨i, v, t, x, _, _, rfl⟩ := mem_logReads.mp hL
    obtain ⟨i', v', t', x', _, _, rfl⟩ := mem_logReads.mp hL'
    exact hne (congrArg (fun z : T3 => z.1) e)
theorem logReads_len (l : Log) : (logReads l).length = (l.ss.map (·.2.length)).sum := by
  have : ∀ n, n ≤ l.ss.length → (slotReads l n).length = ((l.ss.take n).map (·.2.length)).sum := by
    intro n
    induction n with
    | zero => intro _; rfl
    | succ n ih =>
      intro h
      have hg : l.ss[n]? = some (l.ss[n]'(by omega)) := List.getElem?_eq_getElem _
      rw [slotReads_succ hg, List.length_append, ih (by omega), take_succ_get hg, List.map_append, List.sum_append]
      unfold verReads
      rw [List.length_map, List.length_range]
      simp
  unfold logReads
  rw [this _ (Nat.le_refl _), List.take_length]
theorem Inv.few_reads (I : Inv k ms Ss ls R M) : (readsOf (Ss.map Src.log)).length ≤ k := by
  have : ∀ l : List Src, (readsOf (l.map Src.log)).length = (l.map Src.nv).sum := by
    intro l
    induction l with
    | nil => rfl
    | cons a r ih =>
      rw [List.map_cons, List.map_cons, List.sum_cons, ← ih]
      show (logReads a.log ++ readsOf (r.map Src.log)).length = _
      rw [List.length_append, logReads_len]
      rfl
  rw [this]
  exact I.tot
/-- the slots told in all that was received are those of the logs -/
theorem Inv.tris (I : Inv k ms Ss ls R M) {F : List Letter} (hF : ∀ L ∈ F, (∃ l ∈ ls, L ∈ l) ∨ ∃ S ∈ Ss, L ∈ S.due) (hD : ∀ S ∈ Ss, ∀ L ∈ S.due, L ∈ F) (x : T3) :
    x ∈ ((R ++ F).filter Letter.isRead).map Letter.tri ↔ x ∈ (readsOf (Ss.map Src.log)).map Letter.tri := by
  rw [List.mem_map, List.mem_map]
  constructor
  · rintro ⟨L, hL, rfl⟩
    obtain ⟨hL, hr⟩ := List.mem_filter.mp hL
    have o : OkL Ss L := by
      rcases List.mem_append.mp hL with z | z
      · exact I.rok L z
      · rcases hF L z with ⟨l, h1, h2⟩ | ⟨S, h1, h2⟩
        · exact I.lok l h1 L h2
        · exact (I.own S h1 L h2).2
    obtain ⟨⟨S, hS, e⟩, h2⟩ := o
    cases L with
    | read nm a v st y =>
      obtain ⟨h3, t, h4, h5, h6⟩ := (h2 S hS e).1
      refine ⟨.read nm a v st y, readsOf_mem.mpr ⟨S.log, List.mem_map.mpr ⟨S, hS, rfl⟩, mem_logReads.mpr ⟨a - 1, v, t, y, h4, h6, ?_⟩⟩, rfl⟩
      rw [h5, show S.log.m.name = nm from e, show a - 1 + 1 = a by omega]
    | close => cases hr
    | clock => cases hr
  · rintro ⟨L, hL, rfl⟩
    obtain ⟨l, hl, hL⟩ := readsOf_mem.mp hL
    obtain ⟨S, hS, rfl⟩ := List.mem_map.mp hl
    refine ⟨L, List.mem_filter.mpr ⟨?_, ?_⟩, rfl⟩
    · rcases I.reads S hS L hL with z | z
      · exact List.mem_append_left _ z
      · exact List.mem_append_right _ (hD S hS L z)
    · obtain ⟨i, v, t, y, _, _, rfl⟩ := mem_logReads.mp hL
      rfl
/-- two ascending rows of the same slots, none twice, are one row -/
theorem tri_same {a b : List T3} (ha : a.Nodup) (hb : b.Nodup) (h : ∀ x, x ∈ a ↔ x ∈ b) (sa : Asc3 a) (sb : Asc3 b) : a = b := asc3_same ((List.perm_ext_iff_of_nodup ha hb).mpr h) sa sb
end
end Tw
end

section
set_option maxHeartbeats 4000000
namespace Tw
open PySem PySem.Spec PyProof.Rows L2
/-! the machine of the readings: "tw" goes on through what has one answer; it stops at a branch, a loop, a new object, what comes behind a call -/
local macro_rules | `(tactic| walk_at "tw look") => `(tactic| first
  | assumption
  | exact upd_same
  | (refine Same.new (by assumption) _ _ ?_; walk_at "tw look")
  | (refine upd_oth (by assumption) ?_; walk_at "tw look")
  | (refine upd_dif (by assumption) (by intro z; cases z) ?_; walk_at "tw look")
  | (refine upd_dif upd_same (by intro z; cases z) ?_; walk_at "tw look"))
local macro_rules | `(tactic| walk_at "tw seq") => `(tactic| first
  | assumption
  | exact SqL.of (by walk_at "tw look")
  | exact SqT.of (by walk_at "tw look")
  | exact .inl (SqL.of (by walk_at "tw look"))
  | exact .inr (SqT.of (by walk_at "tw look"))
  | exact .inl (by assumption)
  | exact dget_of (by walk_at "tw look") (by assumption)
  | exact DGet.k (k := Sum.inl _) (by walk_at "tw look")
  | exact DPut.k (k := Sum.inl _) (by walk_at "tw look") (by assumption)
  | exact .inl ⟨_, .inl (by walk_at "tw look")⟩
  | exact .inr ⟨_, .inl (by walk_at "tw look")⟩
  | exact ⟨_, SqL.of (by walk_at "tw look")⟩
  | exact ⟨_, SqT.of (by walk_at "tw look")⟩
  | exact ⟨_, by assumption⟩
  | exact .inl ⟨rfl, _, SqL.of (by walk_at "tw look")⟩)
local macro_rules | `(tactic| walk_at "tw atom") => `(tactic| first
  | with_reducible rfl
  | assumption
  | rfl
  | walk_at "tw look"
  | walk_at "tw seq"
  | omega
  | exact small (by simp; done)
  | exact smallt (by simp; done)
  | exact cdiv_of rfl
  | exact fun _ h => h
  | exact Int.natCast_pos.mpr (Nat.zero_lt_succ _)
  | exact cmul_r rfl
  | exact cmul_l rfl
  | exact Nat.le_of_ble_eq_true rfl)
local macro_rules | `(tactic| walk_at "tw step") => `(tactic| first | (with_reducible refine iteT ?_) | (with_reducible refine iteF ?_) | (with_reducible refine itf nott ?_) | (with_reducible refine itt notf ?_) | ((fail_if_success (refine ite2 (fun _ => ?_) (fun _ => ?_))); first
  | ((fail_if_success (refine (?_ : ∃ W : Nat → Nat → L2.St → Hp → Prop, _))); (fail_if_success (refine (?_ : ∃ W : Nat → Nat → Hp → Prop, _))); apply Exists.intro)
  | (apply And.intro; (walk_at "tw atom"))))
local macro_rules | `(tactic| walk_at "tw") => `(tactic| repeat walk_at "tw step")

section
variable {P : Program} {w : World} {K : PySem.W.Frag} {mg : Str → Option Value} {base : Heap}
def slV (ts : List SL) : List V := ts.map fun t => .ref t.1.1
def logsOf (ts : List SL) : List Log := ts.map fun t => t.2.log
theorem slV_get {ts : List SL} {i : Nat} {x : V} (h : (slV ts)[i]? = some x) : ∃ t, ts[i]? = some t ∧ x = .ref t.1.1 := by
  unfold slV at h
  rw [List.getElem?_map] at h
  cases z : ts[i]? with
  | none => rw [z] at h; cases h
  | some t => rw [z] at h; exact ⟨t, rfl, (Option.some.inj h).symm⟩
def spLogs (K : PySem.W.Frag) : Sp := fun vs H Q _ => ∃ (sl : Addr) (ts : List SL), vs = [.ref sl] ∧ H sl = some (.lst (slV ts)) ∧ SrcsAt K H ts ∧ ts.length ≤ 10 ∧ ∀ v H', Same H H' → IsHist H' v (logsOf ts) → Q v H'
theorem C_law_logs (T : Tx K mg) : Callee P w K mg base CX0 "_law_logs" P_law_logs 2 (spLogs K) := by
  refine mk_law_logs T (k := 1) (fun vs H Q E h => ?_) (fun f cdv A outer s H vs Q E hr h => ?_)
  · obtain ⟨sl, ts, rfl, _⟩ := h
    rfl
  · obtain ⟨sl, ts, rfl, hsl, hS, few, k⟩ := h
    refine ⟨_, ((pss_one (ps_ret (pe_callTy (ctuple (K := K)) (by rfl) T.f_tuple Pv.boot_tuple (pa_cons (pe_lc (own := [("_law_source", 1)]) (g := gName 1) (tt := tYes) rfl sc_law_logs.nd (pi_list (pv 0)) (blkOk_by (N := N_law_logs) (sc := defScope s_law_logs) (by decide +kernel)) (fun _ _ _ _ _ => (pg_name (i := 1) sc_law_logs.nd rfl (by first | exact Or.inl rfl | exact Or.inr rfl))) (fun _ _ _ _ _ => pts_nil) (fun _ _ _ _ _ => (pe_mcl0 (C_Source_log T) (hr.mono (by decide)) pass0 (pv 1)))) pa_nil))))), ?_⟩
    walk_at "tw"
    intro D nD
    refine lc_list (K := K) (a := sl) (xs := slV ts) (fun i H' => Same H H' ∧ ∃ vs, H' D = some (.lst vs) ∧ All2 (IsLog H') vs ((logsOf ts).take i))
      ⟨Same.new nD, [], upd_same, All2.nil⟩ (fun i H' _ z => SqL.of (z.1 _ _ hsl)) ?_ ?_
    · rintro i x H' hx ⟨e, vs, hD, hvs⟩
      obtain ⟨t, ht, rfl⟩ := slV_get hx
      have hi : i < ts.length := (List.getElem?_eq_some_iff.mp ht).1
      have hSt := (hS t (List.mem_of_getElem? ht)).same e
      obtain ⟨dx, mv, rs, ds, hxx, _⟩ := id hSt
      have hz : vs.length < sizeLine := smallt (by rw [hvs.1, List.length_take]; omega)
      walk_at "tw"
      intro v H5 e5 hlog
      have hD5 := e5 _ _ hD
      walk_at "tw"
      have tk : TKeep H5 (upd H5 D (.lst (vs ++ [v]))) := TKeep.upd hD5 fun xs z => by cases z
      refine ⟨(e.trans e5).mut nD, _, upd_same, ?_⟩
      have hg : (logsOf ts)[i]? = some t.2.log := by unfold logsOf; rw [List.getElem?_map, ht]; rfl
      rw [take_succ_get hg]
      exact (hvs.mono fun _ _ z => z.mono (e5.tk.trans tk)).snoc (hlog.mono tk)
    · rintro H' ⟨e, vs, hD, hvs⟩
      rw [List.take_of_length_le (by unfold slV logsOf; rw [List.length_map, List.length_map]; exact Nat.le_refl _)] at hvs
      walk_at "tw"
      intro p np
      walk_at "tw"
      exact k _ _ (e.up np) ⟨p, vs, rfl, upd_same, hvs.mono fun _ _ z => z.mono (Same.new np).tk⟩
end
end Tw
end

section
set_option maxHeartbeats 4000000
namespace Tw
open PySem PySem.Spec PyProof.Rows L2
/-! the machine of the readings: "tw" goes on through what has one answer; it stops at a branch, a loop, a new object, what comes behind a call -/
local macro_rules | `(tactic| walk_at "tw look") => `(tactic| first
  | assumption
  | exact upd_same
  | (refine Same.new (by assumption) _ _ ?_; walk_at "tw look")
  | (refine upd_oth (by assumption) ?_; walk_at "tw look")
  | (refine upd_dif (by assumption) (by intro z; cases z) ?_; walk_at "tw look")
  | (refine upd_dif upd_same (by intro z; cases z) ?_; walk_at "tw look"))
local macro_rules | `(tactic| walk_at "tw seq") => `(tactic| first
  | assumption
  | exact SqL.of (by walk_at "tw look")
  | exact SqT.of (by walk_at "tw look")
  | exact .inl (SqL.of (by walk_at "tw look"))
  | exact .inr (SqT.of (by walk_at "tw look"))
  | exact .inl (by assumption)
  | exact dget_of (by walk_at "tw look") (by assumption)
  | exact DGet.k (k := Sum.inl _) (by walk_at "tw look")
  | exact DPut.k (k := Sum.inl _) (by walk_at "tw look") (by assumption)
  | exact .inl ⟨_, .inl (by walk_at "tw look")⟩
  | exact .inr ⟨_, .inl (by walk_at "tw look")⟩
  | exact ⟨_, SqL.of (by walk_at "tw look")⟩
  | exact ⟨_, SqT.of (by walk_at "tw look")⟩
  | exact ⟨_, by assumption⟩
  | exact .inl ⟨rfl, _, SqL.of (by walk_at "tw look")⟩)
local macro_rules | `(tactic| walk_at "tw atom") => `(tactic| first
  | with_reducible rfl
  | assumption
  | rfl
  | walk_at "tw look"
  | walk_at "tw seq"
  | omega
  | exact small (by simp; done)
  | exact smallt (by simp; done)
  | exact cdiv_of rfl
  | exact fun _ h => h
  | exact Int.natCast_pos.mpr (Nat.zero_lt_succ _)
  | exact cmul_r rfl
  | exact cmul_l rfl
  | exact Nat.le_of_ble_eq_true rfl)
local macro_rules | `(tactic| walk_at "tw step") => `(tactic| first | (with_reducible refine iteT ?_) | (with_reducible refine iteF ?_) | (with_reducible refine itf nott ?_) | (with_reducible refine itt notf ?_) | ((fail_if_success (refine ite2 (fun _ => ?_) (fun _ => ?_))); first
  | ((fail_if_success (refine (?_ : ∃ W : Nat → Nat → L2.St → Hp → Prop, _))); (fail_if_success (refine (?_ : ∃ W : Nat → Nat → Hp → Prop, _))); apply Exists.intro)
  | (apply And.intro; (walk_at "tw atom"))))
local macro_rules | `(tactic| walk_at "tw") => `(tactic| repeat walk_at "tw step")

section
variable {P : Program} {w : World} {K : PySem.W.Frag} {mg : Str → Option Value} {base : Heap}
def srcs (ts : List SL) : List Src := ts.map (·.2)
theorem logs_srcs (ts : List SL) : logsOf ts = (srcs ts).map Src.log := by unfold logsOf srcs; rw [List.map_map]; rfl
/-- the letters that are due, source by source -/
def dues (Ss : List Src) : List Letter := Ss.flatMap (·.due)
theorem mem_dues {Ss : List Src} {L : Letter} : L ∈ dues Ss ↔ ∃ S ∈ Ss, L ∈ S.due := List.mem_flatMap
theorem dues_succ {Ss : List Src} {i : Nat} {S : Src} (h : Ss[i]? = some S) : dues (Ss.take (i + 1)) = dues (Ss.take i) ++ S.due := by
  unfold dues
  rw [take_succ_get h, List.flatMap_append, List.flatMap_cons, List.flatMap_nil, List.append_nil]
theorem dues_len : ∀ {Ss : List Src} {n : Nat}, (∀ S ∈ Ss, S.due.length ≤ n) → (dues Ss).length ≤ Ss.length * n
  | [], n, _ => Nat.zero_le _
  | S :: Ss, n, h => by
    have h1 := h S List.mem_cons_self
    have h2 := dues_len (Ss := Ss) fun S' hS' => h S' (List.mem_cons_of_mem _ hS')
    show (S.due ++ dues Ss).length ≤ _
    rw [List.length_append, List.length_cons, Nat.succ_mul]
    omega
def spRight (K : PySem.W.Frag) : Sp := fun vs H Q _ => ∃ (p : V) (sl ra ma : Addr) (len : Int) (ms : List Meter) (ts : List SL) (R M : List Letter), vs = [p, .ref sl, .ref ra, .ref ma] ∧ IsPlan H p len ms ∧ H sl = some (.lst (slV ts)) ∧ SrcsAt K H ts ∧ Bag H ra R ∧ Bag H ma M ∧ Good ms (srcs ts) R M ∧
  ∀ H', Same H H' → Q (.bl true) H'
theorem C_law_right (T : Tx K mg) : Callee P w K mg base CX0 "_law_right" P_law_right 5 (spRight K) := by
  refine mk_law_right T (k := 4) (fun vs H Q E h => ?_) (fun f cdv A outer s H vs Q E hr h => ?_)
  · obtain ⟨p, sl, ra, ma, len, ms, ts, R, M, rfl, _⟩ := h
    rfl
  · obtain ⟨p, sl, ra, ma, len, ms, ts, R, M, rfl, hp, hsl, hS, hR, hM, G, k⟩ := h
    have lts : ts.length ≤ 10 := by
      have h1 := G.mfew
      rw [← G.mt] at h1
      unfold srcs at h1
      rw [List.length_map, List.length_map] at h1
      omega
    have mok := G.mok
    obtain ⟨ls, els⟩ : ∃ ls, ls = logsOf ts := ⟨_, rfl⟩
    have inls : ∀ l ∈ ls, ∃ S ∈ srcs ts, l = S.log := fun l hl => by
      rw [els, logs_srcs] at hl
      obtain ⟨S, h1, h2⟩ := List.mem_map.mp hl
      exact ⟨S, h1, h2.symm⟩
    have em : ls.map (·.m) = ms := by rw [els, logs_srcs, List.map_map, ← G.mt]; rfl
    have lok : ∀ l ∈ ls, LogOk l := fun l hl => by
      obtain ⟨S, h1, rfl⟩ := inls l hl
      exact ⟨(G.src S h1).slots, (G.src S h1).off⟩
    have sml : ∀ l ∈ ls, Small l := fun l hl => by
      obtain ⟨S, h1, rfl⟩ := inls l hl
      obtain ⟨f1, f2, _⟩ := G.few S h1
      exact ⟨Nat.le_trans f1 (by decide), fun s hs => Nat.le_trans (f2 s hs) (by decide)⟩
    have lok2 : ∀ l ∈ ls, LogOk l ∧ l.ss.length ≤ 60 := fun l hl => by
      obtain ⟨S, h1, rfl⟩ := inls l hl
      exact ⟨lok _ hl, (G.few S h1).1⟩
    have lnd : (ls.map (·.m.name)).Nodup := by
      have := mok.nd
      rw [← em, List.map_map] at this
      exact this
    have lls : ls.length ≤ 1000 := by rw [els]; unfold logsOf; rw [List.length_map]; omega
    have tr1 : ∀ L ∈ R, ∃ l ∈ ls, l.m.name = L.nm ∧ TrueL l.off l.ss L := fun L hL => by
      obtain ⟨_, ⟨S, h1, e⟩, h2⟩ := G.rcv L hL
      exact ⟨S.log, by rw [els, logs_srcs]; exact List.mem_map.mpr ⟨S, h1, rfl⟩, e, (h2 S h1 e).1⟩
    have tr2 : ∀ l ∈ ls, ∀ L ∈ R, L.nm = l.m.name → TrueL l.off l.ss L := fun l hl L hL e => by
      obtain ⟨S, h1, rfl⟩ := inls l hl
      exact ((G.rcv L hL).2.2 S h1 e.symm).1
    have lR := G.rlen
    refine ⟨_, ((pss_cons (ps_set (i := 4) sc_law_right.nd rfl (by first | exact Or.inl rfl | exact Or.inr rfl) (pe_cl (C_law_logs T) (hr.mono (by decide)) pass0 (pa_cons (pv 1) pa_nil)))
    (pss_cons (ps_if (PW.pt (pw_or (pt_cmpR op_notBl (pe_cl (C_is_history T) (hr.mono (by decide)) pass0 (pa_cons (pv 0) (pa_cons (pv 4) pa_nil))) pe_bl (nomark _)) (pw_or1 (pt_cmpR op_notBl (pe_cl (C_agrees T) (hr.mono (by decide)) pass0 (pa_cons (pv 4) (pa_cons (pv 2) pa_nil))) pe_bl (nomark _)))))
    (pss_one (ps_ret pe_bl))
    pss_nil)
    (pss_cons (ps_if (pt_cmpR op_notBl (pe_cl (C_is_possible T) (hr.mono (by decide)) pass0 (pa_cons (pv 0) (pa_cons (pv 2) pa_nil))) pe_bl (nomark _))
    (pss_one (ps_ret pe_bl))
    pss_nil)
    (pss_cons (ps_set (i := 5) sc_law_right.nd rfl (by first | exact Or.inl rfl | exact Or.inr rfl) (pe_lst pa_nil))
    (pss_cons (ps_for PassesOwn.never rfl (pi_list (pv 1)) (pg_name (i := 6) sc_law_right.nd rfl (by first | exact Or.inl rfl | exact Or.inr rfl))
    (pss_one (ps_set (i := 5) sc_law_right.nd rfl (by first | exact Or.inl rfl | exact Or.inr rfl) (pe_op op_cat (pv 5) (pe_callTy (clist (K := K)) (by rfl) T.f_list Pv.boot_list (pa_cons (pe_mcl0 (C_Source_due T) (hr.mono (by decide)) pass0 (pv 6)) pa_nil))))))
    (pss_one (ps_ret (pe_cmpR op_eq (pe_callB (clen (K := K)) (by rfl) T.f_len PySem.boot_len (pa_cons (pe_lc (own := [("_law_letter", 7)]) (g := gName 7) rfl sc_law_right.nd (pi_list (pv 3)) (blkOk_by (N := N_law_right) (sc := defScope s_law_right) (by decide +kernel)) (fun _ _ _ _ _ => (pg_name (i := 7) sc_law_right.nd rfl (by first | exact Or.inl rfl | exact Or.inr rfl))) (fun _ _ _ _ _ => pts_one (PW.pt (pw_and (pt_cmpR (opNotIn (K := K) (hu65 hr)) (pv 7) (pv 5) (by rfl)) (pw_and1 (pt_cmpR (opNotIn (K := K) (hu65 hr)) (pv 7) (pv 2) (by rfl)))))) (fun _ _ _ _ _ => (pv 7))) pa_nil)) pe_int (nomark _)))))))))), ?_⟩
    walk_at "tw"
    intro hv H1 e1 hh
    rw [← els] at hh
    have hp1 := hp.mono e1.tk
    walk_at "tw"
    intro H2 e2
    obtain ⟨rs, hra, hrs⟩ := id hR
    have hh2 := hh.mono e2.tk
    have e02 := e1.trans e2
    have hra2 := e02 _ _ hra
    have hrs2 : All2 (IsLetter H2) rs R := hrs.mono fun _ _ z => z.mono e02.tk
    walk_at "tw"
    refine itf (b := !decide (true = true)) rfl ?_
    walk_at "tw"
    intro H3 e3
    have e03 := e02.trans e3
    have hp3 := hp.mono e03.tk
    have hR3 : Bag H3 ra R := hR.mono e03
    walk_at "tw"
    refine itf (b := !decide (true = true)) rfl ?_
    walk_at "tw"
    intro H4 e4
    have e04 := e03.trans e4
    walk_at "tw"
    refine itf (b := !decide (true = true)) rfl ?_
    walk_at "tw"
    intro D nD
    have e05 := e04.up (o := .lst []) nD
    have hsl5 := e05 _ _ hsl
    walk_at "tw"
    refine for_list (K := K) (a := sl) (xs := slV ts) (fun i σ H' => (∃ (D' : Addr) (us : List V) (x6 x7 : Option V), σ = [some p, some (.ref sl), some (.ref ra), some (.ref ma), some hv, some (.ref D'), x6, x7] ∧ H' D' = some (.lst us) ∧ All2 (IsLetter H') us (dues ((srcs ts).take i))) ∧ Same H H')
      ⟨⟨D, [], _, _, rfl, upd_same, All2.nil⟩, e05⟩ (fun i σ H' _ z => SqL.of (z.2 _ _ hsl)) ?_ ?_
    · rintro i x σ H' hx ⟨⟨D', us, x6, x7, rfl, hD', hus⟩, e⟩
      obtain ⟨t, ht, rfl⟩ := slV_get hx
      have hi : i < ts.length := (List.getElem?_eq_some_iff.mp ht).1
      have hSt := (hS t (List.mem_of_getElem? ht)).same e
      obtain ⟨dx, mv, rs, ds, hxx, _⟩ := id hSt
      have htm : t.2 ∈ srcs ts := List.mem_map.mpr ⟨t, List.mem_of_getElem? ht, rfl⟩
      have hgi : (srcs ts)[i]? = some t.2 := by unfold srcs; rw [List.getElem?_map, ht]; rfl
      have few2 := (G.few t.2 htm).2.2.1
      have lus : us.length ≤ 600 := by
        rw [hus.1]
        refine Nat.le_trans (dues_len (n := 60) fun S hS => (G.few S (List.mem_of_mem_take hS)).2.2.1) ?_
        rw [List.length_take]
        omega
      walk_at "tw"
      intro tp H5 e5 htp
      obtain ⟨vs5, htp, hvs5⟩ := htp
      have lvs5 : vs5.length ≤ 60 := by rw [hvs5.1]; exact few2
      have hD5 := e5 _ _ hD'
      walk_at "tw"
      intro l nl
      have hD6 := Same.new nl (o := .lst vs5) _ _ hD5
      have hz : us.length + vs5.length ≤ sizeLine := small (by omega)
      walk_at "tw"
      intro q nq
      have e6 : Same H5 (upd (upd H5 l (.lst vs5)) q (.lst (us ++ vs5))) := (Same.new nl).up nq
      refine ⟨⟨q, us ++ vs5, some (.ref t.1.1), x7, rfl, upd_same, ?_⟩, (e.trans e5).trans e6⟩
      rw [dues_succ hgi]
      exact (hus.mono fun _ _ z => z.mono (e5.trans e6).tk).append (hvs5.mono fun _ _ z => z.mono e6.tk)
    · rintro σ H' ⟨⟨D', us, x6, x7, rfl, hD', hus⟩, e⟩
      rw [List.take_of_length_le (by unfold slV srcs; rw [List.length_map, List.length_map]; exact Nat.le_refl _)] at hus
      obtain ⟨ns, hma, hns⟩ := id hM
      have hma' := e _ _ hma
      have hra' := e _ _ hra
      have hns' : All2 (IsLetter H') ns M := hns.mono fun _ _ z => z.mono e.tk
      have hrs' : All2 (IsLetter H') rs R := hrs.mono fun _ _ z => z.mono e.tk
      have dok : ∀ L ∈ dues (srcs ts), LOk L := fun L hL => by
        obtain ⟨S, h1, h2⟩ := mem_dues.mp hL
        exact (G.few S h1).2.2.2 L h2
      have rok : ∀ L ∈ R, LOk L := fun L hL => (G.rcv L hL).1
      walk_at "tw"
      intro D2 nD2
      refine lc_list (K := K) (a := ma) (xs := ns) (fun i G => Same H' G ∧ G D2 = some (.lst []))
        ⟨Same.new nD2, upd_same⟩ (fun i G _ z => SqL.of (z.1 _ _ hma')) ?_ ?_
      · rintro i x G' hx ⟨eG, hD2⟩
        obtain ⟨L, hL, hxL⟩ := hns'.get hx
        have hLM := List.mem_of_getElem? hL
        obtain ⟨lk, or⟩ := G.made L hLM
        have hxL' := hxL.mono eG.tk
        have hD'' := eG _ _ hD'
        have hra'' := eG _ _ hra'
        have hus'' : All2 (IsLetter G') us (dues (srcs ts)) := hus.mono fun _ _ z => z.mono eG.tk
        have hrs'' : All2 (IsLetter G') rs R := hrs'.mono fun _ _ z => z.mono eG.tk
        walk_at "tw"
        refine ⟨dp_letter hxL' lk, .lst (SqL.of hD'') (dpAll_letters hus'' dok), row_shaped (items_flat lk), rows_shaped (fun l hl => by obtain ⟨L', h1, rfl⟩ := List.mem_map.mp hl; exact items_flat (dok L' h1)), ?_⟩
        rw [any_letters lk dok]
        by_cases hd : L ∈ dues (srcs ts)
        · rw [decide_eq_true hd]
          walk_at "tw"
          exact hD2
        · have hLR : L ∈ R := or.elim id fun ⟨S, h1, h2⟩ => absurd (mem_dues.mpr ⟨S, h1, h2⟩) hd
          rw [decide_eq_false hd]
          walk_at "tw"
          refine ⟨dp_letter hxL' lk, .lst (SqL.of hra'') (dpAll_letters hrs'' rok), row_shaped (items_flat lk), rows_shaped (fun l hl => by obtain ⟨L', h1, rfl⟩ := List.mem_map.mp hl; exact items_flat (rok L' h1)), ?_⟩
          rw [any_letters lk rok, decide_eq_true hLR]
          walk_at "tw"
          exact hD2
      · rintro G' ⟨eG, hD2⟩
        walk_at "tw"
        exact k _ (e.trans eG)
end
end Tw
end

section
set_option maxHeartbeats 4000000
namespace Tw
open PySem PySem.Spec PyProof.Rows L2
/-! the machine of the readings: "tw" goes on through what has one answer; it stops at a branch, a loop, a new object, what comes behind a call -/
local macro_rules | `(tactic| walk_at "tw look") => `(tactic| first
  | assumption
  | exact upd_same
  | (refine Same.new (by assumption) _ _ ?_; walk_at "tw look")
  | (refine upd_oth (by assumption) ?_; walk_at "tw look")
  | (refine upd_dif (by assumption) (by intro z; cases z) ?_; walk_at "tw look")
  | (refine upd_dif upd_same (by intro z; cases z) ?_; walk_at "tw look"))
local macro_rules | `(tactic| walk_at "tw seq") => `(tactic| first
  | assumption
  | exact SqL.of (by walk_at "tw look")
  | exact SqT.of (by walk_at "tw look")
  | exact .inl (SqL.of (by walk_at "tw look"))
  | exact .inr (SqT.of (by walk_at "tw look"))
  | exact .inl (by assumption)
  | exact dget_of (by walk_at "tw look") (by assumption)
  | exact DGet.k (k := Sum.inl _) (by walk_at "tw look")
  | exact DPut.k (k := Sum.inl _) (by walk_at "tw look") (by assumption)
  | exact .inl ⟨_, .inl (by walk_at "tw look")⟩
  | exact .inr ⟨_, .inl (by walk_at "tw look")⟩
  | exact ⟨_, SqL.of (by walk_at "tw look")⟩
  | exact ⟨_, SqT.of (by walk_at "tw look")⟩
  | exact ⟨_, by assumption⟩
  | exact .inl ⟨rfl, _, SqL.of (by walk_at "tw look")⟩)
local macro_rules | `(tactic| walk_at "tw atom") => `(tactic| first
  | with_reducible rfl
  | assumption
  | rfl
  | walk_at "tw look"
  | walk_at "tw seq"
  | omega
  | exact small (by simp; done)
  | exact smallt (by simp; done)
  | exact cdiv_of rfl
  | exact fun _ h => h
  | exact Int.natCast_pos.mpr (Nat.zero_lt_succ _)
  | exact cmul_r rfl
  | exact cmul_l rfl
  | exact Nat.le_of_ble_eq_true rfl)
local macro_rules | `(tactic| walk_at "tw step") => `(tactic| first | (with_reducible refine iteT ?_) | (with_reducible refine iteF ?_) | (with_reducible refine itf nott ?_) | (with_reducible refine itt notf ?_) | ((fail_if_success (refine ite2 (fun _ => ?_) (fun _ => ?_))); first
  | ((fail_if_success (refine (?_ : ∃ W : Nat → Nat → L2.St → Hp → Prop, _))); (fail_if_success (refine (?_ : ∃ W : Nat → Nat → Hp → Prop, _))); apply Exists.intro)
  | (apply And.intro; (walk_at "tw atom"))))
local macro_rules | `(tactic| walk_at "tw") => `(tactic| repeat walk_at "tw step")

section
variable {P : Program} {w : World} {K : PySem.W.Frag} {mg : Str → Option Value} {base : Heap}
theorem Frm.step {A A' : List Comp} {H H1 H2 : Hp} {c c' : Comp} (f : Frm A A' H H1) (i : Nat) (h : A'[i]? = some c) (g : Frm [c] [c'] H1 H2) : Frm A (A'.set i c') H H2 := f.trans (f.sep.set i h g)
theorem Frm.same {A A' : List Comp} {H H1 H2 : Hp} (f : Frm A A' H H1) (e : Same H1 H2) : Frm A A' H H2 := f.trans (f.sep.same e)
theorem frm_bag {H H' : Hp} {f : Addr} {F F' : List Letter} (k : Keep [f] H H') (h : Bag H' f F') : Frm [cBag f F] [cBag f F'] H H' := Frm.one (c := cBag f F) (c' := cBag f F') k (fun b h => h) h fun b hb => .inl hb
def spRest (K : PySem.W.Frag) : Sp := fun vs H Q _ => ∃ (sl y a : Addr) (L : List Letter) (ts : List SL), vs = [.ref sl, .ref y] ∧ Sep H ([cLn K (y, a) L] ++ [cSrcs K ts, cLst sl (slV ts)]) ∧ L.length + (dues (srcs ts)).length ≤ 5000 ∧
  ∀ f a' F H', Frm [cLn K (y, a) L] [cBag f F, cLn K (y, a') []] H H' → (∀ x, x ∈ F ↔ x ∈ L ∨ x ∈ dues (srcs ts)) → F.length ≤ L.length + (dues (srcs ts)).length → Q (.ref f) H'
theorem C_law_rest (T : Tx K mg) : Callee P w K mg base CX0 "_law_rest" P_law_rest 3 (spRest K) := by
  refine mk_law_rest T (k := 2) (fun vs H Q E h => ?_) (fun f cdv A outer s H vs Q E hr h => ?_)
  · obtain ⟨sl, y, a, L, ts, rfl, _⟩ := h
    rfl
  · obtain ⟨sl, y, a, L, ts, rfl, hs, few, k⟩ := h
    have sl0 : Sep H [cLn K (y, a) L] := ⟨fun c hc => hs.ok c (List.mem_append_left _ hc), List.pairwise_singleton ..⟩
    have hsl : H sl = some (.lst (slV ts)) := hs.ok (cLst sl (slV ts)) (by simp)
    refine ⟨_, ((pss_cons (ps_for PassesOwn.never rfl (pi_list (pv 0)) (pg_name (i := 2) sc_law_rest.nd rfl (by first | exact Or.inl rfl | exact Or.inr rfl))
    (pss_one (ps_expr (pe_mcl (C_Line_send T) (hr.mono (by decide)) pass0 (pv 1) (pa_cons (pe_mcl0 (C_Source_due T) (hr.mono (by decide)) pass0 (pv 2)) pa_nil)))))
    (pss_cons (ps_set (i := 3) sc_law_rest.nd rfl (by first | exact Or.inl rfl | exact Or.inr rfl) (pe_lst pa_nil))
    (pss_cons (ps_for PassesOwn.never rfl (pi_range1 (by rfl) T.f_range (pa_cons (pe_callB (clen (K := K)) (by rfl) T.f_len PySem.boot_len (pa_cons (pe_mcl0 (C_Line_waiting T) (hr.mono (by decide)) pass0 (pv 1)) pa_nil)) pa_nil)) (pg_name (i := 4) sc_law_rest.nd rfl (by first | exact Or.inl rfl | exact Or.inr rfl))
    (pss_one (ps_expr (pe_bm PySem.F.plainAttrs_list PySem.F.slot_list_append PySem.F.type_list_append mt_append (pv 3) (pa_cons (pe_mcl (C_Line_deliver T) (hr.mono (by decide)) pass0 (pv 1) (pa_cons (pe_op op_sub (pe_callB (clen (K := K)) (by rfl) T.f_len PySem.boot_len (pa_cons (pe_mcl0 (C_Line_waiting T) (hr.mono (by decide)) pass0 (pv 1)) pa_nil)) pe_int) pa_nil)) pa_nil)))))
    (pss_one (ps_ret (pv 3))))))), ?_⟩
    walk_at "tw"
    refine for_list (K := K) (a := sl) (xs := slV ts) (fun i σ H' => (∃ x2 x3 x4, σ = [some (.ref sl), some (.ref y), x2, x3, x4]) ∧ ∃ a', Frm [cLn K (y, a) L] [cLn K (y, a') (L ++ dues ((srcs ts).take i))] H H')
      ⟨⟨_, _, _, rfl⟩, a, by rw [List.take_zero, show dues [] = [] from rfl, List.append_nil]; exact sl0.refl⟩ (fun i σ H' _ ⟨_, a', fr⟩ => SqL.of ((hs.frm fr).sep.ok (cLst sl (slV ts)) (by simp))) ?_ ?_
    · rintro i x σ H' hx ⟨⟨x2, x3, x4, rfl⟩, a', fr⟩
      obtain ⟨t, ht, rfl⟩ := slV_get hx
      have hgi : (srcs ts)[i]? = some t.2 := by unfold srcs; rw [List.getElem?_map, ht]; rfl
      have hSt := srcs_ok ((hs.frm fr).sep.ok (cSrcs K ts) (by simp)) t (List.mem_of_getElem? ht)
      obtain ⟨dx, mv, rs, ds, hxx, _⟩ := id hSt
      have hL : LineAt K H' y a' (L ++ dues ((srcs ts).take i)) := fr.sep.ok _ (List.mem_cons_self ..)
      have hle : (L ++ dues ((srcs ts).take i)).length + t.2.due.length ≤ 10000 := by
        have h1 : dues (srcs ts) = dues ((srcs ts).take (i + 1)) ++ dues ((srcs ts).drop (i + 1)) := by
          unfold dues
          rw [← List.flatMap_append, List.take_append_drop]
        have h2 := congrArg List.length h1
        rw [dues_succ hgi, List.length_append, List.length_append] at h2
        rw [List.length_append]
        omega
      obtain ⟨dxl, rsl, hyl, _⟩ := id hL
      walk_at "tw"
      intro tp H5 e5 htp
      have hL5 := hL.same e5
      walk_at "tw"
      intro a2 H6 e6 na2 hL6
      refine ⟨⟨_, _, _, rfl⟩, a2, ?_⟩
      rw [dues_succ hgi, ← List.append_assoc]
      exact (fr.same e5).trans (frm_line e6 hL6 (.inr na2))
    · rintro σ H1 ⟨⟨x2, x3, x4, rfl⟩, a1, fr1⟩
      rw [List.take_of_length_le (by unfold slV srcs; rw [List.length_map, List.length_map]; exact Nat.le_refl _)] at fr1
      obtain ⟨L1, eL1⟩ : ∃ L1, L1 = L ++ dues (srcs ts) := ⟨_, rfl⟩
      rw [← eL1] at fr1
      have lL1 : L1.length ≤ 5000 := by rw [eL1, List.length_append]; exact few
      walk_at "tw"
      intro f nf
      have fr2 : Frm [cLn K (y, a) L] [cBag f [], cLn K (y, a1) L1] H (upd H1 f (.lst [])) := fr1.trans (fr1.sep.add (c := cBag f []) (Same.new nf) ⟨[], upd_same, All2.nil⟩ fun b hb => by rw [mem1 hb]; exact nf)
      have hL2 : LineAt K (upd H1 f (.lst [])) y a1 L1 := fr2.sep.ok (cLn K (y, a1) L1) (by simp)
      obtain ⟨dx2, rs2, hy2, _⟩ := id hL2
      walk_at "tw"
      intro tp H3 e3 htp
      obtain ⟨us, htp, hus⟩ := htp
      have lus := hus.1
      have fr3 := fr2.same e3
      walk_at "tw"
      refine for_range (fun i σ H' => (∃ x2 x4, σ = [some (.ref sl), some (.ref y), x2, some (.ref f), x4]) ∧ ∃ a' Li Fi, Frm [cLn K (y, a) L] [cBag f Fi, cLn K (y, a') Li] H H' ∧ Li.length + i = L1.length ∧ Fi.length = i ∧ ∀ x, x ∈ L1 ↔ x ∈ Li ∨ x ∈ Fi)
        ⟨⟨_, _, rfl⟩, a1, L1, [], fr3, rfl, rfl, fun x => by simp⟩ ?_ ?_
      · rintro i σ H' hi ⟨⟨x2, x4, rfl⟩, a', Li, Fi, fr, l1, l2, hm⟩
        have hi' : i < L1.length := by omega
        have hne : Li ≠ [] := fun e => by rw [e] at l1; simp at l1; omega
        obtain ⟨init, z, rfl⟩ : ∃ init z, Li = init ++ [z] := ⟨Li.dropLast, Li.getLast hne, (List.dropLast_concat_getLast hne).symm⟩
        have hLi : LineAt K H' y a' (init ++ [z]) := fr.sep.ok (cLn K (y, a') (init ++ [z])) (by simp)
        obtain ⟨dx4, rs4, hy4, _⟩ := id hLi
        rw [List.length_append, List.length_singleton] at l1
        obtain ⟨fs, hf, hfs⟩ : Bag H' f Fi := fr.sep.ok (cBag f Fi) (by simp)
        walk_at "tw"
        intro tq H5 e5 htq
        obtain ⟨ws, htq, hws⟩ := htq
        have hlen : ((ws.length : Nat) : Int) - 1 = ((init.length : Nat) : Int) := by
          have := hws.1
          rw [List.length_append, List.length_singleton] at this
          omega
        have fr5 := fr.same e5
        have hL5 := hLi.same e5
        have hz5 : (init ++ [z])[init.length]? = some z := by rw [List.getElem?_append_right (Nat.le_refl _), Nat.sub_self]; rfl
        have hle : (init ++ [z]).length ≤ 10000 := by rw [List.length_append, List.length_singleton]; omega
        have hv : ([V.ref y, V.int (((ws.length : Nat) : Int) - 1)] : List V) = [V.ref y, V.int ((init.length : Nat) : Int)] := by rw [hlen]
        walk_at "tw"
        rw [show (init ++ [z]).eraseIdx init.length = init by rw [List.eraseIdx_append_of_length_le (Nat.le_refl _), Nat.sub_self]; simp]
        intro v H6 e6 hL6 hvz
        have fr6 := fr5.step 1 (c := cLn K (y, a') (init ++ [z])) rfl (frm_line e6 hL6 (.inl rfl))
        obtain ⟨fs6, hf6, hfs6⟩ : Bag H6 f Fi := fr6.sep.ok (cBag f Fi) (List.mem_cons_self ..)
        have hz6 : fs6.length < sizeLine := smallt (by rw [hfs6.1]; omega)
        walk_at "tw"
        have tk : TKeep H6 (upd H6 f (.lst (fs6 ++ [v]))) := TKeep.upd hf6 fun xs q => by cases q
        have fr7 := fr6.step 0 (c := cBag f Fi) rfl (frm_bag (F' := Fi ++ [z]) (Keep.upd (by simp)) ⟨fs6 ++ [v], upd_same, (hfs6.snoc hvz).mono fun _ _ q => q.mono tk⟩)
        exact ⟨⟨_, _, rfl⟩, a', init, Fi ++ [z], fr7, by omega, by rw [List.length_append, List.length_singleton, l2], fun x => by
          rw [hm x, List.mem_append, List.mem_append, List.mem_singleton, or_assoc, or_comm (a := x = z)]⟩
      · rintro σ H' ⟨⟨x2, x4, rfl⟩, a', Li, Fi, fr, l1, l2, hm⟩
        have hLi0 : Li = [] := List.length_eq_zero_iff.mp (by omega)
        subst hLi0
        walk_at "tw"
        refine k f a' Fi H' fr (fun x => ?_) ?_
        · rw [← List.mem_append, ← eL1, hm]
          simp
        · rw [← List.length_append, ← eL1]
          omega
end
end Tw
end

section
set_option maxHeartbeats 4000000
namespace Tw
open PySem PySem.Spec PyProof.Rows L2
/-! the machine of the readings: "tw" goes on through what has one answer; it stops at a branch, a loop, a new object, what comes behind a call -/
local macro_rules | `(tactic| walk_at "tw look") => `(tactic| first
  | assumption
  | exact upd_same
  | (refine Same.new (by assumption) _ _ ?_; walk_at "tw look")
  | (refine upd_oth (by assumption) ?_; walk_at "tw look")
  | (refine upd_dif (by assumption) (by intro z; cases z) ?_; walk_at "tw look")
  | (refine upd_dif upd_same (by intro z; cases z) ?_; walk_at "tw look"))
local macro_rules | `(tactic| walk_at "tw seq") => `(tactic| first
  | assumption
  | exact SqL.of (by walk_at "tw look")
  | exact SqT.of (by walk_at "tw look")
  | exact .inl (SqL.of (by walk_at "tw look"))
  | exact .inr (SqT.of (by walk_at "tw look"))
  | exact .inl (by assumption)
  | exact dget_of (by walk_at "tw look") (by assumption)
  | exact DGet.k (k := Sum.inl _) (by walk_at "tw look")
  | exact DPut.k (k := Sum.inl _) (by walk_at "tw look") (by assumption)
  | exact .inl ⟨_, .inl (by walk_at "tw look")⟩
  | exact .inr ⟨_, .inl (by walk_at "tw look")⟩
  | exact ⟨_, SqL.of (by walk_at "tw look")⟩
  | exact ⟨_, SqT.of (by walk_at "tw look")⟩
  | exact ⟨_, by assumption⟩
  | exact .inl ⟨rfl, _, SqL.of (by walk_at "tw look")⟩)
local macro_rules | `(tactic| walk_at "tw atom") => `(tactic| first
  | with_reducible rfl
  | assumption
  | rfl
  | walk_at "tw look"
  | walk_at "tw seq"
  | omega
  | exact small (by simp; done)
  | exact smallt (by simp; done)
  | exact cdiv_of rfl
  | exact fun _ h => h
  | exact Int.natCast_pos.mpr (Nat.zero_lt_succ _)
  | exact cmul_r rfl
  | exact cmul_l rfl
  | exact Nat.le_of_ble_eq_true rfl)
local macro_rules | `(tactic| walk_at "tw step") => `(tactic| first | (with_reducible refine iteT ?_) | (with_reducible refine iteF ?_) | (with_reducible refine itf nott ?_) | (with_reducible refine itt notf ?_) | ((fail_if_success (refine ite2 (fun _ => ?_) (fun _ => ?_))); first
  | ((fail_if_success (refine (?_ : ∃ W : Nat → Nat → L2.St → Hp → Prop, _))); (fail_if_success (refine (?_ : ∃ W : Nat → Nat → Hp → Prop, _))); apply Exists.intro)
  | (apply And.intro; (walk_at "tw atom"))))
local macro_rules | `(tactic| walk_at "tw") => `(tactic| repeat walk_at "tw step")

section
variable {P : Program} {w : World} {K : PySem.W.Frag} {mg : Str → Option Value} {base : Heap}
/-- the parts that a move may write -/
def mvW (K : PySem.W.Frag) (d y a : Addr) (L : List Letter) (ts : List SL) (ra : Addr) (R : List Letter) : List Comp := [cDraw d, cLn K (y, a) L, cSrcs K ts, cBag ra R]
/-- the letter may have been struck from what is due -/
structure Ackd (z : Letter) (ts ts' : List SL) : Prop where
  sv : slV ts' = slV ts
  src : ∀ (j : Nat) S S', (srcs ts)[j]? = some S → (srcs ts')[j]? = some S' → ∃ ds, S' = { S with due := ds } ∧ ds.length ≤ S.due.length ∧ (∀ L ∈ ds, L ∈ S.due) ∧ ∀ L ∈ S.due, L ∈ ds ∨ L = z
theorem Ackd.refl (z : Letter) (ts : List SL) : Ackd z ts ts := ⟨rfl, fun j S S' h h' => by rw [h] at h'; cases h'; exact ⟨S.due, rfl, Nat.le_refl _, fun _ h => h, fun _ h => .inl h⟩⟩
theorem srcs_set' (ts : List SL) (j : Nat) (t : SL) : srcs (ts.set j t) = (srcs ts).set j t.2 := by unfold srcs; rw [List.map_set]
theorem slV_len {ts ts' : List SL} (h : slV ts' = slV ts) : ts'.length = ts.length := by
  have := congrArg List.length h
  unfold slV at this
  rw [List.length_map, List.length_map] at this
  exact this
theorem Ackd.step {z : Letter} {ts ts' : List SL} (h : Ackd z ts ts') {j : Nat} {t : SL} (ht : ts'[j]? = some t) (da : Addr) : Ackd z ts (ts'.set j ((t.1.1, t.1.2.1, da), { t.2 with due := t.2.due.filter fun M => decide (M ≠ z) })) := by
  refine ⟨?_, fun i S S' hi hi' => ?_⟩
  · rw [← h.sv]
    unfold slV
    rw [List.map_set]
    refine List.ext_getElem? fun i => ?_
    by_cases q : j = i
    · subst q
      rw [List.getElem?_set_self (by rw [List.length_map]; exact (List.getElem?_eq_some_iff.mp ht).1), List.getElem?_map, ht]
      rfl
    · rw [List.getElem?_set_ne q]
  · rw [srcs_set'] at hi'
    by_cases q : j = i
    · subst q
      have hl := (List.getElem?_eq_some_iff.mp ht).1
      have ht' : (srcs ts')[j]? = some t.2 := by unfold srcs; rw [List.getElem?_map, ht]; rfl
      rw [List.getElem?_set_self (by unfold srcs; rw [List.length_map]; exact hl)] at hi'
      cases hi'
      obtain ⟨ds, e, h1, h2, h3⟩ := h.src j S t.2 hi ht'
      rw [e]
      refine ⟨ds.filter fun M => decide (M ≠ z), rfl, Nat.le_trans (List.length_filter_le _ _) h1, fun L hL => h2 L (List.mem_filter.mp hL).1, fun L hL => ?_⟩
      rcases h3 L hL with g | g
      · by_cases e : L = z
        · exact .inr e
        · exact .inl (List.mem_filter.mpr ⟨g, decide_eq_true e⟩)
      · exact .inr g
    · rw [List.getElem?_set_ne q] at hi'
      exact h.src i S S' hi hi'
theorem Ackd.fit {z : Letter} {ts ts' : List SL} (h : Ackd z ts ts') (hf : ∀ t ∈ ts, t.2.Fit) {j : Nat} {t : SL} (ht : ts'[j]? = some t) : t.2.Fit ∧ ∃ t0, ts[j]? = some t0 ∧ t0.2.m = t.2.m := by
  have hj : j < ts.length := by rw [← slV_len h.sv]; exact (List.getElem?_eq_some_iff.mp ht).1
  have h0 := List.getElem?_eq_getElem hj
  have h1 : (srcs ts)[j]? = some ts[j].2 := by unfold srcs; rw [List.getElem?_map, h0]; rfl
  have h2 : (srcs ts')[j]? = some t.2 := by unfold srcs; rw [List.getElem?_map, ht]; rfl
  obtain ⟨ds, e, h3, h4, h5⟩ := h.src j _ _ h1 h2
  have f := hf _ (List.getElem_mem hj)
  refine ⟨?_, _, h0, by rw [e]⟩
  rw [e]
  exact ⟨f.str, fun L hL => f.dok L (h4 L hL), Nat.le_trans h3 f.fewd, f.fews, f.fewv⟩
def spMoves (K : PySem.W.Frag) : Sp := fun vs H Q _ => ∃ (d y a sl ra : Addr) (p : V) (L R : List Letter) (ts : List SL) (len : Int) (ms : List Meter), vs = [.ref d, .ref y, .ref sl, p, .ref ra] ∧ Sep H (mvW K d y a L ts ra R ++ [cLst sl (slV ts), cPlan p len ms]) ∧
  (∀ t ∈ ts, t.2.Fit) ∧ (srcs ts).map (·.m) = ms ∧ ts.length ≤ 1000 ∧ (∀ x ∈ L, LOk x) ∧ L.length ≤ 5000 ∧ R.length ≤ 5000 ∧
  ∀ a' L' ts' ra' R' H', Frm (mvW K d y a L ts ra R) (mvW K d y a' L' ts' ra' R') H H' → slV ts' = slV ts → Mv L L' (srcs ts) (srcs ts') R R' → Q (.ref ra') H'
theorem Mv.same {l l' : List Letter} {Ss : List Src} {R : List Letter} (h : ∀ L ∈ l', L ∈ l) (n : l'.length ≤ l.length + 1) : Mv l l' Ss Ss R R := ⟨h, n, fun _ h => .inl h, fun _ h => h, Nat.le_succ _, rfl, fun j S S' h h' => by rw [h] at h'; cases h'; exact ⟨S.due, rfl, Nat.le_refl _, fun _ h => h, fun _ h => .inl h⟩⟩
theorem C_law_moves (T : Tx K mg) : Callee P w K mg base CX0 "_law_moves" P_law_moves 3 (spMoves K) := by
  refine mk_law_moves T (k := 2) (fun vs H Q E h => ?_) (fun f cdv A outer s H vs Q E hr h => ?_)
  · obtain ⟨d, y, a, sl, ra, p, L, R, ts, len, ms, rfl, _⟩ := h
    rfl
  · obtain ⟨d, y, a, sl, ra, p, L, R, ts, len, ms, rfl, hs, fit, em, lts, lok, lL, lR, k⟩ := h
    have s0 : Sep H (mvW K d y a L ts ra R) := ⟨fun c hc => hs.ok c (List.mem_append_left _ hc), (List.pairwise_append.mp hs.ap).1⟩
    have hL : LineAt K H y a L := s0.ok (cLn K (y, a) L) (by simp [mvW])
    obtain ⟨dxl, rsl, hyl, _⟩ := id hL
    refine ⟨_, ((pss_cons (ps_set (i := 5) sc_law_moves.nd rfl (by first | exact Or.inl rfl | exact Or.inr rfl) (pe_callB (clen (K := K)) (by rfl) T.f_len PySem.boot_len (pa_cons (pe_mcl0 (C_Line_waiting T) (hr.mono (by decide)) pass0 (pv 1)) pa_nil)))
    (pss_cons (ps_set (i := 6) sc_law_moves.nd rfl (by first | exact Or.inl rfl | exact Or.inr rfl) (pe_cl (C_law_takeD T) (hr.mono (by decide)) pass0 (pa_cons (pv 0) (pa_cons pe_int pa_nil))))
    (pss_cons (ps_if (pt_cmpR op_eq (pv 5) pe_int (nomark _))
    (pss_one (ps_ret (pv 4)))
    pss_nil)
    (pss_cons (ps_set (i := 7) sc_law_moves.nd rfl (by first | exact Or.inl rfl | exact Or.inr rfl) (pe_cl (C_law_takeD T) (hr.mono (by decide)) pass0 (pa_cons (pv 0) (pa_cons (pv 5) pa_nil))))
    (pss_cons (ps_if (pt_cmpR op_eq (pv 6) pe_int (nomark _))
    (pss_one (ps_expr (pe_mcl (C_Line_lose T) (hr.mono (by decide)) pass0 (pv 1) (pa_cons (pv 7) pa_nil))))
    (pss_one (ps_if (pt_cmpR op_eq (pv 6) pe_int (nomark _))
    (pss_one (ps_expr (pe_mcl (C_Line_double T) (hr.mono (by decide)) pass0 (pv 1) (pa_cons (pv 7) pa_nil))))
    (pss_cons (ps_set (i := 8) sc_law_moves.nd rfl (by first | exact Or.inl rfl | exact Or.inr rfl) (pe_mcl (C_Line_deliver T) (hr.mono (by decide)) pass0 (pv 1) (pa_cons (pv 7) pa_nil)))
    (pss_cons (ps_if (pt_cmpR op_lt (pv 6) pe_int (nomark _))
    (pss_one (ps_for PassesOwn.never rfl (pi_range1 (by rfl) T.f_range (pa_cons (pe_callB (clen (K := K)) (by rfl) T.f_len PySem.boot_len (pa_cons (pv 2) pa_nil)) pa_nil)) (pg_name (i := 9) sc_law_moves.nd rfl (by first | exact Or.inl rfl | exact Or.inr rfl))
    (pss_one (ps_if (pt_cmpR op_eq (pe_ix (ixT (K := K)) (pe_ix (ixT (K := K)) (pe_ix (ixT (K := K)) (pv 3) pe_int (fun _ _ => rfl)) (pv 9) (fun _ _ => rfl)) pe_int (fun _ _ => rfl)) (pe_ix (ixT (K := K)) (pv 8) pe_int (fun _ _ => rfl)) (nomark _))
    (pss_one (ps_expr (pe_mcl (C_Source_acknowledge T) (hr.mono (by decide)) pass0 (pe_ix (ixL (K := K)) (pv 2) (pv 9) (fun _ _ => rfl)) (pa_cons (pv 8) pa_nil))))
    pss_nil))))
    pss_nil)
    (pss_one (ps_ret (pe_op op_cat (pv 4) (pe_lst (pa_cons (pv 8) pa_nil))))))))))
    (pss_one (ps_ret (pv 4))))))))), ?_⟩
    walk_at "tw"
    intro tp H1 e1 htp
    obtain ⟨us, htp, hus⟩ := htp
    have lus := hus.1
    have f1 := s0.same e1
    have hd1 : Draw H1 d := f1.sep.ok (cDraw d) (by simp [mvW])
    walk_at "tw"
    intro n H2 g2 hd2 n0 n1
    have f2 := f1.step 0 (c := cDraw d) rfl (frm_draw g2 hd2)
    rw [show (mvW K d y a L ts ra R).set 0 (cDraw d) = mvW K d y a L ts ra R from rfl] at f2
    walk_at "tw"
    refine ite2 (fun _ => ?_) (fun hc => ?_)
    · walk_at "tw"
      exact k a L ts ra R H2 f2 rfl (Mv.same (fun _ h => h) (Nat.le_succ _))
    · have hus0 : (0 : Int) < ((us.length : Nat) : Int) := by
        have : us.length ≠ 0 := fun e => hc (int_eq (by rw [e]; rfl))
        omega
      walk_at "tw"
      intro r H3 g3 hd3 r0 r1
      have f3 := f2.step 0 (c := cDraw d) rfl (frm_draw g3 hd3)
      rw [show (mvW K d y a L ts ra R).set 0 (cDraw d) = mvW K d y a L ts ra R from rfl] at f3
      obtain ⟨j, rfl⟩ : ∃ j : Nat, r = (j : Int) := ⟨r.toNat, by omega⟩
      have hj : j < L.length := by omega
      obtain ⟨z, hz⟩ : ∃ z, L[j]? = some z := ⟨L[j], List.getElem?_eq_getElem hj⟩
      have lL10 : L.length ≤ 10000 := by omega
      have hL3 : LineAt K H3 y a L := f3.sep.ok (cLn K (y, a) L) (by simp [mvW])
      obtain ⟨dx3, rs3, hy3, _⟩ := id hL3
      walk_at "tw"
      refine ite2 (fun _ => ?_) (fun _ => ?_)
      · walk_at "tw"
        intro H4 g4 hL4
        walk_at "tw"
        exact k a _ ts ra R H4 (f3.step 1 (c := cLn K (y, a) L) rfl (frm_line g4 hL4 (.inl rfl))) rfl (Mv.same (fun _ h => List.mem_of_mem_eraseIdx h) (by have := List.length_eraseIdx_le L j; omega))
      · walk_at "tw"
        refine ite2 (fun _ => ?_) (fun _ => ?_)
        · walk_at "tw"
          intro H4 g4 hL4
          walk_at "tw"
          refine k a _ ts ra R H4 (f3.step 1 (c := cLn K (y, a) L) rfl (frm_line g4 hL4 (.inl rfl))) rfl (Mv.same (fun x h => ?_) (by rw [List.length_append]; exact Nat.le_refl _))
          rcases List.mem_append.mp h with h | h
          · exact h
          · rw [List.mem_singleton.mp h]; exact List.mem_of_getElem? hz
        · walk_at "tw"
          intro v H4 g4 hL4 hv
          have f4 := f3.step 1 (c := cLn K (y, a) L) rfl (frm_line g4 hL4 (.inl rfl))
          rw [show (mvW K d y a L ts ra R).set 1 (cLn K (y, a) (L.eraseIdx j)) = mvW K d y a (L.eraseIdx j) ts ra R from rfl] at f4
          have lz : LOk z := lok z (List.mem_of_getElem? hz)
          have fin : ∀ (ts' : List SL) (G : Hp), Frm (mvW K d y a L ts ra R) (mvW K d y a (L.eraseIdx j) ts' ra R) H G → Ackd z ts ts' → IsLetter G v z → ∀ q, G q = none → ∀ q2, (upd G q (.lst [v])) q2 = none → ∀ rs, G ra = some (.lst rs) →
              Q (.ref q2) (upd (upd G q (.lst [v])) q2 (.lst (rs ++ [v]))) := fun ts' G fr ak hv q nq q2 nq2 rs hra => by
            have e : Same G (upd (upd G q (.lst [v])) q2 (.lst (rs ++ [v]))) := (Same.new nq).up nq2
            obtain ⟨rs', hra', hrs⟩ : Bag G ra R := fr.sep.ok (cBag ra R) (by simp [mvW])
            rw [hra] at hra'
            cases hra'
            have g : Frm [cBag ra R] [cBag q2 (R ++ [z])] G (upd (upd G q (.lst [v])) q2 (.lst (rs ++ [v]))) := Frm.one (c := cBag ra R) (c' := cBag q2 (R ++ [z])) (e.keep []) (fun b h => by cases h) ⟨rs ++ [v], upd_same, (hrs.snoc hv).mono fun _ _ x => x.mono e.tk⟩ fun b hb => by rw [mem1 hb]; exact .inr ((Same.new nq).none nq2)
            refine k a (L.eraseIdx j) ts' q2 (R ++ [z]) _ (fr.step 3 (c := cBag ra R) rfl g) ak.sv ⟨fun _ h => List.mem_of_mem_eraseIdx h, by have := List.length_eraseIdx_le L j; omega, fun x h => ?_, fun x h => List.mem_append_left _ h, by rw [List.length_append]; exact Nat.le_refl _, by unfold srcs; rw [List.length_map, List.length_map]; exact slV_len ak.sv, fun i S S' h h' => ?_⟩
            · rcases List.mem_append.mp h with h | h
              · exact .inl h
              · rw [List.mem_singleton.mp h]; exact .inr (List.mem_of_getElem? hz)
            · obtain ⟨ds, e1, e2, e3, e4⟩ := ak.src i S S' h h'
              exact ⟨ds, e1, e2, e3, fun x hx => (e4 x hx).imp id fun e => by rw [e]; exact List.mem_append_right _ (List.mem_singleton.mpr rfl)⟩
          have hs4 := hs.frm f4
          have hsl4 : H4 sl = some (.lst (slV ts)) := hs4.sep.ok (cLst sl (slV ts)) (by simp)
          walk_at "tw"
          refine ite3 (fun _ => ?_) (fun _ => ?_)
          · obtain ⟨xs, exs⟩ : ∃ xs, xs = slV ts := ⟨_, rfl⟩
            have lxs : xs.length = ts.length := by rw [exs]; unfold slV; rw [List.length_map]
            rw [← exs] at hsl4
            clear n0 n1 r0 r1 hus0
            walk_at "tw"
            refine for_range (fun i σ H' => (∃ x9, σ = [some (.ref d), some (.ref y), some (.ref sl), some p, some (.ref ra), some (.int (us.length : Nat)), some (.int n), some (.int (j : Nat)), some v, x9]) ∧
                ∃ ts', Frm (mvW K d y a L ts ra R) (mvW K d y a (L.eraseIdx j) ts' ra R) H H' ∧ Ackd z ts ts' ∧ IsLetter H' v z)
              ⟨⟨_, rfl⟩, ts, f4, Ackd.refl z ts, hv⟩ ?_ ?_
            · rintro i σ H' hi ⟨⟨x9, rfl⟩, ts', fr, ak, hv'⟩
              have hi' : i < ts.length := by omega
              have hs' := (hs.frm fr).sep
              have hsl' : H' sl = some (.lst (slV ts)) := hs'.ok (cLst sl (slV ts)) (by simp)
              obtain ⟨pa, pb, vs, rfl, hpa, hpb, hms⟩ : IsPlan H' p len ms := hs'.ok (cPlan p len ms) (by simp)
              obtain ⟨t, ht⟩ : ∃ t, ts'[i]? = some t := ⟨ts'[i]'(by rw [slV_len ak.sv]; exact hi'), List.getElem?_eq_getElem _⟩
              obtain ⟨ft, t0, ht0, em0⟩ := ak.fit fit ht
              have hm : ms[i]? = some t.2.m := by
                rw [← em, ← em0]
                unfold srcs
                rw [List.map_map, List.getElem?_map, ht0]
                rfl
              obtain ⟨mv, hmv, ⟨ma, rfl, hma⟩⟩ := hms.get' hm
              have hSt : SrcAt K H' t.1.1 t.1.2.1 t.1.2.2 t.2 := srcs_ok (fr.sep.ok (cSrcs K ts') (by simp [mvW])) t (List.mem_of_getElem? ht)
              have hxt : (slV ts)[i]? = some (.ref t.1.1) := by
                rw [← ak.sv]
                unfold slV
                rw [List.getElem?_map, ht]
                rfl
              obtain ⟨dx, mv', rs, ds, hxx, _⟩ := id hSt
              obtain ⟨va, rfl, hva⟩ := id hv'
              have at1 : atI vs (0 + (i : Int)) = some (.ref ma) := by rw [Int.zero_add]; exact atI_nat hmv
              have at2 : atI (slV ts) (0 + (i : Int)) = some (.ref t.1.1) := by rw [Int.zero_add]; exact atI_nat hxt
              have at3 := items_1 z
              walk_at "tw"
              refine ite2 (fun _ => ?_) (fun _ => ?_)
              · walk_at "tw"
                intro da' H5 e5 nda hS5
                walk_at "tw"
                have g := frm_src (S := t.2) (da' := da') (e5.mono (S' := [t.1.1, t.1.2.1, t.1.2.2]) (by simp)) hS5 (.inr nda)
                have hc : (cSrcs K ts').ok H' := fr.sep.ok (cSrcs K ts') (by simp [mvW])
                have fr5 := fr.step 2 (c := cSrcs K ts') rfl (srcs_set hc ht (t' := ((t.1.1, t.1.2.1, da'), { t.2 with due := t.2.due.filter fun M => decide (M ≠ z) })) g)
                exact ⟨⟨_, rfl⟩, _, fr5, ak.step ht da', hv'.mono (hSt.tk (e5.mono (by simp)))⟩
              · walk_at "tw"
                exact ⟨⟨_, rfl⟩, ts', fr, ak, hv'⟩
            · rintro σ H' ⟨⟨x9, rfl⟩, ts', fr, ak, hv'⟩
              obtain ⟨rs', hra', hrs⟩ : Bag H' ra R := fr.sep.ok (cBag ra R) (by simp [mvW])
              have lrs := hrs.1
              walk_at "tw"
              intro q nq
              have hra2 := Same.new nq (o := .lst [v]) _ _ hra'
              have hz : rs'.length + [v].length ≤ sizeLine := small (by show rs'.length + 1 ≤ _; omega)
              walk_at "tw"
              intro q2 nq2
              exact fin ts' H' fr ak hv' q nq q2 nq2 rs' hra'
          · obtain ⟨rs', hra', hrs⟩ : Bag H4 ra R := f4.sep.ok (cBag ra R) (by simp [mvW])
            have lrs := hrs.1
            walk_at "tw"
            intro q nq
            have hra2 := Same.new nq (o := .lst [v]) _ _ hra'
            have hz : rs'.length + [v].length ≤ sizeLine := small (by show rs'.length + 1 ≤ _; omega)
            walk_at "tw"
            intro q2 nq2
            exact fin ts H4 f4 (Ackd.refl z ts) hv q nq q2 nq2 rs' hra'
end
end Tw
end

section
set_option maxHeartbeats 4000000
namespace Tw
open PySem PySem.Spec PyProof.Rows L2
/-! the machine of the readings: "tw" goes on through what has one answer; it stops at a branch, a loop, a new object, what comes behind a call -/
local macro_rules | `(tactic| walk_at "tw look") => `(tactic| first
  | assumption
  | exact upd_same
  | (refine Same.new (by assumption) _ _ ?_; walk_at "tw look")
  | (refine upd_oth (by assumption) ?_; walk_at "tw look")
  | (refine upd_dif (by assumption) (by intro z; cases z) ?_; walk_at "tw look")
  | (refine upd_dif upd_same (by intro z; cases z) ?_; walk_at "tw look"))
local macro_rules | `(tactic| walk_at "tw seq") => `(tactic| first
  | assumption
  | exact SqL.of (by walk_at "tw look")
  | exact SqT.of (by walk_at "tw look")
  | exact .inl (SqL.of (by walk_at "tw look"))
  | exact .inr (SqT.of (by walk_at "tw look"))
  | exact .inl (by assumption)
  | exact dget_of (by walk_at "tw look") (by assumption)
  | exact DGet.k (k := Sum.inl _) (by walk_at "tw look")
  | exact DPut.k (k := Sum.inl _) (by walk_at "tw look") (by assumption)
  | exact .inl ⟨_, .inl (by walk_at "tw look")⟩
  | exact .inr ⟨_, .inl (by walk_at "tw look")⟩
  | exact ⟨_, SqL.of (by walk_at "tw look")⟩
  | exact ⟨_, SqT.of (by walk_at "tw look")⟩
  | exact ⟨_, by assumption⟩
  | exact .inl ⟨rfl, _, SqL.of (by walk_at "tw look")⟩)
local macro_rules | `(tactic| walk_at "tw atom") => `(tactic| first
  | with_reducible rfl
  | assumption
  | rfl
  | walk_at "tw look"
  | walk_at "tw seq"
  | omega
  | exact small (by simp; done)
  | exact smallt (by simp; done)
  | exact cdiv_of rfl
  | exact fun _ h => h
  | exact Int.natCast_pos.mpr (Nat.zero_lt_succ _)
  | exact cmul_r rfl
  | exact cmul_l rfl
  | exact Nat.le_of_ble_eq_true rfl)
local macro_rules | `(tactic| walk_at "tw step") => `(tactic| first | (with_reducible refine iteT ?_) | (with_reducible refine iteF ?_) | (with_reducible refine itf nott ?_) | (with_reducible refine itt notf ?_) | ((fail_if_success (refine ite2 (fun _ => ?_) (fun _ => ?_))); first
  | ((fail_if_success (refine (?_ : ∃ W : Nat → Nat → L2.St → Hp → Prop, _))); (fail_if_success (refine (?_ : ∃ W : Nat → Nat → Hp → Prop, _))); apply Exists.intro)
  | (apply And.intro; (walk_at "tw atom"))))
local macro_rules | `(tactic| walk_at "tw") => `(tactic| repeat walk_at "tw step")

section
variable {P : Program} {w : World} {K : PySem.W.Frag} {mg : Str → Option Value} {base : Heap}
theorem cpow18 : CPow 10 18 := ⟨by decide, by decide, by decide⟩
theorem cpow15 : CPow 10 15 := ⟨by decide, by decide, by decide⟩
theorem cpow20 : CPow 10 20 := ⟨by decide, by decide, by decide⟩
def spDraws (K : PySem.W.Frag) : Sp := fun vs H Q _ => ∃ (a : Addr) (many : Int) (ns : List Int), vs = [.ref a, .int many] ∧ Scr K H a ns ∧ ns.length ≤ 63 ∧ 0 ≤ many ∧ many ≤ 1000 ∧ ∀ d H', Same H H' → H d = none → Draw H' d → Q (.ref d) H'
theorem C_law_draws (T : Tx K mg) : Callee P w K mg base CX0 "_law_draws" P_law_draws 1 (spDraws K) := by
  refine mk_law_draws T (k := 0) (fun vs H Q E h => ?_) (fun f cdv A outer s H vs Q E hr h => ?_)
  · obtain ⟨a, many, ns, rfl, _⟩ := h
    rfl
  · obtain ⟨a, many, ns, rfl, hs, few, hm0, hm1, k⟩ := h
    have hs' : SqL K H a (ns.map V.int) := hs
    refine ⟨_, ((pss_cons (ps_setLc (i := 2) (own := [("_law_cell_here", 8)]) (g := gName 8) (tt := tYes) rfl sc_law_draws.nd rfl rfl (sw_true rfl rfl rfl (by decide +kernel)) (pi_list (pv 0)) (blkOk_by (N := N_law_draws) (sc := defScope s_law_draws) (by decide +kernel)) (fun _ _ _ _ _ => (pg_name (i := 8) sc_law_draws.nd rfl (by first | exact Or.inl rfl | exact Or.inr rfl))) (fun _ _ _ _ _ => pts_nil) (fun _ _ _ _ _ => (pe_callTy cint (by rfl) T.f_int Pv.boot_int (pa_cons (pv 8) pa_nil))))
    (pss_cons (ps_cut (ps_if (pt_cmpR op_eq (pe_callB (clen (K := K)) (by rfl) T.f_len PySem.boot_len (pa_cons (pv 2) pa_nil)) pe_int (nomark _))
    (pss_one (ps_expr (pe_bm PySem.F.plainAttrs_list PySem.F.slot_list_append PySem.F.type_list_append mt_append (pv 2) (pa_cons pe_int pa_nil))))
    pss_nil))
    (pss_cons (ps_set (i := 3) sc_law_draws.nd rfl (by first | exact Or.inl rfl | exact Or.inr rfl) (pe_callTy (clist (K := K)) (by rfl) T.f_list Pv.boot_list (pa_cons (pv 2) pa_nil)))
    (pss_cons (ps_set (i := 4) sc_law_draws.nd rfl (by first | exact Or.inl rfl | exact Or.inr rfl) (pe_lst pa_nil))
    (pss_cons (ps_for PassesOwn.never rfl (pi_range1 (by rfl) T.f_range (pa_cons (pv 1) pa_nil)) (pg_name (i := 5) sc_law_draws.nd rfl (by first | exact Or.inl rfl | exact Or.inr rfl))
    (pss_cons (ps_set (i := 6) sc_law_draws.nd rfl (by first | exact Or.inl rfl | exact Or.inr rfl) (pe_op op_mod (pv 5) (pe_callB (clen (K := K)) (by rfl) T.f_len PySem.boot_len (pa_cons (pv 2) pa_nil))))
    (pss_one (ps_if (pt_cmpR op_ge (pe_ix (ixL (K := K)) (pv 2) (pv 6) (fun _ _ => rfl)) (pe_op op_pow pe_int pe_int) (nomark _))
    (pss_cons (ps_expr (pe_bm PySem.F.plainAttrs_list PySem.F.slot_list_append PySem.F.type_list_append mt_append (pv 4) (pa_cons (pe_op op_mod (pe_callTy cint (by rfl) T.f_int Pv.boot_int (pa_cons (pe_ix (ixL (K := K)) (pv 3) (pv 6) (fun _ _ => rfl)) pa_nil)) pe_int) pa_nil)))
    (pss_one (ps_asg (pe_op op_fdiv (pe_ix (ixL (K := K)) (pv 3) (pv 6) (fun _ _ => rfl)) pe_int) (pg_sub (pv 3) (pv 6) set_list))))
    (pss_cons (ps_set (i := 7) sc_law_draws.nd rfl (by first | exact Or.inl rfl | exact Or.inr rfl) (pe_op op_mod (pe_callTy cint (by rfl) T.f_int Pv.boot_int (pa_cons (pe_op op_add (pe_op op_add (pe_op op_mul (pe_ix (ixL (K := K)) (pv 2) (pv 6) (fun _ _ => rfl)) pe_int) (pe_op op_mul (pv 5) pe_int)) pe_int) pa_nil)) pe_int))
    (pss_one (ps_expr (pe_bm PySem.F.plainAttrs_list PySem.F.slot_list_append PySem.F.type_list_append mt_append (pv 4) (pa_cons (pe_op op_mod (pe_callTy cint (by rfl) T.f_int Pv.boot_int (pa_cons (pe_op op_add (pe_op op_add (pe_op op_mul (pv 7) (pv 7)) (pe_op op_mul pe_int (pv 7))) (pv 5)) pa_nil)) pe_int) pa_nil)))))))))
    (pss_cons (ps_expr (pe_bm0 PySem.F.plainAttrs_list PySem.F.slot_list_reverse PySem.F.type_list_reverse mt_reverse (pv 4)))
    (pss_one (ps_ret (pv 4)))))))))), ?_⟩
    walk_at "tw"
    intro D nD
    refine lc_list (K := K) (a := a) (xs := ns.map V.int) (fun i H' => Same H H' ∧ H' D = some (.lst ((ns.take i).map V.int)))
      ⟨Same.new nD, upd_same⟩ (fun i H' _ z => hs.same z.1) ?_ ?_
    · rintro i x H' hx ⟨e, hD⟩
      rw [List.getElem?_map] at hx
      obtain ⟨y, hy, rfl⟩ : ∃ y, ns[i]? = some y ∧ V.int y = x := by
        cases z : ns[i]? with
        | none => rw [z] at hx; cases hx
        | some y => rw [z] at hx; exact ⟨y, rfl, Option.some.inj hx⟩
      have hz : ((ns.take i).map V.int).length < sizeLine := smallt (by rw [List.length_map, List.length_take]; omega)
      have e2 : Same H (upd H' D (.lst ((ns.take i).map V.int ++ [V.int y]))) := e.mut nD
      walk_at "tw"
      rw [upd_same, take_succ_get hy, List.map_append]
      rfl
    · rintro H1 ⟨e1, hD1⟩
      rw [List.take_of_length_le (by rw [List.length_map]; exact Nat.le_refl _)] at hD1
      walk_at "tw"
      refine .mk (fun σ G => ∃ cs : List Int, σ = [some (.ref a), some (.int many), some (.ref D), none, none, none, none, none, none] ∧ Same H G ∧ G D = some (.lst (cs.map V.int)) ∧ 0 < cs.length ∧ cs.length ≤ 64) (fun N hN => ?_) ?_
      · walk_at "tw"
        refine ite2 (fun hc => ?_) (fun hc => ?_)
        · have hn : ns = [] := by
            have := V.int.inj (of_decide_eq_true hc)
            rw [List.length_map] at this
            exact List.length_eq_zero_iff.mp (by omega)
          subst hn
          walk_at "tw"
          exact hN _ _ ⟨[0], rfl, e1.mut nD, upd_same, Nat.zero_lt_one, Nat.le_of_ble_eq_true rfl⟩
        · have hcs0 : 0 < ns.length := by
            rcases Nat.eq_zero_or_pos ns.length with z | z
            · exact absurd (int_eq (by rw [List.length_map, z]; rfl)) hc
            · exact z
          exact hN _ _ ⟨ns, rfl, e1, hD1, hcs0, by omega⟩
      · clear hD1 e1
        rintro σ H1 ⟨cs, rfl, e1, hD1, hcs0, hcs1⟩
        walk_at "tw"
        intro l nl
        have hD2 := Same.new nl (o := .lst (cs.map V.int)) _ _ hD1
        have el := e1.up (o := .lst (cs.map V.int)) nl
        walk_at "tw"
        intro dd ndd
        have nlD : l ≠ D := Ne.symm (ne_of_none hD1 nl)
        have nddD : dd ≠ D := Ne.symm (ne_of_none hD2 ndd)
        have nddl : dd ≠ l := Ne.symm (ne_of_none upd_same ndd)
        have edd := el.up (o := .lst []) ndd
        have ndd0 : H dd = none := el.none ndd
        have nl0 : H l = none := e1.none nl
        walk_at "tw"
        refine for_range (fun i σ H' => (∃ x5 x6 x7 x8, σ = [some (.ref a), some (.int many), some (.ref D), some (.ref l), some (.ref dd), x5, x6, x7, x8]) ∧ Same H H' ∧ H' D = some (.lst (cs.map V.int)) ∧ ∃ rest ds : List Int, H' l = some (.lst (rest.map V.int)) ∧ rest.length = cs.length ∧ H' dd = some (.lst (ds.map V.int)) ∧ ds.length ≤ i)
          ⟨⟨_, _, _, _, rfl⟩, edd, Same.new ndd _ _ hD2, cs, [], Same.new ndd _ _ upd_same, rfl, upd_same, Nat.le_refl _⟩ ?_ ?_
        · rintro i σ H' hi ⟨⟨x5, x6, x7, x8, rfl⟩, e, hD', rest, ds, hl', hrl, hdd', hdl⟩
          have hcz : (0 : Int) < ((cs.map V.int).length : Nat) := by rw [List.length_map]; omega
          have m1 := Int.emod_nonneg ((0 : Int) + (i : Nat)) (b := ((cs.map V.int).length : Nat)) (by omega)
          have m2 := Int.emod_lt_of_pos ((0 : Int) + (i : Nat)) hcz
          obtain ⟨j, hj⟩ : ∃ j : Nat, ((0 : Int) + (i : Nat)) % ((cs.map V.int).length : Nat) = (j : Int) := ⟨_, (Int.toNat_of_nonneg m1).symm⟩
          have hj2 : j < cs.length := by rw [List.length_map] at m2; rw [List.length_map] at hj; omega
          obtain ⟨c, hc⟩ : ∃ c, cs[j]? = some c := ⟨cs[j], List.getElem?_eq_getElem hj2⟩
          obtain ⟨r, hr2⟩ : ∃ r, rest[j]? = some r := ⟨rest[j]'(by omega), List.getElem?_eq_getElem _⟩
          have hc2 : (cs.map V.int)[j]? = some (V.int c) := by rw [List.getElem?_map, hc]; rfl
          have hr3 : (rest.map V.int)[j]? = some (V.int r) := by rw [List.getElem?_map, hr2]; rfl
          have hz : (ds.map V.int).length < sizeLine := smallt (by rw [List.length_map]; omega)
          walk_at "tw"
          refine ⟨at_of (j := j) hj hc2, ?_⟩
          walk_at "tw"
          refine ⟨cpow18, ?_⟩
          walk_at "tw"
          refine ite2 (fun hb => ?_) (fun hb => ?_)
          · walk_at "tw"
            refine ⟨at_of (j := j) hj hr3, ?_⟩
            have hl2 : (upd H' dd (.lst (ds.map V.int ++ [V.int (r % 1000)]))) l = some (.lst (rest.map V.int)) := upd_oth (Ne.symm nddl) hl'
            walk_at "tw"
            refine ⟨at_of (j := j) hj hr3, ?_⟩
            walk_at "tw"
            refine ⟨ixN_nat (j := j) hj (by rw [List.length_map]; omega), ?_⟩
            refine ⟨⟨_, _, _, _, rfl⟩, (e.mut ndd0).mut nl0, ?_, rest.set j (r / 1000), ds ++ [r % 1000], ?_, ?_, ?_, ?_⟩
            · rw [upd_ne (Ne.symm nlD), upd_ne (Ne.symm nddD)]; exact hD'
            · rw [upd_same, List.map_set]
            · rw [List.length_set]; exact hrl
            · rw [upd_ne nddl, upd_same, List.map_append]; rfl
            · rw [List.length_append]; exact Nat.succ_le_succ hdl
          · have cm1 : CMul c 48271 := .inr ⟨by decide, by decide⟩
            have cm2 : CMul ((0 : Int) + (i : Nat)) 69621 := .inr ⟨by decide, by decide⟩
            have q1 := Int.emod_nonneg (c * 48271 + ((0 : Int) + (i : Nat)) * 69621 + 11) (b := 2147483647) (by decide)
            have q2 := Int.emod_lt_of_pos (c * 48271 + ((0 : Int) + (i : Nat)) * 69621 + 11) (b := 2147483647) (by decide)
            have cm3 : CMul ((c * 48271 + ((0 : Int) + (i : Nat)) * 69621 + 11) % 2147483647) ((c * 48271 + ((0 : Int) + (i : Nat)) * 69621 + 11) % 2147483647) := .inl ⟨Int.lt_of_lt_of_le (by decide) q1, Int.lt_trans q2 (by decide)⟩
            have cm4 : CMul 3 ((c * 48271 + ((0 : Int) + (i : Nat)) * 69621 + 11) % 2147483647) := .inl ⟨by decide, by decide⟩
            walk_at "tw"
            refine ⟨at_of (j := j) hj hc2, ?_⟩
            walk_at "tw"
            have fin : ∀ z : Int, Same H (upd H' dd (.lst (ds.map V.int ++ [V.int z]))) ∧ (upd H' dd (.lst (ds.map V.int ++ [V.int z]))) D = some (.lst (cs.map V.int)) ∧ ∃ rest' ds' : List Int, (upd H' dd (.lst (ds.map V.int ++ [V.int z]))) l = some (.lst (rest'.map V.int)) ∧ rest'.length = cs.length ∧ (upd H' dd (.lst (ds.map V.int ++ [V.int z]))) dd = some (.lst (ds'.map V.int)) ∧ ds'.length ≤ i + 1 := fun z =>
              ⟨e.mut ndd0, by rw [upd_ne (Ne.symm nddD)]; exact hD', rest, ds ++ [z], by rw [upd_ne (Ne.symm nddl)]; exact hl', hrl, by rw [upd_same, List.map_append]; rfl, by rw [List.length_append]; exact Nat.succ_le_succ hdl⟩
            exact ⟨⟨_, _, _, _, rfl⟩, fin _⟩
        · rintro σ H' ⟨⟨x5, x6, x7, x8, rfl⟩, e, hD', rest, ds, hl', hrl, hdd', hdl⟩
          walk_at "tw"
          exact k dd _ (e.mut ndd0) ndd0 ⟨ds.reverse, by rw [upd_same, List.map_reverse]⟩
end
end Tw
end

section
set_option maxHeartbeats 4000000
namespace Tw
open PySem PySem.Spec PyProof.Rows L2
/-! the machine of the readings: "tw" goes on through what has one answer; it stops at a branch, a loop, a new object, what comes behind a call -/
local macro_rules | `(tactic| walk_at "tw look") => `(tactic| first
  | assumption
  | exact upd_same
  | (refine Same.new (by assumption) _ _ ?_; walk_at "tw look")
  | (refine upd_oth (by assumption) ?_; walk_at "tw look")
  | (refine upd_dif (by assumption) (by intro z; cases z) ?_; walk_at "tw look")
  | (refine upd_dif upd_same (by intro z; cases z) ?_; walk_at "tw look"))
local macro_rules | `(tactic| walk_at "tw seq") => `(tactic| first
  | assumption
  | exact SqL.of (by walk_at "tw look")
  | exact SqT.of (by walk_at "tw look")
  | exact .inl (SqL.of (by walk_at "tw look"))
  | exact .inr (SqT.of (by walk_at "tw look"))
  | exact .inl (by assumption)
  | exact dget_of (by walk_at "tw look") (by assumption)
  | exact DGet.k (k := Sum.inl _) (by walk_at "tw look")
  | exact DPut.k (k := Sum.inl _) (by walk_at "tw look") (by assumption)
  | exact .inl ⟨_, .inl (by walk_at "tw look")⟩
  | exact .inr ⟨_, .inl (by walk_at "tw look")⟩
  | exact ⟨_, SqL.of (by walk_at "tw look")⟩
  | exact ⟨_, SqT.of (by walk_at "tw look")⟩
  | exact ⟨_, by assumption⟩
  | exact .inl ⟨rfl, _, SqL.of (by walk_at "tw look")⟩)
local macro_rules | `(tactic| walk_at "tw atom") => `(tactic| first
  | with_reducible rfl
  | assumption
  | rfl
  | walk_at "tw look"
  | walk_at "tw seq"
  | omega
  | exact small (by simp; done)
  | exact smallt (by simp; done)
  | exact cdiv_of rfl
  | exact fun _ h => h
  | exact Int.natCast_pos.mpr (Nat.zero_lt_succ _)
  | exact cmul_r rfl
  | exact cmul_l rfl
  | exact Nat.le_of_ble_eq_true rfl)
local macro_rules | `(tactic| walk_at "tw step") => `(tactic| first | (with_reducible refine iteT ?_) | (with_reducible refine iteF ?_) | (with_reducible refine itf nott ?_) | (with_reducible refine itt notf ?_) | ((fail_if_success (refine ite2 (fun _ => ?_) (fun _ => ?_))); first
  | ((fail_if_success (refine (?_ : ∃ W : Nat → Nat → L2.St → Hp → Prop, _))); (fail_if_success (refine (?_ : ∃ W : Nat → Nat → Hp → Prop, _))); apply Exists.intro)
  | (apply And.intro; (walk_at "tw atom"))))
local macro_rules | `(tactic| walk_at "tw") => `(tactic| repeat walk_at "tw step")

section
variable {P : Program} {w : World} {K : PySem.W.Frag} {mg : Str → Option Value} {base : Heap}
theorem strOk_append {a b : Str} (ha : PyData.strOk a = true) (hb : PyData.strOk b = true) : PyData.strOk (a ++ b) = true := by
  show ((a.cps ++ b.cps).all fun c => decide (c < 0x110000)) = true
  rw [Array.all_append, Bool.and_eq_true]
  exact ⟨ha, hb⟩
theorem length_append (a b : Str) : (a ++ b).length = a.length + b.length := Array.size_append ..
theorem alpha_get {z : Int} (h0 : 0 ≤ z) (h1 : z < 26) : ∃ c, atI (Str.cps ("abcdefghijklmnopqrstuvwxyz" : Str)).toList z = some c ∧ c < 0x110000 := by
  obtain ⟨j, rfl⟩ : ∃ j : Nat, z = (j : Int) := ⟨z.toNat, by omega⟩
  have hl : (Str.cps ("abcdefghijklmnopqrstuvwxyz" : Str)).toList = (List.range 26).map (97 + ·) := by decide +kernel
  rw [hl]
  have hj : j < 26 := by omega
  refine ⟨97 + j, atI_nat ?_, by omega⟩
  rw [List.getElem?_map, List.getElem?_range hj]
  rfl
theorem at_ints (zs : List Int) {r : Int} (h0 : 0 ≤ r) (h1 : r < (zs.length : Nat)) : ∃ z, z ∈ zs ∧ atI (zs.map V.int) r = some (V.int z) := by
  obtain ⟨j, rfl⟩ : ∃ j : Nat, r = (j : Int) := ⟨r.toNat, by omega⟩
  have hj : j < zs.length := by omega
  exact ⟨zs[j], List.getElem_mem hj, atI_nat (by rw [List.getElem?_map, List.getElem?_eq_getElem hj]; rfl)⟩
theorem abc_len : Str.length ("abcdefghijkl" : Str) = 12 := by decide +kernel
def Word (s : Str) : Prop := PyData.strOk s = true ∧ s.length ≤ 60
def spWord : Sp := fun vs H Q _ => ∃ n : Int, vs = [.int n] ∧ ∀ s, Word s → Q (.str s) H
theorem C_law_word (T : Tx K mg) : Callee P w K mg base CX0 "_law_word" P_law_word 1 spWord := by
  refine mk_law_word T (k := 0) (fun vs H Q E h => ?_) (fun f cdv A outer s H vs Q E hr h => ?_)
  · obtain ⟨n, rfl, _⟩ := h
    rfl
  · obtain ⟨n, rfl, k⟩ := h
    refine ⟨_, ((pss_cons (ps_set (i := 1) sc_law_word.nd rfl (by first | exact Or.inl rfl | exact Or.inr rfl) pe_str)
    (pss_cons (ps_for PassesOwn.never rfl (pi_range1 (by rfl) T.f_range (pa_cons pe_int pa_nil)) (pg_name (i := 2) sc_law_word.nd rfl (by first | exact Or.inl rfl | exact Or.inr rfl))
    (pss_cons (ps_if (pt_cmpR op_lt (pv 0) pe_int (nomark _))
    (pss_one ps_break)
    pss_nil)
    (pss_cons (ps_set (i := 1) sc_law_word.nd rfl (by first | exact Or.inl rfl | exact Or.inr rfl) (pe_op op_add_str (pe_ix ix_str pe_str (pe_op op_mod (pe_callTy cint (by rfl) T.f_int Pv.boot_int (pa_cons (pe_op op_sub (pv 0) pe_int) pa_nil)) pe_int) (fun _ _ => rfl)) (pv 1)))
    (pss_one (ps_set (i := 0) sc_law_word.nd rfl (by first | exact Or.inl rfl | exact Or.inr rfl) (pe_op op_fdiv (pe_op op_sub (pv 0) pe_int) pe_int))))))
    (pss_one (ps_ret (pv 1)))))), ?_⟩
    walk_at "tw"
    refine for_range (fun i σ H' => (∃ (n' : Int) (s : Str) (x2 : Option V), σ = [some (.int n'), some (.str s), x2] ∧ PyData.strOk s = true ∧ s.length ≤ i) ∧ H' = H)
      ⟨⟨n, _, _, rfl, by decide +kernel, by decide +kernel⟩, rfl⟩ ?_ ?_
    · rintro i σ H' hi ⟨⟨n', s, x2, rfl, hs, hl⟩, rfl⟩
      have hi60 : i < 60 := hi
      obtain ⟨c, hc, hc2⟩ := alpha_get (Int.emod_nonneg (n' - 1) (b := 26) (by decide)) (Int.emod_lt_of_pos (n' - 1) (b := 26) (by decide))
      have hw : PyData.strOk ((⟨#[c]⟩ : Str) ++ s) = true := strOk_append (by show (#[c].all fun c => decide (c < 0x110000)) = true; simp [hc2]) hs
      have hl1 : (⟨#[c]⟩ : Str).length = 1 := rfl
      have hl2 : ((⟨#[c]⟩ : Str) ++ s).length ≤ i + 1 := by rw [length_append, hl1]; omega
      have hzl : Str.length ("abcdefghijklmnopqrstuvwxyz" : Str) ≤ sizeLine := small (by decide +kernel)
      have hz : (⟨#[c]⟩ : Str).length + s.length ≤ sizeLine := small (by rw [hl1]; omega)
      walk_at "tw"
      refine ite2 (fun _ => ?_) (fun _ => ?_)
      · walk_at "tw"
        exact k s ⟨hs, by omega⟩
      · walk_at "tw"
        exact ⟨⟨_, _, _, rfl, hw, hl2⟩, rfl⟩
    · rintro σ H' ⟨⟨n', s, x2, rfl, hs, hl⟩, rfl⟩
      walk_at "tw"
      exact k s ⟨hs, hl⟩
def spSomeWord : Sp := fun vs H Q _ => ∃ d : Addr, vs = [.ref d] ∧ Draw H d ∧ ∀ s H', Keep [d] H H' → Draw H' d → PyData.strOk s = true → s.length ≤ 100 → Q (.str s) H'
theorem C_law_some_word (T : Tx K mg) : Callee P w K mg base CX0 "_law_some_word" P_law_some_word 2 spSomeWord := by
  refine mk_law_some_word T (k := 1) (fun vs H Q E h => ?_) (fun f cdv A outer s H vs Q E hr h => ?_)
  · obtain ⟨d, rfl, _⟩ := h
    rfl
  · obtain ⟨d, rfl, hd, k⟩ := h
    refine ⟨_, ((pss_cons (ps_set (i := 1) sc_law_some_word.nd rfl (by first | exact Or.inl rfl | exact Or.inr rfl) (pe_cl (C_law_takeD T) (hr.mono (by decide)) pass0 (pa_cons (pv 0) (pa_cons pe_int pa_nil))))
    (pss_cons (ps_if (pt_cmpR op_lt (pv 1) pe_int (nomark _))
    (pss_one (ps_ret (pe_cl (C_law_word T) (hr.mono (by decide)) pass0 (pa_cons (pe_op op_add (pe_op op_add pe_int (pe_op op_mod (pv 1) pe_int)) (pe_op op_mul pe_int (pe_op op_mod (pe_op op_fdiv (pv 1) pe_int) pe_int))) pa_nil))))
    pss_nil)
    (pss_cons (ps_if (pt_cmpR op_lt (pv 1) pe_int (nomark _))
    (pss_one (ps_ret (pe_cl (C_law_word T) (hr.mono (by decide)) pass0 (pa_cons (pe_op op_add pe_int (pe_cl (C_law_takeD T) (hr.mono (by decide)) pass0 (pa_cons (pv 0) (pa_cons pe_int pa_nil)))) pa_nil))))
    pss_nil)
    (pss_cons (ps_if (pt_cmpR op_lt (pv 1) pe_int (nomark _))
    (pss_one (ps_ret (pe_op op_add_str pe_str (pe_cl (C_law_word T) (hr.mono (by decide)) pass0 (pa_cons (pe_op op_add pe_int (pe_cl (C_law_takeD T) (hr.mono (by decide)) pass0 (pa_cons (pv 0) (pa_cons pe_int pa_nil)))) pa_nil)))))
    pss_nil)
    (pss_cons (ps_set (i := 2) sc_law_some_word.nd rfl (by first | exact Or.inl rfl | exact Or.inr rfl) (pe_op op_add (pe_op op_mul pe_int (pe_cl (C_law_takeD T) (hr.mono (by decide)) pass0 (pa_cons (pv 0) (pa_cons pe_int pa_nil)))) (pe_op op_mul pe_int (pe_cl (C_law_takeD T) (hr.mono (by decide)) pass0 (pa_cons (pv 0) (pa_cons pe_int pa_nil))))))
    (pss_cons (ps_if (pt_cmpR op_ge (pv 1) pe_int (nomark _))
    (pss_one (ps_set (i := 2) sc_law_some_word.nd rfl (by first | exact Or.inl rfl | exact Or.inr rfl) (pe_op op_mul (pv 2) (pe_op op_pow pe_int pe_int))))
    pss_nil)
    (pss_one (ps_ret (pe_cl (C_law_word T) (hr.mono (by decide)) pass0 (pa_cons (pe_op op_add (pe_op op_add pe_int (pv 2)) (pe_cl (C_law_takeD T) (hr.mono (by decide)) pass0 (pa_cons (pv 0) (pa_cons pe_int pa_nil)))) pa_nil))))))))))), ?_⟩
    walk_at "tw"
    intro n H1 e1 hd1 h0 h1
    walk_at "tw"
    refine ite2 (fun _ => ?_) (fun _ => ?_)
    · walk_at "tw"
      intro s hs
      walk_at "tw"
      exact k s H1 e1 hd1 hs.1 (by have := hs.2; omega)
    · walk_at "tw"
      refine ite2 (fun _ => ?_) (fun _ => ?_)
      · walk_at "tw"
        intro n2 H2 e2 hd2 _ _
        walk_at "tw"
        intro s hs
        walk_at "tw"
        exact k s H2 (e1.trans e2) hd2 hs.1 (by have := hs.2; omega)
      · walk_at "tw"
        refine ite2 (fun _ => ?_) (fun _ => ?_)
        · walk_at "tw"
          intro n2 H2 e2 hd2 _ _
          walk_at "tw"
          intro s hs
          have hz : Str.length ("abcdefghijkl" : Str) + s.length ≤ sizeLine := small (by have := hs.2; have := abc_len; omega)
          walk_at "tw"
          exact k _ H2 (e1.trans e2) hd2 (strOk_append (by decide +kernel) hs.1) (by rw [length_append]; have := hs.2; have := abc_len; omega)
        · walk_at "tw"
          intro n2 H2 e2 hd2 _ _
          walk_at "tw"
          intro n3 H3 e3 hd3 _ _
          walk_at "tw"
          refine ite2 (fun _ => ?_) (fun _ => ?_)
          · walk_at "tw"
            refine ⟨cpow15, ?_⟩
            walk_at "tw"
            intro n4 H4 e4 hd4 _ _
            walk_at "tw"
            intro s hs
            walk_at "tw"
            exact k s H4 (((e1.trans e2).trans e3).trans e4) hd4 hs.1 (by have := hs.2; omega)
          · walk_at "tw"
            intro n4 H4 e4 hd4 _ _
            walk_at "tw"
            intro s hs
            walk_at "tw"
            exact k s H4 (((e1.trans e2).trans e3).trans e4) hd4 hs.1 (by have := hs.2; omega)
/-- a whole meter: the least is not above the greatest, the error not below zero -/
def MOk (m : Meter) : Prop := m.lo ≤ m.hi ∧ 0 ≤ m.err
/-- some number, the draws shorter -/
def spNum (X : Hp → List V → Prop) : Sp := fun vs H Q _ => ∃ (d : Addr) (us : List V), vs = .ref d :: us ∧ X H us ∧ Draw H d ∧ ∀ (r : Int) (H' : Hp), Keep [d] H H' → Draw H' d → Q (.int r) H'
def spReading : Sp := fun vs H Q _ => ∃ (d : Addr) (mv : V) (m : Meter), vs = [.ref d, mv] ∧ IsMeter H mv m ∧ MOk m ∧ Draw H d ∧ ∀ (r : Int) (H' : Hp), Keep [d] H H' → Draw H' d → Q (.int r) H'
theorem C_law_reading (T : Tx K mg) : Callee P w K mg base CX0 "_law_reading" P_law_reading 2 spReading := by
  refine mk_law_reading T (k := 1) (fun vs H Q E h => ?_) (fun f cdv A outer s H vs Q E hr h => ?_)
  · obtain ⟨d, mv, m, rfl, _⟩ := h
    rfl
  · obtain ⟨d, mv, m, rfl, ⟨ma, rfl, hma⟩, mok, hd, k⟩ := h
    refine ⟨_, ((pss_cons (ps_set (i := 2) sc_law_reading.nd rfl (by first | exact Or.inl rfl | exact Or.inr rfl) (pe_cl (C_law_takeD T) (hr.mono (by decide)) pass0 (pa_cons (pv 0) (pa_cons pe_int pa_nil))))
    (pss_cons (ps_if (pt_cmpR op_eq (pe_op op_mod (pv 2) pe_int) pe_int (nomark _))
    (pss_one (ps_ret (pe_ix (ixT (K := K)) (pv 1) pe_int (fun _ _ => rfl))))
    pss_nil)
    (pss_cons (ps_if (pt_cmpR op_eq (pe_op op_mod (pv 2) pe_int) pe_int (nomark _))
    (pss_one (ps_ret (pe_ix (ixT (K := K)) (pv 1) pe_int (fun _ _ => rfl))))
    pss_nil)
    (pss_cons (ps_if (pt_cmpR op_eq (pe_op op_mod (pv 2) pe_int) pe_int (nomark _))
    (pss_one (ps_ret (pe_op op_fdiv (pe_op op_add (pe_ix (ixT (K := K)) (pv 1) pe_int (fun _ _ => rfl)) (pe_ix (ixT (K := K)) (pv 1) pe_int (fun _ _ => rfl))) pe_int)))
    pss_nil)
    (pss_one (ps_ret (pe_op op_add (pe_ix (ixT (K := K)) (pv 1) pe_int (fun _ _ => rfl)) (pe_op op_mod (pe_op op_fdiv (pv 2) pe_int) (pe_op op_add (pe_op op_sub (pe_ix (ixT (K := K)) (pv 1) pe_int (fun _ _ => rfl)) (pe_ix (ixT (K := K)) (pv 1) pe_int (fun _ _ => rfl))) pe_int)))))))))), ?_⟩
    walk_at "tw"
    intro n H1 e1 hd1 h0 h1
    have hma1 := hd.tk e1 _ _ hma
    have hw : 0 < m.hi - m.lo + 1 := by have := mok.1; omega
    walk_at "tw"
    refine ite2 (fun _ => ?_) (fun _ => ?_)
    · walk_at "tw"
      exact k _ H1 e1 hd1
    · walk_at "tw"
      refine ite2 (fun _ => ?_) (fun _ => ?_)
      · walk_at "tw"
        exact k _ H1 e1 hd1
      · walk_at "tw"
        refine ite2 (fun _ => ?_) (fun _ => ?_)
        · walk_at "tw"
          exact k _ H1 e1 hd1
        · walk_at "tw"
          exact k _ H1 e1 hd1
def spOffset : Sp := fun vs H Q _ => ∃ (d : Addr) (mv : V) (m : Meter), vs = [.ref d, mv] ∧ IsMeter H mv m ∧ MOk m ∧ Draw H d ∧ ∀ (r : Int) (H' : Hp), Keep [d] H H' → Draw H' d → -m.err ≤ r → r ≤ m.err → Q (.int r) H'
theorem C_law_offset (T : Tx K mg) : Callee P w K mg base CX0 "_law_offset" P_law_offset 2 spOffset := by
  refine mk_law_offset T (k := 1) (fun vs H Q E h => ?_) (fun f cdv A outer s H vs Q E hr h => ?_)
  · obtain ⟨d, mv, m, rfl, _⟩ := h
    rfl
  · obtain ⟨d, mv, m, rfl, ⟨ma, rfl, hma⟩, mok, hd, k⟩ := h
    have he := mok.2
    refine ⟨_, ((pss_one (ps_ret (pe_ix (ixL (K := K)) (pe_lst (pa_cons (pe_op op_sub (pe_cl (C_law_takeD T) (hr.mono (by decide)) pass0 (pa_cons (pv 0) (pa_cons (pe_op op_add (pe_op op_mul pe_int (pe_ix (ixT (K := K)) (pv 1) pe_int (fun _ _ => rfl))) pe_int) pa_nil))) (pe_ix (ixT (K := K)) (pv 1) pe_int (fun _ _ => rfl))) (pa_cons (pe_ix (ixT (K := K)) (pv 1) pe_int (fun _ _ => rfl)) (pa_cons (pe_un un_neg (pe_ix (ixT (K := K)) (pv 1) pe_int (fun _ _ => rfl))) pa_nil)))) (pe_cl (C_law_takeD T) (hr.mono (by decide)) pass0 (pa_cons (pv 0) (pa_cons pe_int pa_nil))) (fun _ _ => rfl))))), ?_⟩
    walk_at "tw"
    intro r H1 e1 hd1 h0 h1
    have hma1 := hd.tk e1 _ _ hma
    walk_at "tw"
    intro p np
    have hpd := hd1.ne np
    have hd1' := hd1.same (Same.new np (o := .lst [.int (r - m.err), .int m.err, .int (-m.err)]))
    walk_at "tw"
    intro r2 H2 e2 hd2 h02 h12
    obtain ⟨z, hz, hat⟩ := at_ints [r - m.err, m.err, -m.err] h02 h12
    have hp2 := e2 p _ (by simpa using hpd) upd_same
    walk_at "tw"
    have hb : -m.err ≤ z ∧ z ≤ m.err := by
      rcases (show z = r - m.err ∨ z = m.err ∨ z = -m.err by simpa using hz) with rfl | rfl | rfl <;> omega
    exact k z H2 ((e1.trans (Keep.new np)).trans e2) hd2 hb.1 hb.2
def spEntry : Sp := fun vs H Q _ => ∃ (d : Addr) (mv : V) (m : Meter), vs = [.ref d, mv] ∧ IsMeter H mv m ∧ MOk m ∧ Draw H d ∧ ∀ (r : Int) (H' : Hp), Keep [d] H H' → Draw H' d → Q (.int r) H'
theorem C_law_entry (T : Tx K mg) : Callee P w K mg base CX0 "_law_entry" P_law_entry 3 spEntry := by
  refine mk_law_entry T (k := 2) (fun vs H Q E h => ?_) (fun f cdv A outer s H vs Q E hr h => ?_)
  · obtain ⟨d, mv, m, rfl, _⟩ := h
    rfl
  · obtain ⟨d, mv, m, rfl, ⟨ma, rfl, hma⟩, mok, hd, k⟩ := h
    have hm : IsMeter H (.ref ma) m := ⟨ma, rfl, hma⟩
    refine ⟨_, ((pss_one (ps_ret (pe_ix (ixL (K := K)) (pe_lst (pa_cons (pe_cl (C_law_reading T) (hr.mono (by decide)) pass0 (pa_cons (pv 0) (pa_cons (pv 1) pa_nil))) (pa_cons (pe_ix (ixT (K := K)) (pv 1) pe_int (fun _ _ => rfl)) (pa_cons (pe_ix (ixT (K := K)) (pv 1) pe_int (fun _ _ => rfl)) (pa_cons (pe_op op_sub (pe_ix (ixT (K := K)) (pv 1) pe_int (fun _ _ => rfl)) pe_int) (pa_cons (pe_op op_add (pe_ix (ixT (K := K)) (pv 1) pe_int (fun _ _ => rfl)) pe_int) pa_nil)))))) (pe_op op_fdiv (pe_cl (C_law_takeD T) (hr.mono (by decide)) pass0 (pa_cons (pv 0) (pa_cons pe_int pa_nil))) pe_int) (fun _ _ => rfl))))), ?_⟩
    walk_at "tw"
    intro r H1 e1 hd1
    have hma1 := hd.tk e1 _ _ hma
    walk_at "tw"
    intro p np
    have hpd := hd1.ne np
    have hd1' := hd1.same (Same.new np (o := .lst [.int r, .int m.lo, .int m.hi, .int (m.lo - 1), .int (m.hi + 1)]))
    walk_at "tw"
    intro r2 H2 e2 hd2 h02 h12
    obtain ⟨z, hz, hat⟩ := at_ints [r, m.lo, m.hi, m.lo - 1, m.hi + 1] (r := r2 / 3) (Int.ediv_nonneg h02 (by decide)) (by show r2 / 3 < 5; omega)
    have hp2 := e2 p _ (by simpa using hpd) upd_same
    walk_at "tw"
    exact k z H2 ((e1.trans (Keep.new np)).trans e2) hd2
end
end Tw
end

section
set_option maxHeartbeats 4000000
namespace Tw
open PySem PySem.Spec PyProof.Rows L2
/-! the machine of the readings: "tw" goes on through what has one answer; it stops at a branch, a loop, a new object, what comes behind a call -/
local macro_rules | `(tactic| walk_at "tw look") => `(tactic| first
  | assumption
  | exact upd_same
  | (refine Same.new (by assumption) _ _ ?_; walk_at "tw look")
  | (refine upd_oth (by assumption) ?_; walk_at "tw look")
  | (refine upd_dif (by assumption) (by intro z; cases z) ?_; walk_at "tw look")
  | (refine upd_dif upd_same (by intro z; cases z) ?_; walk_at "tw look"))
local macro_rules | `(tactic| walk_at "tw seq") => `(tactic| first
  | assumption
  | exact SqL.of (by walk_at "tw look")
  | exact SqT.of (by walk_at "tw look")
  | exact .inl (SqL.of (by walk_at "tw look"))
  | exact .inr (SqT.of (by walk_at "tw look"))
  | exact .inl (by assumption)
  | exact dget_of (by walk_at "tw look") (by assumption)
  | exact DGet.k (k := Sum.inl _) (by walk_at "tw look")
  | exact DPut.k (k := Sum.inl _) (by walk_at "tw look") (by assumption)
  | exact .inl ⟨_, .inl (by walk_at "tw look")⟩
  | exact .inr ⟨_, .inl (by walk_at "tw look")⟩
  | exact ⟨_, SqL.of (by walk_at "tw look")⟩
  | exact ⟨_, SqT.of (by walk_at "tw look")⟩
  | exact ⟨_, by assumption⟩
  | exact .inl ⟨rfl, _, SqL.of (by walk_at "tw look")⟩)
local macro_rules | `(tactic| walk_at "tw atom") => `(tactic| first
  | with_reducible rfl
  | assumption
  | rfl
  | walk_at "tw look"
  | walk_at "tw seq"
  | omega
  | exact small (by simp; done)
  | exact smallt (by simp; done)
  | exact cdiv_of rfl
  | exact fun _ h => h
  | exact Int.natCast_pos.mpr (Nat.zero_lt_succ _)
  | exact cmul_r rfl
  | exact cmul_l rfl
  | exact Nat.le_of_ble_eq_true rfl)
local macro_rules | `(tactic| walk_at "tw step") => `(tactic| first | (with_reducible refine iteT ?_) | (with_reducible refine iteF ?_) | (with_reducible refine itf nott ?_) | (with_reducible refine itt notf ?_) | ((fail_if_success (refine ite2 (fun _ => ?_) (fun _ => ?_))); first
  | ((fail_if_success (refine (?_ : ∃ W : Nat → Nat → L2.St → Hp → Prop, _))); (fail_if_success (refine (?_ : ∃ W : Nat → Nat → Hp → Prop, _))); apply Exists.intro)
  | (apply And.intro; (walk_at "tw atom"))))
local macro_rules | `(tactic| walk_at "tw") => `(tactic| repeat walk_at "tw step")

section
variable {P : Program} {w : World} {K : PySem.W.Frag} {mg : Str → Option Value} {base : Heap}
/-- a model of the law: the slots, the number 0, None, the due letters -/
def IsModel (H : Hp) (v : V) (ss : List Slot) (Ds : List Letter) : Prop := ∃ a b t vs, v = .ref a ∧ H a = some (.tup [.ref b, .int 0, .non, .ref t]) ∧ H b = some (.tup vs) ∧ All2 (IsSlot H) vs ss ∧ Tups H t Ds
theorem IsModel.mono {H H' : Hp} {v : V} {ss : List Slot} {Ds : List Letter} (h : IsModel H v ss Ds) (e : TKeep H H') : IsModel H' v ss Ds := by
  obtain ⟨a, b, t, vs, h1, h2, h3, h4, h5⟩ := h
  exact ⟨a, b, t, vs, h1, e _ _ h2, e _ _ h3, h4.mono fun _ _ z => z.mono e, h5.mono e⟩
def spStamp : Sp := fun vs H Q _ => ∃ (d : Addr) (mv : V) (ss : List Slot) (Ds : List Letter) (c : Int), vs = [.ref d, mv, .int c] ∧ IsModel H mv ss Ds ∧ Draw H d ∧ ∀ (r : Int) (H' : Hp), Keep [d] H H' → Draw H' d → Q (.int r) H'
theorem C_law_stamp (T : Tx K mg) : Callee P w K mg base CX0 "_law_stamp" P_law_stamp 2 spStamp := by
  refine mk_law_stamp T (k := 1) (fun vs H Q E h => ?_) (fun f cdv A outer s H vs Q E hr h => ?_)
  · obtain ⟨d, mv, ss, Ds, c, rfl, _⟩ := h
    rfl
  · obtain ⟨d, mv, ss, Ds, c, rfl, ⟨a, b, t, vs, rfl, ha, hb, hvs, htt⟩, hd, k⟩ := h
    have hl := hvs.1
    refine ⟨_, ((pss_cons (ps_set (i := 3) sc_law_stamp.nd rfl (by first | exact Or.inl rfl | exact Or.inr rfl) (pe_lst (pa_cons (pe_op op_sub (pe_cl (C_law_takeD T) (hr.mono (by decide)) pass0 (pa_cons (pv 0) (pa_cons pe_int pa_nil))) pe_int) (pa_cons (pv 2) pa_nil))))
    (pss_cons (ps_if (pt_cmpR op_gt (pe_callB (clen (K := K)) (by rfl) T.f_len PySem.boot_len (pa_cons (pe_ix (ixT (K := K)) (pv 1) pe_int (fun _ _ => rfl)) pa_nil)) pe_int (nomark _))
    (pss_cons (ps_set (i := 4) sc_law_stamp.nd rfl (by first | exact Or.inl rfl | exact Or.inr rfl) (pe_ix (ixT (K := K)) (pe_ix (ixT (K := K)) (pe_ix (ixT (K := K)) (pv 1) pe_int (fun _ _ => rfl)) (pe_un un_neg pe_int) (fun _ _ => rfl)) pe_int (fun _ _ => rfl)))
    (pss_one (ps_set (i := 3) sc_law_stamp.nd rfl (by first | exact Or.inl rfl | exact Or.inr rfl) (pe_lst (pa_cons (pv 4) (pa_cons (pv 4) (pa_cons (pe_op op_add (pv 4) pe_int) (pa_cons (pe_op op_add (pv 4) pe_int) (pa_cons (pe_op op_add (pv 4) pe_int) (pa_cons (pe_op op_sub (pv 4) pe_int) (pa_cons (pe_op op_add (pe_ix (ixT (K := K)) (pe_ix (ixT (K := K)) (pe_ix (ixT (K := K)) (pv 1) pe_int (fun _ _ => rfl)) pe_int (fun _ _ => rfl)) pe_int (fun _ _ => rfl)) pe_int) pa_nil)))))))))))
    pss_nil)
    (pss_cons (ps_if (pt_cmpR op_notN (pe_ix (ixT (K := K)) (pv 1) pe_int (fun _ _ => rfl)) pe_non (nomark _))
    (pss_one (ps_set (i := 3) sc_law_stamp.nd rfl (by first | exact Or.inl rfl | exact Or.inr rfl) (pe_op op_cat (pv 3) (pe_lst (pa_cons (pe_ix (ixT (K := K)) (pv 1) pe_int (fun _ _ => rfl)) (pa_cons (pe_op op_add (pe_ix (ixT (K := K)) (pv 1) pe_int (fun _ _ => rfl)) pe_int) (pa_cons (pe_op op_sub (pe_ix (ixT (K := K)) (pv 1) pe_int (fun _ _ => rfl)) pe_int) pa_nil)))))))
    pss_nil)
    (pss_one (ps_ret (pe_ix (ixL (K := K)) (pv 3) (pe_cl (C_law_takeD T) (hr.mono (by decide)) pass0 (pa_cons (pv 0) (pa_cons (pe_callB (clen (K := K)) (by rfl) T.f_len PySem.boot_len (pa_cons (pv 3) pa_nil)) pa_nil))) (fun _ _ => rfl)))))))), ?_⟩
    walk_at "tw"
    intro r H1 e1 hd1 h0 h1
    have tk1 := hd.tk e1
    have ha1 := tk1 _ _ ha
    have hb1 := tk1 _ _ hb
    walk_at "tw"
    intro p np
    have hpd := hd1.ne np
    have hd1' := hd1.same (Same.new np (o := .lst [.int (r - 4), .int c]))
    have hb1' := Same.new np (o := .lst [.int (r - 4), .int c]) _ _ hb1
    walk_at "tw"
    refine ite3 (fun hg => ?_) (fun hg => ?_)
    · have hg0 : 0 < vs.length := by have := of_decide_eq_true hg; omega
      obtain ⟨tl, htl⟩ : ∃ t, ss[ss.length - 1]? = some t := ⟨ss[ss.length - 1]'(by omega), List.getElem?_eq_getElem _⟩
      obtain ⟨tv, htv, ⟨pa, pb, rfl, hpa, hpb⟩⟩ := hvs.get' htl
      obtain ⟨tf, htf⟩ : ∃ t, ss[0]? = some t := ⟨ss[0]'(by omega), List.getElem?_eq_getElem _⟩
      obtain ⟨fv, hfv, ⟨qa, qb, rfl, hqa, hqb⟩⟩ := hvs.get' htf
      have hpa1 := Same.new np (o := .lst [.int (r - 4), .int c]) _ _ (tk1 _ _ hpa)
      have hqa1 := Same.new np (o := .lst [.int (r - 4), .int c]) _ _ (tk1 _ _ hqa)
      have hat1 : atI vs (-1) = some (.ref pa) := atI_last hg0 (by rw [hl]; exact htv)
      have hat0 : atI vs 0 = some (.ref qa) := atI_nat (j := 0) hfv
      walk_at "tw"
      intro q nq
      have hqd := hd1'.ne nq
      have hd2' := hd1'.same (Same.new nq (o := .lst [.int tl.1, .int tl.1, .int (tl.1 + 1), .int (tl.1 + 1), .int (tl.1 + 4), .int (tl.1 - 1), .int (tf.1 + 1)]))
      have ha2' := Same.new nq (o := .lst [.int tl.1, .int tl.1, .int (tl.1 + 1), .int (tl.1 + 1), .int (tl.1 + 4), .int (tl.1 - 1), .int (tf.1 + 1)]) _ _ (Same.new np (o := .lst [.int (r - 4), .int c]) _ _ ha1)
      walk_at "tw"
      refine itf rfl ?_
      walk_at "tw"
      intro r2 H2 e2 hd2 h02 h12
      obtain ⟨z, hz, hat⟩ := at_ints [tl.1, tl.1, tl.1 + 1, tl.1 + 1, tl.1 + 4, tl.1 - 1, tf.1 + 1] h02 h12
      have hq2 := e2 q _ (by simpa using hqd) upd_same
      walk_at "tw"
      exact k z H2 (((e1.trans (Keep.new np)).trans (Keep.new nq)).trans e2) hd2
    · walk_at "tw"
      refine itf rfl ?_
      walk_at "tw"
      intro r2 H2 e2 hd2 h02 h12
      obtain ⟨z, hz, hat⟩ := at_ints [r - 4, c] h02 h12
      have hp2 := e2 p _ (by simpa using hpd) upd_same
      walk_at "tw"
      exact k z H2 ((e1.trans (Keep.new np)).trans e2) hd2
inductive Deed where
  | record (st v : Int)
  | correct (i v : Int)
  | takeBack (i : Int)
  | close (st : Int)
  | check (lo hi : Int)
  | ack (u : V)
def Deed.items : Deed → List V
  | .record st v => [.str "record", .int st, .int v]
  | .correct i v => [.str "correct", .int i, .int v]
  | .takeBack i => [.str "take_back", .int i]
  | .close st => [.str "close", .int st]
  | .check lo hi => [.str "check", .int lo, .int hi]
  | .ack u => [.str "acknowledge", u]
def IsDeed (H : Hp) (v : V) (D : Deed) : Prop := ∃ a, v = .ref a ∧ H a = some (.tup D.items)
theorem IsDeed.mono {H H' : Hp} {v : V} {D : Deed} (h : IsDeed H v D) (e : TKeep H H') : IsDeed H' v D := by
  obtain ⟨a, h1, h2⟩ := h
  exact ⟨a, h1, e _ _ h2⟩
def spDeed : Sp := fun vs H Q _ => ∃ (d : Addr) (mv tv : V) (m : Meter) (ss : List Slot) (Ds : List Letter) (off c : Int), vs = [.ref d, mv, tv, .int off, .int c] ∧ IsModel H mv ss Ds ∧ IsMeter H tv m ∧ MOk m ∧ Draw H d ∧ ss.length ≤ 1000 ∧ Ds.length ≤ 1000 ∧
  ∀ v D H', Keep [d] H H' → Draw H' d → IsDeed H' v D → Q v H'
theorem C_law_deed (T : Tx K mg) : Callee P w K mg base CX0 "_law_deed" P_law_deed 4 spDeed := by
  refine mk_law_deed T (k := 3) (fun vs H Q E h => ?_) (fun f cdv A outer s H vs Q E hr h => ?_)
  · obtain ⟨d, mv, tv, m, ss, Ds, off, c, rfl, _⟩ := h
    rfl
  · obtain ⟨d, mv, tv, m, ss, Ds, off, c, rfl, hmo, hme, mok, hd, fs, fd, k⟩ := h
    have fin : ∀ (H1 : Hp) (D : Deed), Keep [d] H H1 → Draw H1 d → ∀ p, H1 p = none → Q (.ref p) (upd H1 p (.tup D.items)) := fun H1 D e hd1 p np =>
      k (.ref p) D _ (e.trans (Keep.new np)) (hd1.same (Same.new np)) ⟨p, rfl, upd_same⟩
    refine ⟨_, ((pss_cons (ps_set (i := 5) sc_law_deed.nd rfl (by first | exact Or.inl rfl | exact Or.inr rfl) (pe_cl (C_law_takeD T) (hr.mono (by decide)) pass0 (pa_cons (pv 0) (pa_cons pe_int pa_nil))))
    (pss_cons (ps_if (pt_cmpR op_lt (pv 5) pe_int (nomark _))
    (pss_one (ps_ret (pe_tup (pa_cons pe_str (pa_cons (pe_cl (C_law_stamp T) (hr.mono (by decide)) pass0 (pa_cons (pv 0) (pa_cons (pv 1) (pa_cons (pv 4) pa_nil)))) (pa_cons (pe_cl (C_law_entry T) (hr.mono (by decide)) pass0 (pa_cons (pv 0) (pa_cons (pv 2) pa_nil))) pa_nil))))))
    pss_nil)
    (pss_cons (ps_if (pt_cmpR op_lt (pv 5) pe_int (nomark _))
    (pss_cons (ps_set (i := 6) sc_law_deed.nd rfl (by first | exact Or.inl rfl | exact Or.inr rfl) (pe_ix (ixL (K := K)) (pe_lst (pa_cons (pe_callB (clen (K := K)) (by rfl) T.f_len PySem.boot_len (pa_cons (pe_ix (ixT (K := K)) (pv 1) pe_int (fun _ _ => rfl)) pa_nil)) (pa_cons (pe_op op_add (pe_ix (ixT (K := K)) (pv 1) pe_int (fun _ _ => rfl)) pe_int) (pa_cons (pe_cl (C_law_takeD T) (hr.mono (by decide)) pass0 (pa_cons (pv 0) (pa_cons (pe_op op_add (pe_callB (clen (K := K)) (by rfl) T.f_len PySem.boot_len (pa_cons (pe_ix (ixT (K := K)) (pv 1) pe_int (fun _ _ => rfl)) pa_nil)) pe_int) pa_nil))) pa_nil)))) (pe_cl (C_law_takeD T) (hr.mono (by decide)) pass0 (pa_cons (pv 0) (pa_cons pe_int pa_nil))) (fun _ _ => rfl)))
    (pss_cons (ps_if (pt_cmpR op_eq (pv 5) pe_int (nomark _))
    (pss_one (ps_ret (pe_tup (pa_cons pe_str (pa_cons (pv 6) pa_nil)))))
    pss_nil)
    (pss_one (ps_ret (pe_tup (pa_cons pe_str (pa_cons (pv 6) (pa_cons (pe_cl (C_law_entry T) (hr.mono (by decide)) pass0 (pa_cons (pv 0) (pa_cons (pv 2) pa_nil))) pa_nil))))))))
    pss_nil)
    (pss_cons (ps_if (pt_cmpR op_lt (pv 5) pe_int (nomark _))
    (pss_one (ps_ret (pe_tup (pa_cons pe_str (pa_cons (pe_cl (C_law_stamp T) (hr.mono (by decide)) pass0 (pa_cons (pv 0) (pa_cons (pv 1) (pa_cons (pv 4) pa_nil)))) pa_nil)))))
    pss_nil)
    (pss_cons (ps_if (pt_cmpR op_eq (pv 5) pe_int (nomark _))
    (pss_one (ps_ret (pe_tup (pa_cons pe_str (pa_cons (pe_op op_add (pe_op op_sub (pv 3) (pe_cl (C_law_takeD T) (hr.mono (by decide)) pass0 (pa_cons (pv 0) (pa_cons pe_int pa_nil)))) pe_int) (pa_cons (pe_op op_sub (pe_op op_add (pv 3) (pe_cl (C_law_takeD T) (hr.mono (by decide)) pass0 (pa_cons (pv 0) (pa_cons pe_int pa_nil)))) pe_int) pa_nil))))))
    pss_nil)
    (pss_cons (ps_if (PW.pt (pw_and (pt_cmpR op_gt (pe_callB (clen (K := K)) (by rfl) T.f_len PySem.boot_len (pa_cons (pe_ix (ixT (K := K)) (pv 1) pe_int (fun _ _ => rfl)) pa_nil)) pe_int (nomark _)) (pw_and1 (pt_cmpR op_gt (pe_cl (C_law_takeD T) (hr.mono (by decide)) pass0 (pa_cons (pv 0) (pa_cons pe_int pa_nil))) pe_int (nomark _)))))
    (pss_one (ps_ret (pe_tup (pa_cons pe_str (pa_cons (pe_ix (ixT (K := K)) (pe_ix (ixT (K := K)) (pv 1) pe_int (fun _ _ => rfl)) (pe_cl (C_law_takeD T) (hr.mono (by decide)) pass0 (pa_cons (pv 0) (pa_cons (pe_callB (clen (K := K)) (by rfl) T.f_len PySem.boot_len (pa_cons (pe_ix (ixT (K := K)) (pv 1) pe_int (fun _ _ => rfl)) pa_nil)) pa_nil))) (fun _ _ => rfl)) pa_nil)))))
    pss_nil)
    (pss_one (ps_ret (pe_tup (pa_cons pe_str (pa_cons (pe_tup (pa_cons pe_str (pa_cons (pe_ix (ixT (K := K)) (pv 2) pe_int (fun _ _ => rfl)) (pa_cons (pv 3) (pa_cons (pe_op op_add (pv 3) pe_int) pa_nil))))) pa_nil)))))))))))), ?_⟩
    walk_at "tw"
    intro n H1 e1 hd1 h0 h1
    have tk1 := hd.tk e1
    have hmo1 := hmo.mono tk1
    have hme1 := hme.mono tk1
    walk_at "tw"
    refine ite3 (fun _ => ?_) (fun _ => ?_)
    · walk_at "tw"
      intro st H2 e2 hd2
      have tk2 := hd1.tk e2
      have hme2 := hme1.mono tk2
      walk_at "tw"
      intro v H3 e3 hd3
      walk_at "tw"
      intro p np
      walk_at "tw"
      exact fin H3 (.record st v) ((e1.trans e2).trans e3) hd3 p np
    · obtain ⟨a, b, t, vs, rfl, ha, hb, hvs, ⟨us, ht, hus⟩⟩ := hmo1
      obtain ⟨ma, rfl, hma⟩ := id hme1
      have hl := hvs.1
      have hlu := hus.1
      walk_at "tw"
      refine ite3 (fun _ => ?_) (fun _ => ?_)
      · have hz : (0 : Int) < (vs.length : Int) + 2 := by omega
        walk_at "tw"
        intro r H2 e2 hd2 h02 h12
        walk_at "tw"
        have ha2 := hd1.tk e2 _ _ ha
        have hb2 := hd1.tk e2 _ _ hb
        have hma2 := hd1.tk e2 _ _ hma
        intro p np
        have hpd := hd2.ne np
        have hd2' := hd2.same (Same.new np (o := .lst [.int (vs.length : Nat), .int (0 + 1), .int r]))
        walk_at "tw"
        intro r3 H3 e3 hd3 h03 h13
        obtain ⟨z, hz, hat⟩ := at_ints [((vs.length : Nat) : Int), 0 + 1, r] h03 h13
        have hp3 := e3 p _ (by simpa using hpd) upd_same
        have hma3 := hd2'.tk e3 _ _ (Same.new np _ _ hma2)
        have hme3 : IsMeter H3 (.ref ma) m := ⟨ma, rfl, hma3⟩
        have e13 := (e1.trans e2).trans ((Keep.new np).trans e3)
        walk_at "tw"
        refine ite2 (fun _ => ?_) (fun _ => ?_)
        · walk_at "tw"
          intro q nq
          walk_at "tw"
          exact fin H3 (.takeBack z) e13 hd3 q nq
        · walk_at "tw"
          intro v H4 e4 hd4
          walk_at "tw"
          intro q nq
          walk_at "tw"
          exact fin H4 (.correct z v) (e13.trans e4) hd4 q nq
      · walk_at "tw"
        refine ite3 (fun _ => ?_) (fun _ => ?_)
        · have hmo2 : IsModel H1 (.ref a) ss Ds := ⟨a, b, t, vs, rfl, ha, hb, hvs, ⟨us, ht, hus⟩⟩
          walk_at "tw"
          intro st H2 e2 hd2
          walk_at "tw"
          intro p np
          walk_at "tw"
          exact fin H2 (.close st) (e1.trans e2) hd2 p np
        · walk_at "tw"
          refine ite2 (fun _ => ?_) (fun _ => ?_)
          · walk_at "tw"
            intro r2 H2 e2 hd2 _ _
            walk_at "tw"
            intro r3 H3 e3 hd3 _ _
            walk_at "tw"
            intro p np
            walk_at "tw"
            exact fin H3 (.check _ _) ((e1.trans e2).trans e3) hd3 p np
          · walk_at "tw"
            refine ite3 (fun hg => ?_) (fun hg => ?_)
            · have hg0 : (0 : Int) < (us.length : Nat) := of_decide_eq_true hg
              walk_at "tw"
              intro r2 H2 e2 hd2 _ _
              have ha2 := hd1.tk e2 _ _ ha
              have ht2 := hd1.tk e2 _ _ ht
              have hma2 := hd1.tk e2 _ _ hma
              walk_at "tw"
              refine ite3 (fun _ => ?_) (fun _ => ?_)
              · walk_at "tw"
                intro r3 H3 e3 hd3 h03 h13
                obtain ⟨j, rfl⟩ : ∃ j : Nat, r3 = (j : Int) := ⟨r3.toNat, by omega⟩
                obtain ⟨u, hu⟩ : ∃ u, us[j]? = some u := ⟨us[j]'(by omega), List.getElem?_eq_getElem _⟩
                have ht3 := hd2.tk e3 _ _ ht2
                have hat := atI_nat hu
                walk_at "tw"
                intro q nq
                walk_at "tw"
                exact fin H3 (.ack u) ((e1.trans e2).trans e3) hd3 q nq
              · have eG := e1.trans e2
                have hdG := hd2
                walk_at "tw"
                intro p np
                have hdG' := hdG.same (Same.new np (o := .tup [.str "clock", .str m.name, .int off, .int (off + 9)]))
                walk_at "tw"
                intro q nq
                walk_at "tw"
                exact fin _ (.ack (.ref p)) (eG.trans (Keep.new np)) hdG' q nq
            · have eG := e1
              have hdG := hd1
              refine itf rfl ?_
              walk_at "tw"
              intro p np
              have hdG' := hdG.same (Same.new np (o := .tup [.str "clock", .str m.name, .int off, .int (off + 9)]))
              walk_at "tw"
              intro q nq
              walk_at "tw"
              exact fin _ (.ack (.ref p)) (eG.trans (Keep.new np)) hdG' q nq
end
end Tw
end

section
set_option maxHeartbeats 4000000
/-! TwRules4: sorted(set(e)) of texts. -/
namespace Tw
open PySem PySem.Spec PyProof.Rows L2
open PySem.Froz (SD sObj tailTx addTx TxOk is_str add_ok add_x get_upd)
theorem tail_ris {ep : Nat} {es1 : Array (Int × Value)} {t2 : SetTable} {b : Bool} (r : L2.Ris t2.place.toList) : L2.Ris (tailTx ep es1 t2 b).2.2.place.toList ∧ (tailTx ep es1 t2 b).2.2.led = t2.led := by
  unfold tailTx
  split
  · exact ⟨relayAll_ris _ _ _, relayAll_led _ _ _⟩
  · exact ⟨r, rfl⟩
theorem add_ris {h : Int} {v : Value} {D : SD} (r : L2.Ris D.2.2.place.toList) : L2.Ris (addTx h v D).2.2.place.toList ∧ (addTx h v D).2.2.led = D.2.2.led := by
  have r1 := layNew_ris D.2.2 D.1 h v r
  have l1 := layNew_led D.2.2 D.1 h v
  unfold addTx
  by_cases c : (layNew D.2.2 D.1 h v).2.1.plain = true
  · rw [if_pos c]
    obtain ⟨a, b⟩ := tail_ris (ep := D.2.1) (es1 := (layNew D.2.2 D.1 h v).1) (t2 := { (layNew D.2.2 D.1 h v).2.1 with plain := false }) (b := (layNew D.2.2 D.1 h v).2.2.1) r1
    exact ⟨a, b.trans l1⟩
  · rw [if_neg c]
    obtain ⟨a, b⟩ := tail_ris (ep := D.2.1) (es1 := (layNew D.2.2 D.1 h v).1) (t2 := (layNew D.2.2 D.1 h v).2.1) (b := (layNew D.2.2 D.1 h v).2.2.1) r1
    exact ⟨a, b.trans l1⟩
section
variable {P : Program} {w : World} {A : Around} {E : Value → Shared → Prop} {s : Shared}
/-- a text that is there -/
theorem add_old {a : Addr} {D : SD} {l : List Str} {k : Str} {u : Tok} {Q : Bool → Shared → Prop} (ho : s.heap.get? a = some (sObj "set" D)) (F : TxOk P w D l) (hk : k ∈ l) (hb : l.length < scanBound) (q : Q false s) : wpAny (model P w) A (setAddHashed a (.str k u) (hashStr w k)) Q E s := by
  obtain ⟨es, ep, t⟩ := D
  have hd : (sObj "set" (es, ep, t)).data = .set es ep t := rfl
  have sz : es.size = l.length := F.sz
  have el : ElemsOf (strKind P w) es.toList := F.el
  have is := is_str (P := P) (w := w) k u
  unfold setAddHashed setAddHashedIn
  refine wpAny_holding (wpAny_bind (wpAny_setState_of ho hd F.fit ?_))
  dsimp only
  rw [byScan_of rfl (by rw [sz]; exact hb) el]
  simp only [↓reduceIte]
  unfold setAddByScan
  refine wpAny_bind (wpAny_bind (wpAny_rule ?_))
  refine wpAny_bind (wpAny_setScan_of (knd := strKind P w) (k := k) is ho hd F.fit el ?_)
  cases hfi : List.findIdx? (fun e => (strKind P w).is k e.2) es.toList with
  | some j => exact wpAny_pure (wpAny_pure q)
  | none =>
    obtain ⟨e, he, z⟩ := (F.mem k).mp hk
    have := List.findIdx?_eq_none_iff.mp hfi e he
    rw [z] at this
    cases this
theorem str_of {D : SD} {l : List Str} (F : TxOk P w D l) : ∀ e ∈ D.1.toList, ∃ k t, e.2 = Value.str k t ∧ k ∈ l := fun e he => by
  obtain ⟨⟨k, hk, _⟩, _⟩ := F.el e he
  obtain ⟨t, et⟩ := Value.isStrOf_shape (x := k) (v := e.2) hk
  exact ⟨k, t, et, (F.mem k).mpr ⟨e, he, hk⟩⟩
/-- set(l) of texts -/
theorem set_texts {l : Addr} {items : Array Value} {Q : Value → Shared → Prop} (hh : A.handled = none) (hl : s.heap.IsList l items) (xs : List Str) (hit : StrsAre items.toList xs) (few : xs.length < 60)
    (h : ∀ (h' : Heap) (tk : Nat) (D : SD) (ys : List Str), h'.get? s.heap.objs.size = some (sObj "set" D) → TxOk P w D ys → ys.Nodup → (∀ k, k ∈ ys ↔ k ∈ xs) → L2.Ris D.2.2.place.toList → (w.params.followText "set-order" = true ∨ D.2.2.led = true) →
      (∀ b o, s.heap.get? b = some o → h'.get? b = some o) → Q (.ref s.heap.objs.size) { s with heap := h', toks := tk }) : wpAny (model P w) A (call (.type "set") [.ref l]) Q E s := by
  have isz : items.size = xs.length := by rw [← Array.length_toList]; exact hit.length
  refine tw_set_list hh hl (fun i h' => ∃ (D : SD) (ys : List Str), h'.get? s.heap.objs.size = some (sObj "set" D) ∧ TxOk P w D ys ∧ ys.Nodup ∧ (∀ k, k ∈ ys ↔ k ∈ xs.take i) ∧ L2.Ris D.2.2.place.toList ∧ (w.params.followText "set-order" = true ∨ D.2.2.led = true)) ?_ ?_ ?_ ?_
  · rintro i h1 h2 ⟨D, ys, ho, r⟩ ko kp
    exact ⟨D, ys, ko _ ho, r⟩
  · intro i v s' Q F hv hi ⟨D, ys, ho, ok, nd, mem, ri, ld⟩ kp q
    obtain ⟨t, rfl⟩ := SS.strs_at hit i v (by rw [Array.getElem?_toList]; exact hv)
    have hx : xs[i]? = some (xs.getD i Str.empty) := by
      rw [isz] at hi
      rw [List.getD_eq_getElem?_getD, List.getElem?_eq_getElem hi]
      rfl
    generalize xs.getD i Str.empty = k at hx ⊢
    have len : ys.length ≤ xs.length := nodup_le nd fun k hk => List.mem_of_mem_take ((mem k).mp hk)
    unfold setAdd
    refine wpAny_holding (wpAny_bind ((strKind P w).pyHash (is_str k t) ?_))
    rcases Classical.em (k ∈ ys) with c | c
    · refine add_old (s := { s' with toks := s'.toks + 1 }) ho ok c (by unfold scanBound; omega) (q false s'.heap _ (Nat.le_add_right _ _) (Heap.SameBut.refl _ _) ⟨D, ys, ho, ok, nd, fun j => ?_, ri, ld⟩)
      rw [take_succ_get' hx, List.mem_append, ← mem j, List.mem_singleton]
      exact ⟨.inl, fun z => z.elim id fun z => z ▸ c⟩
    · obtain ⟨r1, r2⟩ := add_ris (h := hashStr w k) (v := .str k t) ri
      have ho2 := get_upd (sObj "set" (addTx (hashStr w k) (.str k t) D)) ho rfl
      refine add_x (s := { s' with toks := s'.toks + 1 }) ho ok c (by unfold scanBound; omega) (q true _ _ (Nat.le_add_right _ _) (Heap.SameBut.update _ _ _) ⟨_, k :: ys, ho2, add_ok t ok, List.nodup_cons.mpr ⟨c, nd⟩, fun j => ?_, r1, by rw [r2]; exact ld⟩)
      rw [take_succ_get' hx, List.mem_append, ← mem j, List.mem_singleton, List.mem_cons]
      exact Or.comm
  · intro h' ho
    refine ⟨(#[], 0, .fresh 0 0 (!w.params.followText "set-order")), [], ho, TxOk.nil rfl, List.nodup_nil, fun k => by simp, List.Pairwise.nil, ?_⟩
    show _ ∨ (!w.params.followText "set-order") = true
    cases w.params.followText "set-order"
    · exact .inr rfl
    · exact .inl rfl
  · rintro h' tk ⟨D, ys, ho, ok, nd, mem, ri, ld⟩ kp
    rw [isz, List.take_of_length_le (Nat.le_refl _)] at mem
    exact h h' tk D ys ho ok nd mem ri ld kp
end
theorem perm_of_cover : ∀ {l m : List Str}, l.Nodup → (∀ x ∈ l, x ∈ m) → m.length = l.length → m.Perm l
  | [], m, _, _, e => by rw [List.length_eq_zero_iff.mp e]
  | x :: l, m, n, h, e => by
    obtain ⟨n1, n2⟩ := List.nodup_cons.mp n
    have hx := h x List.mem_cons_self
    refine (List.perm_cons_erase hx).trans (List.Perm.cons x (perm_of_cover n2 (fun y hy => (List.mem_erase_of_ne (fun z => n1 (by rw [← z]; exact hy))).mpr (h y (List.mem_cons_of_mem _ hy))) ?_))
    rw [List.length_erase_of_mem hx, e, List.length_cons]
    omega
def strAt : Value → Str
  | .str x _ => x
  | _ => ⟨#[]⟩
def ltS (v u : Value) : Bool := decide ((strAt v).cps.toList < (strAt u).cps.toList)
theorem swoS : SrtO.Swo ltS := by
  refine ⟨fun x y h => decide_eq_false fun z => List.lt_irrefl _ (List.lt_trans (of_decide_eq_true h) z), fun x y z h1 h2 => decide_eq_false fun h => ?_⟩
  have a := of_decide_eq_false h1
  have b := of_decide_eq_false h2
  rcases cps_tri (strAt z).cps.toList (strAt y).cps.toList with c | c | c
  · exact b c
  · rw [c] at h; exact a h
  · exact a (List.lt_trans c h)
theorem strs_self : ∀ {vs : List Value}, (∀ v ∈ vs, ∃ k t, v = Value.str k t) → StrsAre vs (vs.map strAt)
  | [], _ => .nil
  | v :: vs, h => by
    obtain ⟨k, t, rfl⟩ := h v List.mem_cons_self
    exact .cons k t (strs_self fun u hu => h u (List.mem_cons_of_mem _ hu))
theorem strs_sortable {P : Program} {w : World} {A : Around} {s : Shared} {a : Addr} {vs : List Value} (hv : ∀ v ∈ vs, ∃ k t, v = Value.str k t) (h2 : 2 ≤ vs.length) : SrtO.SortableO P w A s a vs ltS := by
  intro h' _
  refine ⟨oneType', fun Q F hq => ?_, fun p q hp hq => ?_⟩
  · have S := strs_self hv
    match vs, S, h2 with
    | v1 :: v2 :: rest, S, _ =>
      rw [keyKind_strs S]
      exact wpAny_pure hq
  · obtain ⟨a, t, e1⟩ := hv _ hp
    obtain ⟨b, u, e2⟩ := hv _ hq
    show wpAny (model P w) A (keyLt' oneType' p.1 q.1) (fun r s' => s' = _ ∧ r = ltS p.1 q.1) (fun _ _ => False) _
    rw [e1, e2, keyLt'_oneType]
    exact oneLt_str ⟨rfl, rfl⟩
theorem vals_texts : ∀ {vs : List Value}, (∀ v ∈ vs, ∃ k t, v = Value.str k t) → Vals ((vs.map strAt).map V.str) vs
  | [], _ => .nil
  | v :: vs, h => by
    obtain ⟨k, t, rfl⟩ := h v List.mem_cons_self
    exact .cons ⟨t, rfl⟩ (vals_texts fun u hu => h u (List.mem_cons_of_mem _ hu))
section
variable {X : Cx}
def tSortS (K : PySem.W.Frag) (ta : TE) : TE := fun σ H Q => ta σ H fun x H1 => ∃ (l : Addr) (xs : List Str), x = .ref l ∧ SqL K H1 l (xs.map V.str) ∧ xs.length < 60 ∧
  ∀ (ys : List Str) (p : Addr), ys.Nodup → (∀ k, k ∈ ys ↔ k ∈ xs) → H1 p = none → Q (.ref p) (upd H1 p (.lst (ys.map V.str)))
theorem pe_sortedSSet {a : Expr} {ta : TE} {p p2 q pos : Pos} (hc : X.calm = true) (_hu : X.A.units + 64 < cLine) (hg : Gl X "sorted") (hm : X.mg "sorted" = none) (hg2 : Gl X "set") (hm2 : X.mg "set" = none) (ha : PE X a ta)
    (na : starEach [a] X.env = (false, eval a X.env) :: starEach [] X.env := by rfl) : PE X (.Call (.Name "sorted" p) [.Call (.Name "set" p2) [a] [] q] [] pos) (tSortS X.K ta) := by
  refine ⟨fun pins s σ H Q I h => ?_⟩
  refine Call_ (ld_blt I hg hm boot_sorted (PyProof.Rows.callWith_builtin1 (PyProof.Rows.args_cons ?_ rfl) rfl rfl))
  refine Call_ (ld_blt I hg2 hm2 boot_set (PyProof.Rows.callWith_type1 (PyProof.Rows.args_cons (thn (ha.run pins s σ H _ I h) fun v s1 hv => PyProof.Rows.args_nil ?_) na) na rfl))
  obtain ⟨x, H1, I1, r1, l, xs, rfl, hl, few, q1⟩ := hv
  obtain rfl : v = .ref l := r1
  obtain ⟨its, rv, pl, hz⟩ := I1.list hl
  have hcalm := I1.ok.hd hc
  refine set_texts (P := X.prog) (w := X.w) (s := s1) hcalm pl.isList xs (strsAre_of rv) few fun h' tk D ys ho ok nd mem ri ld kp => ?_
  refine PyProof.Rows.args_nil ?_
  have I2 : L2.Inv X pins σ H1 { s1 with heap := h', toks := tk } := I1.kept kp
  have len : ys.length ≤ xs.length := nodup_le nd fun k hk => (mem k).mp hk
  have sz : D.1.size = ys.length := ok.sz
  have txs : ∀ v ∈ D.1.toList.map (·.2), ∃ k t, v = Value.str k t := fun v hv => by
    obtain ⟨e, he, rfl⟩ := List.mem_map.mp hv
    obtain ⟨k, t, et, _⟩ := str_of ok e he
    exact ⟨k, t, et⟩
  refine SrtO.tw_sorted_set (s := { s1 with heap := h', toks := tk }) swoS hcalm ⟨_, ho, rfl, rfl⟩ ok.fit (by omega) ri ld (fun vs s2 b pm h2 hb k2 => strs_sortable (fun v hv => txs v (pm.mem_iff.mp hv)) h2) fun s' p out c k2 g2 o2 hp hlst srt pm => ?_
  have txs2 : ∀ v ∈ out, ∃ k t, v = Value.str k t := fun v hv => txs v (pm.mem_iff.mp hv)
  have pm2 : (out.map strAt).Perm ys := by
    refine (pm.map strAt).trans (perm_of_cover nd (fun k hk => ?_) (by rw [List.length_map, List.length_map, Array.length_toList]; exact sz))
    obtain ⟨e, he, z⟩ := (ok.mem k).mp hk
    obtain ⟨t, et⟩ := Value.isStrOf_shape (x := k) (v := e.2) z
    exact List.mem_map.mpr ⟨e.2, List.mem_map.mpr ⟨e, he, rfl⟩, by rw [et]; rfl⟩
  have len2 : ((out.map strAt).map V.str).length ≤ sizeLine := by rw [List.length_map, pm2.length_eq]; exact small (by omega)
  obtain ⟨J, hn⟩ := inv_new (xs := (out.map strAt).map V.str) I2 k2 g2 o2 hp hlst (vals_texts txs2) len2
  exact ⟨.ref p, _, J, rfl, q1 _ p (pm2.nodup_iff.mpr nd) (fun k => by rw [pm2.mem_iff, mem k]) hn⟩
end
end Tw
end

section
set_option maxHeartbeats 4000000
namespace Tw
open PySem PySem.Spec PyProof.Rows L2
/-! the machine of the readings: "tw" goes on through what has one answer; it stops at a branch, a loop, a new object, what comes behind a call -/
local macro_rules | `(tactic| walk_at "tw look") => `(tactic| first
  | assumption
  | exact upd_same
  | (refine Same.new (by assumption) _ _ ?_; walk_at "tw look")
  | (refine upd_oth (by assumption) ?_; walk_at "tw look")
  | (refine upd_dif (by assumption) (by intro z; cases z) ?_; walk_at "tw look")
  | (refine upd_dif upd_same (by intro z; cases z) ?_; walk_at "tw look"))
local macro_rules | `(tactic| walk_at "tw seq") => `(tactic| first
  | assumption
  | exact SqL.of (by walk_at "tw look")
  | exact SqT.of (by walk_at "tw look")
  | exact .inl (SqL.of (by walk_at "tw look"))
  | exact .inr (SqT.of (by walk_at "tw look"))
  | exact .inl (by assumption)
  | exact dget_of (by walk_at "tw look") (by assumption)
  | exact DGet.k (k := Sum.inl _) (by walk_at "tw look")
  | exact DPut.k (k := Sum.inl _) (by walk_at "tw look") (by assumption)
  | exact .inl ⟨_, .inl (by walk_at "tw look")⟩
  | exact .inr ⟨_, .inl (by walk_at "tw look")⟩
  | exact ⟨_, SqL.of (by walk_at "tw look")⟩
  | exact ⟨_, SqT.of (by walk_at "tw look")⟩
  | exact ⟨_, by assumption⟩
  | exact .inl ⟨rfl, _, SqL.of (by walk_at "tw look")⟩)
local macro_rules | `(tactic| walk_at "tw atom") => `(tactic| first
  | with_reducible rfl
  | assumption
  | rfl
  | walk_at "tw look"
  | walk_at "tw seq"
  | omega
  | exact small (by simp; done)
  | exact smallt (by simp; done)
  | exact cdiv_of rfl
  | exact fun _ h => h
  | exact Int.natCast_pos.mpr (Nat.zero_lt_succ _)
  | exact cmul_r rfl
  | exact cmul_l rfl
  | exact Nat.le_of_ble_eq_true rfl)
local macro_rules | `(tactic| walk_at "tw step") => `(tactic| first | (with_reducible refine iteT ?_) | (with_reducible refine iteF ?_) | (with_reducible refine itf nott ?_) | (with_reducible refine itt notf ?_) | ((fail_if_success (refine ite2 (fun _ => ?_) (fun _ => ?_))); first
  | ((fail_if_success (refine (?_ : ∃ W : Nat → Nat → L2.St → Hp → Prop, _))); (fail_if_success (refine (?_ : ∃ W : Nat → Nat → Hp → Prop, _))); apply Exists.intro)
  | (apply And.intro; (walk_at "tw atom"))))
local macro_rules | `(tactic| walk_at "tw") => `(tactic| repeat walk_at "tw step")

section
variable {P : Program} {w : World} {K : PySem.W.Frag} {mg : Str → Option Value} {base : Heap}
def spPlan : Sp := fun vs H Q _ => ∃ (d : Addr) (c : Int), vs = [.ref d, .int c] ∧ Draw H d ∧
  ∀ p len ms H', Keep [d] H H' → Draw H' d → IsPlan H' p len ms → MsOk ms → (∀ m ∈ ms, MOk m) → 0 < ms.length → ms.length ≤ 6 → Q p H'
theorem abs_nn (c : Int) : 0 ≤ (if c < 0 then -c else c) := by split <;> omega
theorem C_law_plan (T : Tx K mg) : Callee P w K mg base CX0 "_law_plan" P_law_plan 3 spPlan := by
  refine mk_law_plan T (k := 2) (fun vs H Q E h => ?_) (fun f cdv A outer s H vs Q E hr h => ?_)
  · obtain ⟨d, c, rfl, _⟩ := h
    rfl
  · obtain ⟨d, c, rfl, hd, k⟩ := h
    refine ⟨_, ((pss_cons (ps_set (i := 2) sc_law_plan.nd rfl (by first | exact Or.inl rfl | exact Or.inr rfl) (pe_op op_add pe_int (pe_cl (C_law_takeD T) (hr.mono (by decide)) pass0 (pa_cons (pv 0) (pa_cons pe_int pa_nil)))))
    (pss_cons (ps_cut (ps_if (pt_cmpR op_eq (pe_cl (C_law_takeD T) (hr.mono (by decide)) pass0 (pa_cons (pv 0) (pa_cons pe_int pa_nil))) pe_int (nomark _))
    (pss_one (ps_set (i := 2) sc_law_plan.nd rfl (by first | exact Or.inl rfl | exact Or.inr rfl) (pe_op op_add (pv 2) pe_int)))
    pss_nil))
    (pss_cons (ps_set (i := 3) sc_law_plan.nd rfl (by first | exact Or.inl rfl | exact Or.inr rfl) (pe_lst pa_nil))
    (pss_cons (ps_for PassesOwn.never rfl (pi_list (pe_sortedSSet rfl (hu64 hr) (by rfl) T.f_sorted (by rfl) T.f_set (pe_lc (own := [("_law_k", 8)]) (g := gName 8) (tt := tYes) rfl sc_law_plan.nd (pi_range1 (by rfl) T.f_range (pa_cons (pv 2) pa_nil)) (blkOk_by (N := N_law_plan) (sc := defScope s_law_plan) (by decide +kernel)) (fun _ _ _ _ _ => (pg_name (i := 8) sc_law_plan.nd rfl (by first | exact Or.inl rfl | exact Or.inr rfl))) (fun _ _ _ _ _ => pts_nil) (fun _ _ _ _ _ => (pe_cl (C_law_some_word T) (hr.mono (by decide)) pass0 (pa_cons (pv 0) pa_nil)))))) (pg_name (i := 4) sc_law_plan.nd rfl (by first | exact Or.inl rfl | exact Or.inr rfl))
    (pss_cons (ps_set (i := 5) sc_law_plan.nd rfl (by first | exact Or.inl rfl | exact Or.inr rfl) (pe_ix (ixL (K := K)) (pe_lst (pa_cons (pe_op op_sub (pe_cl (C_law_takeD T) (hr.mono (by decide)) pass0 (pa_cons (pv 0) (pa_cons pe_int pa_nil))) pe_int) (pa_cons (pv 1) pa_nil))) (pe_op op_fdiv (pe_cl (C_law_takeD T) (hr.mono (by decide)) pass0 (pa_cons (pv 0) (pa_cons pe_int pa_nil))) pe_int) (fun _ _ => rfl)))
    (pss_cons (ps_set (i := 6) sc_law_plan.nd rfl (by first | exact Or.inl rfl | exact Or.inr rfl) (pe_ix (ixL (K := K)) (pe_lst (pa_cons pe_int (pa_cons pe_int (pa_cons pe_int (pa_cons pe_int (pa_cons pe_int (pa_cons pe_int (pa_cons (pe_op op_pow pe_int pe_int) (pa_cons (pe_callB call_abs (by rfl) T.f_abs PyProof.Rows.boot_abs (pa_cons (pv 1) pa_nil)) pa_nil))))))))) (pe_cl (C_law_takeD T) (hr.mono (by decide)) pass0 (pa_cons (pv 0) (pa_cons pe_int pa_nil))) (fun _ _ => rfl)))
    (pss_one (ps_expr (pe_bm PySem.F.plainAttrs_list PySem.F.slot_list_append PySem.F.type_list_append mt_append (pv 3) (pa_cons (pe_tup (pa_cons (pv 4) (pa_cons (pv 5) (pa_cons (pe_op op_add (pv 5) (pv 6)) (pa_cons (pe_ix (ixL (K := K)) (pe_lst (pa_cons pe_int (pa_cons pe_int (pa_cons pe_int (pa_cons pe_int (pa_cons pe_int (pa_cons pe_int pa_nil))))))) (pe_cl (C_law_takeD T) (hr.mono (by decide)) pass0 (pa_cons (pv 0) (pa_cons pe_int pa_nil))) (fun _ _ => rfl)) pa_nil))))) pa_nil)))))))
    (pss_cons (ps_set (i := 7) sc_law_plan.nd rfl (by first | exact Or.inl rfl | exact Or.inr rfl) (pe_ix (ixL (K := K)) (pe_lst (pa_cons pe_int (pa_cons pe_int (pa_cons pe_int (pa_cons pe_int (pa_cons pe_int (pa_cons (pe_op op_add pe_int (pe_callB call_abs (by rfl) T.f_abs PyProof.Rows.boot_abs (pa_cons (pv 1) pa_nil))) pa_nil))))))) (pe_cl (C_law_takeD T) (hr.mono (by decide)) pass0 (pa_cons (pv 0) (pa_cons pe_int pa_nil))) (fun _ _ => rfl)))
    (pss_one (ps_ret (pe_tup (pa_cons (pv 7) (pa_cons (pe_callTy (ctuple (K := K)) (by rfl) T.f_tuple Pv.boot_tuple (pa_cons (pv 3) pa_nil)) pa_nil))))))))))), ?_⟩
    walk_at "tw"
    intro r1 H1 e1 hd1 h10 h11
    walk_at "tw"
    refine .mk (fun σ G => ∃ r : Int, σ = [some (.ref d), some (.int c), some (.int r), none, none, none, none, none, none] ∧ (1 ≤ r ∧ r ≤ 6) ∧ Keep [d] H G ∧ Draw G d) (fun N hN => ?_) ?_
    · walk_at "tw"
      intro r2 H2 e2 hd2 h20 h21
      walk_at "tw"
      refine ite2 (fun _ => ?_) (fun _ => ?_)
      · walk_at "tw"
        exact hN _ _ ⟨_, rfl, by omega, e1.trans e2, hd2⟩
      · exact hN _ _ ⟨_, rfl, by omega, e1.trans e2, hd2⟩
    · rintro σ H2 ⟨r, rfl, m0, e02, hd2⟩
      clear h10 h11 hd1 e1
      walk_at "tw"
      intro ml nml
      walk_at "tw"
      have hml : (upd H2 ml (.lst [])) ml = some (.lst []) := upd_same
      have hmd := hd2.ne nml
      have eb := e02.trans (Keep.new nml (o := .lst []))
      have hdb := hd2.same (Same.new nml (o := .lst []))
      generalize upd H2 ml (.lst []) = Hb at hml eb hdb ⊢
      have nml0 : H ml = none := e02.free (by simpa using hmd) nml
      intro D nD
      have hDd := hdb.ne nD
      have hDm : D ≠ ml := Ne.symm (ne_of_none hml nD)
      refine lc_it (walk_range (lo := 0) (n := Int.toNat (r))) (fun i H' => Keep [d] Hb H' ∧ Draw H' d ∧ ∃ ws : List Str, H' D = some (.lst (ws.map V.str)) ∧ ws.length = i ∧ ∀ s ∈ ws, PyData.strOk s = true)
        ⟨Keep.new nD, hdb.same (Same.new nD), [], upd_same, rfl, fun s hs => by cases hs⟩ (fun i H' _ z => trivial) ?_ ?_
      · rintro i x H' H'' hi ⟨e, hd', ws, hD, hl, hws⟩ ⟨rfl, rfl⟩
        have hz : (ws.map V.str).length < sizeLine := smallt (by rw [List.length_map]; omega)
        walk_at "tw"
        intro s H5 e5 hd5 hs _
        have hD5 := e5 _ _ (by simpa using hDd) hD
        walk_at "tw"
        have nDb : Hb D = none := nD
        refine ⟨fun b o hb hbo => ?_, hd5.keep (Keep.upd (S := [D]) (by simp)) (by simpa using Ne.symm hDd), ws ++ [s], by rw [upd_same, List.map_append]; rfl, by rw [List.length_append, hl]; rfl, fun z hz => ?_⟩
        · rw [upd_ne (ne_of_none hbo nD)]
          exact e5 _ _ hb (e _ _ hb hbo)
        · rcases List.mem_append.mp hz with q | q
          · exact hws z q
          · rw [List.mem_singleton.mp q]; exact hs
      · rintro H3 ⟨e3, hd3, ws, hD3, hl, hws⟩
        have fewws : ws.length < 60 := by omega
        walk_at "tw"
        intro ys p nd mem np
        have hml3 := e3 _ _ (by simpa using hmd) hml
        have hpd := hd3.ne np
        have hpm : p ≠ ml := Ne.symm (ne_of_none hml3 np)
        have leny : ys.length ≤ ws.length := nodup_le nd fun k hk => (mem k).mp hk
        have hny : 0 < ys.length := by
          obtain ⟨s, hs⟩ : ∃ s, s ∈ ws := List.exists_mem_of_length_pos (by omega)
          exact List.length_pos_of_mem ((mem s).mpr hs)
        have e3b : Keep [d] Hb (upd H3 p (.lst (ys.map V.str))) := e3.trans (Keep.new np)
        walk_at "tw"
        have hp3 : (upd H3 p (.lst (ys.map V.str))) p = some (.lst (ys.map V.str)) := upd_same
        have hd3b := hd3.same (Same.new np (o := .lst (ys.map V.str)))
        have hml3b := Same.new np (o := .lst (ys.map V.str)) _ _ hml3
        have hsy : ∀ s ∈ ys, PyData.strOk s = true := fun s hs => hws s ((mem s).mp hs)
        generalize upd H3 p (.lst (ys.map V.str)) = H4 at hp3 hd3b hml3b e3b ⊢
        have hmd' : ml ∉ [d] := by simpa using hmd
        have hpd' : p ∉ [d] := by simpa using hpd
        refine for_list (K := K) (a := p) (xs := ys.map V.str) (fun i σ H' => (∃ x2 x4 x5 x6 x7 x8, σ = [some (.ref d), some (.int c), x2, some (.ref ml), x4, x5, x6, x7, x8]) ∧ Keep [d, ml] Hb H' ∧ Draw H' d ∧ H' p = some (.lst (ys.map V.str)) ∧
            ∃ (mvs : List V) (ms : List Meter), H' ml = some (.lst mvs) ∧ All2 (IsMeter H') mvs ms ∧ ms.map (·.name) = ys.take i ∧ ∀ m ∈ ms, MOk m)
          ⟨⟨_, _, _, _, _, _, rfl⟩, e3b.mono (by simp), hd3b, hp3, [], [], hml3b, All2.nil, rfl, fun m hm => by cases hm⟩ (fun i σ H' _ z => SqL.of z.2.2.2.1) ?_ ?_
        · rintro i x σ H' hx ⟨⟨x2, x4, x5, x6, x7, x8, rfl⟩, e, hd', hp', mvs, ms, hmv, hms, hnm, hok⟩
          rw [List.getElem?_map] at hx
          obtain ⟨y, hy, rfl⟩ : ∃ y, ys[i]? = some y ∧ V.str y = x := by
            cases z : ys[i]? with
            | none => rw [z] at hx; cases hx
            | some y => rw [z] at hx; exact ⟨y, rfl, Option.some.inj hx⟩
          have hiy : i < ys.length := (List.getElem?_eq_some_iff.mp hy).1
          walk_at "tw"
          intro a1 G1 f1 gd1 a10 a11
          walk_at "tw"
          intro q1 nq1
          have hq1d := gd1.ne nq1
          have gd1' := gd1.same (Same.new nq1 (o := .lst [.int (a1 - 3), .int c]))
          have f1' := f1.trans (Keep.new nq1 (o := .lst [.int (a1 - 3), .int c]))
          walk_at "tw"
          intro a2 G2 f2 gd2 a20 a21
          obtain ⟨lo, hlo, hat1⟩ := at_ints [a1 - 3, c] (r := a2 / 8) (Int.ediv_nonneg a20 (by decide)) (by show a2 / 8 < 2; omega)
          have hq1 := f2 q1 _ (by simpa using hq1d) upd_same
          have f02 := f1'.trans f2
          walk_at "tw"
          refine ⟨cpow20, ?_⟩
          walk_at "tw"
          intro q2 nq2
          have hq2d := gd2.ne nq2
          have gd2' := gd2.same (Same.new nq2 (o := .lst [.int 0, .int 1, .int 1, .int 2, .int 5, .int 40, .int (10 ^ Int.toNat 20), .int (if c < 0 then -c else c)]))
          have f02' := f02.trans (Keep.new nq2 (o := .lst [.int 0, .int 1, .int 1, .int 2, .int 5, .int 40, .int (10 ^ Int.toNat 20), .int (if c < 0 then -c else c)]))
          walk_at "tw"
          intro a3 G3 f3 gd3 a30 a31
          obtain ⟨wd, hwd, hat2⟩ := at_ints [0, 1, 1, 2, 5, 40, 10 ^ Int.toNat 20, if c < 0 then -c else c] a30 a31
          have hwd0 : 0 ≤ wd := by
            have := abs_nn c
            have h20 : (0 : Int) ≤ 10 ^ Int.toNat 20 := by decide
            simp only [List.mem_cons, List.not_mem_nil, or_false] at hwd
            rcases hwd with h | h | h | h | h | h | h | h <;> omega
          have hq2 := f3 q2 _ (by simpa using hq2d) upd_same
          have f03 := f02'.trans f3
          have hmv3 := f03 _ _ hmd' hmv
          walk_at "tw"
          intro q3 nq3
          have hq3d := gd3.ne nq3
          have gd3' := gd3.same (Same.new nq3 (o := .lst [.int 0, .int 0, .int 1, .int 2, .int 7, .int 60]))
          have f03' := f03.trans (Keep.new nq3 (o := .lst [.int 0, .int 0, .int 1, .int 2, .int 7, .int 60]))
          walk_at "tw"
          intro a4 G4 f4 gd4 a40 a41
          obtain ⟨er, her, hat3⟩ := at_ints [0, 0, 1, 2, 7, 60] a40 a41
          have her0 : 0 ≤ er := by
            simp only [List.mem_cons, List.not_mem_nil, or_false] at her
            omega
          have hq3 := f4 q3 _ (by simpa using hq3d) upd_same
          have f04 := f03'.trans f4
          walk_at "tw"
          intro t nt
          have htd := gd4.ne nt
          have f05 := f04.trans (Keep.new nt (o := .tup [.str y, .int lo, .int (lo + wd), .int er]))
          have hmv5 := f05 _ _ hmd' hmv
          have hp5 := f05 _ _ hpd' hp'
          have gd5 := gd4.same (Same.new nt (o := .tup [.str y, .int lo, .int (lo + wd), .int er]))
          have hzm : mvs.length < sizeLine := smallt (by rw [hms.1, ← List.length_map (f := Meter.name), hnm, List.length_take]; omega)
          walk_at "tw"
          have tk5 := hd'.tk f05
          have tk6 : TKeep (upd G4 t (.tup [.str y, .int lo, .int (lo + wd), .int er])) (upd (upd G4 t (.tup [.str y, .int lo, .int (lo + wd), .int er])) ml (.lst (mvs ++ [.ref t]))) := TKeep.upd hmv5 fun xs z => by cases z
          refine ⟨⟨_, _, _, _, _, _, rfl⟩, (e.trans (f05.mono (by simp))).trans (Keep.upd (by simp)), gd5.keep (Keep.upd (S := [ml]) (by simp)) (by simpa using Ne.symm hmd), by rw [upd_ne hpm]; exact hp5, mvs ++ [.ref t], ms ++ [⟨y, lo, lo + wd, er⟩], upd_same, ?_, ?_, ?_⟩
          · exact (hms.mono fun _ _ z => z.mono (tk5.trans tk6)).snoc ⟨t, rfl, tk6 _ _ upd_same⟩
          · rw [List.map_append, hnm, take_succ_get hy]; rfl
          · intro m hm
            rcases List.mem_append.mp hm with z | z
            · exact hok m z
            · rw [List.mem_singleton.mp z]; exact ⟨by show lo ≤ lo + wd; omega, her0⟩
        · rintro σ H' ⟨⟨x2, x4, x5, x6, x7, x8, rfl⟩, e, hd', hp', mvs, ms, hmv, hms, hnm, hok⟩
          rw [List.take_of_length_le (by rw [List.length_map]; exact Nat.le_refl _)] at hnm
          have lms : ms.length = ys.length := by rw [← hnm, List.length_map]
          walk_at "tw"
          intro q4 nq4
          have hq4d := hd'.ne nq4
          have gd' := hd'.same (Same.new nq4 (o := .lst [.int 1, .int 2, .int 5, .int 10, .int 60, .int (1 + if c < 0 then -c else c)]))
          walk_at "tw"
          intro a5 G5 f5 gd5 a50 a51
          obtain ⟨len, _, hat4⟩ := at_ints [1, 2, 5, 10, 60, 1 + if c < 0 then -c else c] a50 a51
          have hq4 := f5 q4 _ (by simpa using hq4d) upd_same
          have f05 := (Keep.new (S := [d]) nq4 (o := .lst [.int 1, .int 2, .int 5, .int 10, .int 60, .int (1 + if c < 0 then -c else c)])).trans f5
          have hmv5 := f05 _ _ hmd' hmv
          have tk5 := hd'.tk f05
          walk_at "tw"
          intro tp ntp
          walk_at "tw"
          intro pl npl
          walk_at "tw"
          have tk6 := (tk5.trans (Same.new ntp (o := .tup mvs)).tk).trans (Same.new npl (o := .tup [.int len, .ref tp])).tk
          have efin : Keep [d, ml] Hb (upd (upd G5 tp (.tup mvs)) pl (.tup [.int len, .ref tp])) := ((e.trans (f05.mono (by simp))).trans (Keep.new ntp)).trans (Keep.new npl)
          refine k (.ref pl) len ms _ (fun b o hb hbo => ?_) ((gd5.same (Same.new ntp)).same (Same.new npl)) ⟨pl, tp, mvs, rfl, upd_same, Same.new npl _ _ upd_same, hms.mono fun _ _ z => z.mono tk6⟩ ⟨by rw [hnm]; exact nd, by omega, fun m hm => hsy _ (by rw [← hnm]; exact List.mem_map.mpr ⟨m, hm, rfl⟩)⟩ hok (by omega) (by omega)
          have hbm : b ≠ ml := ne_of_none hbo nml0
          exact efin b o (by
            have : b ≠ d := by simpa using hb
            simp [this, hbm]) (eb b o hb hbo)
end
end Tw
end

section
set_option maxHeartbeats 4000000
/-! TwHot: a def that is called where an error is handled, and is told of that error. -/
namespace Tw
open PySem PySem.Spec PyProof.Rows L2 L2H HotX
/-- the promise of such a def; p the error that is handled -/
structure FnE (P : Program) (w : World) (K : PySem.W.Frag) (mg : Str → Option Value) (base : Heap) (CX : CXT) (k : Nat) (f : Addr) (fd : FuncData) (ps : List Str) (sp : Addr × Obj → Sp) : Prop where
  len : ∀ p vs H Q E, sp p vs H Q E → vs.length = ps.length
  run : ∀ (A : Around) (outer : List Env) (s : Shared) (H : Hp) (args : Args) (us : List Value) (vs : List V) (Q : VK) (E : XK) (p : Addr × Obj), Env0 P w K mg base A outer s H → PinOk outer H s p → Hot1 A p → RoomH k A → BindsTo s fd args (ps.zip us) → Vals vs us → sp p vs H Q E →
    codeAny (model P w) A (.call (.ref f) args) (CR CX outer P w H s Q E) s
theorem fn_ofE {CX : CXT} {P : Program} {w : World} {K : PySem.W.Frag} {mg : Str → Option Value} {base : Heap} {k : Nat} {f : Addr} {name qual : Str} {params : Arguments} {body : List Stmt} {scope : Scope} {dV kV doc pm cdv ct oc : Value} {an od : Option Addr}
    {osl : Array (Option Value)} {N ps : List Str} {sp : Addr × Obj → Sp} (lk : K.lookup f = some ⟨oc, od, .func (PySem.W.fnOf name qual params body scope dV kV doc pm an cdv ct), osl⟩) (hcd : PySem.W.codeIn K cdv qual = true) (S : FnScope N ps scope)
    (len : ∀ p vs H Q E, sp p vs H Q E → vs.length = ps.length)
    (bd : ∀ (A : Around) (outer : List Env) (s : Shared) (H : Hp) (vs : List V) (Q : VK) (E : XK) (p : Addr × Obj), RoomH k (A.deeper (envOfC qual scope s.heap.objs.size f cdv)) → Hot1 A p → sp p vs H Q E →
      ∃ t, PSs (cxH CX P w K mg base N qual scope f cdv A outer s H E p) body t ∧ t { nx := fun _ H' => Q .non H', rt := Q } (L2.start N vs) H) :
    FnE P w K mg base CX (k + 1) f (PySem.W.fnOf name qual params body scope dV kV doc pm an cdv ct) ps sp := by
  refine ⟨len, fun A outer s H args us vs Q E p e0 pin hot room hb r hsp => ?_⟩
  have hl := len _ _ _ _ _ hsp
  have lim : s.heap.NoLimit := e0.mod.nolimit.keeps fun b o e => (e0.bs b o e).1
  have kin : K.In s.heap := e0.mod.kin.keeps fun b o e => (e0.bs b o e).1
  have kinds : ∀ y ∈ ps.zip us, scope.names.lookup y.1 = some .local ∨ (scope.names.lookup y.1 = some .cell ∧ ((cellsFrom (s.heap.objs.size + 1) scope.names []).lookup y.1).isSome = true) := fun y hy => by
    rcases S.par y.1 (List.of_mem_zip hy).1 with q | q
    · exact .inl q
    · exact .inr ⟨q, PySem.W.cellsFrom_some _ _ _ (.inl q)⟩
  refine codeAny_call_function room.depth (kin _ _ lk) rfl S.co S.gen rfl (PySem.W.codeRec_of kin hcd) (hb _ _ _ _ (wpAny_newFunctionEnv_cells S.kind kinds fun env he s1 x => ?_))
  subst he
  obtain ⟨t, ht, hq⟩ := bd A outer s H vs Q E p (room.deeper _) hot hsp
  refine ⟨lim.keeps x.toInCall.keep, codeAny_func (wpAny_mono (ht.run [] s1 (L2.start N vs) H _ (inv_startH S pin e0 hl r x) hq) (fun fl s' z => ?_) fun _ _ z => z)⟩
  match fl, z with
  | .ret u, ⟨v, σ', H', J, rv, q⟩ => exact ⟨v, H', J.os, J.bare, J.base, J.hok, rv, q⟩
  | .next, ⟨σ', H', J, q⟩ => exact ⟨V.non, H', J.os, J.bare, J.base, J.hok, rfl, q⟩
  | .brk, ⟨_, _, _, q⟩ => exact q.elim
  | .cont, ⟨_, _, _, q⟩ => exact q.elim
section
variable {X : Cx} {CX : CXT} {k : Nat} {f : Addr} {fd : FuncData} {ps : List Str} {sp : Addr × Obj → Sp} {E : L2.St → XK} {x : Str} {q pos : Pos} {e : Expr} {es : List Expr} {t : TA}
/-- f(e, ..) in the suite of an except -/
theorem pe_callE {p : Addr × Obj} (F : FnE X.prog X.w X.K X.mg X.base CX k f fd ps sp) (room : RoomH k X.A) (hot : Hot1 X.A p) (hp : p ∈ X.pn) (hg : Gl X x) (hm : X.mg x = some (.ref f)) (hk : PySem.W.keepIn X.K (.ref f) = true) (hb : Binds X.K fd ps []) (hx : ∀ σ, PassesAt CX X σ (E σ))
    (ha : PA X (e :: es) t) (hdb : (x == ("__debug__" : Str)) = false := by decide) (he : starEach (e :: es) X.env = (false, eval e X.env) :: starEach es X.env := by rfl) (hpl : (backTo pos (starEach es X.env)).any (·.1) = false := by rfl) :
    PE X (.Call (.Name x q) (e :: es) [] pos) (tCallS (sp p) E t) := by
  refine ⟨fun pins s σ H Q I h => wpAny_Call_Name_kw (ld_glob I hg hm ?_ hdb)⟩
  refine PySem.W.callWith_K (h₀ := X.base) I.ok.mod.kin hk (thn (ha.run pos pins s σ H _ I h) fun us s1 z => ?_) he hpl
  obtain ⟨vs, H1, I1, r, q1⟩ := z
  refine ⟨I1.kIn, ?_⟩
  have hl : us.length = ps.length := by rw [← r.length]; exact F.len _ _ _ _ _ q1
  have b := hb s1 us I1.kIn (by rw [List.append_nil]; exact hl)
  rw [List.append_nil] at b
  have P1 := I1.pin p (List.mem_append_left _ hp)
  have pin : PinOk X.stack H1 s1 p := ⟨P1.1, P1.2.1, fun hm => (List.mem_cons.mp (I1.stkSub p.1 hm)).elim P1.2.2.1 P1.2.2.2.1, P1.2.2.2.2⟩
  show wpAny _ _ (call (.ref f) us) _ _ _
  refine wpAny_call (codeAny_mono (F.run X.A X.stack s1 H1 ⟨us, []⟩ us vs Q (E σ) p I1.env0 pin hot room b r q1) fun r2 s' z => ?_)
  match r2, z with
  | .error u, z => exact hx σ pins H1 s1 u s' I1 z
  | .ok (.ret u), z => exact I1.after z
  | .ok .next, z => exact False.elim z
  | .ok .brk, z => exact False.elim z
  | .ok .cont, z => exact False.elim z
/-- isinstance(e, c) of the error that is handled -/
theorem call_isP {p : Addr × Obj} {D : Addr} (C : ExcC X.K D) (hc : p.2.cls = .ref D) (hd : p.2.dict = none) (hf : ∃ vs, p.2.data = .fields vs) (hp : p ∈ X.pn) : CallR X (.builtin "isinstance") (rIsE X.K D p.1) := by
  intro pins s σ H xs us Q I r h
  obtain ⟨c, cv, b, rfl, hcv, e, q⟩ := h
  match us, r with
  | [u1, u2], .cons rx (.cons rt .nil) =>
    obtain rfl : u1 = .ref p.1 := rx
    obtain rfl : u2 = cv := hcv _ rt
    obtain ⟨get, _⟩ := I.pin p (List.mem_append_left _ hp)
    obtain ⟨vs, hv⟩ := hf
    have J : PySem.W.InstAt s.heap p.1 p.2 D none := by
      obtain ⟨a, oc, od, oda, osl⟩ := p
      dsimp only at hc hd hv get ⊢
      subst hc hd hv
      exact ⟨get, rfl, rfl, trivial⟩
    exact PySem.W.kia_one (PySem.W.handS_kitx_exc C.hg C.hk C.hs C.hd C.ha C.hn C.ht C.hm) I.kIn J e (fun z => nomatch z) fun tk => ⟨.bl b, H, I.kept (t' := tk) fun _ _ z => z, rfl, q⟩
end
end Tw
end

section
set_option maxHeartbeats 4000000
/-! TwHotLc: a comprehension over a range, where an error is handled. -/
namespace Tw
open PySem PySem.Spec PyProof.Rows L2 L2H HotX
section
variable {X : Cx} {pins : List (Addr × Obj)} {σ : L2.St} {H : Hp} {s : Shared} {p : Addr × Obj}
/-- the context with the error told -/
abbrev tell (X : Cx) (p : Addr × Obj) : Cx := { X with pn := [p] }
theorem told (I : L2.Inv X pins σ H s) (h0 : X.pn = []) (hp : s.heap.get? p.1 = some p.2 ∧ H p.1 = none ∧ p.1 ≠ X.env.locals ∧ p.1 ∉ X.fs ∧ ∀ v, p.2.data ≠ .cell v) : L2.Inv (tell X p) pins σ H s where
  ok := ⟨I.ok.mod, I.ok.kind, I.ok.glob, I.ok.blt, I.ok.above, I.ok.inj, I.ok.has, I.ok.cab, I.ok.hd, I.ok.frames, I.ok.stk, I.ok.exf, I.ok.bs, I.ok.bsz, I.ok.noex, I.ok.exfs, I.ok.funs, I.ok.frf⟩
  os := I.os
  bare := I.bare
  base := I.base
  loc := I.loc
  cell := I.cell
  free := I.free
  freeC := I.freeC
  pin := fun q hq => by
    rcases List.mem_append.mp hq with z | z
    · rw [List.mem_singleton.mp z]; exact hp
    · exact I.pin q (List.mem_append_right _ z)
  hok := I.hok
  len := I.len
theorem untold (I : L2.Inv (tell X p) pins σ H s) (h0 : X.pn = []) : L2.Inv X pins σ H s where
  ok := ⟨I.ok.mod, I.ok.kind, I.ok.glob, I.ok.blt, I.ok.above, I.ok.inj, I.ok.has, I.ok.cab, I.ok.hd, I.ok.frames, I.ok.stk, I.ok.exf, I.ok.bs, I.ok.bsz, I.ok.noex, I.ok.exfs, I.ok.funs, I.ok.frf⟩
  os := I.os
  bare := I.bare
  base := I.base
  loc := I.loc
  cell := I.cell
  free := I.free
  freeC := I.freeC
  pin := fun q hq => by
    rw [h0] at hq
    exact I.pin q (List.mem_append_right _ hq)
  hok := I.hok
  len := I.len
theorem lcH_core {Q : VK} {elt tg iter : Expr} {ifs : List Expr} {scope : Scope} {own : List (Str × Nat)} {pos pos' : Pos} {wi : TI} {g : TG} {tt : TT} {te : TE} {use : Option (Value → Sem Unit)} {Qf : Value → Shared → Prop} (hot : Hot1 X.A p) (hpn : p ∈ X.pn) (hN : X.N.Nodup) (I : L2.Inv X pins σ H s)
    (hi : PIH X tg iter wi) (ok : BlkOk X.N X.env.scope scope own) (hg : ∀ (s : Shared) (H : Hp) (C : Addr) (cl : List (Str × Addr)) (fp : List Addr), PG (X.blk s H scope (compEnvC scope cl C X.env) fp) tg g)
    (ht : ∀ (s : Shared) (H : Hp) (C : Addr) (cl : List (Str × Addr)) (fp : List Addr), PTs (X.blk s H scope (compEnvC scope cl C X.env) fp) ifs tt) (he : ∀ (s : Shared) (H : Hp) (C : Addr) (cl : List (Str × Addr)) (fp : List Addr), PE (X.blk s H scope (compEnvC scope cl C X.env) fp) elt te)
    (hs : ∀ x, foldedSetIterable iter X.env x = pure x) (h : tLc wi g tt te (own.map (·.2)) σ H Q)
    (back : ∀ D C s' m H', L2.Inv X pins σ H' s' → Q (.ref D) H' → s'.heap.Ns C m → FpOk X pins H' C → compPost (model X.prog X.w) X.A X.xe use Qf (.ref D) C (.ok .next) s') :
    wpAny (model X.prog X.w) X.A (comprehension (.ListComp elt [⟨tg, iter, ifs, 0⟩] scope pos) scope X.env pos' (newList []) false (eval iter X.env) use) Qf X.xe s := by
  have clo : ∀ y ∈ scope.names, y.2 = .free → ∃ c, X.env.cells.lookup y.1 = some c := fun y hy e => (ok.free y hy e).elim (fun k => I.ok.has _ (.inl k)) fun k => I.ok.has _ (.inr k)
  refine wpAny_comprehension_free (use := use) rfl hs (closure_ok clo) ok.kind (fun y hy e => by rw [ok.uniq y hy, e]) (thn (hi.run pins s σ H _ I h) fun xv s1 hx => thn hx fun itv s2 h2 => ?_)
  obtain ⟨it, fp, tn, J, H2, rfl, I2, T, st2, f2, q⟩ := h2
  refine wpAny_newObj_type (newEnv_comp ?_) (show 0 ≤ sizeLine by decide)
  have nD : H2 s2.heap.objs.size = none := I2.hok.fresh (Nat.le_refl _)
  generalize hD : s2.heap.objs.size = D at nD
  obtain ⟨W, ⟨m0, w0⟩, turn⟩ := q D nD
  have g3 : (s2.heap.push { cls := .type "list", data := .seq ([] : List Value).toArray }).get? D = some { cls := .type "list", data := .seq ([] : List Value).toArray } := by rw [← hD]; exact Heap.get?_push_size _ rfl
  have k3 : ∀ b o, s2.heap.get? b = some o → (s2.heap.push { cls := .type "list", data := .seq ([] : List Value).toArray }).get? b = some o := fun b o e => Heap.get?_push_of_some _ e
  have I3 : L2.Inv X pins σ (upd H2 D (.lst [])) { s2 with heap := s2.heap.push { cls := .type "list", data := .seq ([] : List Value).toArray } } := I2.laid (t' := s2.toks) k3 (Nat.le_of_eq hD) ⟨Nat.zero_le _, [], 0, .nil, g3⟩
  have z3 : (s2.heap.push { cls := .type "list", data := .seq ([] : List Value).toArray }).objs.size = s2.heap.objs.size + 1 := Heap.size_push ..
  have st3 : tn 0 (s2.heap.push { cls := .type "list", data := .seq ([] : List Value).toArray }) := T.keep _ _ _ st2 fun b _ o e => k3 b o e
  have f3 : ∀ b ∈ fp, FpOk X pins (upd H2 D (.lst [])) b ∧ b < (s2.heap.push { cls := .type "list", data := .seq ([] : List Value).toArray }).objs.size := fun b hb => by
    obtain ⟨o, e, _⟩ := T.obj _ _ st2 b hb
    have lt := Heap.lt_size e
    refine ⟨⟨?_, (f2 b hb).2⟩, by rw [z3]; exact Nat.lt_succ_of_lt lt⟩
    rw [upd_ne (by rw [← hD]; exact Nat.ne_of_lt lt)]
    exact (f2 b hb).1
  obtain ⟨s3, e3⟩ : ∃ s3 : Shared, s3 = { s2 with heap := s2.heap.push { cls := .type "list", data := .seq ([] : List Value).toArray } } := ⟨_, rfl⟩
  have hp3 : s3.heap = s2.heap.push { cls := .type "list", data := .seq ([] : List Value).toArray } := by rw [e3]
  rw [← hp3] at st3 f3
  rw [← e3] at I3 ⊢
  clear g3 k3 z3
  -- the error's object stays
  have P3 := I3.pin p (List.mem_append_left _ hpn)
  have lt3 : p.1 < s3.heap.objs.size := Heap.lt_size P3.1
  have pst : p.1 ∉ frs X.stack := fun hm => (List.mem_cons.mp (I3.stkSub p.1 hm)).elim P3.2.2.1 P3.2.2.2.1
  have pfp : ∀ b ∈ fp, p.1 ≠ b := fun b hb => (f3 b hb).1.2.2.2.2.2 p (List.mem_append_left _ hpn)
  have B0 := block_start I3 ok hN f3
  have pg := hg s3 (upd H2 D (.lst [])) s3.heap.objs.size (cellsFrom (s3.heap.objs.size + 1) scope.names (cloFrom X.env.cells scope.names [])) fp
  have pt := ht s3 (upd H2 D (.lst [])) s3.heap.objs.size (cellsFrom (s3.heap.objs.size + 1) scope.names (cloFrom X.env.cells scope.names [])) fp
  have pe := he s3 (upd H2 D (.lst [])) s3.heap.objs.size (cellsFrom (s3.heap.objs.size + 1) scope.names (cloFrom X.env.cells scope.names [])) fp
  have nofp : ∀ b ∈ fp, (upd H2 D (.lst [])) b = none := fun b hb => (f3 b hb).1.1
  show codeAny _ _ (.compStart (.ListComp elt [⟨tg, iter, ifs, 0⟩] scope pos) 0 (.ref it) (.ref D) (compEnvC scope (cellsFrom (s3.heap.objs.size + 1) scope.names (cloFrom X.env.cells scope.names [])) s3.heap.objs.size X.env)) (compPost _ X.A X.xe use Qf (.ref D) s3.heap.objs.size) _
  generalize hce : compEnvC scope (cellsFrom (s3.heap.objs.size + 1) scope.names (cloFrom X.env.cells scope.names [])) s3.heap.objs.size X.env = ce at B0 pg pt pe ⊢
  have cL : ce.locals = s3.heap.objs.size := by rw [← hce]; rfl
  generalize hG3 : upd H2 D (.lst []) = G3 at I3 B0 pg pt pe w0 nofp f3 P3
  generalize hs4 : ({ s3 with heap := pushCells (s3.heap.push { cls := .type "dict", data := .dict #[] }) scope.names } : Shared) = s4 at B0 ⊢
  have st4 : tn 0 s4.heap := T.keep _ _ _ st3 fun b _ o e => by rw [← hs4]; exact pushCells_keeps _ _ _ _ (Heap.get?_push_of_some _ e)
  have ptell : ∀ {τ : L2.St} {G : Hp} {s' : Shared} {ps : List (Addr × Obj)}, L2.Inv (X.blk s3 G3 scope ce fp) ps τ G s' → L2.Inv (tell (X.blk s3 G3 scope ce fp) p) ps τ G s' := fun {τ G s' ps} I' =>
    told I' rfl ⟨I'.base.keep p.1 p.2 P3.1 P3.2.1 pst (fun hm => pfp p.1 hm rfl), I'.base.free p.1 p.2 P3.1 P3.2.1 (fun hm => pfp p.1 hm rfl), by show p.1 ≠ ce.locals; rw [cL]; exact Nat.ne_of_lt lt3, pst, P3.2.2.2.2⟩
  have hotB : HotC (tell (X.blk s3 G3 scope ce fp) p) := ⟨p, hot, List.mem_singleton.mpr rfl⟩
  have stat : ∀ {τ : L2.St} {G : Hp} {s' : Shared}, L2.Inv (X.blk s3 G3 scope ce fp) [] τ G s' → (∀ b ∈ fp, G b = none) → ∀ b ∈ fp, FpOk (X.blk s3 G3 scope ce fp) [] G b := fun {τ G s'} I' n b hb =>
    ⟨n b hb, (I'.ok.exf b hb).1, I'.ok.exfs b hb, .inl hb, fun x c e => (I'.ok.exf b hb).2 x c e, fun q hq => by cases hq⟩
  have statP : ∀ {τ : L2.St} {G : Hp} {s' : Shared}, L2.Inv (X.blk s3 G3 scope ce fp) [] τ G s' → (∀ b ∈ fp, G b = none) → ∀ b ∈ fp, FpOk (tell (X.blk s3 G3 scope ce fp) p) [] G b := fun {τ G s'} I' n b hb => by
    obtain ⟨a1, a2, a3, a4, a5, _⟩ := stat I' n b hb
    exact ⟨a1, a2, a3, a4, a5, fun q hq => by
      rcases List.mem_append.mp hq with z | z
      · rw [List.mem_singleton.mp z]; exact pfp b hb
      · cases z⟩
  have loop : codeAny (model X.prog X.w) X.A (.compLoop (.ListComp elt [⟨tg, iter, ifs, 0⟩] scope pos) 0 (.ref it) (.ref D) ce) (compPost (model X.prog X.w) X.A X.xe use Qf (.ref D) s3.heap.objs.size) s4 := by
    refine compLoop_any (fun n s' => ∃ i G, L2.Inv (X.blk s3 G3 scope ce fp) [] (wipe σ (own.map (·.2))) G s' ∧ (∀ b ∈ fp, G b = none) ∧ tn i s'.heap ∧ W i n G) ?_ m0 ⟨0, G3, B0, nofp, st4, w0⟩
    rintro n s5 ⟨i, H5, I5, n5, st5, w5⟩
    rcases turn i n H5 w5 with ⟨stop, qq⟩ | ⟨go, Nx, hNx, step⟩
    · have td := T.done (tell (X.blk s3 G3 scope ce fp) p) rfl rfl rfl hotB i [] s5 _ H5 (fun _ _ => False) (ptell I5) (statP I5 n5) st5 stop
      refine thnF td fun r s6 hr6 => ?_
      obtain ⟨rfl, J6⟩ := hr6
      have I6 := untold J6 rfl
      have I7 : L2.Inv X pins σ H5 s6 := I3.call' (ch := fp) I6.os I6.base I6.hok I6.bare fun b hb => let z := (f3 b hb).1.2; ⟨z.2.2.1, z.1, z.2.2.2.1, z.2.2.2.2⟩
      obtain ⟨m, hn, _⟩ := I6.loc
      have hn2 : s6.heap.Ns s3.heap.objs.size m := by rw [← cL]; exact hn
      have nC : H5 s3.heap.objs.size = none := by rw [← cL]; exact I6.free
      exact back D s3.heap.objs.size s6 m H5 I7 qq hn2 (I3.fpOk (Nat.le_refl _) nC)
    · have ti := T.item (tell (X.blk s3 G3 scope ce fp) p) rfl rfl rfl hotB i [] s5 _ H5 (fun _ _ => False) (ptell I5) (statP I5 n5) st5 go
      refine thnF ti fun r s6 hr6 => ?_
      obtain ⟨u, rfl, h6⟩ := hr6
      refine thnF h6 fun _ s7 h7 => ?_
      obtain ⟨x, H7, J7, r7, y7, st7, n7⟩ := h7
      have I7 := untold J7 rfl
      refine thnF (pg.run _ s7 _ H7 x u _ (I7.pinned (stat I7 n7) (T.obj _ _ st7)) r7 (step x H7 y7)) fun _ s8 h8 => ?_
      obtain ⟨σ8, H8, I8, hw8, q8⟩ := h8
      refine thnF (pt.run _ s8 σ8 H8 _ I8 q8) fun b s9 h9 => ?_
      obtain ⟨H9, I9, q9⟩ := h9
      have fin : ∀ {s' : Shared} {G : Hp}, L2.Inv (X.blk s3 G3 scope ce fp) ([] ++ pinsAt fp s7.heap) σ8 G s' → Nx G → ∃ m, m < n ∧ ∃ i G, L2.Inv (X.blk s3 G3 scope ce fp) [] (wipe σ (own.map (·.2))) G s' ∧ (∀ b ∈ fp, G b = none) ∧ tn i s'.heap ∧ W i m G := fun {s' G} I' nx => by
        obtain ⟨m', hm, w'⟩ := hNx G nx
        have stay : ∀ b ∈ fp, ∀ o, s7.heap.get? b = some o → s'.heap.get? b = some o ∧ G b = none := fun b hb o e => by
          have z := I'.pin (b, o) (List.mem_append_right _ (List.mem_append_right _ (mem_pinsAt hb e)))
          exact ⟨z.1, z.2.1⟩
        refine ⟨m', hm, i + 1, G, (I'.unpinned (pins := [])).weak (by rw [← hw8, wipe_length]) (fun j v e => ?_), fun b hb => ?_, T.keep _ _ _ st7 fun b hb o e => (stay b hb o e).1, w'⟩
        · rw [← hw8] at e
          exact (wipe_some e).1
        · obtain ⟨o, e, _⟩ := T.obj _ _ st7 b hb
          exact (stay b hb o e).2
      cases b with
      | false => exact fin I9 (by simpa only [Bool.false_eq_true, if_false] using q9)
      | true =>
        simp only [if_true] at q9 ⊢
        refine thnF (pe.run _ s9 σ8 H9 _ I9 q9) fun z s10 h10 => ?_
        obtain ⟨yv, H10, I10, r10, acc, hD10, hz10, nx⟩ := h10
        exact app_ok (X := X.blk s3 G3 scope ce fp) I10 hD10 hz10 r10 fun s11 I11 => fin I11 nx
  exact codeAny_compStart_list loop (T.self X.A 0 _ _ _ st4 loop)
/-- [elt for target in range(..) if ..], where an error is handled -/
theorem pe_lcH {elt tg iter : Expr} {ifs : List Expr} {scope : Scope} {own : List (Str × Nat)} {pos : Pos} {wi : TI} {g : TG} {tt : TT} {te : TE} (hot : Hot1 X.A p) (hpn : p ∈ X.pn) (hN : X.N.Nodup) (hi : PIH X tg iter wi) (ok : BlkOk X.N X.env.scope scope own)
    (hg : ∀ (s : Shared) (H : Hp) (C : Addr) (cl : List (Str × Addr)) (fp : List Addr), PG (X.blk s H scope (compEnvC scope cl C X.env) fp) tg g) (ht : ∀ (s : Shared) (H : Hp) (C : Addr) (cl : List (Str × Addr)) (fp : List Addr), PTs (X.blk s H scope (compEnvC scope cl C X.env) fp) ifs tt)
    (he : ∀ (s : Shared) (H : Hp) (C : Addr) (cl : List (Str × Addr)) (fp : List Addr), PE (X.blk s H scope (compEnvC scope cl C X.env) fp) elt te) (hs : ∀ x, foldedSetIterable iter X.env x = pure x := by intro _; rfl) :
    PE X (.ListComp elt [⟨tg, iter, ifs, 0⟩] scope pos) (tLc wi g tt te (own.map (·.2))) := by
  refine ⟨fun pins s σ H Q I h => ?_⟩
  rw [eval_ListComp]
  refine lcH_core hot hpn hN I hi ok hg ht he hs h fun D C s' m G I' q hn f => ⟨m, hn, fun h2 sb => ?_⟩
  obtain ⟨f0, f1, f2, f3, f4, f5⟩ := f
  exact ⟨.ref D, G, I'.turned (t' := s'.toks) (fun b o hb e => (sb.2 b hb).trans e) f0 f1 f3 f4 f5, rfl, q⟩
end
end Tw
end

section
set_option maxHeartbeats 4000000
namespace Tw
open PySem PySem.Spec PyProof.Rows L2 L2H HotX
/-! the machine of the readings: "tw" goes on through what has one answer; it stops at a branch, a loop, a new object, what comes behind a call -/
local macro_rules | `(tactic| walk_at "tw look") => `(tactic| first
  | assumption
  | exact upd_same
  | (refine Same.new (by assumption) _ _ ?_; walk_at "tw look")
  | (refine upd_oth (by assumption) ?_; walk_at "tw look")
  | (refine upd_dif (by assumption) (by intro z; cases z) ?_; walk_at "tw look")
  | (refine upd_dif upd_same (by intro z; cases z) ?_; walk_at "tw look"))
local macro_rules | `(tactic| walk_at "tw seq") => `(tactic| first
  | assumption
  | exact SqL.of (by walk_at "tw look")
  | exact SqT.of (by walk_at "tw look")
  | exact .inl (SqL.of (by walk_at "tw look"))
  | exact .inr (SqT.of (by walk_at "tw look"))
  | exact .inl (by assumption)
  | exact dget_of (by walk_at "tw look") (by assumption)
  | exact DGet.k (k := Sum.inl _) (by walk_at "tw look")
  | exact DPut.k (k := Sum.inl _) (by walk_at "tw look") (by assumption)
  | exact .inl ⟨_, .inl (by walk_at "tw look")⟩
  | exact .inr ⟨_, .inl (by walk_at "tw look")⟩
  | exact ⟨_, SqL.of (by walk_at "tw look")⟩
  | exact ⟨_, SqT.of (by walk_at "tw look")⟩
  | exact ⟨_, by assumption⟩
  | exact .inl ⟨rfl, _, SqL.of (by walk_at "tw look")⟩)
local macro_rules | `(tactic| walk_at "tw atom") => `(tactic| first
  | with_reducible rfl
  | assumption
  | rfl
  | walk_at "tw look"
  | walk_at "tw seq"
  | omega
  | exact small (by simp; done)
  | exact smallt (by simp; done)
  | exact cdiv_of rfl
  | exact fun _ h => h
  | exact Int.natCast_pos.mpr (Nat.zero_lt_succ _)
  | exact cmul_r rfl
  | exact cmul_l rfl
  | exact Nat.le_of_ble_eq_true rfl)
local macro_rules | `(tactic| walk_at "tw step") => `(tactic| first | (with_reducible refine iteT ?_) | (with_reducible refine iteF ?_) | (with_reducible refine itf nott ?_) | (with_reducible refine itt notf ?_) | ((fail_if_success (refine ite2 (fun _ => ?_) (fun _ => ?_))); first
  | ((fail_if_success (refine (?_ : ∃ W : Nat → Nat → L2.St → Hp → Prop, _))); (fail_if_success (refine (?_ : ∃ W : Nat → Nat → Hp → Prop, _))); apply Exists.intro)
  | (apply And.intro; (walk_at "tw atom"))))
local macro_rules | `(tactic| walk_at "tw") => `(tactic| repeat walk_at "tw step")

section
variable {P : Program} {w : World} {K : PySem.W.Frag} {mg : Str → Option Value} {base : Heap}
theorem excC_of {D : Addr} (h : excB K D = true) : ExcC K D := by
  simp only [excB, Bool.and_eq_true, decide_eq_true_eq] at h
  obtain ⟨h1, h2, h3, h4, h5, h6, h7, h8⟩ := h
  exact ⟨He.eqO_ok h1, He.eqO_ok h2, h3, h4, He.eqO_ok h5, h6, h7, h8⟩
theorem Tx.excOf (T : Tx K mg) {D : Str} (h : Bad D) : ExcC K (He.ga K D) ∧ kitB K D = true := by
  have e := T.ex
  unfold exB at e
  rw [List.all_eq_true] at e
  have := e D (by rcases h with rfl | rfl | rfl <;> decide +kernel)
  rw [Bool.and_eq_true] at this
  exact ⟨excC_of this.1, this.2⟩
theorem kit_of {D c : Str} (h : kitB K D = true) (hc : c ∈ kindNames) : PySem.W.kitOne K (.ref (He.ga K D)) (.ref (He.ga K c)) = some (decide (c = D)) := by
  unfold kitB at h
  rw [Bool.and_eq_true, List.all_eq_true] at h
  exact of_decide_eq_true (h.2 c hc)
theorem kit_ve {D : Str} (h : kitB K D = true) : PySem.W.kitOne K (.ref (He.ga K D)) (.type "ValueError") = some true := by
  unfold kitB at h
  rw [Bool.and_eq_true] at h
  exact of_decide_eq_true h.1
/-- the names of the handled error's classes: some text -/
def spErr (K : PySem.W.Frag) (p : Addr × Obj) : Sp := fun vs H Q _ => vs = [.ref p.1] ∧ (∃ D, Bad D ∧ p.2.cls = .ref (He.ga K D)) ∧ p.2.dict = none ∧ (∃ us, p.2.data = .fields us) ∧ ∀ s H', Same H H' → Q (.str s) H'
theorem F_err (T : Tx K mg) : ∃ fd, PySem.W.keepIn K (.ref (He.ga K "_law_error_name")) = true ∧ Binds K fd ["_law_e"] [] ∧ FnE P w K mg base CX0 (0 + 1) (He.ga K "_law_error_name") fd ["_law_e"] (spErr K) := by
  obtain ⟨fd, F⟩ := T.fd_law_error_name
  have b := F.bindsN (ps := P_law_error_name) fun _ _ _ _ _ _ us hl => match us, hl with | [_], _ => rfl
  refine ⟨fd, F.kp, b, ?_⟩
  obtain ⟨oc, od, dV, kV, doc, pm, an, cdv, ct, osl, rfl, lk, hcd, _, _⟩ := F.ex
  refine fn_ofE lk hcd sc_law_error_name (fun p vs H Q E h => by rw [h.1]; rfl) fun A outer s H vs Q E p room hot h => ?_
  obtain ⟨rfl, ⟨D, bad, hpc⟩, hpd, hpf, k⟩ := h
  obtain ⟨EC, kit⟩ := T.excOf bad
  have hpm : p ∈ [p] := List.mem_singleton.mpr rfl
  have hotX : Hot1 (A.deeper (envOfC "_law_error_name" (defScope s_law_error_name) s.heap.objs.size (He.ga K "_law_error_name") cdv)) p := hot
  refine ⟨_, ((pss_cons (ps_set (i := 1) sc_law_error_name.nd rfl (by first | exact Or.inl rfl | exact Or.inr rfl) (pe_lst (pa_cons (pe_callB (call_isP EC hpc hpd hpf hpm) (by rfl) T.f_isinstance PyProof.Rows.boot_isinstance (pa_cons (pv 0) (pa_cons (pe_glob (v := .ref (He.ga K "InvalidPlan")) (by rfl) T.g_InvalidPlan rfl) pa_nil))) (pa_cons (pe_callB (call_isP EC hpc hpd hpf hpm) (by rfl) T.f_isinstance PyProof.Rows.boot_isinstance (pa_cons (pv 0) (pa_cons (pe_glob (v := .ref (He.ga K "InvalidLetter")) (by rfl) T.g_InvalidLetter rfl) pa_nil))) (pa_cons (pe_callB (call_isP EC hpc hpd hpf hpm) (by rfl) T.f_isinstance PyProof.Rows.boot_isinstance (pa_cons (pv 0) (pa_cons (pe_glob (v := .ref (He.ga K "InvalidAlarm")) (by rfl) T.g_InvalidAlarm rfl) pa_nil))) (pa_cons (pe_callB (call_isP EC hpc hpd hpf hpm) (by rfl) T.f_isinstance PyProof.Rows.boot_isinstance (pa_cons (pv 0) (pa_cons (pe_glob (v := .ref (He.ga K "NoSlot")) (by rfl) T.g_NoSlot rfl) pa_nil))) pa_nil))))))
    (pss_cons (ps_set (i := 1) sc_law_error_name.nd rfl (by first | exact Or.inl rfl | exact Or.inr rfl) (pe_op op_cat (pv 1) (pe_lst (pa_cons (pe_callB (call_isP EC hpc hpd hpf hpm) (by rfl) T.f_isinstance PyProof.Rows.boot_isinstance (pa_cons (pv 0) (pa_cons (pe_glob (v := .ref (He.ga K "BadText")) (by rfl) T.g_BadText rfl) pa_nil))) (pa_cons (pe_callB (call_isP EC hpc hpd hpf hpm) (by rfl) T.f_isinstance PyProof.Rows.boot_isinstance (pa_cons (pv 0) (pa_cons (pe_glob (v := .ref (He.ga K "NotPossible")) (by rfl) T.g_NotPossible rfl) pa_nil))) (pa_cons (pe_callB (call_isP EC hpc hpd hpf hpm) (by rfl) T.f_isinstance PyProof.Rows.boot_isinstance (pa_cons (pv 0) (pa_cons (pe_glob (v := .ref (He.ga K "NoNote")) (by rfl) T.g_NoNote rfl) pa_nil))) (pa_cons (pe_callB (call_isP EC hpc hpd hpf hpm) (by rfl) T.f_isinstance PyProof.Rows.boot_isinstance (pa_cons (pv 0) (pa_cons (pe_glob (v := .ref (He.ga K "Closed")) (by rfl) T.g_Closed rfl) pa_nil))) pa_nil)))))))
    (pss_cons (ps_set (i := 1) sc_law_error_name.nd rfl (by first | exact Or.inl rfl | exact Or.inr rfl) (pe_op op_cat (pv 1) (pe_lst (pa_cons (pe_callB (call_isP EC hpc hpd hpf hpm) (by rfl) T.f_isinstance PyProof.Rows.boot_isinstance (pa_cons (pv 0) (pa_cons (pe_glob (v := .ref (He.ga K "InvalidEntry")) (by rfl) T.g_InvalidEntry rfl) pa_nil))) (pa_cons (pe_callB (call_isP EC hpc hpd hpf hpm) (by rfl) T.f_isinstance PyProof.Rows.boot_isinstance (pa_cons (pv 0) (pa_cons (pe_glob (v := .ref (He.ga K "NoLetter")) (by rfl) T.g_NoLetter rfl) pa_nil))) pa_nil)))))
    (pss_cons (ps_set (i := 2) sc_law_error_name.nd rfl (by first | exact Or.inl rfl | exact Or.inr rfl) (pe_lst (pa_cons pe_str (pa_cons pe_str (pa_cons pe_str (pa_cons pe_str (pa_cons pe_str (pa_cons pe_str (pa_cons pe_str (pa_cons pe_str pa_nil))))))))))
    (pss_cons (ps_set (i := 2) sc_law_error_name.nd rfl (by first | exact Or.inl rfl | exact Or.inr rfl) (pe_op op_cat (pv 2) (pe_lst (pa_cons pe_str (pa_cons pe_str pa_nil)))))
    (pss_cons (ps_if (pt_not (pt_val (pe_callB (call_isP EC hpc hpd hpf hpm) (by rfl) T.f_isinstance PyProof.Rows.boot_isinstance (pa_cons (pv 0) (pa_cons (pe_bltn (v := .ty "ValueError") (by rfl) T.f_ValueError (by decide +kernel) rfl) pa_nil)))))
    (pss_one (ps_ret pe_str))
    pss_nil)
    (pss_one (ps_ret (pe_join pe_str (pe_lcH (own := [("_law_k", 3)]) (g := gName 3) hotX hpm sc_law_error_name.nd (pi_range1H (by rfl) T.f_range (pa_cons pe_int pa_nil)) (blkOk_by (N := N_law_error_name) (sc := defScope s_law_error_name) (by decide +kernel)) (fun _ _ _ _ _ => (pg_name (i := 3) sc_law_error_name.nd rfl (by first | exact Or.inl rfl | exact Or.inr rfl))) (fun _ _ _ _ _ => pts_one (pt_val (pe_ix (ixL (K := K)) (pv 1) (pv 3) (fun _ _ => rfl)))) (fun _ _ _ _ _ => (pe_ix (ixL (K := K)) (pv 2) (pv 3) (fun _ _ => rfl)))))))))))))), ?_⟩
  obtain ⟨b1, q1⟩ : ∃ z, PySem.W.kitOne K (.ref (He.ga K D)) (.ref (He.ga K "InvalidPlan")) = some z := ⟨_, kit_of kit (by decide +kernel)⟩
  obtain ⟨b2, q2⟩ : ∃ z, PySem.W.kitOne K (.ref (He.ga K D)) (.ref (He.ga K "InvalidLetter")) = some z := ⟨_, kit_of kit (by decide +kernel)⟩
  obtain ⟨b3, q3⟩ : ∃ z, PySem.W.kitOne K (.ref (He.ga K D)) (.ref (He.ga K "InvalidAlarm")) = some z := ⟨_, kit_of kit (by decide +kernel)⟩
  obtain ⟨b4, q4⟩ : ∃ z, PySem.W.kitOne K (.ref (He.ga K D)) (.ref (He.ga K "NoSlot")) = some z := ⟨_, kit_of kit (by decide +kernel)⟩
  obtain ⟨b5, q5⟩ : ∃ z, PySem.W.kitOne K (.ref (He.ga K D)) (.ref (He.ga K "BadText")) = some z := ⟨_, kit_of kit (by decide +kernel)⟩
  obtain ⟨b6, q6⟩ : ∃ z, PySem.W.kitOne K (.ref (He.ga K D)) (.ref (He.ga K "NotPossible")) = some z := ⟨_, kit_of kit (by decide +kernel)⟩
  obtain ⟨b7, q7⟩ : ∃ z, PySem.W.kitOne K (.ref (He.ga K D)) (.ref (He.ga K "NoNote")) = some z := ⟨_, kit_of kit (by decide +kernel)⟩
  obtain ⟨b8, q8⟩ : ∃ z, PySem.W.kitOne K (.ref (He.ga K D)) (.ref (He.ga K "Closed")) = some z := ⟨_, kit_of kit (by decide +kernel)⟩
  obtain ⟨b9, q9⟩ : ∃ z, PySem.W.kitOne K (.ref (He.ga K D)) (.ref (He.ga K "InvalidEntry")) = some z := ⟨_, kit_of kit (by decide +kernel)⟩
  obtain ⟨b10, q10⟩ : ∃ z, PySem.W.kitOne K (.ref (He.ga K D)) (.ref (He.ga K "NoLetter")) = some z := ⟨_, kit_of kit (by decide +kernel)⟩
  have q11 := kit_ve kit
  walk_at "tw"
  intro p1 n1
  walk_at "tw"
  intro p2 n2
  have h1 := Same.new n2 (o := .lst [.bl b5, .bl b6, .bl b7, .bl b8]) _ _ (upd_same (H := H) (a := p1) (o := .lst [.bl b1, .bl b2, .bl b3, .bl b4]))
  walk_at "tw"
  intro p3 n3
  walk_at "tw"
  intro p4 n4
  have h3 := Same.new n4 (o := .lst [.bl b9, .bl b10]) _ _ (upd_same (H := upd (upd H p1 (.lst [.bl b1, .bl b2, .bl b3, .bl b4])) p2 (.lst [.bl b5, .bl b6, .bl b7, .bl b8])) (a := p3) (o := .lst ([.bl b1, .bl b2, .bl b3, .bl b4] ++ [.bl b5, .bl b6, .bl b7, .bl b8])))
  walk_at "tw"
  intro p5 n5
  have e5 : Same H _ := ((((Same.new n1).up n2).up n3).up n4).up (o := .lst (([b1, b2, b3, b4, b5, b6, b7, b8, b9, b10] : List Bool).map V.bl)) n5
  have h5 : (upd (upd (upd (upd (upd H p1 (.lst [.bl b1, .bl b2, .bl b3, .bl b4])) p2 (.lst [.bl b5, .bl b6, .bl b7, .bl b8])) p3 (.lst ([.bl b1, .bl b2, .bl b3, .bl b4] ++ [.bl b5, .bl b6, .bl b7, .bl b8]))) p4 (.lst [.bl b9, .bl b10])) p5 (.lst (([b1, b2, b3, b4, b5, b6, b7, b8, b9, b10] : List Bool).map V.bl))) p5 = some (.lst (([b1, b2, b3, b4, b5, b6, b7, b8, b9, b10] : List Bool).map V.bl)) := upd_same
  obtain ⟨G5, eG5⟩ : ∃ G5, G5 = upd (upd (upd (upd (upd H p1 (.lst [.bl b1, .bl b2, .bl b3, .bl b4])) p2 (.lst [.bl b5, .bl b6, .bl b7, .bl b8])) p3 (.lst ([.bl b1, .bl b2, .bl b3, .bl b4] ++ [.bl b5, .bl b6, .bl b7, .bl b8]))) p4 (.lst [.bl b9, .bl b10])) p5 (.lst (([b1, b2, b3, b4, b5, b6, b7, b8, b9, b10] : List Bool).map V.bl)) := ⟨_, rfl⟩
  rw [← eG5] at h5 e5
  clear h1 h3 q1 q2 q3 q4 q5 q6 q7 q8 q9 q10
  have eG6 : upd (upd (upd (upd (upd H p1 (.lst [.bl b1, .bl b2, .bl b3, .bl b4])) p2 (.lst [.bl b5, .bl b6, .bl b7, .bl b8])) p3 (.lst ([.bl b1, .bl b2, .bl b3, .bl b4] ++ [.bl b5, .bl b6, .bl b7, .bl b8]))) p4 (.lst [.bl b9, .bl b10])) p5 (.lst ([.bl b1, .bl b2, .bl b3, .bl b4] ++ [.bl b5, .bl b6, .bl b7, .bl b8] ++ [.bl b9, .bl b10])) = G5 := eG5.symm
  rw [eG6]
  clear eG6 eG5 n1 n2 n3 n4 n5
  obtain ⟨bs, ebs⟩ : ∃ bs : List Bool, bs = [b1, b2, b3, b4, b5, b6, b7, b8, b9, b10] := ⟨_, rfl⟩
  have lbs : bs.length = 10 := by rw [ebs]; rfl
  rw [← ebs] at h5
  clear ebs
  walk_at "tw"
  intro p6 n6
  walk_at "tw"
  intro p7 n7
  have h6 := Same.new n7 (o := .lst [.str "InvalidEntry", .str "NoLetter"]) _ _ (upd_same (H := G5) (a := p6) (o := .lst [.str "InvalidPlan", .str "InvalidLetter", .str "InvalidAlarm", .str "NoSlot", .str "BadText", .str "NotPossible", .str "NoNote", .str "Closed"]))
  walk_at "tw"
  intro p8 n8
  obtain ⟨G8, eG8⟩ : ∃ G8, G8 = upd (upd (upd G5 p6 (.lst [.str "InvalidPlan", .str "InvalidLetter", .str "InvalidAlarm", .str "NoSlot", .str "BadText", .str "NotPossible", .str "NoNote", .str "Closed"])) p7 (.lst [.str "InvalidEntry", .str "NoLetter"])) p8 (.lst ([.str "InvalidPlan", .str "InvalidLetter", .str "InvalidAlarm", .str "NoSlot", .str "BadText", .str "NotPossible", .str "NoNote", .str "Closed"] ++ [.str "InvalidEntry", .str "NoLetter"])) := ⟨_, rfl⟩
  have e8 : Same G5 G8 := by rw [eG8]; exact ((Same.new n6).up n7).up n8
  obtain ⟨ns, ens⟩ : ∃ ns : List Str, ns = [("InvalidPlan" : Str), ("InvalidLetter" : Str), ("InvalidAlarm" : Str), ("NoSlot" : Str), ("BadText" : Str), ("NotPossible" : Str), ("NoNote" : Str), ("Closed" : Str), ("InvalidEntry" : Str), ("NoLetter" : Str)] := ⟨_, rfl⟩
  have h8 : G8 p8 = some (.lst (ns.map V.str)) := by rw [eG8, ens]; exact upd_same
  have lns : ns.length = 10 := by rw [ens]; rfl
  have sns : ∀ s ∈ ns, s.length ≤ 20 := by rw [ens]; decide +kernel
  have h58 := e8 _ _ h5
  rw [← eG8]
  clear eG8 ens h6
  walk_at "tw"
  clear q11
  refine ⟨⟨_, rfl⟩, ?_⟩
  walk_at "tw"
  intro D' nD
  have d58 : p5 ≠ D' := ne_of_none h58 nD
  have d8 : p8 ≠ D' := ne_of_none h8 nD
  refine lc_it (walk_range (lo := 0) (n := Int.toNat 10)) (fun i H' => Same G8 H' ∧ ∃ ys : List Str, H' D' = some (.lst (ys.map V.str)) ∧ ys.length ≤ i ∧ ∀ s ∈ ys, s.length ≤ 20)
    ⟨Same.new nD, [], upd_same, Nat.le_refl _, fun s hs => by cases hs⟩ (fun i H' _ z => trivial) ?_ ?_
  · rintro i x H' H'' hi ⟨e, ys, hD, hl, hy⟩ ⟨rfl, rfl⟩
    have hi' : i < 10 := hi
    have hz : (ys.map V.str).length < sizeLine := smallt (by rw [List.length_map]; omega)
    have g5 := e _ _ h58
    have g8 := e _ _ h8
    obtain ⟨b, hb⟩ : ∃ b, bs[i]? = some b := ⟨bs[i], by simp⟩
    obtain ⟨t, ht⟩ : ∃ t, ns[i]? = some t := ⟨ns[i], by simp⟩
    have at5 : atI (bs.map V.bl) (0 + (i : Int)) = some (.bl b) := by
      rw [Int.zero_add]; exact atI_nat (by rw [List.getElem?_map, hb]; rfl)
    have at8 : atI (ns.map V.str) (0 + (i : Int)) = some (.str t) := by
      rw [Int.zero_add]; exact atI_nat (by rw [List.getElem?_map, ht]; rfl)
    have ht20 : t.length ≤ 20 := sns t (List.mem_of_getElem? ht)
    walk_at "tw"
    cases b
    · refine itf rfl ?_
      exact ⟨e, ys, hD, by omega, hy⟩
    · refine itt rfl ?_
      walk_at "tw"
      refine ⟨fun a o ha => ?_, ys ++ [t], by rw [upd_same, List.map_append]; rfl, by rw [List.length_append]; show ys.length + 1 ≤ i + 1; omega, fun z hz => ?_⟩
      · rw [upd_ne (ne_of_none ha nD)]
        exact e _ _ ha
      · rcases List.mem_append.mp hz with q | q
        · exact hy z q
        · rw [List.mem_singleton.mp q]; exact ht20
  · rintro H3 ⟨e3, ys, hD3, hl, hy⟩
    have hsum : (List.map (fun x => x.length) ys).sum + ys.length * (" " : Str).length ≤ 16777216 := by
      have h1 : ∀ zs : List Str, (∀ s ∈ zs, s.length ≤ 20) → (List.map (fun x => x.length) zs).sum ≤ 20 * zs.length := by
        intro zs
        induction zs with
        | nil => intro _; exact Nat.le_refl _
        | cons z zs ih =>
          intro h
          have a := h z (List.mem_cons_self ..)
          have b := ih fun s hs => h s (List.mem_cons_of_mem _ hs)
          rw [List.map_cons, List.sum_cons, List.length_cons]
          omega
      have h2 := h1 ys hy
      have h3 : (" " : Str).length = 1 := rfl
      have h4 : ys.length ≤ 10 := hl
      rw [h3]
      omega
    exact ⟨_, _, ys, rfl, rfl, .inl (SqL.of hD3), hsum, k _ _ (e5.trans (e8.trans e3))⟩
end
end Tw
end

section
set_option maxHeartbeats 4000000
namespace Tw
open PySem PySem.Spec PyProof.Rows L2 L2H HotX
/-! the machine of the readings: "tw" goes on through what has one answer; it stops at a branch, a loop, a new object, what comes behind a call -/
local macro_rules | `(tactic| walk_at "tw look") => `(tactic| first
  | assumption
  | exact upd_same
  | (refine Same.new (by assumption) _ _ ?_; walk_at "tw look")
  | (refine upd_oth (by assumption) ?_; walk_at "tw look")
  | (refine upd_dif (by assumption) (by intro z; cases z) ?_; walk_at "tw look")
  | (refine upd_dif upd_same (by intro z; cases z) ?_; walk_at "tw look"))
local macro_rules | `(tactic| walk_at "tw seq") => `(tactic| first
  | assumption
  | exact SqL.of (by walk_at "tw look")
  | exact SqT.of (by walk_at "tw look")
  | exact .inl (SqL.of (by walk_at "tw look"))
  | exact .inr (SqT.of (by walk_at "tw look"))
  | exact .inl (by assumption)
  | exact dget_of (by walk_at "tw look") (by assumption)
  | exact DGet.k (k := Sum.inl _) (by walk_at "tw look")
  | exact DPut.k (k := Sum.inl _) (by walk_at "tw look") (by assumption)
  | exact .inl ⟨_, .inl (by walk_at "tw look")⟩
  | exact .inr ⟨_, .inl (by walk_at "tw look")⟩
  | exact ⟨_, SqL.of (by walk_at "tw look")⟩
  | exact ⟨_, SqT.of (by walk_at "tw look")⟩
  | exact ⟨_, by assumption⟩
  | exact .inl ⟨rfl, _, SqL.of (by walk_at "tw look")⟩)
local macro_rules | `(tactic| walk_at "tw atom") => `(tactic| first
  | with_reducible rfl
  | assumption
  | rfl
  | walk_at "tw look"
  | walk_at "tw seq"
  | omega
  | exact small (by simp; done)
  | exact smallt (by simp; done)
  | exact cdiv_of rfl
  | exact fun _ h => h
  | exact Int.natCast_pos.mpr (Nat.zero_lt_succ _)
  | exact cmul_r rfl
  | exact cmul_l rfl
  | exact Nat.le_of_ble_eq_true rfl)
local macro_rules | `(tactic| walk_at "tw step") => `(tactic| first | (with_reducible refine iteT ?_) | (with_reducible refine iteF ?_) | (with_reducible refine itf nott ?_) | (with_reducible refine itt notf ?_) | ((fail_if_success (refine ite2 (fun _ => ?_) (fun _ => ?_))); first
  | ((fail_if_success (refine (?_ : ∃ W : Nat → Nat → L2.St → Hp → Prop, _))); (fail_if_success (refine (?_ : ∃ W : Nat → Nat → Hp → Prop, _))); apply Exists.intro)
  | (apply And.intro; (walk_at "tw atom"))))
local macro_rules | `(tactic| walk_at "tw") => `(tactic| repeat walk_at "tw step")

section
variable {P : Program} {w : World} {K : PySem.W.Frag} {mg : Str → Option Value} {base : Heap}
theorem rmark {k : Nat} {A : Around} {h : Option Value} (r : Room k A) : RoomH k (A.mark h) := ⟨r.dp, r.un⟩
theorem takes0N {X : Cx} : L2N.Takes X (fun _ _ _ _ => False) := fun _ _ x => by
  obtain ⟨_, _, _, _, _, _, _, _, _, _, _, _, _, _, _, _, z⟩ := x
  exact z.elim
def spErr2 (K : PySem.W.Frag) (a : Addr) (cls : Value) (d : Option Addr) : Sp := fun vs H Q _ => vs = [.ref a] ∧ (∃ D, Bad D ∧ cls = .ref (He.ga K D)) ∧ d = none ∧ ∀ s H', Same H H' → Q (.str s) H'
theorem pe_errE {X : Cx} {a : Addr} {oe : Obj} {cls : Value} {d : Option Addr} {fd : FuncData} {f : Addr} {k i : Nat} {K0 : PySem.W.Frag} {x : Str} {q pos : Pos} {e : Expr} {E : L2.St → XK} (FE : FnE X.prog X.w X.K X.mg X.base CX0 k f fd ["_law_e"] (spErr X.K)) (hm : X.mg x = some (.ref f)) (kp : PySem.W.keepIn X.K (.ref f) = true) (b : Binds X.K fd ["_law_e"] [])
    (room : RoomH k X.A) (hA : X.A.handled = some (.ref a)) (hp : (a, oe) ∈ X.pn) (hg : Gl X x) (hz : L2N.Zn cls d oe) (hf : ∃ vs, oe.data = .fields vs) (hx : ∀ σ, PassesAt CX0 X σ (E σ)) (he : PE X e (tVar i)) (hK : X.K = K0)
    (hdb : (x == ("__debug__" : Str)) = false := by decide) (hs : starEach [e] X.env = (false, eval e X.env) :: starEach [] X.env := by rfl) (hpl : (backTo pos (starEach [] X.env)).any (·.1) = false := by rfl) :
    PE X (.Call (.Name x q) [e] [] pos) (tCallS (spErr2 K0 a cls d) E (tCons (tVar i) tNil)) := by
  subst hK
  obtain ⟨vs, hd⟩ := hf
  have hot : Hot1 X.A (a, oe) := ⟨hA, vs, hd, hz.2.2 vs hd⟩
  refine ⟨fun pins s σ H Q I h => (pe_callE FE room hot hp hg hm kp b hx (pa_cons he pa_nil hs) hdb hs hpl).run pins s σ H Q I ?_⟩
  obtain ⟨v, ev, h1, hD, h3, h4⟩ := h
  exact ⟨v, ev, h1, by rw [hz.1]; exact hD, by rw [hz.2.1]; exact h3, ⟨vs, hd⟩, h4⟩
def Deed.Good : Deed → Prop
  | .ack _ => False
  | _ => True
def spDo (K : PySem.W.Frag) : Sp := fun vs H Q _ => ∃ (x sa da : Addr) (S : Src) (v : V) (D : Deed), vs = [.ref x, v] ∧ SrcAt K H x sa da S ∧ IsDeed H v D ∧ D.Good ∧ S.Fit ∧
  ∀ u H' S', Keep [x, sa, da] H H' → SrcAt K H' x sa da S' → Src.Step S S' → Q u H'
theorem Tx.em_bad (T : Tx K mg) {c : Str} (h : Bad c) : PySem.W.exmOne K (.ref (He.ga K c)) (.ref (He.ga K "GatherError")) = some true := by
  rcases h with rfl | rfl | rfl
  · exact T.em_NoSlot
  · exact T.em_Closed
  · exact T.em_InvalidEntry
theorem C_law_do (T : Tx K mg) : Callee P w K mg base CX0 "_law_do" P_law_do 4 (spDo K) := by
  obtain ⟨fd, kp, b, FE⟩ := F_err (P := P) (w := w) (base := base) T
  refine mk_law_do T (k := 3) (fun vs H Q E h => ?_) (fun f cdv A outer s H vs Q E hr h => ?_)
  · obtain ⟨x, sa, da, S, v, D, rfl, _⟩ := h
    rfl
  · obtain ⟨x, sa, da, S, v, D, rfl, hS, ⟨p, rfl, hp⟩, good, fit, k⟩ := h
    refine ⟨_, ((pss_cons (L2N.ps_try_as (i := 2) rfl rfl sc_law_do.nd rfl rfl ⟨rfl, by decide, .inl T.g_GatherError⟩ takes0N
    (fun W pn xe tk _ => (pss_cons (ps_if (pt_cmpR op_eq (pe_ix (ixT (K := K)) (pv 1) pe_int (fun _ _ => rfl)) pe_str (nomark _))
    (pss_one (ps_ret (pe_tup (pa_cons pe_str (pa_cons (pe_mclS (C_Source_record T) (hr.mono (by decide)) (fun σ => L2N.passAt tk σ) (pv 0) (pa_cons (pe_ix (ixT (K := K)) (pv 1) pe_int (fun _ _ => rfl)) (pa_cons (pe_ix (ixT (K := K)) (pv 1) pe_int (fun _ _ => rfl)) pa_nil))) pa_nil)))))
    pss_nil)
    (pss_cons (ps_if (pt_cmpR op_eq (pe_ix (ixT (K := K)) (pv 1) pe_int (fun _ _ => rfl)) pe_str (nomark _))
    (pss_one (ps_expr (pe_mclS (C_Source_correct T) (hr.mono (by decide)) (fun σ => L2N.passAt tk σ) (pv 0) (pa_cons (pe_ix (ixT (K := K)) (pv 1) pe_int (fun _ _ => rfl)) (pa_cons (pe_ix (ixT (K := K)) (pv 1) pe_int (fun _ _ => rfl)) pa_nil)))))
    pss_nil)
    (pss_cons (ps_if (pt_cmpR op_eq (pe_ix (ixT (K := K)) (pv 1) pe_int (fun _ _ => rfl)) pe_str (nomark _))
    (pss_one (ps_expr (pe_mclS (C_Source_take_back T) (hr.mono (by decide)) (fun σ => L2N.passAt tk σ) (pv 0) (pa_cons (pe_ix (ixT (K := K)) (pv 1) pe_int (fun _ _ => rfl)) pa_nil))))
    pss_nil)
    (pss_cons (ps_if (pt_cmpR op_eq (pe_ix (ixT (K := K)) (pv 1) pe_int (fun _ _ => rfl)) pe_str (nomark _))
    (pss_one (ps_expr (pe_mclS (C_Source_close T) (hr.mono (by decide)) (fun σ => L2N.passAt tk σ) (pv 0) (pa_cons (pe_ix (ixT (K := K)) (pv 1) pe_int (fun _ _ => rfl)) pa_nil))))
    pss_nil)
    (pss_cons (ps_if (pt_cmpR op_eq (pe_ix (ixT (K := K)) (pv 1) pe_int (fun _ _ => rfl)) pe_str (nomark _))
    (pss_one (ps_expr (pe_mclS (C_Source_check T) (hr.mono (by decide)) (fun σ => L2N.passAt tk σ) (pv 0) (pa_cons (pe_ix (ixT (K := K)) (pv 1) pe_int (fun _ _ => rfl)) (pa_cons (pe_ix (ixT (K := K)) (pv 1) pe_int (fun _ _ => rfl)) pa_nil)))))
    pss_nil)
    (pss_one (ps_if (pt_cmpR op_eq (pe_ix (ixT (K := K)) (pv 1) pe_int (fun _ _ => rfl)) pe_str (nomark _))
    (pss_one (ps_expr (pe_mcl (C_Source_acknowledge T) (hr.mono (by decide)) pass0 (pv 0) (pa_cons (pe_ix (ixT (K := K)) (pv 1) pe_int (fun _ _ => rfl)) pa_nil))))
    pss_nil))))))))
    (fun a oe cls d pn hz hf => (pss_one (ps_ret (pe_tup (pa_cons (by exact pe_errE (by exact FE) (by exact T.g_law_error_name) (by exact kp) (by exact b) (rmark (hr.mono (by decide))) rfl (List.mem_cons_self ..) (by rfl) hz hf (E := fun _ => E0) (fun _ _ _ _ _ _ _ c => c.elim) (pv 2) (K0 := K) rfl) (pa_cons pe_non pa_nil)))))))
    (pss_one (ps_ret (pe_tup (pa_cons pe_str (pa_cons pe_non pa_nil))))))), ?_⟩
    clear FE b kp
    obtain ⟨dx, mv, rs, ds, hx, _⟩ := id hS
    have em : ∀ {c : Str}, Bad c → PySem.W.exmOne K (.ref (He.ga K c)) (.ref (He.ga K "GatherError")) = some true := fun h => T.em_bad h
    have sameK : ∀ u H', Same H H' → Q u H' := fun u H' e => k u H' S (fun a o _ h => e _ _ h) (hS.keep (S := []) (fun a o _ h => e _ _ h) (fun a xs h => e _ _ h) (by simp) (by simp) (by simp)) .same
    cases D with
    | ack u => exact good.elim
    | record st v =>
      dsimp only [Deed.items] at hp
      walk_at "tw"
      refine itt (decide_eq_true rfl) ?_
      walk_at "tw"
      refine ⟨fun h0 => ?_, fun hok n H' e hS' => ?_⟩
      · obtain ⟨c, hb⟩ : ∃ c, c = ("InvalidEntry" : Str) := ⟨_, rfl⟩
        rw [← hb]
        have hb : Bad c := by rw [hb]; exact Bad.ie
        refine ⟨true, em hb, fun _ a na => ?_, fun q => nomatch q⟩
        walk_at "tw"
        refine ⟨⟨c, hb, rfl⟩, rfl, fun s H' e => ?_⟩
        walk_at "tw"
        intro q nq
        exact sameK _ _ (e.up nq)
      · walk_at "tw"
        intro q nq
        exact k _ _ _ ((e.mono (by simp)).trans (Keep.new nq)) (hS'.same (Same.new nq)) (.recd st v hok)
    | correct i v =>
      dsimp only [Deed.items] at hp
      walk_at "tw"
      refine itf (decide_eq_false (by decide)) ?_
      walk_at "tw"
      refine itt (decide_eq_true rfl) ?_
      walk_at "tw"
      refine ⟨fun c hb => ?_, fun j t ei ht hn hv H' e hS' => ?_⟩
      · refine ⟨true, em hb, fun _ a na => ?_, fun q => nomatch q⟩
        walk_at "tw"
        refine ⟨⟨c, hb, rfl⟩, rfl, fun s H' e => ?_⟩
        walk_at "tw"
        intro q nq
        exact sameK _ _ (e.up nq)
      · have hp' := hS.tk (e.mono (S' := [x, sa, da]) (by simp)) _ _ hp
        walk_at "tw"
        refine itf (decide_eq_false (by decide)) ?_
        walk_at "tw"
        refine itf (decide_eq_false (by decide)) ?_
        walk_at "tw"
        refine itf (decide_eq_false (by decide)) ?_
        walk_at "tw"
        refine itf (decide_eq_false (by decide)) ?_
        walk_at "tw"
        intro q nq
        exact k _ _ _ ((e.mono (by simp)).trans (Keep.new nq)) (hS'.same (Same.new nq)) (.add j t (some v) ht hn fun z e => by cases e; exact hv)
    | takeBack i =>
      dsimp only [Deed.items] at hp
      walk_at "tw"
      refine itf (decide_eq_false (by decide)) ?_
      walk_at "tw"
      refine itf (decide_eq_false (by decide)) ?_
      walk_at "tw"
      refine itt (decide_eq_true rfl) ?_
      walk_at "tw"
      refine ⟨fun c hb => ?_, fun j t ei ht hn H' e hS' => ?_⟩
      · refine ⟨true, em hb, fun _ a na => ?_, fun q => nomatch q⟩
        walk_at "tw"
        refine ⟨⟨c, hb, rfl⟩, rfl, fun s H' e => ?_⟩
        walk_at "tw"
        intro q nq
        exact sameK _ _ (e.up nq)
      · have hp' := hS.tk (e.mono (S' := [x, sa, da]) (by simp)) _ _ hp
        walk_at "tw"
        refine itf (decide_eq_false (by decide)) ?_
        walk_at "tw"
        refine itf (decide_eq_false (by decide)) ?_
        walk_at "tw"
        refine itf (decide_eq_false (by decide)) ?_
        walk_at "tw"
        intro q nq
        exact k _ _ _ ((e.mono (by simp)).trans (Keep.new nq)) (hS'.same (Same.new nq)) (.add j t none ht hn fun z e => by cases e)
    | close st =>
      dsimp only [Deed.items] at hp
      walk_at "tw"
      refine itf (decide_eq_false (by decide)) ?_
      walk_at "tw"
      refine itf (decide_eq_false (by decide)) ?_
      walk_at "tw"
      refine itf (decide_eq_false (by decide)) ?_
      walk_at "tw"
      refine itt (decide_eq_true rfl) ?_
      walk_at "tw"
      refine ⟨fun c hb => ?_, fun hok H' e hS' => ?_⟩
      · refine ⟨true, em hb, fun _ a na => ?_, fun q => nomatch q⟩
        walk_at "tw"
        refine ⟨⟨c, hb, rfl⟩, rfl, fun s H' e => ?_⟩
        walk_at "tw"
        intro q nq
        exact sameK _ _ (e.up nq)
      · have hp' := hS.tk (e.mono (S' := [x, sa, da]) (by simp)) _ _ hp
        walk_at "tw"
        refine itf (decide_eq_false (by decide)) ?_
        walk_at "tw"
        refine itf (decide_eq_false (by decide)) ?_
        walk_at "tw"
        intro q nq
        exact k _ _ _ ((e.mono (by simp)).trans (Keep.new nq)) (hS'.same (Same.new nq)) (.close st hok)
    | check lo hi =>
      dsimp only [Deed.items] at hp
      walk_at "tw"
      refine itf (decide_eq_false (by decide)) ?_
      walk_at "tw"
      refine itf (decide_eq_false (by decide)) ?_
      walk_at "tw"
      refine itf (decide_eq_false (by decide)) ?_
      walk_at "tw"
      refine itf (decide_eq_false (by decide)) ?_
      walk_at "tw"
      refine itt (decide_eq_true rfl) ?_
      walk_at "tw"
      refine ⟨fun c hb => ?_, fun h1 h2 H' e hS' => ?_⟩
      · refine ⟨true, em hb, fun _ a na => ?_, fun q => nomatch q⟩
        walk_at "tw"
        refine ⟨⟨c, hb, rfl⟩, rfl, fun s H' e => ?_⟩
        walk_at "tw"
        intro q nq
        exact sameK _ _ (e.up nq)
      · have hp' := hS.tk (e.mono (S' := [x, sa, da]) (by simp)) _ _ hp
        walk_at "tw"
        refine itf (decide_eq_false (by decide)) ?_
        walk_at "tw"
        intro q nq
        exact k _ _ _ ((e.mono (by simp)).trans (Keep.new nq)) (hS'.same (Same.new nq)) (.check lo hi h1 h2)
end
end Tw
end

section
set_option maxHeartbeats 4000000
/-! TwWd: the world of the law. -/
namespace Tw
open PySem L2
section
variable {A B B' C O cs : List Comp} {H H' H1 H2 : Hp} {X X' c c' : Comp} {b : Nat}
theorem Sep.sub (s : Sep H A) (h : B.Sublist A) : Sep H B := ⟨fun c hc => s.ok c (h.subset hc), s.ap.sublist h⟩
theorem Sep.flat (s : Sep H (cAll cs :: B)) : Sep H (cs ++ B) := by
  have s0 : Sep H cs := s.ok (cAll cs) (List.mem_cons_self ..)
  have ap := List.pairwise_cons.mp s.ap
  refine ⟨fun c hc => ?_, List.pairwise_append.mpr ⟨s0.ap, ap.2, fun a ha b hb x hx hx' => ap.1 b hb x (mem_fpL.mpr ⟨a, ha, hx⟩) hx'⟩⟩
  rcases List.mem_append.mp hc with h | h
  · exact s0.ok c h
  · exact s.ok c (List.mem_cons_of_mem _ h)
theorem Sep.unflat (s : Sep H (cs ++ B)) : Sep H (cAll cs :: B) := by
  have ap := List.pairwise_append.mp s.ap
  refine ⟨fun c hc => ?_, List.pairwise_cons.mpr ⟨fun b hb x hx hx' => ?_, ap.2.1⟩⟩
  · rcases List.mem_cons.mp hc with rfl | h
    · exact ⟨fun c h => s.ok c (List.mem_append_left _ h), ap.1⟩
    · exact s.ok c (List.mem_append_right _ h)
  · obtain ⟨a, ha, h⟩ := mem_fpL.mp hx
    exact ap.2.2 a ha b hb x h hx'
def others (cs : List Comp) (b : Nat) : List Comp := cs.take b ++ cs.drop (b + 1)
theorem perm_out : ([c] ++ O ++ (X :: B)).Perm (X :: c :: (B ++ O)) := by
  refine (List.Perm.cons c ?_ : (c :: (O ++ X :: B)).Perm (c :: X :: (B ++ O))).trans (List.Perm.swap ..)
  exact List.perm_middle.trans (List.Perm.cons X List.perm_append_comm)
theorem Sep.out (s : Sep H (X :: cAll cs :: B)) (h : cs[b]? = some c) : Sep H (X :: c :: (B ++ others cs b)) := by
  have s1 : Sep H (cAll cs :: X :: B) := s.perm (List.Perm.swap ..)
  have p := (perm_at h c).1
  exact (s1.flat.perm (p.append_right _)).perm perm_out
theorem Sep.back (s : Sep H (X :: c' :: (B ++ others cs b))) (h : cs[b]? = some c) : Sep H (X :: cAll (cs.set b c') :: B) := by
  have p := (perm_at h c').2
  have s1 : Sep H (cs.set b c' ++ (X :: B)) := (s.perm perm_out.symm).perm (p.append_right _).symm
  exact s1.unflat.perm (List.Perm.swap ..)
end
structure Wd where
  d : Addr
  p : V
  len : Int
  ms : List Meter
  ol : Addr
  offs : List Int
  sl : Addr
  ts : List SL
  cl : Addr
  ls : List LL
  ra : Addr
  R : List Letter
  ma : Addr
  M : List Letter
def lnV (ls : List LL) : List V := ls.map fun t => .ref t.1.1
def lns (ls : List LL) : List (List Letter) := ls.map (·.2)
def Wd.rest (W : Wd) : List Comp := [cLst W.ol (W.offs.map V.int), cLst W.cl (lnV W.ls), cBag W.ma W.M]
def Wd.tl (K : PySem.W.Frag) (W : Wd) : List Comp := [cSrcs K W.ts, cBag W.ra W.R, cLst W.sl (slV W.ts), cPlan W.p W.len W.ms, cLst W.ol (W.offs.map V.int), cLst W.cl (lnV W.ls), cBag W.ma W.M]
def Wd.cs (K : PySem.W.Frag) (W : Wd) : List Comp := cDraw W.d :: cLines K W.ls :: W.tl K
structure Wd.Ok (W : Wd) (k : Nat) : Prop where
  inv : Inv k W.ms (srcs W.ts) (lns W.ls) W.R W.M
  l2 : W.ls.length = 2
  offs : W.offs = (srcs W.ts).map (·.off)
  mok : ∀ m ∈ W.ms, MOk m
  pos : 0 < W.ms.length
section
variable {K : PySem.W.Frag} {H H' : Hp} {W : Wd} {k : Nat}
theorem Wd.Ok.lts (o : W.Ok k) : W.ts.length = W.ms.length := by
  have := congrArg List.length o.inv.mt
  unfold srcs at this
  rw [List.length_map, List.length_map] at this
  exact this
theorem Wd.Ok.meter (o : W.Ok k) {j : Nat} {t : SL} (h : W.ts[j]? = some t) : W.ms[j]? = some t.2.m := by
  rw [← o.inv.mt]
  unfold srcs
  rw [List.map_map, List.getElem?_map, h]
  rfl
theorem Wd.Ok.off (o : W.Ok k) {j : Nat} {t : SL} (h : W.ts[j]? = some t) : W.offs[j]? = some t.2.off := by
  rw [o.offs]
  unfold srcs
  rw [List.map_map, List.getElem?_map, h]
  rfl
theorem srcs_get {ts : List SL} {j : Nat} {t : SL} (h : ts[j]? = some t) : (srcs ts)[j]? = some t.2 := by unfold srcs; rw [List.getElem?_map, h]; rfl
theorem srcs_mem {ts : List SL} {j : Nat} {t : SL} (h : ts[j]? = some t) : t.2 ∈ srcs ts := List.mem_of_getElem? (srcs_get h)
theorem slV_at {ts : List SL} {j : Nat} {t : SL} (h : ts[j]? = some t) : (slV ts)[j]? = some (.ref t.1.1) := by unfold slV; rw [List.getElem?_map, h]; rfl
theorem slV_setEq {ts : List SL} {j : Nat} {t : SL} (h : ts[j]? = some t) {u : SL} (e : u.1.1 = t.1.1) : slV (ts.set j u) = slV ts := by
  unfold slV
  rw [List.map_set, e]
  refine List.ext_getElem? fun i => ?_
  by_cases q : j = i
  · subst q
    rw [List.getElem?_set_self (by rw [List.length_map]; exact (List.getElem?_eq_some_iff.mp h).1), List.getElem?_map, h]
    rfl
  · rw [List.getElem?_set_ne q]
theorem lnV_setEq {ls : List LL} {j : Nat} {t : LL} (h : ls[j]? = some t) {u : LL} (e : u.1.1 = t.1.1) : lnV (ls.set j u) = lnV ls := by
  unfold lnV
  rw [List.map_set, e]
  refine List.ext_getElem? fun i => ?_
  by_cases q : j = i
  · subst q
    rw [List.getElem?_set_self (by rw [List.length_map]; exact (List.getElem?_eq_some_iff.mp h).1), List.getElem?_map, h]
    rfl
  · rw [List.getElem?_set_ne q]
theorem lns_get {ls : List LL} {j : Nat} {t : LL} (h : ls[j]? = some t) : (lns ls)[j]? = some t.2 := by unfold lns; rw [List.getElem?_map, h]; rfl
theorem lnV_at {ls : List LL} {j : Nat} {t : LL} (h : ls[j]? = some t) : (lnV ls)[j]? = some (.ref t.1.1) := by unfold lnV; rw [List.getElem?_map, h]; rfl
theorem srcs_off_set {ts : List SL} {j : Nat} {t : SL} (h : ts[j]? = some t) {u : SL} (e : u.2.off = t.2.off) : (srcs (ts.set j u)).map (·.off) = (srcs ts).map (·.off) := by
  unfold srcs
  rw [List.map_map, List.map_map, List.map_set]
  refine List.ext_getElem? fun i => ?_
  by_cases q : j = i
  · subst q
    rw [List.getElem?_set_self (by rw [List.length_map]; exact (List.getElem?_eq_some_iff.mp h).1), List.getElem?_map, h]
    exact congrArg some e
  · rw [List.getElem?_set_ne q]
theorem Sep.draw (s : Sep H (W.cs K)) : Draw H W.d := s.get 0 rfl
theorem Sep.lines (s : Sep H (W.cs K)) : (cLines K W.ls).ok H := s.get 1 rfl
theorem Sep.srcs (s : Sep H (W.cs K)) : (cSrcs K W.ts).ok H := s.get 2 rfl
theorem Sep.bagR (s : Sep H (W.cs K)) : Bag H W.ra W.R := s.get 3 rfl
theorem Sep.srcl (s : Sep H (W.cs K)) : H W.sl = some (.lst (slV W.ts)) := s.get 4 rfl
theorem Sep.plan (s : Sep H (W.cs K)) : IsPlan H W.p W.len W.ms := s.get 5 rfl
theorem Sep.offl (s : Sep H (W.cs K)) : H W.ol = some (.lst (W.offs.map V.int)) := s.get 6 rfl
theorem Sep.carl (s : Sep H (W.cs K)) : H W.cl = some (.lst (lnV W.ls)) := s.get 7 rfl
theorem Sep.bagM (s : Sep H (W.cs K)) : Bag H W.ma W.M := s.get 8 rfl
theorem Sep.srcAt (s : Sep H (W.cs K)) {j : Nat} {t : SL} (h : W.ts[j]? = some t) : SrcAt K H t.1.1 t.1.2.1 t.1.2.2 t.2 := srcs_ok s.srcs t (List.mem_of_getElem? h)
/-- a draw -/
theorem Sep.took (s : Sep H (W.cs K)) (e : Keep [W.d] H H') (h : Draw H' W.d) : Sep H' (W.cs K) := (Sep.set s 0 (c := cDraw W.d) rfl (frm_draw e h)).sep
theorem Sep.sm (s : Sep H (W.cs K)) (e : Same H H') : Sep H' (W.cs K) := (s.same e).sep
/-- a source changes -/
theorem Sep.deed (s : Sep H (W.cs K)) {j : Nat} {x sa da : Addr} {S S' : Src} (h : W.ts[j]? = some ((x, sa, da), S)) (e : Keep [x, sa, da] H H') (hS : SrcAt K H' x sa da S') : Sep H' (Wd.cs K { W with ts := W.ts.set j ((x, sa, da), S') }) := by
  have f := Sep.set s 2 (c := cSrcs K W.ts) rfl (srcs_set s.srcs h (t' := ((x, sa, da), S')) (frm_src (S := S) e hS (.inl rfl)))
  have q := slV_setEq h (u := ((x, sa, da), S')) rfl
  unfold Wd.cs Wd.tl
  rw [q]
  exact f.sep
/-- the letters made: a new list -/
theorem Sep.made (s : Sep H (W.cs K)) (e : Same H H') {m : Addr} {M' : List Letter} (n : H m = none) (h : Bag H' m M') : Sep H' (Wd.cs K { W with ma := m, M := M' }) :=
  (Sep.set s 8 (c := cBag W.ma W.M) rfl (Frm.one (c := cBag W.ma W.M) (c' := cBag m M') (e.keep []) (fun b hb => by cases hb) h fun b hb => by rw [mem1 hb]; exact .inr n)).sep
/-- a line takes letters -/
theorem Sep.sent (s : Sep H (W.cs K)) {i : Nat} {y a a' : Addr} {L L' : List Letter} (h : W.ls[i]? = some ((y, a), L)) (e : Keep [y, a] H H') (hL : LineAt K H' y a' L') (n : a' = a ∨ H a' = none) : Sep H' (Wd.cs K { W with ls := W.ls.set i ((y, a'), L') }) := by
  have f := Sep.set s 1 (c := cLines K W.ls) rfl (lines_set s.lines h (t' := ((y, a'), L')) (frm_line (L := L) e hL n))
  have q := lnV_setEq h (u := ((y, a'), L')) rfl
  unfold Wd.cs Wd.tl
  rw [q]
  exact f.sep
theorem map_get' {α β : Type} {f : α → β} {l : List α} {i : Nat} {x : α} (h : l[i]? = some x) : (l.map f)[i]? = some (f x) := by rw [List.getElem?_map, h]; rfl
/-- the parts that a move works on -/
theorem Sep.mvOut (s : Sep H (W.cs K)) {i : Nat} {y a : Addr} {L : List Letter} (h : W.ls[i]? = some ((y, a), L)) :
    Sep H (mvW K W.d y a L W.ts W.ra W.R ++ ([cLst W.sl (slV W.ts), cPlan W.p W.len W.ms] ++ (W.rest ++ others (W.ls.map fun t => cLn K t.1 t.2) i))) :=
  Sep.out (X := cDraw W.d) (B := W.tl K) (cs := W.ls.map fun t => cLn K t.1 t.2) (c := cLn K (y, a) L) s (map_get' h)
theorem Sep.mvIn (s : Sep H (W.cs K)) {i : Nat} {y a a' ra' : Addr} {L L' R' : List Letter} {ts' : List SL} (h : W.ls[i]? = some ((y, a), L)) (f : Frm (mvW K W.d y a L W.ts W.ra W.R) (mvW K W.d y a' L' ts' ra' R') H H') (e : slV ts' = slV W.ts) :
    Sep H' (Wd.cs K { W with ls := W.ls.set i ((y, a'), L'), ts := ts', ra := ra', R := R' }) := by
  have s1 := ((s.mvOut h).frm f).sep
  have s2 := Sep.back (X := cDraw W.d) (B := [cSrcs K ts', cBag ra' R', cLst W.sl (slV W.ts), cPlan W.p W.len W.ms, cLst W.ol (W.offs.map V.int), cLst W.cl (lnV W.ls), cBag W.ma W.M]) (cs := W.ls.map fun t => cLn K t.1 t.2) (c' := cLn K (y, a') L') (b := i) s1 (map_get' h)
  have q := lnV_setEq h (u := ((y, a'), L')) rfl
  unfold Wd.cs Wd.tl
  dsimp only
  rw [q, e]
  unfold cLines
  rw [List.map_set]
  exact s2
/-- what is on a line and what is due comes -/
theorem Sep.rstOut (s : Sep H (W.cs K)) {i : Nat} {y a : Addr} {L : List Letter} (h : W.ls[i]? = some ((y, a), L)) : Sep H ([cLn K (y, a) L] ++ [cSrcs K W.ts, cLst W.sl (slV W.ts)]) := by
  refine (s.mvOut h).sub ?_
  refine List.Sublist.cons _ (List.Sublist.cons₂ _ (List.Sublist.cons₂ _ (List.Sublist.cons _ (List.Sublist.cons₂ _ (List.nil_sublist _)))))
theorem Sep.rstIn (s : Sep H (W.cs K)) {i : Nat} {y a a' f : Addr} {L F : List Letter} (h : W.ls[i]? = some ((y, a), L)) (g : Frm [cLn K (y, a) L] [cBag f F, cLn K (y, a') []] H H') : Sep H' (cBag f F :: Wd.cs K { W with ls := W.ls.set i ((y, a'), []) }) := by
  have s0 := s.mvOut h
  have s1 : Sep H ([cLn K (y, a) L] ++ (cDraw W.d :: (W.tl K ++ others (W.ls.map fun t => cLn K t.1 t.2) i))) := s0.perm (List.Perm.swap ..)
  have s2 : Sep H' (cBag f F :: cLn K (y, a') [] :: cDraw W.d :: (W.tl K ++ others (W.ls.map fun t => cLn K t.1 t.2) i)) := (s1.frm g).sep
  have p2 := List.pairwise_cons.mp s2.ap
  have s3 : Sep H' (cDraw W.d :: cLn K (y, a') [] :: (W.tl K ++ others (W.ls.map fun t => cLn K t.1 t.2) i)) := (s2.sub (List.sublist_cons_self ..)).perm (List.Perm.swap ..)
  have s4 := Sep.back (X := cDraw W.d) (B := W.tl K) (cs := W.ls.map fun t => cLn K t.1 t.2) (c' := cLn K (y, a') []) (b := i) s3 (map_get' h)
  have q := lnV_setEq h (u := ((y, a'), ([] : List Letter))) rfl
  have s5 : Sep H' (Wd.cs K { W with ls := W.ls.set i ((y, a'), []) }) := by
    unfold Wd.cs
    rw [show Wd.tl K { W with ls := W.ls.set i ((y, a'), []) } = W.tl K by unfold Wd.tl; dsimp only; rw [q]]
    unfold cLines
    rw [List.map_set]
    exact s4
  refine ⟨fun c hc => ?_, List.pairwise_cons.mpr ⟨fun c hc x hx hx' => ?_, s5.ap⟩⟩
  · rcases List.mem_cons.mp hc with rfl | hc
    · exact s2.ok _ (List.mem_cons_self ..)
    · exact s5.ok c hc
  · have nf : f ∉ fpL (cLn K (y, a') [] :: cDraw W.d :: (W.tl K ++ others (W.ls.map fun t => cLn K t.1 t.2) i)) := fun z => by
      obtain ⟨c0, h0, h1⟩ := mem_fpL.mp z
      exact p2.1 c0 h0 f (List.mem_cons_self ..) h1
    have hxf : x = f := mem1 hx
    rw [hxf] at hx'
    refine nf (?_ : f ∈ fpL _)
    have key : f ∈ fpL (Wd.cs K { W with ls := W.ls.set i ((y, a'), []) }) := mem_fpL.mpr ⟨c, hc, hx'⟩
    unfold Wd.cs at key
    rw [show Wd.tl K { W with ls := W.ls.set i ((y, a'), []) } = W.tl K by unfold Wd.tl; dsimp only; rw [q]] at key
    rw [show fpL (cDraw W.d :: cLines K (W.ls.set i ((y, a'), [])) :: W.tl K) = (cDraw W.d).fp ++ ((cLines K (W.ls.set i ((y, a'), []))).fp ++ fpL (W.tl K)) from rfl] at key
    rw [show fpL (cLn K (y, a') [] :: cDraw W.d :: (W.tl K ++ others (W.ls.map fun t => cLn K t.1 t.2) i)) = (cLn K (y, a') []).fp ++ ((cDraw W.d).fp ++ fpL (W.tl K ++ others (W.ls.map fun t => cLn K t.1 t.2) i)) from rfl]
    rcases List.mem_append.mp key with z | z
    · exact List.mem_append_right _ (List.mem_append_left _ z)
    · rcases List.mem_append.mp z with z | z
      · have z' : f ∈ fpL ((W.ls.map fun t => cLn K t.1 t.2).set i (cLn K (y, a') [])) := by
          have e : (cLines K (W.ls.set i ((y, a'), []))).fp = fpL ((W.ls.map fun t => cLn K t.1 t.2).set i (cLn K (y, a') [])) := by
            show fpL ((W.ls.set i ((y, a'), [])).map _) = _
            rw [List.map_set]
          rw [← e]
          exact z
        rcases fpL_app.mp ((fpL_perm (perm_at (map_get' (f := fun t : LL => cLn K t.1 t.2) h) (cLn K (y, a') [])).2).mp z') with g | g
        · exact List.mem_append_left _ (by obtain ⟨c0, h0, h1⟩ := mem_fpL.mp g; rw [List.mem_singleton.mp h0] at h1; exact h1)
        · exact List.mem_append_right _ (List.mem_append_right _ (fpL_app.mpr (.inr g)))
      · exact List.mem_append_right _ (List.mem_append_right _ (fpL_app.mpr (.inl z)))
def OffOk (ms : List Meter) (offs : List Int) : Prop := ∀ (j : Nat) o m, offs[j]? = some o → ms[j]? = some m → -m.err ≤ o ∧ o ≤ m.err
/-- sources at their beginning -/
def Young (ms : List Meter) (offs : List Int) (ts : List SL) : Prop := ∀ (j : Nat) t, ts[j]? = some t → ∃ m o, ms[j]? = some m ∧ offs[j]? = some o ∧ t.2 = ⟨m, o, [], 0, none, []⟩
theorem sum_zero : ∀ {l : List Nat}, (∀ x ∈ l, x = 0) → l.sum = 0
  | [], _ => rfl
  | a :: r, h => by
    rw [List.sum_cons, h a List.mem_cons_self, sum_zero fun x hx => h x (List.mem_cons_of_mem _ hx)]
theorem young_ok {ms : List Meter} {offs : List Int} {ts : List SL} (mok : MsOk ms) (few : ms.length ≤ 6) (pos : 0 < ms.length) (mm : ∀ m ∈ ms, MOk m) (oo : OffOk ms offs) (lo : offs.length = ms.length) (lt : ts.length = ms.length) (yg : Young ms offs ts)
    (d : Addr) (p : V) (len : Int) (ol sl cl ra ma : Addr) (u v : Addr × Addr) : Wd.Ok ⟨d, p, len, ms, ol, offs, sl, ts, cl, [(u, []), (v, [])], ra, [], ma, []⟩ 0 := by
  have yg' : ∀ S ∈ srcs ts, ∃ m o, S = ⟨m, o, [], 0, none, []⟩ ∧ -m.err ≤ o ∧ o ≤ m.err := fun S hS => by
    obtain ⟨t, ht, rfl⟩ := List.mem_map.mp hS
    obtain ⟨j, hj, e⟩ := List.mem_iff_getElem.mp ht
    obtain ⟨m, o, h1, h2, h3⟩ := yg j t (by rw [List.getElem?_eq_getElem hj, e])
    exact ⟨m, o, h3, oo j o m h2 h1⟩
  refine ⟨{ mok := mok, mfew := few, mt := ?_, src := fun S hS => ?_, tot := ?_, dlen := fun S hS => ?_, llen := fun l hl => ?_, rlen := Nat.le_refl _, mlen := Nat.zero_le _, own := fun S hS L hL => ?_, lok := fun l hl L hL => ?_, rok := fun L hL => (by cases hL), made := fun L hL => (by cases hL), reads := fun S hS L hL => ?_ }, rfl, ?_, mm, pos⟩
  · refine List.ext_getElem? fun i => ?_
    show ((srcs ts).map (·.m))[i]? = ms[i]?
    by_cases hi : i < ts.length
    · have h0 := List.getElem?_eq_getElem hi
      obtain ⟨m, o, h1, h2, h3⟩ := yg i _ h0
      rw [h1, List.getElem?_map, srcs_get h0, h3]
      rfl
    · rw [List.getElem?_eq_none (by unfold srcs; rw [List.length_map, List.length_map]; omega), List.getElem?_eq_none (by omega)]
  · obtain ⟨m, o, rfl, ho⟩ := yg' S hS
    exact ⟨⟨fun s hs => (by cases hs), List.Pairwise.nil⟩, ho, Nat.le_refl _, fun c hc => by cases hc⟩
  · refine Nat.le_of_eq (sum_zero fun x hx => ?_)
    obtain ⟨S, hS, rfl⟩ := List.mem_map.mp hx
    obtain ⟨m, o, rfl, ho⟩ := yg' S hS
    rfl
  · obtain ⟨m, o, rfl, ho⟩ := yg' S hS
    exact Nat.le_refl _
  · have : l = [] := by
      rcases List.mem_cons.mp hl with h | h
      · exact h
      · rcases List.mem_cons.mp h with h | h
        · exact h
        · cases h
    rw [this]
    exact Nat.le_refl _
  · obtain ⟨m, o, rfl, ho⟩ := yg' S hS
    cases hL
  · have : l = [] := by
      rcases List.mem_cons.mp hl with h | h
      · exact h
      · rcases List.mem_cons.mp h with h | h
        · exact h
        · cases h
    rw [this] at hL
    cases hL
  · obtain ⟨m, o, rfl, ho⟩ := yg' S hS
    obtain ⟨i, v, t, x, h, _⟩ := mem_logReads.mp hL
    have h' : ([] : List Slot)[i]? = some t := h
    simp at h'
  · refine List.ext_getElem? fun i => ?_
    show offs[i]? = ((srcs ts).map (·.off))[i]?
    by_cases hi : i < ts.length
    · have h0 := List.getElem?_eq_getElem hi
      obtain ⟨m, o, h1, h2, h3⟩ := yg i _ h0
      rw [h2, List.getElem?_map, srcs_get h0, h3]
      rfl
    · rw [List.getElem?_eq_none (by omega), List.getElem?_eq_none (by unfold srcs; rw [List.length_map, List.length_map]; omega)]
/-- the parts as they were made, in the world's order -/
theorem world_perm {K : PySem.W.Frag} {W : Wd} (s : Sep H [cBag W.ma W.M, cBag W.ra W.R, cLst W.cl (lnV W.ls), cLines K W.ls, cLst W.sl (slV W.ts), cSrcs K W.ts, cLst W.ol (W.offs.map V.int), cDraw W.d, cPlan W.p W.len W.ms]) : Sep H (W.cs K) := by
  have p : [7, 3, 5, 1, 4, 8, 6, 2, 0].Perm [0, 1, 2, 3, 4, 5, 6, 7, 8] := by decide
  exact s.perm (p.map fun i : Nat => [cBag W.ma W.M, cBag W.ra W.R, cLst W.cl (lnV W.ls), cLines K W.ls, cLst W.sl (slV W.ts), cSrcs K W.ts, cLst W.ol (W.offs.map V.int), cDraw W.d, cPlan W.p W.len W.ms].getD i (cDraw W.d)).symm
theorem lines_snoc {H' : Hp} {ts : List LL} {t : LL} (s : (cLines K ts).ok H) (e : Same H H') (ok : LineAt K H' t.1.1 t.1.2 t.2) (n1 : H t.1.1 = none) (n2 : H t.1.2 = none) : Frm [cLines K ts] [cLines K (ts ++ [t])] H H' := by
  have s' : Sep H (ts.map fun t => cLn K t.1 t.2) := s
  have f := s'.add (c := cLn K t.1 t.2) e ok fun b hb => by
    rcases mem2 hb with rfl | rfl
    · exact n1
    · exact n2
  have g := f.perm (List.Perm.refl _) (List.perm_append_comm (l₁ := [cLn K t.1 t.2]))
  have e : (ts.map fun t => cLn K t.1 t.2) ++ [cLn K t.1 t.2] = (ts ++ [t]).map fun t => cLn K t.1 t.2 := by rw [List.map_append]; rfl
  rw [e] at g
  exact g.all
theorem made_keep {H' : Hp} {x dx : Addr} {o u : HO} (nx : H x = none) (ndx : H dx = none) (nex : dx ≠ x) : Same H (upd (upd H dx o) x u) := (Same.new ndx).up (by rw [upd_ne (Ne.symm nex)]; exact nx)
theorem Wd.Ok.sent (o : W.Ok k) (hk : k < 25) {j b : Nat} {t : SL} (ht : W.ts[j]? = some t) {l : LL} (hl : W.ls[b]? = some l) (u : Addr × Addr) : Wd.Ok { W with ls := W.ls.set b (u, l.2 ++ t.2.due) } (k + 1) := by
  have e : lns (W.ls.set b (u, l.2 ++ t.2.due)) = (lns W.ls).set b (l.2 ++ t.2.due) := by unfold lns; rw [List.map_set]
  refine ⟨?_, by rw [← o.l2]; exact List.length_set .., o.offs, o.mok, o.pos⟩
  show Inv (k + 1) W.ms (srcs W.ts) (lns (W.ls.set b (u, l.2 ++ t.2.due))) W.R W.M
  rw [e]
  exact o.inv.send hk (srcs_mem ht) (lns_get hl)
theorem Wd.Ok.moved (o : W.Ok k) (hk : k < 25) {b : Nat} {l : LL} (hl : W.ls[b]? = some l) {L' R' : List Letter} {ts' : List SL} (mv : Mv l.2 L' (srcs W.ts) (srcs ts') W.R R') (u : Addr × Addr) (ra' : Addr) : Wd.Ok { W with ls := W.ls.set b (u, L'), ts := ts', ra := ra', R := R' } (k + 1) := by
  have e : lns (W.ls.set b (u, L')) = (lns W.ls).set b L' := by unfold lns; rw [List.map_set]
  refine ⟨?_, by rw [← o.l2]; exact List.length_set .., ?_, o.mok, o.pos⟩
  · show Inv (k + 1) W.ms (srcs ts') (lns (W.ls.set b (u, L'))) R' W.M
    rw [e]
    exact o.inv.move hk (lns_get hl) mv
  · show W.offs = (srcs ts').map (·.off)
    rw [o.offs]
    refine List.ext_getElem (by rw [List.length_map, List.length_map, mv.slen]) fun j h1 h2 => ?_
    rw [List.getElem_map, List.getElem_map]
    rw [List.length_map] at h1 h2
    obtain ⟨ds, e, _⟩ := mv.src j _ _ (List.getElem?_eq_getElem h1) (List.getElem?_eq_getElem h2)
    rw [e]
theorem Wd.Ok.deed (o : W.Ok k) (hk : k < 25) {j : Nat} {t : SL} (ht : W.ts[j]? = some t) {S' : Src} (st : t.2.Step S') {M' : List Letter} (hM : ∀ L ∈ M', L ∈ W.M ∨ L ∈ S'.due) (lM : M'.length ≤ W.M.length + S'.due.length) (m : Addr) :
    Wd.Ok { W with ts := W.ts.set j (t.1, S'), ma := m, M := M' } (k + 1) := by
  refine ⟨?_, o.l2, ?_, o.mok, o.pos⟩
  · show Inv (k + 1) W.ms (srcs (W.ts.set j (t.1, S'))) (lns W.ls) W.R M'
    rw [srcs_set']
    exact o.inv.deed hk (srcs_get ht) st hM lM
  · show W.offs = (srcs (W.ts.set j (t.1, S'))).map (·.off)
    rw [srcs_off_set ht (u := (t.1, S')) st.off]
    exact o.offs
end
end Tw
end

section
set_option maxHeartbeats 4000000
namespace Tw
open PySem PySem.Spec PyProof.Rows L2
/-! the machine of the readings: "tw" goes on through what has one answer; it stops at a branch, a loop, a new object, what comes behind a call -/
local macro_rules | `(tactic| walk_at "tw look") => `(tactic| first
  | assumption
  | exact upd_same
  | (refine Same.new (by assumption) _ _ ?_; walk_at "tw look")
  | (refine upd_oth (by assumption) ?_; walk_at "tw look")
  | (refine upd_dif (by assumption) (by intro z; cases z) ?_; walk_at "tw look")
  | (refine upd_dif upd_same (by intro z; cases z) ?_; walk_at "tw look"))
local macro_rules | `(tactic| walk_at "tw seq") => `(tactic| first
  | assumption
  | exact SqL.of (by walk_at "tw look")
  | exact SqT.of (by walk_at "tw look")
  | exact .inl (SqL.of (by walk_at "tw look"))
  | exact .inr (SqT.of (by walk_at "tw look"))
  | exact .inl (by assumption)
  | exact dget_of (by walk_at "tw look") (by assumption)
  | exact DGet.k (k := Sum.inl _) (by walk_at "tw look")
  | exact DPut.k (k := Sum.inl _) (by walk_at "tw look") (by assumption)
  | exact .inl ⟨_, .inl (by walk_at "tw look")⟩
  | exact .inr ⟨_, .inl (by walk_at "tw look")⟩
  | exact ⟨_, SqL.of (by walk_at "tw look")⟩
  | exact ⟨_, SqT.of (by walk_at "tw look")⟩
  | exact ⟨_, by assumption⟩
  | exact .inl ⟨rfl, _, SqL.of (by walk_at "tw look")⟩)
local macro_rules | `(tactic| walk_at "tw atom") => `(tactic| first
  | with_reducible rfl
  | assumption
  | rfl
  | walk_at "tw look"
  | walk_at "tw seq"
  | omega
  | exact small (by simp; done)
  | exact smallt (by simp; done)
  | exact cdiv_of rfl
  | exact fun _ h => h
  | exact Int.natCast_pos.mpr (Nat.zero_lt_succ _)
  | exact cmul_r rfl
  | exact cmul_l rfl
  | exact Nat.le_of_ble_eq_true rfl)
local macro_rules | `(tactic| walk_at "tw step") => `(tactic| first | (with_reducible refine iteT ?_) | (with_reducible refine iteF ?_) | (with_reducible refine itf nott ?_) | (with_reducible refine itt notf ?_) | ((fail_if_success (refine ite2 (fun _ => ?_) (fun _ => ?_))); first
  | ((fail_if_success (refine (?_ : ∃ W : Nat → Nat → L2.St → Hp → Prop, _))); (fail_if_success (refine (?_ : ∃ W : Nat → Nat → Hp → Prop, _))); apply Exists.intro)
  | (apply And.intro; (walk_at "tw atom"))))
local macro_rules | `(tactic| walk_at "tw") => `(tactic| repeat walk_at "tw step")

section
variable {P : Program} {w : World} {K : PySem.W.Frag} {mg : Str → Option Value} {base : Heap}
/-- the law's slots, while its loop goes -/
def Shape (a : Addr) (c : Int) (W : Wd) (σ : L2.St) : Prop := ∃ x9 x10 x11 x12 x13 x14 x15 x16 x17, σ = [some (.ref a), some (.ref W.d), some (.int c), some W.p, some (.ref W.ol), some (.ref W.sl), some (.ref W.cl), some (.ref W.ra), some (.ref W.ma), x9, x10, x11, x12, x13, x14, x15, x16, x17]
theorem at_snoc {α : Type} {l : List α} {x y : α} {j : Nat} (h : (l ++ [x])[j]? = some y) : l[j]? = some y ∨ (j = l.length ∧ y = x) := by
  by_cases e : j < l.length
  · rw [List.getElem?_append_left e] at h
    exact .inl h
  · rw [List.getElem?_append_right (by omega)] at h
    have hj := (List.getElem?_eq_some_iff.mp h).1
    have h0 : j - l.length = 0 := by
      have : [x].length = 1 := rfl
      omega
    rw [h0] at h
    exact .inr ⟨by omega, (Option.some.inj h).symm⟩
theorem frm_lst {H H' : Hp} {l : Addr} {xs ys : List V} (k : Keep [l] H H') (h : H' l = some (.lst ys)) : Frm [cLst l xs] [cLst l ys] H H' := Frm.one (c := cLst l xs) (c' := cLst l ys) k (fun b h => h) h fun b hb => .inl hb
theorem srcs_snoc {H H' : Hp} {ts : List SL} {t : SL} (s : (cSrcs K ts).ok H) (e : Same H H') (ok : SrcAt K H' t.1.1 t.1.2.1 t.1.2.2 t.2) (n1 : H t.1.1 = none) (n2 : H t.1.2.1 = none) (n3 : H t.1.2.2 = none) : Frm [cSrcs K ts] [cSrcs K (ts ++ [t])] H H' := by
  have s' : Sep H (ts.map fun t => cSrc K t.1 t.2) := s
  have f := s'.add (c := cSrc K t.1 t.2) e ok fun b hb => by
    rcases mem3 hb with rfl | rfl | rfl
    · exact n1
    · exact n2
    · exact n3
  have g := f.perm (List.Perm.refl _) (List.perm_append_comm (l₁ := [cSrc K t.1 t.2]))
  have e : (ts.map fun t => cSrc K t.1 t.2) ++ [cSrc K t.1 t.2] = (ts ++ [t]).map fun t => cSrc K t.1 t.2 := by rw [List.map_append]; rfl
  rw [e] at g
  exact g.all
/-- a new object's own writes are no writes to what was there -/
theorem made_same {H H' : Hp} {x dx : Addr} {o u : HO} (nx : H x = none) (ndx : H dx = none) (e : Keep [x] (upd (upd H dx o) x u) H') : Same H H' := fun b v h => by
  have hx := ne_of_none h nx
  exact e b v (by rw [List.mem_singleton]; exact hx) (by rw [upd_ne hx, upd_ne (ne_of_none h ndx)]; exact h)
theorem made_free {H : Hp} {x dx b : Addr} {o u : HO} (h : (upd (upd H dx o) x u) b = none) : H b = none ∧ b ≠ x ∧ b ≠ dx := by
  have h1 : b ≠ x := fun z => by rw [z, upd_same] at h; cases h
  rw [upd_ne h1] at h
  have h2 : b ≠ dx := fun z => by rw [z, upd_same] at h; cases h
  rw [upd_ne h2] at h
  exact ⟨h, h1, h2⟩
theorem set_id {α : Type} {l : List α} {j : Nat} {t : α} (h : l[j]? = some t) : l.set j t = l := by
  refine List.ext_getElem? fun i => ?_
  by_cases q : j = i
  · subst q
    rw [List.getElem?_set_self (List.getElem?_eq_some_iff.mp h).1, h]
  · rw [List.getElem?_set_ne q]
def Deed.kind : Deed → Str
  | .record .. => "record"
  | .correct .. => "correct"
  | .takeBack .. => "take_back"
  | .close .. => "close"
  | .check .. => "check"
  | .ack .. => "acknowledge"
theorem deed_0 (D : Deed) : atI D.items 0 = some (.str D.kind) := by cases D <;> rfl
theorem deed_good {D : Deed} (h : D.kind ≠ ("acknowledge" : Str)) : D.Good := by
  cases D with
  | ack u => exact (h rfl).elim
  | _ => trivial
/-- the body of the i-th statement of a block, a for -/
def forBody (b : List Stmt) (i : Nat) : List Stmt := match b[i]? with
  | some (.For _ _ body _ _) => body
  | _ => []
theorem law_turn (T : Tx K mg) {f : Addr} {cdv : Value} {A : Around} {outer : List Env} {s0 : Shared} {H : Hp} {E : XK} (hr : Room 5 (A.deeper (envOfC "law" (defScope s_law) s0.heap.objs.size f cdv))) :
    ∃ t, PSs (cxOf CX0 P w K mg base N_law "law" (defScope s_law) f cdv A outer s0 H E).nox (forBody (defBody s_law) 8) t ∧
      ∀ (a : Addr) (c : Int) (D : Ends) (i : Nat) (W : Wd) (σ : L2.St) (H' : Hp), Shape a c W σ → Sep H' (W.cs K) → W.Ok i → i < 25 → (∀ W' σ' G, Shape a c W' σ' → Sep G (W'.cs K) → W'.Ok (i + 1) → D.nx σ' G) → t D σ H' := by
  refine ⟨_, (pss_cons (ps_set (i := 10) sc_law.nd rfl (by first | exact Or.inl rfl | exact Or.inr rfl) (pe_cl (C_law_takeD T) (hr.mono (by decide)) pass0 (pa_cons (pv 1) (pa_cons (pe_callB (clen (K := K)) (by rfl) T.f_len PySem.boot_len (pa_cons (pv 5) pa_nil)) pa_nil))))
    (pss_cons (ps_set (i := 11) sc_law.nd rfl (by first | exact Or.inl rfl | exact Or.inr rfl) (pe_cl (C_law_takeD T) (hr.mono (by decide)) pass0 (pa_cons (pv 1) (pa_cons pe_int pa_nil))))
    (pss_cons (ps_set (i := 12) sc_law.nd rfl (by first | exact Or.inl rfl | exact Or.inr rfl) (pe_ix (ixL (K := K)) (pv 6) (pe_cl (C_law_takeD T) (hr.mono (by decide)) pass0 (pa_cons (pv 1) (pa_cons pe_int pa_nil))) (fun _ _ => rfl)))
    (pss_cons (ps_cut (ps_if (pt_cmpR op_lt (pv 11) pe_int (nomark _))
    (pss_cons (ps_set (i := 13) sc_law.nd rfl (by first | exact Or.inl rfl | exact Or.inr rfl) (pe_tup (pa_cons (pe_ix (ixT (K := K)) (pe_mcl0 (C_Source_log T) (hr.mono (by decide)) pass0 (pe_ix (ixL (K := K)) (pv 5) (pv 10) (fun _ _ => rfl))) pe_int (fun _ _ => rfl)) (pa_cons pe_int (pa_cons pe_non (pa_cons (pe_mcl0 (C_Source_due T) (hr.mono (by decide)) pass0 (pe_ix (ixL (K := K)) (pv 5) (pv 10) (fun _ _ => rfl))) pa_nil))))))
    (pss_cons (ps_set (i := 14) sc_law.nd rfl (by first | exact Or.inl rfl | exact Or.inr rfl) (pe_cl (C_law_deed T) (hr.mono (by decide)) pass0 (pa_cons (pv 1) (pa_cons (pv 13) (pa_cons (pe_ix (ixT (K := K)) (pe_ix (ixT (K := K)) (pv 3) pe_int (fun _ _ => rfl)) (pv 10) (fun _ _ => rfl)) (pa_cons (pe_ix (ixL (K := K)) (pv 4) (pv 10) (fun _ _ => rfl)) (pa_cons (pv 2) pa_nil)))))))
    (pss_cons (ps_cut (ps_if (pt_cmpR op_ne (pe_ix (ixT (K := K)) (pv 14) pe_int (fun _ _ => rfl)) pe_str (nomark _))
    (pss_one (ps_expr (pe_cl (C_law_do T) (hr.mono (by decide)) pass0 (pa_cons (pe_ix (ixL (K := K)) (pv 5) (pv 10) (fun _ _ => rfl)) (pa_cons (pv 14) pa_nil)))))
    pss_nil))
    (pss_one (ps_set (i := 8) sc_law.nd rfl (by first | exact Or.inl rfl | exact Or.inr rfl) (pe_op op_cat (pv 8) (pe_lc (own := [("_law_letter", 17)]) (g := gName 17) rfl sc_law.nd (pi_tup (pe_mcl0 (C_Source_due T) (hr.mono (by decide)) pass0 (pe_ix (ixL (K := K)) (pv 5) (pv 10) (fun _ _ => rfl)))) (blkOk_by (N := N_law) (sc := defScope s_law) (by decide +kernel)) (fun _ _ _ _ _ => (pg_name (i := 17) sc_law.nd rfl (by first | exact Or.inl rfl | exact Or.inr rfl))) (fun _ _ _ _ _ => pts_one (pt_cmpR (opNotIn (K := K) (hu65 hr)) (pv 17) (pv 8) (by rfl))) (fun _ _ _ _ _ => (pv 17)))))))))
    (pss_one (ps_if (pt_cmpR op_eq (pv 11) pe_int (nomark _))
    (pss_one (ps_expr (pe_mcl (C_Line_send T) (hr.mono (by decide)) pass0 (pv 12) (pa_cons (pe_mcl0 (C_Source_due T) (hr.mono (by decide)) pass0 (pe_ix (ixL (K := K)) (pv 5) (pv 10) (fun _ _ => rfl))) pa_nil))))
    (pss_one (ps_set (i := 7) sc_law.nd rfl (by first | exact Or.inl rfl | exact Or.inr rfl) (pe_cl (C_law_moves T) (hr.mono (by decide)) pass0 (pa_cons (pv 1) (pa_cons (pv 12) (pa_cons (pv 5) (pa_cons (pv 3) (pa_cons (pv 7) pa_nil))))))))))))
    (pss_one (ps_if (pt_not (pt_val (pe_cl (C_law_right T) (hr.mono (by decide)) pass0 (pa_cons (pv 3) (pa_cons (pv 5) (pa_cons (pv 7) (pa_cons (pv 8) pa_nil)))))))
    (pss_one (ps_ret pe_bl))
    pss_nil)))))), ?_⟩
  rintro a c D i W σ H' ⟨x9, x10, x11, x12, x13, x14, x15, x16, x17, rfl⟩ s ok hi25 hD
  have hd := s.draw
  have hsl := s.srcl
  have lts := ok.lts
  have hpos0 : (0 : Int) < ((slV W.ts).length : Nat) := by have := ok.pos; unfold slV; rw [List.length_map]; omega
  walk_at "tw"
  intro r1 H1 g1 hd1 r10 r11
  have s1 := s.took g1 hd1
  have hj0 : r1 < (W.ts.length : Nat) := by unfold slV at r11; rw [List.length_map] at r11; exact r11
  obtain ⟨j, rfl⟩ : ∃ j : Nat, r1 = (j : Int) := ⟨r1.toNat, by omega⟩
  have hj : j < W.ts.length := by omega
  obtain ⟨⟨⟨x, sa, da⟩, S⟩, ht⟩ : ∃ t, W.ts[j]? = some t := ⟨W.ts[j], List.getElem?_eq_getElem hj⟩
  clear hd hsl hpos0 r10 r11 hj0 g1
  walk_at "tw"
  intro r2 H2 g2 hd2 r20 r21
  have s2 := s1.took g2 hd2
  walk_at "tw"
  intro r3 H3 g3 hd3 r30 r31
  have s3 := s2.took g3 hd3
  obtain ⟨b, rfl⟩ : ∃ b : Nat, r3 = (b : Int) := ⟨r3.toNat, by omega⟩
  have hb : b < W.ls.length := by rw [ok.l2]; omega
  obtain ⟨⟨⟨y, la⟩, L⟩, hl⟩ : ∃ t, W.ls[b]? = some t := ⟨W.ls[b], List.getElem?_eq_getElem hb⟩
  have hcl := s3.carl
  have atl : atI (lnV W.ls) (b : Int) = some (.ref y) := atI_nat (lnV_at hl)
  walk_at "tw"
  clear s1 s2 s g2 g3 hd1 hd2 r20 r30 r31 hcl atl
  refine .mk (fun σ H' => ∃ W', Shape a c W' σ ∧ Sep H' (W'.cs K) ∧ W'.Ok (i + 1)) (fun N1 hN1 => ?_) ?_
  · have hsl3 := s3.srcl
    have ats : atI (slV W.ts) (j : Int) = some (.ref x) := atI_nat (slV_at ht)
    have hS3 := s3.srcAt ht
    obtain ⟨dx3, _, _, _, hx3, _⟩ := id hS3
    have fit := ok.inv.fit (srcs_mem ht) (by omega)
    walk_at "tw"
    refine ite3 (fun _ => ?_) (fun _ => ?_)
    · walk_at "tw"
      intro v H4 e4 hlog
      obtain ⟨q, sv, rfl, hq, ⟨sb, sls, rfl, hsb, hsls⟩⟩ := hlog
      have s4 := s3.sm e4
      have hsl4 := s4.srcl
      have hS4 := s4.srcAt ht
      obtain ⟨dx4, _, _, _, hx4, _⟩ := id hS4
      walk_at "tw"
      intro tp H5 e5 htp
      have s5 := s4.sm e5
      walk_at "tw"
      intro mo nmo
      have s6 := s5.sm (Same.new nmo (o := .tup [.ref sb, .int 0, .non, .ref tp]))
      have hmo : IsModel (upd H5 mo (.tup [.ref sb, .int 0, .non, .ref tp])) (.ref mo) S.ss S.due := by
        have tk5 := e5.tk.trans (Same.new nmo (o := .tup [.ref sb, .int 0, .non, .ref tp])).tk
        exact ⟨mo, sb, tp, sls, rfl, upd_same, tk5 _ _ hsb, hsls.mono fun _ _ z => z.mono tk5, htp.mono (Same.new nmo).tk⟩
      obtain ⟨pa, pb, us, epl, hpa, hpb, hms⟩ := s6.plan
      have hm := ok.meter ht
      obtain ⟨mv, hmv, hmt⟩ := hms.get' hm
      have hmok := ok.mok _ (List.mem_of_getElem? hm)
      have hol := s6.offl
      have hd6 := s6.draw
      have at1 : atI us (j : Int) = some mv := atI_nat hmv
      have at2 : atI (W.offs.map V.int) (j : Int) = some (.int S.off) := atI_nat (map_get' (ok.off ht))
      have l1 : S.ss.length ≤ 1000 := fit.fews
      have l2 : S.due.length ≤ 1000 := fit.fewd
      rw [epl]
      clear s3 s4 hsl3 hsl4 hS3 hS4 hx3 hx4 hq hsb hsls
      walk_at "tw"
      intro dv Dd H7 g7 hd7 hD7
      have s7 := s6.took g7 hd7
      clear s5 s6 hms hmv hmt hpa hpb hmo hol hd6 at1 at2 htp g7 hd7 e4 e5
      rw [← epl]
      walk_at "tw"
      refine .mk (fun σ G => ∃ (S' : Src) (x9 x13 x14 x15 x16 x17 : Option V), σ = [some (.ref a), some (.ref W.d), some (.int c), some W.p, some (.ref W.ol), some (.ref W.sl), some (.ref W.cl), some (.ref W.ra), some (.ref W.ma), x9, some (.int (j : Nat)), some (.int r2), some (.ref y), x13, x14, x15, x16, x17] ∧
        Sep G (Wd.cs K { W with ts := W.ts.set j ((x, sa, da), S') }) ∧ S.Step S') (fun N2 hN2 => ?_) ?_
      · have hsl7 := s7.srcl
        have hS7 := s7.srcAt ht
        obtain ⟨dq, rfl, hdq⟩ := id hD7
        have atd := deed_0 Dd
        walk_at "tw"
        refine ite3 (fun h => ?_) (fun h => ?_)
        · have good : Dd.Good := deed_good fun e => by rw [e, decide_eq_true rfl] at h; cases h
          walk_at "tw"
          intro u H8 S' e8 hS8 st
          walk_at "tw"
          exact hN2 _ _ ⟨S', _, _, _, _, _, _, rfl, s7.deed ht e8 hS8, st⟩
        · walk_at "tw"
          exact hN2 _ _ ⟨S, _, _, _, _, _, _, rfl, by rw [set_id ht]; exact s7, .same⟩
      · rintro σ G ⟨S', x9, x13, x14, x15, x16, x17, rfl, sG, st⟩
        have ht1 : (W.ts.set j ((x, sa, da), S'))[j]? = some ((x, sa, da), S') := List.getElem?_set_self hj
        have hslG := sG.srcl
        have ats1 : atI (slV (W.ts.set j ((x, sa, da), S'))) (j : Int) = some (.ref x) := atI_nat (slV_at ht1)
        have hSG : SrcAt K G x sa da S' := sG.srcAt ht1
        obtain ⟨dxG, _, _, _, hxG, _⟩ := id hSG
        obtain ⟨mrs, hma, hmrs⟩ : Bag G W.ma W.M := sG.bagM
        have ok1 := ok.deed hi25 ht st (M' := W.M) (fun _ h => .inl h) (Nat.le_add_right _ _) W.ma
        have dokS : ∀ L ∈ S'.due, LOk L := fun L hL => ok1.inv.lstr (ok1.inv.own S' (srcs_mem ht1) L hL).2
        have mokM : ∀ L ∈ W.M, LOk L := fun L hL => ok1.inv.lstr (ok1.inv.made L hL).1
        have dlen : S'.due.length ≤ i + 1 := ok1.inv.dlen S' (srcs_mem ht1)
        have mlen : W.M.length ≤ 30 * i := ok.inv.mlen
        have lmrs := hmrs.1
        clear ok1 ats fit l1 l2 s7 hm hmok
        walk_at "tw"
        intro tq G2 e2 htq
        obtain ⟨us2, htq, hus2⟩ := htq
        have lus2 := hus2.1
        walk_at "tw"
        intro Dn nDn
        refine lc_tup (K := K) (a := tq) (xs := us2) (fun i' H' => Same G2 H' ∧ ∃ (vs : List V) (Ls : List Letter), H' Dn = some (.lst vs) ∧ All2 (IsLetter G2) vs Ls ∧ (∀ L ∈ Ls, L ∈ S'.due) ∧ vs.length ≤ i')
          ⟨Same.new nDn, [], [], upd_same, All2.nil, fun L h => (by cases h), Nat.le_refl _⟩ (fun i' H' _ z => SqT.of (z.1 _ _ htq)) ?_ ?_
        · rintro i' v H' hv ⟨e, vs, Ls, hDn, hall, hsub, lvs⟩
          have hi' : i' < us2.length := (List.getElem?_eq_some_iff.mp hv).1
          obtain ⟨Lt, hLt, hvL⟩ := hus2.get hv
          have hLS := List.mem_of_getElem? hLt
          have lk := dokS Lt hLS
          have hma' := e _ _ (e2 _ _ hma)
          have hmrs' : All2 (IsLetter H') mrs W.M := hmrs.mono fun _ _ z => z.mono (e2.tk.trans e.tk)
          have hz : vs.length < sizeLine := smallt (by omega)
          walk_at "tw"
          refine ⟨dp_letter (hvL.mono e.tk) lk, .lst (SqL.of hma') (dpAll_letters hmrs' mokM), row_shaped (items_flat lk), rows_shaped (fun l hl => by obtain ⟨L', h1, rfl⟩ := List.mem_map.mp hl; exact items_flat (mokM L' h1)), ?_⟩
          rw [any_letters lk mokM]
          walk_at "tw"
          by_cases hc : Lt ∈ W.M
          · refine itf (by rw [decide_eq_true hc]; rfl) ?_
            exact ⟨e, vs, Ls, hDn, hall, hsub, Nat.le_succ_of_le lvs⟩
          · refine itt (by rw [decide_eq_false hc]; rfl) ?_
            walk_at "tw"
            refine ⟨e.mut nDn, vs ++ [v], Ls ++ [Lt], upd_same, hall.snoc hvL, fun L h => ?_, by rw [List.length_append]; exact Nat.succ_le_succ lvs⟩
            rcases List.mem_append.mp h with h | h
            · exact hsub L h
            · rw [List.mem_singleton.mp h]; exact hLS
        · rintro H' ⟨e, vs, Ls, hDn, hall, hsub, lvs⟩
          have hma' := e _ _ (e2 _ _ hma)
          have hz : mrs.length + vs.length ≤ sizeLine := small (by omega)
          walk_at "tw"
          intro mq nmq
          have eH : Same H' (upd H' mq (.lst (mrs ++ vs))) := Same.new nmq
          have sH := sG.sm (e2.trans e)
          have hb : Bag (upd H' mq (.lst (mrs ++ vs))) mq (W.M ++ Ls) := ⟨_, upd_same, (hmrs.mono fun _ _ z => z.mono ((e2.trans e).trans eH).tk).append (hall.mono fun _ _ z => z.mono (e.trans eH).tk)⟩
          refine hN1 _ _ ⟨{ W with ts := W.ts.set j ((x, sa, da), S'), ma := mq, M := W.M ++ Ls }, ⟨_, _, _, _, _, _, _, _, _, rfl⟩, Sep.made sH eH nmq hb, ok.deed hi25 ht st (fun L h => (List.mem_append.mp h).imp id (hsub L)) ?_ mq⟩
          rw [List.length_append]
          have := hall.1
          omega
    · walk_at "tw"
      refine ite2 (fun _ => ?_) (fun _ => ?_)
      · have hL3 : LineAt K H3 y la L := line_ok s3.lines hl
        obtain ⟨dxy, _, hy3, _⟩ := id hL3
        have hsz : L.length + S.due.length ≤ 10000 := by
          have h1 : S.due.length ≤ i := ok.inv.dlen S (srcs_mem ht)
          have h2 : L.length ≤ 30 * i := ok.inv.llen L (List.mem_of_getElem? (lns_get hl))
          omega
        walk_at "tw"
        intro tp H4 e4 htp
        have hL4 := hL3.same e4
        walk_at "tw"
        intro a' H5 g5 na' hL5
        walk_at "tw"
        exact hN1 _ _ ⟨{ W with ls := W.ls.set b ((y, a'), L ++ S.due) }, ⟨_, _, _, _, _, _, _, _, _, rfl⟩, (s3.sm e4).sent hl g5 hL5 (.inr na'), ok.sent hi25 ht hl (y, a')⟩
      · have hmv : Sep H3 (mvW K W.d y la L W.ts W.ra W.R ++ [cLst W.sl (slV W.ts), cPlan W.p W.len W.ms]) := (s3.mvOut hl).sub (by rw [← List.append_assoc]; exact List.sublist_append_left ..)
        have fits : ∀ t ∈ W.ts, t.2.Fit := fun t ht => ok.inv.fit (List.mem_map.mpr ⟨t, ht, rfl⟩) (by omega)
        have em := ok.inv.mt
        have lt1 : W.ts.length ≤ 1000 := by have := ok.inv.mfew; omega
        have lokL : ∀ x ∈ L, LOk x := fun x hx => ok.inv.lstr (ok.inv.lok L (List.mem_of_getElem? (lns_get hl)) x hx)
        have lL : L.length ≤ 5000 := by
          have h2 : L.length ≤ 30 * i := ok.inv.llen L (List.mem_of_getElem? (lns_get hl))
          omega
        have lR : W.R.length ≤ 5000 := by have := ok.inv.rlen; omega
        walk_at "tw"
        intro a' L' ts' ra' R' H4 fr sv mv
        walk_at "tw"
        exact hN1 _ _ ⟨{ W with ls := W.ls.set b ((y, a'), L'), ts := ts', ra := ra', R := R' }, ⟨_, _, _, _, _, _, _, _, _, rfl⟩, s3.mvIn hl fr sv, ok.moved hi25 hl mv (y, a') ra'⟩
  · rintro σ G ⟨W', ⟨x9, x10, x11, x12, x13, x14, x15, x16, x17, rfl⟩, sG, ok'⟩
    have hp' := sG.plan
    have hsl' := sG.srcl
    have hS' := srcs_ok sG.srcs
    have hR' := sG.bagR
    have hM' := sG.bagM
    have good := ok'.inv.good (by omega)
    walk_at "tw"
    intro H9 e9
    walk_at "tw"
    exact hD W' _ _ ⟨_, _, _, _, _, _, _, _, _, rfl⟩ (sG.sm e9) ok'
end
end Tw
end

section
set_option maxHeartbeats 4000000
namespace Tw
open PySem PySem.Spec PyProof.Rows L2
/-! the machine of the readings: "tw" goes on through what has one answer; it stops at a branch, a loop, a new object, what comes behind a call -/
local macro_rules | `(tactic| walk_at "tw look") => `(tactic| first
  | assumption
  | exact upd_same
  | (refine Same.new (by assumption) _ _ ?_; walk_at "tw look")
  | (refine upd_oth (by assumption) ?_; walk_at "tw look")
  | (refine upd_dif (by assumption) (by intro z; cases z) ?_; walk_at "tw look")
  | (refine upd_dif upd_same (by intro z; cases z) ?_; walk_at "tw look"))
local macro_rules | `(tactic| walk_at "tw seq") => `(tactic| first
  | assumption
  | exact SqL.of (by walk_at "tw look")
  | exact SqT.of (by walk_at "tw look")
  | exact .inl (SqL.of (by walk_at "tw look"))
  | exact .inr (SqT.of (by walk_at "tw look"))
  | exact .inl (by assumption)
  | exact dget_of (by walk_at "tw look") (by assumption)
  | exact DGet.k (k := Sum.inl _) (by walk_at "tw look")
  | exact DPut.k (k := Sum.inl _) (by walk_at "tw look") (by assumption)
  | exact .inl ⟨_, .inl (by walk_at "tw look")⟩
  | exact .inr ⟨_, .inl (by walk_at "tw look")⟩
  | exact ⟨_, SqL.of (by walk_at "tw look")⟩
  | exact ⟨_, SqT.of (by walk_at "tw look")⟩
  | exact ⟨_, by assumption⟩
  | exact .inl ⟨rfl, _, SqL.of (by walk_at "tw look")⟩)
local macro_rules | `(tactic| walk_at "tw atom") => `(tactic| first
  | with_reducible rfl
  | assumption
  | rfl
  | walk_at "tw look"
  | walk_at "tw seq"
  | omega
  | exact small (by simp; done)
  | exact smallt (by simp; done)
  | exact cdiv_of rfl
  | exact fun _ h => h
  | exact Int.natCast_pos.mpr (Nat.zero_lt_succ _)
  | exact cmul_r rfl
  | exact cmul_l rfl
  | exact Nat.le_of_ble_eq_true rfl)
local macro_rules | `(tactic| walk_at "tw step") => `(tactic| first | (with_reducible refine iteT ?_) | (with_reducible refine iteF ?_) | (with_reducible refine itf nott ?_) | (with_reducible refine itt notf ?_) | ((fail_if_success (refine ite2 (fun _ => ?_) (fun _ => ?_))); first
  | ((fail_if_success (refine (?_ : ∃ W : Nat → Nat → L2.St → Hp → Prop, _))); (fail_if_success (refine (?_ : ∃ W : Nat → Nat → Hp → Prop, _))); apply Exists.intro)
  | (apply And.intro; (walk_at "tw atom"))))
local macro_rules | `(tactic| walk_at "tw") => `(tactic| repeat walk_at "tw step")

section
variable {P : Program} {w : World} {K : PySem.W.Frag} {mg : Str → Option Value} {base : Heap}
/-- what the end of the law needs -/
structure EndOk (W : Wd) : Prop where
  good : Good W.ms (srcs W.ts) W.R W.M
  tris : ∀ x : T3, x ∈ (W.R.filter Letter.isRead).map Letter.tri ↔ x ∈ (readsOf (logsOf W.ts)).map Letter.tri
  few : (readsOf (logsOf W.ts)).length ≤ 25
theorem Wd.Ok.ends {W : Wd} {k : Nat} (o : W.Ok k) (hk : k ≤ 25) {F0 F1 : List Letter} {l0 l1 : List Letter} (h0 : (lns W.ls)[0]? = some l0) (h1 : (lns W.ls)[1]? = some l1) (m0 : ∀ x, x ∈ F0 ↔ x ∈ l0 ∨ x ∈ dues (srcs W.ts)) (m1 : ∀ x, x ∈ F1 ↔ x ∈ l1 ∨ x ∈ dues (srcs W.ts))
    (n0 : F0.length ≤ 1000) (n1 : F1.length ≤ 1000) (ls' : List LL) (q : Addr) : EndOk { W with ls := ls', ra := q, R := W.R ++ F0 ++ F1 } := by
  have hF : ∀ L ∈ F0 ++ F1, (∃ l ∈ lns W.ls, L ∈ l) ∨ ∃ S ∈ srcs W.ts, L ∈ S.due := fun L hL => by
    rcases List.mem_append.mp hL with h | h
    · rcases (m0 L).mp h with h | h
      · exact .inl ⟨l0, List.mem_of_getElem? h0, h⟩
      · exact .inr (mem_dues.mp h)
    · rcases (m1 L).mp h with h | h
      · exact .inl ⟨l1, List.mem_of_getElem? h1, h⟩
      · exact .inr (mem_dues.mp h)
  have hD : ∀ S ∈ srcs W.ts, ∀ L ∈ S.due, L ∈ F0 ++ F1 := fun S hS L hL => List.mem_append_left _ ((m0 L).mpr (.inr (mem_dues.mpr ⟨S, hS, hL⟩)))
  refine ⟨?_, ?_, ?_⟩
  · show Good W.ms (srcs W.ts) (W.R ++ F0 ++ F1) W.M
    rw [List.append_assoc]
    exact o.inv.last hk hF (by rw [List.length_append]; omega)
  · show ∀ x : T3, x ∈ ((W.R ++ F0 ++ F1).filter Letter.isRead).map Letter.tri ↔ x ∈ (readsOf (logsOf W.ts)).map Letter.tri
    rw [List.append_assoc, logs_srcs]
    exact o.inv.tris hF hD
  · show (readsOf (logsOf W.ts)).length ≤ 25
    rw [logs_srcs]
    exact Nat.le_trans o.inv.few_reads hk
theorem Wd.Ok.dues_few {W : Wd} {k : Nat} (o : W.Ok k) (hk : k ≤ 25) : (dues (srcs W.ts)).length ≤ 150 := by
  have h1 := dues_len (Ss := srcs W.ts) (n := 25) fun S hS => Nat.le_trans (o.inv.dlen S hS) hk
  have h2 : (srcs W.ts).length ≤ 6 := by
    unfold srcs
    rw [List.length_map, o.lts]
    exact o.inv.mfew
  omega
theorem Sep.rcvd {W : Wd} {H H' : Hp} (s : Sep H (W.cs K)) (e : Same H H') {m : Addr} {R' : List Letter} (n : H m = none) (h : Bag H' m R') : Sep H' (Wd.cs K { W with ra := m, R := R' }) :=
  (Sep.set s 3 (c := cBag W.ra W.R) rfl (Frm.one (c := cBag W.ra W.R) (c' := cBag m R') (e.keep []) (fun b hb => by cases hb) h fun b hb => by rw [mem1 hb]; exact .inr n)).sep
theorem cut_read (nm : Str) (s v : Nat) (st : Int) (x : Option Int) : cutV (Letter.items (.read nm s v st x)) (some 1) (some 4) = t3V (Letter.tri (.read nm s v st x)) := rfl
theorem isRead_kind (L : Letter) : decide (V.str L.kind = V.str ("read" : Str)) = L.isRead := by
  cases L with
  | read => exact decide_eq_true rfl
  | close => exact decide_eq_false fun e => rc_ne (V.str.inj e).symm
  | clock => exact decide_eq_false fun e => rk_ne (V.str.inj e).symm
theorem flat_t3 {k : T3} (h : PyData.strOk k.1 = true) : (t3V k).all flatN = true := by
  show (PyData.strOk k.1 && (true && (true && true))) = true
  rw [h]
  rfl
theorem dpAll_t3 {H : Hp} : ∀ {out : List (Addr × T3)}, (∀ q ∈ out, H q.1 = some (.tup (t3V q.2))) → (∀ q ∈ out, PyData.strOk q.2.1 = true) → DpAll K H (out.map fun q => V.ref q.1) (((out.map (·.2)).map t3V).map rowD)
  | [], _, _ => .nil
  | q :: out, h, g => .cons (.tup (SqT.of (h q List.mem_cons_self)) (dpAll_flat (flat_t3 (g q List.mem_cons_self)))) (dpAll_t3 (fun x hx => h x (List.mem_cons_of_mem _ hx)) fun x hx => g x (List.mem_cons_of_mem _ hx))
theorem law_end (T : Tx K mg) {f : Addr} {cdv : Value} {A : Around} {outer : List Env} {s0 : Shared} {H : Hp} {E : XK} (hr : Room 5 (A.deeper (envOfC "law" (defScope s_law) s0.heap.objs.size f cdv))) :
    ∃ t, PSs (cxOf CX0 P w K mg base N_law "law" (defScope s_law) f cdv A outer s0 H E).nox ((defBody s_law).drop 9) t ∧
      ∀ (a : Addr) (c : Int) (D : Ends) (k : Nat) (W : Wd) (σ : L2.St) (H' : Hp), Shape a c W σ → Sep H' (W.cs K) → W.Ok k → k ≤ 25 → (∀ G, D.rt (.bl true) G) → t D σ H' := by
  refine ⟨_, (pss_cons (ps_cut (ps_set (i := 7) sc_law.nd rfl (by first | exact Or.inl rfl | exact Or.inr rfl) (pe_op op_cat (pe_op op_cat (pv 7) (pe_cl (C_law_rest T) (hr.mono (by decide)) pass0 (pa_cons (pv 5) (pa_cons (pe_ix (ixL (K := K)) (pv 6) pe_int (fun _ _ => rfl)) pa_nil)))) (pe_cl (C_law_rest T) (hr.mono (by decide)) pass0 (pa_cons (pv 5) (pa_cons (pe_ix (ixL (K := K)) (pv 6) pe_int (fun _ _ => rfl)) pa_nil))))))
    (pss_cons (ps_set (i := 15) sc_law.nd rfl (by first | exact Or.inl rfl | exact Or.inr rfl) (pe_sortedTSet rfl (hu64 hr) (by rfl) T.f_sorted (by rfl) T.f_set (pe_lc (own := [("_law_letter", 17)]) (g := gName 17) rfl sc_law.nd (pi_list (pv 7)) (blkOk_by (N := N_law) (sc := defScope s_law) (by decide +kernel)) (fun _ _ _ _ _ => (pg_name (i := 17) sc_law.nd rfl (by first | exact Or.inl rfl | exact Or.inr rfl))) (fun _ _ _ _ _ => pts_one (pt_cmpR op_eq (pe_ix (ixT (K := K)) (pv 17) pe_int (fun _ _ => rfl)) pe_str (nomark _))) (fun _ _ _ _ _ => (pe_slice slN (pv 17) (po_some pe_int) (po_some pe_int))))))
    (pss_cons (ps_if (pt_cmpR (opNe (K := K) (hu64 hr)) (pv 15) (pe_callB (cr_sortedTL rfl (hu64 hr)) (by rfl) T.f_sorted PyProof.Rows.boot_sorted (pa_cons (pe_lc (own := [("_law_letter", 17)]) (g := gName 17) (tt := tYes) rfl sc_law.nd (pi_tup (pe_cl (C_reads_of T) (hr.mono (by decide)) pass0 (pa_cons (pe_cl (C_law_logs T) (hr.mono (by decide)) pass0 (pa_cons (pv 5) pa_nil)) pa_nil))) (blkOk_by (N := N_law) (sc := defScope s_law) (by decide +kernel)) (fun _ _ _ _ _ => (pg_name (i := 17) sc_law.nd rfl (by first | exact Or.inl rfl | exact Or.inr rfl))) (fun _ _ _ _ _ => pts_nil) (fun _ _ _ _ _ => (pe_slice slN (pv 17) (po_some pe_int) (po_some pe_int)))) pa_nil)) (nomark _))
    (pss_one (ps_ret pe_bl))
    pss_nil)
    (pss_one (ps_ret (pe_cl (C_law_right T) (hr.mono (by decide)) pass0 (pa_cons (pv 3) (pa_cons (pv 5) (pa_cons (pv 7) (pa_cons (pv 8) pa_nil)))))))))), ?_⟩
  rintro a c D k W σ H' ⟨x9, x10, x11, x12, x13, x14, x15, x16, x17, rfl⟩ s ok hk hD
  refine .mk (fun σ G => ∃ W', Shape a c W' σ ∧ Sep G (W'.cs K) ∧ EndOk W') (fun N hN => ?_) ?_
  · obtain ⟨⟨⟨y0, a0⟩, L0⟩, h0⟩ : ∃ t, W.ls[0]? = some t := ⟨W.ls[0]'(by rw [ok.l2]; decide), List.getElem?_eq_getElem _⟩
    obtain ⟨⟨⟨y1, a1⟩, L1⟩, h1⟩ : ∃ t, W.ls[1]? = some t := ⟨W.ls[1]'(by rw [ok.l2]; decide), List.getElem?_eq_getElem _⟩
    have df := ok.dues_few hk
    have ll0 : L0.length ≤ 750 := by have : L0.length ≤ 30 * k := ok.inv.llen L0 (List.mem_of_getElem? (lns_get h0)); omega
    have ll1 : L1.length ≤ 750 := by have : L1.length ≤ 30 * k := ok.inv.llen L1 (List.mem_of_getElem? (lns_get h1)); omega
    have rlen : W.R.length ≤ 25 := Nat.le_trans ok.inv.rlen hk
    have hcl := s.carl
    have at0 : atI (lnV W.ls) 0 = some (.ref y0) := atI_nat (j := 0) (lnV_at h0)
    have hsep0 := s.rstOut h0
    have sz0 : L0.length + (dues (srcs W.ts)).length ≤ 5000 := by omega
    walk_at "tw"
    intro f0 a0' F0 H1 fr0 m0 n0
    have s1 := s.rstIn h0 fr0
    obtain ⟨fs0, hf0, hfs0⟩ : Bag H1 f0 F0 := s1.get 0 rfl
    have sW1 := s1.sub (List.sublist_cons_self ..)
    obtain ⟨rs, hra, hrs⟩ : Bag H1 W.ra W.R := sW1.bagR
    have lz0 : rs.length + fs0.length ≤ sizeLine := small (by rw [hrs.1, hfs0.1]; omega)
    walk_at "tw"
    intro q0 nq0
    have s2 := (sW1.add (c := cBag q0 (W.R ++ F0)) (Same.new nq0 (o := .lst (rs ++ fs0))) ⟨_, upd_same, (hrs.append hfs0).mono fun _ _ z => z.mono (Same.new nq0).tk⟩ fun b hb => by rw [mem1 hb]; exact nq0).sep
    have h1' : (W.ls.set 0 ((y0, a0'), ([] : List Letter)))[1]? = some ((y1, a1), L1) := by rw [List.getElem?_set_ne (by decide)]; exact h1
    have sW2 := s2.sub (List.sublist_cons_self ..)
    have hcl2 := sW2.carl
    have at1 : atI (lnV (W.ls.set 0 ((y0, a0'), ([] : List Letter)))) 1 = some (.ref y1) := atI_nat (j := 1) (lnV_at h1')
    have hsep1 := sW2.rstOut h1'
    have sz1 : L1.length + (dues (srcs W.ts)).length ≤ 5000 := by omega
    walk_at "tw"
    intro f1 a1' F1 H3 fr1 m1 n1
    have n0' : F0.length ≤ L0.length + (dues (srcs W.ts)).length := n0
    have n1' : F1.length ≤ L1.length + (dues (srcs W.ts)).length := n1
    have s3 := sW2.rstIn h1' fr1
    have nq : q0 ∉ fpL [cLn K (y1, a1) L1] := fun z => (sW1.rstOut h1').fresh nq0 (fpL_app.mpr (.inl z))
    have hq2 : All2 (IsLetter (upd H1 q0 (.lst (rs ++ fs0)))) (rs ++ fs0) (W.R ++ F0) := (hrs.append hfs0).mono fun _ _ z => z.mono (Same.new nq0).tk
    have hq3 := fr1.keep q0 _ nq upd_same
    have tk3 : TKeep (upd H1 q0 (.lst (rs ++ fs0))) H3 := (hsep1.sub (List.sublist_append_left ..)).tk fr1.keep
    have hq3l : All2 (IsLetter H3) (rs ++ fs0) (W.R ++ F0) := hq2.mono fun _ _ z => z.mono tk3
    obtain ⟨fs1, hf1, hfs1⟩ : Bag H3 f1 F1 := s3.get 0 rfl
    have sW3 := s3.sub (List.sublist_cons_self ..)
    have lz1 : (rs ++ fs0).length + fs1.length ≤ sizeLine := small (by rw [List.length_append, hrs.1, hfs0.1, hfs1.1]; omega)
    walk_at "tw"
    intro q1 nq1
    have e1 : Same H3 (upd H3 q1 (.lst (rs ++ fs0 ++ fs1))) := Same.new nq1
    have hb : Bag (upd H3 q1 (.lst (rs ++ fs0 ++ fs1))) q1 (W.R ++ F0 ++ F1) := ⟨_, upd_same, (hq3l.append hfs1).mono fun _ _ z => z.mono e1.tk⟩
    exact hN _ _ ⟨_, ⟨_, _, _, _, _, _, _, _, _, rfl⟩, sW3.rcvd e1 nq1 hb, ok.ends hk (lns_get h0) (lns_get h1) m0 m1 (by omega) (by omega) _ _⟩
  · rintro σ G ⟨W', ⟨x9, x10, x11, x12, x13, x14, x15, x16, x17, rfl⟩, s', eo⟩
    clear s ok hk
    obtain ⟨good, tris, few⟩ := eo
    obtain ⟨rs, hra, hrs⟩ := s'.bagR
    have rl := good.rlen
    have lrs := hrs.1
    walk_at "tw"
    intro Dn nDn
    refine lc_list (K := K) (a := W'.ra) (xs := rs) (fun i G' => Same G G' ∧ ∃ ks : List (Addr × T3), G' Dn = some (.lst (ks.map fun p => V.ref p.1)) ∧ (∀ p ∈ ks, G' p.1 = some (.tup (t3V p.2))) ∧ ks.map (·.2) = ((W'.R.take i).filter Letter.isRead).map Letter.tri ∧ ks.length ≤ i)
      ⟨Same.new nDn, [], upd_same, fun p h => (by cases h), rfl, Nat.le_refl _⟩ (fun i G' _ z => SqL.of (z.1 _ _ hra)) ?_ ?_
    · rintro i v G' hv ⟨e, ks, hDn, hks, hmap, lks⟩
      have hi : i < rs.length := (List.getElem?_eq_some_iff.mp hv).1
      obtain ⟨L, hL, hvL⟩ := hrs.get hv
      obtain ⟨va, rfl, hva⟩ := hvL.mono e.tk
      have at0 := items_0 L
      have hz : (ks.map fun p => V.ref p.1).length < sizeLine := smallt (by rw [List.length_map]; omega)
      walk_at "tw"
      rw [isRead_kind, take_succ_get hL, List.filter_append, List.map_append]
      cases hr1 : L.isRead with
      | false =>
        refine itf rfl ?_
        refine ⟨e, ks, hDn, hks, ?_, Nat.le_succ_of_le lks⟩
        rw [List.filter_cons_of_neg (by rw [hr1]; exact Bool.false_ne_true), List.filter_nil, List.map_nil, List.append_nil]
        exact hmap
      | true =>
        refine itt rfl ?_
        have hcut : cutV L.items (some 1) (some 4) = t3V L.tri := by
          cases L with
          | read => exact cut_read ..
          | close => cases hr1
          | clock => cases hr1
        walk_at "tw"
        intro cc H2 e2 hcc
        rw [hcut] at hcc
        have hDn2 := e2 _ _ hDn
        walk_at "tw"
        have tk : TKeep H2 (upd H2 Dn (.lst (ks.map (fun p => V.ref p.1) ++ [.ref cc]))) := TKeep.upd hDn2 fun xs z => by cases z
        refine ⟨(e.trans e2).mut nDn, ks ++ [(cc, L.tri)], by rw [upd_same, List.map_append]; rfl, fun p hp => ?_, ?_, by rw [List.length_append]; exact Nat.succ_le_succ lks⟩
        · rcases List.mem_append.mp hp with z | z
          · exact tk _ _ (e2 _ _ (hks p z))
          · rw [List.mem_singleton.mp z]; exact tk _ _ hcc
        · rw [List.map_append, hmap, List.filter_cons_of_pos hr1, List.filter_nil]
          rfl
    · rintro G1 ⟨e1, ks, hDn, hks, hmap, lks⟩
      rw [List.take_of_length_le (by rw [hrs.1]; exact Nat.le_refl _)] at hmap
      have lD : ((readsOf (logsOf W'.ts)).map Letter.tri).length < 60 := by rw [List.length_map]; omega
      have inD : ∀ p ∈ ks, p.2 ∈ (readsOf (logsOf W'.ts)).map Letter.tri := fun p hp => (tris p.2).mp (by rw [← hmap]; exact List.mem_map.mpr ⟨p, hp, rfl⟩)
      walk_at "tw"
      intro out p hin hnd hmem hasc np
      have e2 : Same G (upd G1 p (.lst (out.map fun q => V.ref q.1))) := e1.up np
      have hp2 : (upd G1 p (.lst (out.map fun q => V.ref q.1))) p = some (.lst (out.map fun q => V.ref q.1)) := upd_same
      have hout : ∀ q ∈ out, (upd G1 p (.lst (out.map fun q => V.ref q.1))) q.1 = some (.tup (t3V q.2)) := fun q hq => Same.new np _ _ (hks q (hin q hq))
      have s2 := s'.sm e2
      have hsl := s2.srcl
      have hS := srcs_ok s2.srcs
      have lts : W'.ts.length ≤ 10 := by
        have h1 := good.mfew
        rw [← good.mt] at h1
        unfold srcs at h1
        rw [List.length_map, List.length_map] at h1
        omega
      have lls : (logsOf W'.ts).length ≤ 10 := by unfold logsOf; rw [List.length_map]; exact lts
      have fewl : ∀ l ∈ logsOf W'.ts, Few l := fun l hl => by
        rw [logs_srcs] at hl
        obtain ⟨S, h1, rfl⟩ := List.mem_map.mp hl
        exact ⟨(good.few S h1).1, (good.few S h1).2.1⟩
      have hnames : ∀ x : T3, x ∈ (readsOf (logsOf W'.ts)).map Letter.tri → PyData.strOk x.1 = true := fun x hx => by
        obtain ⟨L, h1, rfl⟩ := List.mem_map.mp hx
        obtain ⟨l, h2, h3⟩ := readsOf_mem.mp h1
        rw [logs_srcs] at h2
        obtain ⟨S, h4, rfl⟩ := List.mem_map.mp h2
        obtain ⟨i, v, t, x, _, _, rfl⟩ := mem_logReads.mp h3
        exact good.mok.str _ (by rw [← good.mt]; exact List.mem_map.mpr ⟨S, h4, rfl⟩)
      generalize upd G1 p (.lst (out.map fun q => V.ref q.1)) = G2 at e2 hp2 hout s2 hsl hS ⊢
      walk_at "tw"
      intro hv H3 e3 hh
      walk_at "tw"
      intro a2 rs2 H4 e4 ha2 hrs2 lrs2
      walk_at "tw"
      intro D2 nD2
      refine lc_tup (K := K) (a := a2) (xs := rs2) (fun i G' => Same H4 G' ∧ ∃ ks : List (Addr × T3), G' D2 = some (.lst (ks.map fun p => V.ref p.1)) ∧ (∀ p ∈ ks, G' p.1 = some (.tup (t3V p.2))) ∧ ks.map (·.2) = ((readsOf (logsOf W'.ts)).take i).map Letter.tri ∧ ks.length ≤ i)
        ⟨Same.new nD2, [], upd_same, fun p h => (by cases h), rfl, Nat.le_refl _⟩ (fun i G' _ z => SqT.of (z.1 _ _ ha2)) ?_ ?_
      · rintro i v G' hv ⟨e, ks2, hDn2, hks2, hmap2, lks2⟩
        have hi : i < rs2.length := (List.getElem?_eq_some_iff.mp hv).1
        obtain ⟨L, hL, hvL⟩ := hrs2.get hv
        obtain ⟨va, rfl, hva⟩ := hvL.mono e.tk
        have hcut : cutV L.items (some 1) (some 4) = t3V L.tri := by
          obtain ⟨l, _, h3⟩ := readsOf_mem.mp (List.mem_of_getElem? hL)
          obtain ⟨i, v, t, x, _, _, rfl⟩ := mem_logReads.mp h3
          exact cut_read ..
        have hz : (ks2.map fun p => V.ref p.1).length < sizeLine := smallt (by rw [List.length_map]; omega)
        walk_at "tw"
        intro cc H5 e5 hcc
        rw [hcut] at hcc
        have hDn5 := e5 _ _ hDn2
        walk_at "tw"
        have tk : TKeep H5 (upd H5 D2 (.lst (ks2.map (fun p => V.ref p.1) ++ [.ref cc]))) := TKeep.upd hDn5 fun xs z => by cases z
        refine ⟨(e.trans e5).mut nD2, ks2 ++ [(cc, L.tri)], by rw [upd_same, List.map_append]; rfl, fun p hp => ?_, ?_, by rw [List.length_append]; exact Nat.succ_le_succ lks2⟩
        · rcases List.mem_append.mp hp with z | z
          · exact tk _ _ (e5 _ _ (hks2 p z))
          · rw [List.mem_singleton.mp z]; exact tk _ _ hcc
        · rw [List.map_append, hmap2, take_succ_get hL, List.map_append]
          rfl
      · rintro G5 ⟨e5, ks2, hDn2, hks2, hmap2, lks2⟩
        rw [List.take_of_length_le (by rw [hrs2.1]; exact Nat.le_refl _)] at hmap2
        walk_at "tw"
        intro out2 p2 hin2 hperm hasc2 np2
        have e6 : Same G2 (upd G5 p2 (.lst (out2.map fun q => V.ref q.1))) := (((e3.trans e4).trans e5)).up np2
        have hp6 := e6 _ _ hp2
        have hout6 : ∀ q ∈ out, (upd G5 p2 (.lst (out2.map fun q => V.ref q.1))) q.1 = some (.tup (t3V q.2)) := fun q hq => e6 _ _ (hout q hq)
        have hout2 : ∀ q ∈ out2, (upd G5 p2 (.lst (out2.map fun q => V.ref q.1))) q.1 = some (.tup (t3V q.2)) := fun q hq => Same.new np2 _ _ (hks2 q (hin2 q hq))
        have st1 : ∀ q ∈ out, PyData.strOk q.2.1 = true := fun q hq => hnames q.2 (inD q (hin q hq))
        have st2 : ∀ q ∈ out2, PyData.strOk q.2.1 = true := fun q hq => hnames q.2 (by rw [← hmap2]; exact List.mem_map.mpr ⟨q, hin2 q hq, rfl⟩)
        have fl1 : ∀ l ∈ (out.map (·.2)).map t3V, l.all flatN = true := fun l hl => by
          obtain ⟨x, hx, rfl⟩ := List.mem_map.mp hl
          obtain ⟨q, hq, rfl⟩ := List.mem_map.mp hx
          exact flat_t3 (st1 q hq)
        have fl2 : ∀ l ∈ (out2.map (·.2)).map t3V, l.all flatN = true := fun l hl => by
          obtain ⟨x, hx, rfl⟩ := List.mem_map.mp hl
          obtain ⟨q, hq, rfl⟩ := List.mem_map.mp hx
          exact flat_t3 (st2 q hq)
        have nd0 : ((logsOf W'.ts).map (·.m.name)).Nodup := by
          have := good.mok.nd
          rw [← good.mt, List.map_map] at this
          rw [logs_srcs, List.map_map]
          exact this
        have nd2 : (out2.map (·.2)).Nodup := hperm.nodup_iff.mpr (by rw [hmap2]; exact tri_nodup nd0)
        have same : out.map (·.2) = out2.map (·.2) := tri_same hnd nd2 (fun x => by rw [hmem, hmap, tris, hperm.mem_iff, hmap2]) hasc hasc2
        have s6 := s2.sm e6
        have hp' := s6.plan
        have hsl6 := s6.srcl
        have hS6 := srcs_ok s6.srcs
        have hR6 := s6.bagR
        have hM6 := s6.bagM
        walk_at "tw"
        refine ⟨.lst (SqL.of hp6) (dpAll_t3 hout6 st1), .lst (SqL.of upd_same) (dpAll_t3 hout2 st2), rows_shaped fl1, rows_shaped fl2, ?_⟩
        rw [rows_eqv fl1 fl2, decide_eq_true (by rw [same])]
        walk_at "tw"
        exact fun H' _ => hD H'
end
end Tw
end

section
set_option maxHeartbeats 4000000
namespace Tw
open PySem PySem.Spec PyProof.Rows L2
/-! the machine of the readings: "tw" goes on through what has one answer; it stops at a branch, a loop, a new object, what comes behind a call -/
local macro_rules | `(tactic| walk_at "tw look") => `(tactic| first
  | assumption
  | exact upd_same
  | (refine Same.new (by assumption) _ _ ?_; walk_at "tw look")
  | (refine upd_oth (by assumption) ?_; walk_at "tw look")
  | (refine upd_dif (by assumption) (by intro z; cases z) ?_; walk_at "tw look")
  | (refine upd_dif upd_same (by intro z; cases z) ?_; walk_at "tw look"))
local macro_rules | `(tactic| walk_at "tw seq") => `(tactic| first
  | assumption
  | exact SqL.of (by walk_at "tw look")
  | exact SqT.of (by walk_at "tw look")
  | exact .inl (SqL.of (by walk_at "tw look"))
  | exact .inr (SqT.of (by walk_at "tw look"))
  | exact .inl (by assumption)
  | exact dget_of (by walk_at "tw look") (by assumption)
  | exact DGet.k (k := Sum.inl _) (by walk_at "tw look")
  | exact DPut.k (k := Sum.inl _) (by walk_at "tw look") (by assumption)
  | exact .inl ⟨_, .inl (by walk_at "tw look")⟩
  | exact .inr ⟨_, .inl (by walk_at "tw look")⟩
  | exact ⟨_, SqL.of (by walk_at "tw look")⟩
  | exact ⟨_, SqT.of (by walk_at "tw look")⟩
  | exact ⟨_, by assumption⟩
  | exact .inl ⟨rfl, _, SqL.of (by walk_at "tw look")⟩)
local macro_rules | `(tactic| walk_at "tw atom") => `(tactic| first
  | with_reducible rfl
  | assumption
  | rfl
  | walk_at "tw look"
  | walk_at "tw seq"
  | omega
  | exact small (by simp; done)
  | exact smallt (by simp; done)
  | exact cdiv_of rfl
  | exact fun _ h => h
  | exact Int.natCast_pos.mpr (Nat.zero_lt_succ _)
  | exact cmul_r rfl
  | exact cmul_l rfl
  | exact Nat.le_of_ble_eq_true rfl)
local macro_rules | `(tactic| walk_at "tw step") => `(tactic| first | (with_reducible refine iteT ?_) | (with_reducible refine iteF ?_) | (with_reducible refine itf nott ?_) | (with_reducible refine itt notf ?_) | ((fail_if_success (refine ite2 (fun _ => ?_) (fun _ => ?_))); first
  | ((fail_if_success (refine (?_ : ∃ W : Nat → Nat → L2.St → Hp → Prop, _))); (fail_if_success (refine (?_ : ∃ W : Nat → Nat → Hp → Prop, _))); apply Exists.intro)
  | (apply And.intro; (walk_at "tw atom"))))
local macro_rules | `(tactic| walk_at "tw") => `(tactic| repeat walk_at "tw step")

section
variable {P : Program} {w : World} {K : PySem.W.Frag} {mg : Str → Option Value} {base : Heap}
/-- the law's promise: a list of at most 63 ints in, True out -/
def spLawL (K : PySem.W.Frag) : Sp := fun vs H Q _ => ∃ (a : Addr) (ns : List Int), vs = [.ref a] ∧ SqL K H a (ns.map V.int) ∧ ns.length ≤ 63 ∧ (∀ b, ¬ Mut (H b)) ∧ ∀ H', Q (.bl true) H'
theorem law_body (T : Tx K mg) {f : Addr} {cdv : Value} {A : Around} {outer : List Env} {s : Shared} {H : Hp} {vs : List V} {Q : VK} {E : XK} (hr : Room 5 (A.deeper (envOfC "law" (defScope s_law) s.heap.objs.size f cdv))) (h : spLawL K vs H Q E) :
    ∃ t, PSs (cxOf CX0 P w K mg base N_law "law" (defScope s_law) f cdv A outer s H E).nox (defBody s_law) t ∧ t { nx := fun _ H' => Q .non H', rt := Q } (L2.start N_law vs) H := by
  · obtain ⟨a, ns, rfl, hs, few, hmut, k⟩ := h
    have hscr : Scr K H a ns := hs
    obtain ⟨tturn, hturn, wturn⟩ := law_turn (P := P) (w := w) (base := base) (f := f) (cdv := cdv) (A := A) (outer := outer) (s0 := s) (H := H) (E := E) T hr
    obtain ⟨tend, hend, wend⟩ := law_end (P := P) (w := w) (base := base) (f := f) (cdv := cdv) (A := A) (outer := outer) (s0 := s) (H := H) (E := E) T hr
    refine ⟨_, (pss_cons (ps_set (i := 1) sc_law.nd rfl (by first | exact Or.inl rfl | exact Or.inr rfl) (pe_cl (C_law_draws T) (hr.mono (by decide)) pass0 (pa_cons (pv 0) (pa_cons pe_int pa_nil))))
    (pss_cons (ps_set (i := 2) sc_law.nd rfl (by first | exact Or.inl rfl | exact Or.inr rfl) (pe_cl (C_law_cell T) (hr.mono (by decide)) pass0 (pa_cons (pv 0) (pa_cons (pv 1) pa_nil))))
    (pss_cons (ps_set (i := 3) sc_law.nd rfl (by first | exact Or.inl rfl | exact Or.inr rfl) (pe_cl (C_law_plan T) (hr.mono (by decide)) pass0 (pa_cons (pv 1) (pa_cons (pv 2) pa_nil))))
    (pss_cons (ps_cut (ps_set (i := 4) sc_law.nd rfl (by first | exact Or.inl rfl | exact Or.inr rfl) (pe_lc (own := [("_law_meter", 16)]) (g := gName 16) (tt := tYes) rfl sc_law.nd (pi_tup (pe_ix (ixT (K := K)) (pv 3) pe_int (fun _ _ => rfl))) (blkOk_by (N := N_law) (sc := defScope s_law) (by decide +kernel)) (fun _ _ _ _ _ => (pg_name (i := 16) sc_law.nd rfl (by first | exact Or.inl rfl | exact Or.inr rfl))) (fun _ _ _ _ _ => pts_nil) (fun _ _ _ _ _ => (pe_cl (C_law_offset T) (hr.mono (by decide)) pass0 (pa_cons (pv 1) (pa_cons (pv 16) pa_nil)))))))
    (pss_cons (ps_cut (ps_setLc (i := 5) (own := [("_law_k", 9)]) (g := gName 9) (tt := tYes) rfl sc_law.nd rfl rfl (sw_true rfl rfl rfl (by decide +kernel)) (pi_range1 (by rfl) T.f_range (pa_cons (pe_callB (clen (K := K)) (by rfl) T.f_len PySem.boot_len (pa_cons (pe_ix (ixT (K := K)) (pv 3) pe_int (fun _ _ => rfl)) pa_nil)) pa_nil)) (blkOk_by (N := N_law) (sc := defScope s_law) (by decide +kernel)) (fun _ _ _ _ _ => (pg_name (i := 9) sc_law.nd rfl (by first | exact Or.inl rfl | exact Or.inr rfl))) (fun _ _ _ _ _ => pts_nil) (fun _ _ _ _ _ => (pe_nclK (K := K) (C_Source_init T) (hr.mono (by decide)) pass0 (pa_cons (pv 3) (pa_cons (pe_ix (ixT (K := K)) (pe_ix (ixT (K := K)) (pe_ix (ixT (K := K)) (pv 3) pe_int (fun _ _ => rfl)) (pv 9) (fun _ _ => rfl)) pe_int (fun _ _ => rfl)) (pa_cons (pe_ix (ixL (K := K)) (pv 4) (pv 9) (fun _ _ => rfl)) pa_nil)))))))
    (pss_cons (ps_set (i := 6) sc_law.nd rfl (by first | exact Or.inl rfl | exact Or.inr rfl) (pe_lst (pa_cons (pe_ncl0 (C_Line_init T) (hr.mono (by decide)) pass0) (pa_cons (pe_ncl0 (C_Line_init T) (hr.mono (by decide)) pass0) pa_nil))))
    (pss_cons (ps_set (i := 7) sc_law.nd rfl (by first | exact Or.inl rfl | exact Or.inr rfl) (pe_lst pa_nil))
    (pss_cons (ps_cut (ps_set (i := 8) sc_law.nd rfl (by first | exact Or.inl rfl | exact Or.inr rfl) (pe_lst pa_nil)))
    (pss_cons (ps_cut (ps_for PassesOwn.never rfl (pi_range1 (by rfl) T.f_range (pa_cons (pe_cl (C_law_takeD T) (hr.mono (by decide)) pass0 (pa_cons (pv 1) (pa_cons pe_int pa_nil))) pa_nil)) (pg_name (i := 9) sc_law.nd rfl (by first | exact Or.inl rfl | exact Or.inr rfl)) (by exact hturn)))
    (by exact hend)))))))))), ?_⟩
    clear hturn hend
    walk_at "tw"
    intro d H1 e1 nd hd1
    have hscr1 := hscr.same e1
    have hscrK : ∀ H', Keep [d] H1 H' → Draw H' d → Scr K H' a ns := fun H' e _ => by
      rcases hs with (h | ⟨o, h⟩) | h
      · exact .inl (.inl (e _ _ (by rw [List.mem_singleton]; exact ne_of_none h nd) (e1 _ _ h)))
      · exact .inl (.inr ⟨o, e _ _ (by rw [List.mem_singleton]; exact ne_of_none h nd) (e1 _ _ h)⟩)
      · exact .inr h
    walk_at "tw"
    intro c H2 g2 hd2
    walk_at "tw"
    intro p len ms H3 g3 hd3 hp3 mok mokm hpos hle6
    clear hscr1 hscrK hscr hs g2 g3 hd2 hd1 e1
    have s3 : Sep H3 [cDraw d, cPlan p len ms] := ⟨fun c hc => by
      rcases List.mem_cons.mp hc with rfl | hc
      · exact hd3
      · rw [List.mem_singleton.mp hc]; exact hp3, by
      refine List.pairwise_cons.mpr ⟨fun c hc b _ hb' => ?_, List.pairwise_singleton ..⟩
      rw [List.mem_singleton.mp hc] at hb'
      cases hb'⟩
    have lms : ms.length ≤ 6 := hle6
    obtain ⟨pa, pb, us, rfl, hpa, hpb, hms⟩ := id hp3
    have lus := hms.1
    walk_at "tw"
    refine .mk (fun σ H' => ∃ (ol : Addr) (offs : List Int), σ = [some (.ref a), some (.ref d), some (.int c), some (.ref pa), some (.ref ol), none, none, none, none, none, none, none, none, none, none, none, none, none] ∧
      Sep H' [cLst ol (offs.map V.int), cDraw d, cPlan (.ref pa) len ms] ∧ offs.length = ms.length ∧ OffOk ms offs) (fun N hN => ?_) ?_
    · walk_at "tw"
      intro D nD
      refine lc_tup (K := K) (a := pb) (xs := us) (fun i H' => TKeep H3 H' ∧ ∃ offs : List Int, Sep H' [cLst D (offs.map V.int), cDraw d, cPlan (.ref pa) len ms] ∧ offs.length = i ∧ OffOk ms offs)
        ⟨(Same.new nD).tk, [], (s3.add (c := cLst D []) (Same.new nD) upd_same fun b hb => by rw [mem1 hb]; exact nD).sep, rfl, fun j o m h => by simp at h⟩ (fun i H' _ z => SqT.of (z.1 _ _ hpb)) ?_ ?_
      · rintro i x H' hx ⟨tk, offs, s', lo, oo⟩
        obtain ⟨m, hm, hxm⟩ := hms.get hx
        have hmm := mokm m (List.mem_of_getElem? hm)
        have hxm' := hxm.mono tk
        have hd' : Draw H' d := s'.get 1 rfl
        have hi : i < us.length := (List.getElem?_eq_some_iff.mp hx).1
        have hz : (offs.map V.int).length < sizeLine := smallt (by rw [List.length_map]; omega)
        walk_at "tw"
        intro o H5 g5 hd5 o1 o2
        have f5 := s'.set 1 (c := cDraw d) rfl (frm_draw g5 hd5)
        have hD5 : H5 D = some (.lst (offs.map V.int)) := f5.sep.get 0 rfl
        have tk5 := hd'.tk g5
        walk_at "tw"
        have f6 := f5.sep.set 0 (c := cLst D (offs.map V.int)) rfl (frm_lst (H' := upd H5 D (.lst (offs.map V.int ++ [.int o]))) (Keep.upd (by simp)) upd_same)
        refine ⟨(tk.trans tk5).trans (TKeep.upd hD5 fun xs z => by cases z), offs ++ [o], ?_, by rw [List.length_append, lo]; rfl, fun j o' m' h h' => ?_⟩
        · rw [List.map_append]
          exact f6.sep
        · rcases at_snoc h with h | ⟨rfl, rfl⟩
          · exact oo j o' m' h h'
          · rw [lo, hm] at h'
            cases h'
            exact ⟨o1, o2⟩
      · rintro H' ⟨tk, offs, s', lo, oo⟩
        exact hN _ _ ⟨D, offs, rfl, s', by omega, oo⟩
    · rintro σ H4 ⟨ol, offs, rfl, s4, lo, oo⟩
      clear hpa hpb hms us lus s3 hp3 hd3
      obtain ⟨pa', pb, us, ep, hpa, hpb, hms⟩ : IsPlan H4 (.ref pa) len ms := s4.get 2 rfl
      cases ep
      have lus := hms.1
      have tk0 : TKeep H4 H4 := TKeep.refl _
      walk_at "tw"
      refine .mk (fun σ H' => ∃ (sl : Addr) (ts : List SL), σ = [some (.ref a), some (.ref d), some (.int c), some (.ref pa), some (.ref ol), some (.ref sl), none, none, none, none, none, none, none, none, none, none, none, none] ∧
        Sep H' [cLst sl (slV ts), cSrcs K ts, cLst ol (offs.map V.int), cDraw d, cPlan (.ref pa) len ms] ∧ ts.length = ms.length ∧ Young ms offs ts) (fun N hN => ?_) ?_
      · walk_at "tw"
        intro D nD
        have s5 : Sep (upd H4 D (.lst [])) [cLst D [], cSrcs K [], cLst ol (offs.map V.int), cDraw d, cPlan (.ref pa) len ms] := by
          have f := s4.add (c := cSrcs K []) (Same.refl _) ⟨fun c hc => (by cases hc), List.Pairwise.nil⟩ fun b hb => by cases hb
          exact (f.sep.add (c := cLst D []) (Same.new nD) upd_same fun b hb => by rw [mem1 hb]; exact nD).sep
        refine lc_it (walk_range (lo := 0) (n := Int.toNat (us.length : Nat))) (fun i H' => TKeep H4 H' ∧ ∃ ts : List SL, Sep H' [cLst D (slV ts), cSrcs K ts, cLst ol (offs.map V.int), cDraw d, cPlan (.ref pa) len ms] ∧ ts.length = i ∧ Young ms offs ts)
          ⟨(Same.new nD).tk, [], s5, rfl, fun j t h => by simp at h⟩ (fun i H' _ z => trivial) ?_ ?_
        · rintro i x H0 H' hi ⟨tk, ts, s', lt, yg⟩ ⟨rfl, rfl⟩
          have hi' : i < us.length := by omega
          obtain ⟨m, hm⟩ : ∃ m, ms[i]? = some m := ⟨ms[i]'(by omega), List.getElem?_eq_getElem _⟩
          obtain ⟨o, ho⟩ : ∃ o, offs[i]? = some o := ⟨offs[i]'(by omega), List.getElem?_eq_getElem _⟩
          obtain ⟨mv, hmv, ⟨ma, rfl, hma⟩⟩ := hms.get' hm
          have hma' := tk _ _ hma
          have hpa' := tk _ _ hpa
          have hpb' := tk _ _ hpb
          have hol : H' ol = some (.lst (offs.map V.int)) := s'.get 2 rfl
          have hD : H' D = some (.lst (slV ts)) := s'.get 0 rfl
          have hp' : IsPlan H' (.ref pa) len ms := s'.get 4 rfl
          have hmm := List.mem_of_getElem? hm
          have at1 : atI us (0 + (i : Int)) = some (.ref ma) := by rw [Int.zero_add]; exact atI_nat hmv
          have at2 : atI (offs.map V.int) (0 + (i : Int)) = some (.int o) := by rw [Int.zero_add]; exact atI_nat (map_get' ho)
          have hz : (slV ts).length < sizeLine := smallt (by unfold slV; rw [List.length_map]; omega)
          walk_at "tw"
          intro x dx nx ndx nex
          have eG : Same H' (upd (upd H' dx (.own x)) x (.ins (He.ga K "Source") dx [])) := (Same.new ndx).up (by rw [upd_ne (Ne.symm nex)]; exact nx)
          have hxG : (upd (upd H' dx (.own x)) x (.ins (He.ga K "Source") dx [])) x = some (.ins (He.ga K "Source") dx []) := upd_same
          have hpG := hp'.mono eG.tk
          walk_at "tw"
          intro sa da H6 e6 nsa nda hS6
          have e06 := made_same nx ndx e6
          have hD6 := e06 _ _ hD
          walk_at "tw"
          have fsa := (made_free nsa).1
          have fda := (made_free nda).1
          have f1 := s'.set 1 (c := cSrcs K ts) rfl (srcs_snoc (t := ((x, sa, da), ⟨m, o, [], 0, none, []⟩)) (s'.get 1 rfl) e06 hS6 nx fsa fda)
          have f2 := f1.sep.set 0 (c := cLst D (slV ts)) rfl (frm_lst (H' := upd H6 D (.lst (slV ts ++ [.ref x]))) (Keep.upd (by simp)) upd_same)
          refine ⟨(tk.trans e06.tk).trans (TKeep.upd hD6 fun xs z => by cases z), ts ++ [((x, sa, da), ⟨m, o, [], 0, none, []⟩)], ?_, by rw [List.length_append, lt]; rfl, fun j t h => ?_⟩
          · have eq : slV (ts ++ [((x, sa, da), ⟨m, o, [], 0, none, []⟩)]) = slV ts ++ [.ref x] := by unfold slV; rw [List.map_append]; rfl
            rw [eq]
            exact f2.sep
          · rcases at_snoc h with h | ⟨rfl, rfl⟩
            · exact yg j t h
            · exact ⟨m, o, by rw [lt]; exact hm, by rw [lt]; exact ho, rfl⟩
        · rintro H' ⟨tk, ts, s', lt, yg⟩
          exact hN _ _ ⟨D, ts, rfl, s', by omega, yg⟩
      · rintro σ H5 ⟨sl, ts, rfl, s5, lt, yg⟩
        clear hpa hpb hms us lus s4 tk0
        walk_at "tw"
        intro y0 dy0 ny0 ndy0 ney0
        have hy0 : (upd (upd H5 dy0 (.own y0)) y0 (.ins (He.ga K "Line") dy0 [])) y0 = some (.ins (He.ga K "Line") dy0 []) := upd_same
        walk_at "tw"
        intro a0 H6 e6 na0 hL0
        have e06 := made_same ny0 ndy0 e6
        have s6 := (s5.add (c := cLines K []) (Same.refl _) ⟨fun c hc => (by cases hc), List.Pairwise.nil⟩ fun b hb => by cases hb).sep
        have f6 := s6.set 0 (c := cLines K []) rfl (lines_snoc (t := ((y0, a0), [])) (s6.get 0 rfl) e06 hL0 ny0 (made_free na0).1)
        walk_at "tw"
        intro y1 dy1 ny1 ndy1 ney1
        have hy1 : (upd (upd H6 dy1 (.own y1)) y1 (.ins (He.ga K "Line") dy1 [])) y1 = some (.ins (He.ga K "Line") dy1 []) := upd_same
        walk_at "tw"
        intro a1 H7 e7 na1 hL1
        have e67 := made_same ny1 ndy1 e7
        have f7 := f6.sep.set 0 (c := cLines K [((y0, a0), [])]) rfl (lines_snoc (t := ((y1, a1), [])) (f6.sep.get 0 rfl) e67 hL1 ny1 (made_free na1).1)
        have s7 : Sep H7 [cLines K [((y0, a0), []), ((y1, a1), [])], cLst sl (slV ts), cSrcs K ts, cLst ol (offs.map V.int), cDraw d, cPlan (.ref pa) len ms] := f7.sep
        clear f7 f6 s6 s5
        walk_at "tw"
        intro cl ncl
        have s8 := (s7.add (c := cLst cl (lnV [((y0, a0), []), ((y1, a1), [])])) (Same.new ncl) upd_same fun b hb => by rw [mem1 hb]; exact ncl).sep
        walk_at "tw"
        intro ra nra
        have s9 := (s8.add (c := cBag ra []) (Same.new nra) ⟨[], upd_same, All2.nil⟩ fun b hb => by rw [mem1 hb]; exact nra).sep
        walk_at "tw"
        refine .mk (fun σ H' => ∃ W, Shape a c W σ ∧ Sep H' (W.cs K) ∧ W.Ok 0) (fun N hN => ?_) ?_
        · walk_at "tw"
          intro ma nma
          have s10 := (s9.add (c := cBag ma []) (Same.new nma) ⟨[], upd_same, All2.nil⟩ fun b hb => by rw [mem1 hb]; exact nma).sep
          exact hN _ _ ⟨⟨d, .ref pa, len, ms, ol, offs, sl, ts, cl, [((y0, a0), []), ((y1, a1), [])], ra, [], ma, []⟩, ⟨none, none, none, none, none, none, none, none, none, rfl⟩, world_perm s10, young_ok mok lms hpos mokm oo lo lt yg ..⟩
        · rintro σ H' ⟨W, ⟨x9, x10, x11, x12, x13, x14, x15, x16, x17, rfl⟩, s, ok⟩
          clear s7 s8 s9 e67 e06 hL1 hL0 e7 e6 yg oo
          have hd := s.draw
          walk_at "tw"
          refine .mk (fun σ H' => ∃ W k, Shape a c W σ ∧ Sep H' (W.cs K) ∧ W.Ok k ∧ k ≤ 25) (fun N hN => ?_) ?_
          · walk_at "tw"
            intro n G gk hdG n0 n1
            have sG := s.took gk hdG
            have nb1 : -2 ^ 62 ≤ n := by omega
            have nb2 : n < 2 ^ 62 := by omega
            walk_at "tw"
            refine for_range (fun i σ H' => ∃ W, Shape a c W σ ∧ Sep H' (W.cs K) ∧ W.Ok i)
              ⟨W, ⟨_, _, _, _, _, _, _, _, _, rfl⟩, sG, ok⟩ ?_ ?_
            · rintro i σ H' hi ⟨W, ⟨x9, x10, x11, x12, x13, x14, x15, x16, x17, rfl⟩, s, ok⟩
              exact wturn a c _ i W _ H' ⟨_, _, _, _, _, _, _, _, _, rfl⟩ s ok (by omega) fun W' σ' G h1 h2 h3 => ⟨W', h1, h2, h3⟩
            · rintro σ H' ⟨W, hσ, s, ok⟩
              exact hN _ _ ⟨W, _, hσ, s, ok, by omega⟩
          · rintro σ H' ⟨W, kk, ⟨x9, x10, x11, x12, x13, x14, x15, x16, x17, rfl⟩, s, ok, hk⟩
            exact wend a c _ kk W _ H' ⟨_, _, _, _, _, _, _, _, _, rfl⟩ s ok hk k
theorem F_law (T : Tx K mg) : ∃ fd : FuncData, (∀ (s : Shared) (u : Value), BindsTo s fd ⟨[u], []⟩ [("_law_script", u)]) ∧ ∀ base : Heap, FnOk P w K mg base CX0 6 (He.ga K "law") fd P_law (spLawL K) := by
  obtain ⟨fd, F⟩ := T.fd_law
  refine ⟨fd, fun s u => F.bindsA (ps := P_law) (fun _ _ _ _ _ _ us hl => match us, hl with | [_], _ => rfl) s [u] rfl, fun base => ?_⟩
  exact F.ok (P := P) (w := w) (mg := mg) (base := base) (CX := CX0) (k := 5) (sp := spLawL K) sc_law (fun vs H Q E h => by obtain ⟨a, ns, rfl, _⟩ := h; rfl) fun cdv A outer s H vs Q E hr hsp => by
    obtain ⟨t, h1, h2⟩ := law_body (P := P) (w := w) (base := base) (f := He.ga K "law") (cdv := cdv) (A := A) (outer := outer) T hr hsp
    exact ⟨t, h1.nox, h2⟩
end
end Tw
end

set_option maxHeartbeats 0
namespace Tw
open PySem L2
theorem law_ok : LawOk := by
  intro w K mg h KX G c
  have T : Tx K mg := ⟨c.t.d, c.more, h, KX, G⟩
  obtain ⟨fd, hb, hF⟩ := F_law (P := Rw.prog) (w := w) T
  refine ⟨fd, hb, fun base _ _ => ((hF base).mono (by decide)).imp fun vs H Q E h => ?_⟩
  exact h
end Tw
theorem PySem.Challenge.cw_toldwhensure_k32_whole_meters_through_li_holds : PySem.Challenge.rw_toldwhensure_k32_whole_meters_through_li.Holds := by
  exact Tw.holds_of Tw.law_ok
