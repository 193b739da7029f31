import PyProof.Rows.All
import Wide.All
import OpenK.AllK
import Wide.FinOn
import KE.KStateDown
import Lean
import HandS.Base
import HandS.Call
import HandS.Ends
import HandS.More
import HandS.Words
import HandS.WordsExc
import HandS.Defaults
import HandS.ExcIs
import HandS.Head0
import HandS.Head1
import HandS.Head2
import HandS.HeadEnd
import HandS.HeadHook1
import HandS.HeadHook2
import HandS.HeadHook3
import HandS.HeadHook4
import HandS.ForMost
import HandS.TupAny
import HandS.Style
import HandS.Deep
import HandS.SortInts
import HandS.SortRule
import KE.GoesMore
import KE.GoesEnum
import HandS.Walk
import KE.KSortedM
import KE.KDictLaws
import PyProof.Rows.SetObj
import HandS.Dict
import PyProof.DictMoreH
import HandS.SetKeys
import HandS.List
import HandS.Set
import HandS.SetFor
import HandS.SetTxt0
import HandS.Strs
import HandS.TupSets
import HandS.Comp
import HandS.ExcCtx
import HandS.HotCalls
import HandS.Hot
import HandS.Text
import PySem.Challenge.RW_toldwhensure_k28_whole_letters_stay_true
set_option Elab.async false
set_option linter.all false
set_option maxRecDepth 100000
set_option maxHeartbeats 4000000
/-! K28Head -/
namespace TW
open PySem PySem.Spec PyProof.Rows L2
abbrev PR : Program := PySem.Challenge.pw_toldwhensure_k28_whole_letters_stay_true
def top (i : Nat) : Stmt := PR.main.body.getD i (.Pass ⟨0, 0, 0, 0⟩)
abbrev s_meter_of : Stmt := top 13
abbrev s_versions_right : Stmt := top 17
abbrev s_slots_right : Stmt := top 18
abbrev s_is_history : Stmt := top 19
abbrev s_is_read : Stmt := top 20
abbrev s_is_closed : Stmt := top 21
abbrev s_is_true : Stmt := top 22
abbrev s_agrees : Stmt := top 23
abbrev s_reads_of : Stmt := top 24
abbrev s_reads_about : Stmt := top 26
abbrev s_received_of : Stmt := top 27
abbrev s_closes_of : Stmt := top 28
abbrev s_offsets_of : Stmt := top 29
abbrev s_limits_of : Stmt := top 30
abbrev s_slots_within : Stmt := top 31
abbrev s_hidden_in : Stmt := top 32
abbrev s_reads_right : Stmt := top 34
abbrev s_closes_right : Stmt := top 35
abbrev s_stamps_right : Stmt := top 36
abbrev s_meter_possible : Stmt := top 37
abbrev s_is_possible : Stmt := top 38
abbrev s__law_draws : Stmt := top 40
abbrev s__law_take : Stmt := top 41
abbrev s__law_cell : Stmt := top 42
abbrev s__law_word : Stmt := top 43
abbrev s__law_some_word : Stmt := top 44
abbrev s__law_reading : Stmt := top 46
abbrev s__law_plan : Stmt := top 47
abbrev s__law_error_name : Stmt := top 48
abbrev s__law_with : Stmt := top 49
abbrev s__law_recorded : Stmt := top 50
abbrev s__law_corrected : Stmt := top 51
abbrev s__law_after : Stmt := top 52
abbrev s__law_do : Stmt := top 53
abbrev s__law_stamp : Stmt := top 54
abbrev s__law_entry : Stmt := top 55
abbrev s__law_deed : Stmt := top 56
abbrev s__law_offset : Stmt := top 57
abbrev s__law_log : Stmt := top 59
abbrev s__law_is_true : Stmt := top 60
abbrev s__law_others : Stmt := top 61
abbrev s__law_all_true : Stmt := top 62
abbrev s_law : Stmt := top 63
abbrev s_Source___init__ : Stmt := inClass (top 15) 0
abbrev s_Source__make : Stmt := inClass (top 15) 1
abbrev s_Source__is_value : Stmt := inClass (top 15) 2
abbrev s_Source__need : Stmt := inClass (top 15) 3
abbrev s_Source_record : Stmt := inClass (top 15) 4
abbrev s_Source__need_open : Stmt := inClass (top 15) 5
abbrev s_Source__add : Stmt := inClass (top 15) 6
abbrev s_Source_correct : Stmt := inClass (top 15) 7
abbrev s_Source_take_back : Stmt := inClass (top 15) 8
abbrev s_Source_close : Stmt := inClass (top 15) 9
abbrev s_Source_check : Stmt := inClass (top 15) 10
abbrev s_Source_log : Stmt := inClass (top 15) 11
abbrev s_Source_due : Stmt := inClass (top 15) 12
abbrev s_Source_acknowledge : Stmt := inClass (top 15) 13
abbrev FnP (K : PySem.W.Frag) (x qual : Str) (st : Stmt) (f : Addr) (fd : FuncData) : Prop := FunD K x qual (defArgs st) (defBody st) (defScope st) [] [] f fd
def d_meter_of : He.DefD := ⟨("meter_of", none), "meter_of", "meter_of", defArgs s_meter_of, defBody s_meter_of, defScope s_meter_of, [], []⟩
def d_versions_right : He.DefD := ⟨("versions_right", none), "versions_right", "versions_right", defArgs s_versions_right, defBody s_versions_right, defScope s_versions_right, [], []⟩
def d_slots_right : He.DefD := ⟨("slots_right", none), "slots_right", "slots_right", defArgs s_slots_right, defBody s_slots_right, defScope s_slots_right, [], []⟩
def d_is_history : He.DefD := ⟨("is_history", none), "is_history", "is_history", defArgs s_is_history, defBody s_is_history, defScope s_is_history, [], []⟩
def d_is_read : He.DefD := ⟨("is_read", none), "is_read", "is_read", defArgs s_is_read, defBody s_is_read, defScope s_is_read, [], []⟩
def d_is_closed : He.DefD := ⟨("is_closed", none), "is_closed", "is_closed", defArgs s_is_closed, defBody s_is_closed, defScope s_is_closed, [], []⟩
def d_is_true : He.DefD := ⟨("is_true", none), "is_true", "is_true", defArgs s_is_true, defBody s_is_true, defScope s_is_true, [], []⟩
def d_agrees : He.DefD := ⟨("agrees", none), "agrees", "agrees", defArgs s_agrees, defBody s_agrees, defScope s_agrees, [], []⟩
def d_reads_of : He.DefD := ⟨("reads_of", none), "reads_of", "reads_of", defArgs s_reads_of, defBody s_reads_of, defScope s_reads_of, [], []⟩
def d_reads_about : He.DefD := ⟨("reads_about", none), "reads_about", "reads_about", defArgs s_reads_about, defBody s_reads_about, defScope s_reads_about, [], []⟩
def d_received_of : He.DefD := ⟨("received_of", none), "received_of", "received_of", defArgs s_received_of, defBody s_received_of, defScope s_received_of, [], []⟩
def d_closes_of : He.DefD := ⟨("closes_of", none), "closes_of", "closes_of", defArgs s_closes_of, defBody s_closes_of, defScope s_closes_of, [], []⟩
def d_offsets_of : He.DefD := ⟨("offsets_of", none), "offsets_of", "offsets_of", defArgs s_offsets_of, defBody s_offsets_of, defScope s_offsets_of, [], []⟩
def d_limits_of : He.DefD := ⟨("limits_of", none), "limits_of", "limits_of", defArgs s_limits_of, defBody s_limits_of, defScope s_limits_of, [], []⟩
def d_slots_within : He.DefD := ⟨("slots_within", none), "slots_within", "slots_within", defArgs s_slots_within, defBody s_slots_within, defScope s_slots_within, [], []⟩
def d_hidden_in : He.DefD := ⟨("hidden_in", none), "hidden_in", "hidden_in", defArgs s_hidden_in, defBody s_hidden_in, defScope s_hidden_in, [], []⟩
def d_reads_right : He.DefD := ⟨("reads_right", none), "reads_right", "reads_right", defArgs s_reads_right, defBody s_reads_right, defScope s_reads_right, [], []⟩
def d_closes_right : He.DefD := ⟨("closes_right", none), "closes_right", "closes_right", defArgs s_closes_right, defBody s_closes_right, defScope s_closes_right, [], []⟩
def d_stamps_right : He.DefD := ⟨("stamps_right", none), "stamps_right", "stamps_right", defArgs s_stamps_right, defBody s_stamps_right, defScope s_stamps_right, [], []⟩
def d_meter_possible : He.DefD := ⟨("meter_possible", none), "meter_possible", "meter_possible", defArgs s_meter_possible, defBody s_meter_possible, defScope s_meter_possible, [], []⟩
def d_is_possible : He.DefD := ⟨("is_possible", none), "is_possible", "is_possible", defArgs s_is_possible, defBody s_is_possible, defScope s_is_possible, [], []⟩
def d__law_draws : He.DefD := ⟨("_law_draws", none), "_law_draws", "_law_draws", defArgs s__law_draws, defBody s__law_draws, defScope s__law_draws, [], []⟩
def d__law_take : He.DefD := ⟨("_law_take", none), "_law_take", "_law_take", defArgs s__law_take, defBody s__law_take, defScope s__law_take, [], []⟩
def d__law_cell : He.DefD := ⟨("_law_cell", none), "_law_cell", "_law_cell", defArgs s__law_cell, defBody s__law_cell, defScope s__law_cell, [], []⟩
def d__law_word : He.DefD := ⟨("_law_word", none), "_law_word", "_law_word", defArgs s__law_word, defBody s__law_word, defScope s__law_word, [], []⟩
def d__law_some_word : He.DefD := ⟨("_law_some_word", none), "_law_some_word", "_law_some_word", defArgs s__law_some_word, defBody s__law_some_word, defScope s__law_some_word, [], []⟩
def d__law_reading : He.DefD := ⟨("_law_reading", none), "_law_reading", "_law_reading", defArgs s__law_reading, defBody s__law_reading, defScope s__law_reading, [], []⟩
def d__law_plan : He.DefD := ⟨("_law_plan", none), "_law_plan", "_law_plan", defArgs s__law_plan, defBody s__law_plan, defScope s__law_plan, [], []⟩
def d__law_error_name : He.DefD := ⟨("_law_error_name", none), "_law_error_name", "_law_error_name", defArgs s__law_error_name, defBody s__law_error_name, defScope s__law_error_name, [], []⟩
def d__law_with : He.DefD := ⟨("_law_with", none), "_law_with", "_law_with", defArgs s__law_with, defBody s__law_with, defScope s__law_with, [], []⟩
def d__law_recorded : He.DefD := ⟨("_law_recorded", none), "_law_recorded", "_law_recorded", defArgs s__law_recorded, defBody s__law_recorded, defScope s__law_recorded, [], []⟩
def d__law_corrected : He.DefD := ⟨("_law_corrected", none), "_law_corrected", "_law_corrected", defArgs s__law_corrected, defBody s__law_corrected, defScope s__law_corrected, [], []⟩
def d__law_after : He.DefD := ⟨("_law_after", none), "_law_after", "_law_after", defArgs s__law_after, defBody s__law_after, defScope s__law_after, [], []⟩
def d__law_do : He.DefD := ⟨("_law_do", none), "_law_do", "_law_do", defArgs s__law_do, defBody s__law_do, defScope s__law_do, [], []⟩
def d__law_stamp : He.DefD := ⟨("_law_stamp", none), "_law_stamp", "_law_stamp", defArgs s__law_stamp, defBody s__law_stamp, defScope s__law_stamp, [], []⟩
def d__law_entry : He.DefD := ⟨("_law_entry", none), "_law_entry", "_law_entry", defArgs s__law_entry, defBody s__law_entry, defScope s__law_entry, [], []⟩
def d__law_deed : He.DefD := ⟨("_law_deed", none), "_law_deed", "_law_deed", defArgs s__law_deed, defBody s__law_deed, defScope s__law_deed, [], []⟩
def d__law_offset : He.DefD := ⟨("_law_offset", none), "_law_offset", "_law_offset", defArgs s__law_offset, defBody s__law_offset, defScope s__law_offset, [], []⟩
def d__law_log : He.DefD := ⟨("_law_log", none), "_law_log", "_law_log", defArgs s__law_log, defBody s__law_log, defScope s__law_log, [], []⟩
def d__law_is_true : He.DefD := ⟨("_law_is_true", none), "_law_is_true", "_law_is_true", defArgs s__law_is_true, defBody s__law_is_true, defScope s__law_is_true, [], []⟩
def d__law_others : He.DefD := ⟨("_law_others", none), "_law_others", "_law_others", defArgs s__law_others, defBody s__law_others, defScope s__law_others, [], []⟩
def d__law_all_true : He.DefD := ⟨("_law_all_true", none), "_law_all_true", "_law_all_true", defArgs s__law_all_true, defBody s__law_all_true, defScope s__law_all_true, [], []⟩
def d_law : He.DefD := ⟨("law", none), "law", "law", defArgs s_law, defBody s_law, defScope s_law, [], []⟩
def d_Source___init__ : He.DefD := ⟨("Source", some "__init__"), "__init__", "Source.__init__", defArgs s_Source___init__, defBody s_Source___init__, defScope s_Source___init__, [], []⟩
def d_Source__make : He.DefD := ⟨("Source", some "_make"), "_make", "Source._make", defArgs s_Source__make, defBody s_Source__make, defScope s_Source__make, [], []⟩
def d_Source__is_value : He.DefD := ⟨("Source", some "_is_value"), "_is_value", "Source._is_value", defArgs s_Source__is_value, defBody s_Source__is_value, defScope s_Source__is_value, [], []⟩
def d_Source__need : He.DefD := ⟨("Source", some "_need"), "_need", "Source._need", defArgs s_Source__need, defBody s_Source__need, defScope s_Source__need, [], []⟩
def d_Source_record : He.DefD := ⟨("Source", some "record"), "record", "Source.record", defArgs s_Source_record, defBody s_Source_record, defScope s_Source_record, [], []⟩
def d_Source__need_open : He.DefD := ⟨("Source", some "_need_open"), "_need_open", "Source._need_open", defArgs s_Source__need_open, defBody s_Source__need_open, defScope s_Source__need_open, [], []⟩
def d_Source__add : He.DefD := ⟨("Source", some "_add"), "_add", "Source._add", defArgs s_Source__add, defBody s_Source__add, defScope s_Source__add, [], []⟩
def d_Source_correct : He.DefD := ⟨("Source", some "correct"), "correct", "Source.correct", defArgs s_Source_correct, defBody s_Source_correct, defScope s_Source_correct, [], []⟩
def d_Source_take_back : He.DefD := ⟨("Source", some "take_back"), "take_back", "Source.take_back", defArgs s_Source_take_back, defBody s_Source_take_back, defScope s_Source_take_back, [], []⟩
def d_Source_close : He.DefD := ⟨("Source", some "close"), "close", "Source.close", defArgs s_Source_close, defBody s_Source_close, defScope s_Source_close, [], []⟩
def d_Source_check : He.DefD := ⟨("Source", some "check"), "check", "Source.check", defArgs s_Source_check, defBody s_Source_check, defScope s_Source_check, [], []⟩
def d_Source_log : He.DefD := ⟨("Source", some "log"), "log", "Source.log", defArgs s_Source_log, defBody s_Source_log, defScope s_Source_log, [], []⟩
def d_Source_due : He.DefD := ⟨("Source", some "due"), "due", "Source.due", defArgs s_Source_due, defBody s_Source_due, defScope s_Source_due, [], []⟩
def d_Source_acknowledge : He.DefD := ⟨("Source", some "acknowledge"), "acknowledge", "Source.acknowledge", defArgs s_Source_acknowledge, defBody s_Source_acknowledge, defScope s_Source_acknowledge, [], []⟩
def fn0 : List He.DefD := [d_meter_of, d_versions_right, d_slots_right, d_is_history, d_is_read, d_is_closed, d_is_true, d_agrees, d_reads_of, d_reads_about, d_received_of, d_closes_of, d_offsets_of, d_limits_of, d_slots_within, d_hidden_in, d_reads_right, d_closes_right, d_stamps_right, d_meter_possible, d_is_possible, d__law_draws, d__law_take, d__law_cell, d__law_word, d__law_some_word, d__law_reading, d__law_plan, d__law_error_name, d__law_with, d__law_recorded, d__law_corrected, d__law_after, d__law_do, d__law_stamp]
def fn1 : List He.DefD := [d__law_entry, d__law_deed, d__law_offset, d__law_log, d__law_is_true, d__law_others, d__law_all_true, d_law, d_Source___init__, d_Source__make, d_Source__is_value, d_Source__need, d_Source_record, d_Source__need_open, d_Source__add, d_Source_correct, d_Source_take_back, d_Source_close, d_Source_check, d_Source_log, d_Source_due, d_Source_acknowledge]
def fn : List He.DefD := fn0 ++ fn1
def fa0 : List He.Fa := [.glo "GatherError", .glo "InvalidPlan", .glo "InvalidLetter", .glo "InvalidAlarm", .glo "InvalidEntry", .glo "BadText", .glo "NotPossible", .glo "NoNote", .glo "NoSlot", .glo "Closed", .glo "NoLetter", .glo "meter_of", .glo "Source", .glo "versions_right", .glo "slots_right", .glo "is_history", .glo "is_read", .glo "is_closed", .glo "is_true", .glo "agrees", .glo "reads_of", .glo "reads_about", .glo "received_of", .glo "closes_of", .glo "offsets_of", .glo "limits_of", .glo "slots_within", .glo "hidden_in", .glo "reads_right", .glo "closes_right", .glo "stamps_right", .glo "meter_possible", .glo "is_possible", .glo "_law_draws", .glo "_law_take"]
def fa1 : List He.Fa := [.glo "_law_cell", .glo "_law_word", .glo "_law_some_word", .glo "_law_same", .glo "_law_reading", .glo "_law_plan", .glo "_law_error_name", .glo "_law_with", .glo "_law_recorded", .glo "_law_corrected", .glo "_law_after", .glo "_law_do", .glo "_law_stamp", .glo "_law_entry", .glo "_law_deed", .glo "_law_offset", .glo "_law_is_source", .glo "_law_log", .glo "_law_is_true", .glo "_law_others", .glo "_law_all_true", .glo "law", .free "all", .free "sum", .free "len", .free "sorted", .free "min", .free "max", .free "abs", .free "enumerate", .free "zip", .free "tuple", .free "list", .free "int", .free "range"]
def fa2 : List He.Fa := [.free "set", .free "isinstance", .free "ValueError", .cls "Source", .noat "Source" "_meter", .noat "Source" "_offset", .noat "Source" "_slots", .noat "Source" "_closed_number", .noat "Source" "_closed_stamp", .noat "Source" "_due", .meth "Source" "_make", .meth "Source" "_is_value", .meth "Source" "_need", .meth "Source" "record", .meth "Source" "_need_open", .meth "Source" "_add", .meth "Source" "correct", .meth "Source" "take_back", .meth "Source" "close", .meth "Source" "check", .meth "Source" "log", .meth "Source" "due", .meth "Source" "acknowledge", .mkr "Source", .exc "InvalidEntry", .exm "InvalidEntry" "GatherError" true, .exc "NoSlot", .exm "NoSlot" "GatherError" true, .exc "Closed", .exm "Closed" "GatherError" true, .keep "GatherError"]
def fa : List He.Fa := fa0 ++ fa1 ++ fa2
/-- what isinstance asks of the three errors' classes -/
def excB (K : PySem.W.Frag) (x : Str) : Bool := He.eqO (PySem.W.findIn K (.ref (He.ga K x)) "__getattribute__") (some (some (.builtin "BaseException.__getattribute__"))) && (He.eqO (PySem.W.findIn K (.ref (He.ga K x)) "__getattr__") (some none) &&
  (decide (PySem.W.subIn K (.ref (He.ga K x)) (.type "BaseException") = some true) && (PySem.W.hasDictIn K (He.ga K x) && (He.eqO (PySem.W.findIn K (.ref (He.ga K x)) "__class__") (some (some (.builtin "object.__class__"))) &&
  (decide (PySem.W.mroIn K (He.ga K x) (.type "object") = some true))))))
def bltB (K : PySem.W.Frag) : Bool := He.eqO (PySem.W.specialIn K (.builtin "object.__class__") "__get__") (some (some (.builtin "getset_descriptor.__get__"))) && decide (PySem.W.takesIn K (.builtin "object.__class__") = some true)
def isiB (K : PySem.W.Frag) (x y : Str) (b : Bool) : Bool := decide (PySem.W.kitOne K (.ref (He.ga K x)) (.ref (He.ga K y)) = some b)
def isvB (K : PySem.W.Frag) (x : Str) : Bool := decide (PySem.W.kitOne K (.ref (He.ga K x)) (.type "ValueError") = some true)
def isiAll (K : PySem.W.Frag) (x : Str) : Bool := excB K x && (isvB K x && [("InvalidPlan" : Str), ("InvalidLetter" : Str), ("InvalidAlarm" : Str), ("InvalidEntry" : Str), ("BadText" : Str), ("NotPossible" : Str), ("NoNote" : Str), ("NoSlot" : Str), ("Closed" : Str), ("NoLetter" : Str)].all fun y => isiB K x y (decide (x = y)))
def exB (K : PySem.W.Frag) : Bool := bltB K && (["InvalidEntry", "NoSlot", "Closed"] : List Str).all (isiAll K)
abbrev R : PySem.W.OpenRow := PySem.W.OpenLaw.row PySem.Challenge.rw_toldwhensure_k28_whole_letters_stay_true
abbrev hk : PySem.W.Hook := He.hookX 5 fa fn [] [] exB
def ob (s : PySem.W.SharedT) : He.AlX := He.obsX 5 fa fn [] [] exB (HandSHeadRun.getT s)
theorem ob_eq (s : PySem.W.SharedT) : ob s = hk.obs s.abs := He.obsX_eq (HandSHeadRun.getT_eq s)
def loose0 : List PySem.Str := ["GatherError", "InvalidPlan", "InvalidLetter", "InvalidAlarm", "InvalidEntry", "BadText", "NotPossible", "NoNote", "NoSlot", "Closed", "NoLetter", "meter_of", "Source", "versions_right", "slots_right", "is_history", "is_read", "is_closed", "is_true", "agrees", "reads_of", "reads_about", "received_of", "closes_of", "offsets_of", "limits_of", "slots_within", "hidden_in", "reads_right", "closes_right"]
def loose1 : List PySem.Str := ["stamps_right", "meter_possible", "is_possible", "_law_draws", "_law_take", "_law_cell", "_law_word", "_law_some_word", "_law_same", "_law_reading", "_law_plan", "_law_error_name", "_law_with", "_law_recorded", "_law_corrected", "_law_after", "_law_do", "_law_stamp", "_law_entry", "_law_deed", "_law_offset", "_law_is_source", "_law_log", "_law_is_true", "_law_others", "_law_all_true"]
def loose : List PySem.Str := loose0 ++ loose1
theorem run (w : World) : HandSHeadRun.RunEq R (PySem.W.view R.prog [63]) hk ob 6000 loose w := by
  intro os
  kernel_rfl
/-- what the top has written -/
structure Txt (K : PySem.W.Frag) (mg : Str → Option Value) : Prop where
  c : He.SaysD fa fn K
  gl : ∀ x : Str, (He.Fa.glo x).ok K = true → mg x = some (.ref (He.ga K x))
  fr : ∀ x : Str, (He.Fa.free x).ok K = true → mg x = none
  ex : exB K = true
section
variable {K : PySem.W.Frag} {mg : Str → Option Value}
theorem Txt.g_GatherError (T : Txt K mg) : mg "GatherError" = some (.ref (He.ga K "GatherError")) := T.gl _ (T.c.fact 0 (f := .glo "GatherError") rfl)
theorem Txt.g_InvalidPlan (T : Txt K mg) : mg "InvalidPlan" = some (.ref (He.ga K "InvalidPlan")) := T.gl _ (T.c.fact 1 (f := .glo "InvalidPlan") rfl)
theorem Txt.g_InvalidLetter (T : Txt K mg) : mg "InvalidLetter" = some (.ref (He.ga K "InvalidLetter")) := T.gl _ (T.c.fact 2 (f := .glo "InvalidLetter") rfl)
theorem Txt.g_InvalidAlarm (T : Txt K mg) : mg "InvalidAlarm" = some (.ref (He.ga K "InvalidAlarm")) := T.gl _ (T.c.fact 3 (f := .glo "InvalidAlarm") rfl)
theorem Txt.g_InvalidEntry (T : Txt K mg) : mg "InvalidEntry" = some (.ref (He.ga K "InvalidEntry")) := T.gl _ (T.c.fact 4 (f := .glo "InvalidEntry") rfl)
theorem Txt.g_BadText (T : Txt K mg) : mg "BadText" = some (.ref (He.ga K "BadText")) := T.gl _ (T.c.fact 5 (f := .glo "BadText") rfl)
theorem Txt.g_NotPossible (T : Txt K mg) : mg "NotPossible" = some (.ref (He.ga K "NotPossible")) := T.gl _ (T.c.fact 6 (f := .glo "NotPossible") rfl)
theorem Txt.g_NoNote (T : Txt K mg) : mg "NoNote" = some (.ref (He.ga K "NoNote")) := T.gl _ (T.c.fact 7 (f := .glo "NoNote") rfl)
theorem Txt.g_NoSlot (T : Txt K mg) : mg "NoSlot" = some (.ref (He.ga K "NoSlot")) := T.gl _ (T.c.fact 8 (f := .glo "NoSlot") rfl)
theorem Txt.g_Closed (T : Txt K mg) : mg "Closed" = some (.ref (He.ga K "Closed")) := T.gl _ (T.c.fact 9 (f := .glo "Closed") rfl)
theorem Txt.g_NoLetter (T : Txt K mg) : mg "NoLetter" = some (.ref (He.ga K "NoLetter")) := T.gl _ (T.c.fact 10 (f := .glo "NoLetter") rfl)
theorem Txt.g_meter_of (T : Txt K mg) : mg "meter_of" = some (.ref (He.ga K "meter_of")) := T.gl _ (T.c.fact 11 (f := .glo "meter_of") rfl)
theorem Txt.g_Source (T : Txt K mg) : mg "Source" = some (.ref (He.ga K "Source")) := T.gl _ (T.c.fact 12 (f := .glo "Source") rfl)
theorem Txt.g_versions_right (T : Txt K mg) : mg "versions_right" = some (.ref (He.ga K "versions_right")) := T.gl _ (T.c.fact 13 (f := .glo "versions_right") rfl)
theorem Txt.g_slots_right (T : Txt K mg) : mg "slots_right" = some (.ref (He.ga K "slots_right")) := T.gl _ (T.c.fact 14 (f := .glo "slots_right") rfl)
theorem Txt.g_is_history (T : Txt K mg) : mg "is_history" = some (.ref (He.ga K "is_history")) := T.gl _ (T.c.fact 15 (f := .glo "is_history") rfl)
theorem Txt.g_is_read (T : Txt K mg) : mg "is_read" = some (.ref (He.ga K "is_read")) := T.gl _ (T.c.fact 16 (f := .glo "is_read") rfl)
theorem Txt.g_is_closed (T : Txt K mg) : mg "is_closed" = some (.ref (He.ga K "is_closed")) := T.gl _ (T.c.fact 17 (f := .glo "is_closed") rfl)
theorem Txt.g_is_true (T : Txt K mg) : mg "is_true" = some (.ref (He.ga K "is_true")) := T.gl _ (T.c.fact 18 (f := .glo "is_true") rfl)
theorem Txt.g_agrees (T : Txt K mg) : mg "agrees" = some (.ref (He.ga K "agrees")) := T.gl _ (T.c.fact 19 (f := .glo "agrees") rfl)
theorem Txt.g_reads_of (T : Txt K mg) : mg "reads_of" = some (.ref (He.ga K "reads_of")) := T.gl _ (T.c.fact 20 (f := .glo "reads_of") rfl)
theorem Txt.g_reads_about (T : Txt K mg) : mg "reads_about" = some (.ref (He.ga K "reads_about")) := T.gl _ (T.c.fact 21 (f := .glo "reads_about") rfl)
theorem Txt.g_received_of (T : Txt K mg) : mg "received_of" = some (.ref (He.ga K "received_of")) := T.gl _ (T.c.fact 22 (f := .glo "received_of") rfl)
theorem Txt.g_closes_of (T : Txt K mg) : mg "closes_of" = some (.ref (He.ga K "closes_of")) := T.gl _ (T.c.fact 23 (f := .glo "closes_of") rfl)
theorem Txt.g_offsets_of (T : Txt K mg) : mg "offsets_of" = some (.ref (He.ga K "offsets_of")) := T.gl _ (T.c.fact 24 (f := .glo "offsets_of") rfl)
theorem Txt.g_limits_of (T : Txt K mg) : mg "limits_of" = some (.ref (He.ga K "limits_of")) := T.gl _ (T.c.fact 25 (f := .glo "limits_of") rfl)
theorem Txt.g_slots_within (T : Txt K mg) : mg "slots_within" = some (.ref (He.ga K "slots_within")) := T.gl _ (T.c.fact 26 (f := .glo "slots_within") rfl)
theorem Txt.g_hidden_in (T : Txt K mg) : mg "hidden_in" = some (.ref (He.ga K "hidden_in")) := T.gl _ (T.c.fact 27 (f := .glo "hidden_in") rfl)
theorem Txt.g_reads_right (T : Txt K mg) : mg "reads_right" = some (.ref (He.ga K "reads_right")) := T.gl _ (T.c.fact 28 (f := .glo "reads_right") rfl)
theorem Txt.g_closes_right (T : Txt K mg) : mg "closes_right" = some (.ref (He.ga K "closes_right")) := T.gl _ (T.c.fact 29 (f := .glo "closes_right") rfl)
theorem Txt.g_stamps_right (T : Txt K mg) : mg "stamps_right" = some (.ref (He.ga K "stamps_right")) := T.gl _ (T.c.fact 30 (f := .glo "stamps_right") rfl)
theorem Txt.g_meter_possible (T : Txt K mg) : mg "meter_possible" = some (.ref (He.ga K "meter_possible")) := T.gl _ (T.c.fact 31 (f := .glo "meter_possible") rfl)
theorem Txt.g_is_possible (T : Txt K mg) : mg "is_possible" = some (.ref (He.ga K "is_possible")) := T.gl _ (T.c.fact 32 (f := .glo "is_possible") rfl)
theorem Txt.g__law_draws (T : Txt K mg) : mg "_law_draws" = some (.ref (He.ga K "_law_draws")) := T.gl _ (T.c.fact 33 (f := .glo "_law_draws") rfl)
theorem Txt.g__law_take (T : Txt K mg) : mg "_law_take" = some (.ref (He.ga K "_law_take")) := T.gl _ (T.c.fact 34 (f := .glo "_law_take") rfl)
theorem Txt.g__law_cell (T : Txt K mg) : mg "_law_cell" = some (.ref (He.ga K "_law_cell")) := T.gl _ (T.c.fact 35 (f := .glo "_law_cell") rfl)
theorem Txt.g__law_word (T : Txt K mg) : mg "_law_word" = some (.ref (He.ga K "_law_word")) := T.gl _ (T.c.fact 36 (f := .glo "_law_word") rfl)
theorem Txt.g__law_some_word (T : Txt K mg) : mg "_law_some_word" = some (.ref (He.ga K "_law_some_word")) := T.gl _ (T.c.fact 37 (f := .glo "_law_some_word") rfl)
theorem Txt.g__law_same (T : Txt K mg) : mg "_law_same" = some (.ref (He.ga K "_law_same")) := T.gl _ (T.c.fact 38 (f := .glo "_law_same") rfl)
theorem Txt.g__law_reading (T : Txt K mg) : mg "_law_reading" = some (.ref (He.ga K "_law_reading")) := T.gl _ (T.c.fact 39 (f := .glo "_law_reading") rfl)
theorem Txt.g__law_plan (T : Txt K mg) : mg "_law_plan" = some (.ref (He.ga K "_law_plan")) := T.gl _ (T.c.fact 40 (f := .glo "_law_plan") rfl)
theorem Txt.g__law_error_name (T : Txt K mg) : mg "_law_error_name" = some (.ref (He.ga K "_law_error_name")) := T.gl _ (T.c.fact 41 (f := .glo "_law_error_name") rfl)
theorem Txt.g__law_with (T : Txt K mg) : mg "_law_with" = some (.ref (He.ga K "_law_with")) := T.gl _ (T.c.fact 42 (f := .glo "_law_with") rfl)
theorem Txt.g__law_recorded (T : Txt K mg) : mg "_law_recorded" = some (.ref (He.ga K "_law_recorded")) := T.gl _ (T.c.fact 43 (f := .glo "_law_recorded") rfl)
theorem Txt.g__law_corrected (T : Txt K mg) : mg "_law_corrected" = some (.ref (He.ga K "_law_corrected")) := T.gl _ (T.c.fact 44 (f := .glo "_law_corrected") rfl)
theorem Txt.g__law_after (T : Txt K mg) : mg "_law_after" = some (.ref (He.ga K "_law_after")) := T.gl _ (T.c.fact 45 (f := .glo "_law_after") rfl)
theorem Txt.g__law_do (T : Txt K mg) : mg "_law_do" = some (.ref (He.ga K "_law_do")) := T.gl _ (T.c.fact 46 (f := .glo "_law_do") rfl)
theorem Txt.g__law_stamp (T : Txt K mg) : mg "_law_stamp" = some (.ref (He.ga K "_law_stamp")) := T.gl _ (T.c.fact 47 (f := .glo "_law_stamp") rfl)
theorem Txt.g__law_entry (T : Txt K mg) : mg "_law_entry" = some (.ref (He.ga K "_law_entry")) := T.gl _ (T.c.fact 48 (f := .glo "_law_entry") rfl)
theorem Txt.g__law_deed (T : Txt K mg) : mg "_law_deed" = some (.ref (He.ga K "_law_deed")) := T.gl _ (T.c.fact 49 (f := .glo "_law_deed") rfl)
theorem Txt.g__law_offset (T : Txt K mg) : mg "_law_offset" = some (.ref (He.ga K "_law_offset")) := T.gl _ (T.c.fact 50 (f := .glo "_law_offset") rfl)
theorem Txt.g__law_is_source (T : Txt K mg) : mg "_law_is_source" = some (.ref (He.ga K "_law_is_source")) := T.gl _ (T.c.fact 51 (f := .glo "_law_is_source") rfl)
theorem Txt.g__law_log (T : Txt K mg) : mg "_law_log" = some (.ref (He.ga K "_law_log")) := T.gl _ (T.c.fact 52 (f := .glo "_law_log") rfl)
theorem Txt.g__law_is_true (T : Txt K mg) : mg "_law_is_true" = some (.ref (He.ga K "_law_is_true")) := T.gl _ (T.c.fact 53 (f := .glo "_law_is_true") rfl)
theorem Txt.g__law_others (T : Txt K mg) : mg "_law_others" = some (.ref (He.ga K "_law_others")) := T.gl _ (T.c.fact 54 (f := .glo "_law_others") rfl)
theorem Txt.g__law_all_true (T : Txt K mg) : mg "_law_all_true" = some (.ref (He.ga K "_law_all_true")) := T.gl _ (T.c.fact 55 (f := .glo "_law_all_true") rfl)
theorem Txt.g_law (T : Txt K mg) : mg "law" = some (.ref (He.ga K "law")) := T.gl _ (T.c.fact 56 (f := .glo "law") rfl)
theorem Txt.f_all (T : Txt K mg) : mg "all" = none := T.fr _ (T.c.fact 57 (f := .free "all") rfl)
theorem Txt.f_sum (T : Txt K mg) : mg "sum" = none := T.fr _ (T.c.fact 58 (f := .free "sum") rfl)
theorem Txt.f_len (T : Txt K mg) : mg "len" = none := T.fr _ (T.c.fact 59 (f := .free "len") rfl)
theorem Txt.f_sorted (T : Txt K mg) : mg "sorted" = none := T.fr _ (T.c.fact 60 (f := .free "sorted") rfl)
theorem Txt.f_min (T : Txt K mg) : mg "min" = none := T.fr _ (T.c.fact 61 (f := .free "min") rfl)
theorem Txt.f_max (T : Txt K mg) : mg "max" = none := T.fr _ (T.c.fact 62 (f := .free "max") rfl)
theorem Txt.f_abs (T : Txt K mg) : mg "abs" = none := T.fr _ (T.c.fact 63 (f := .free "abs") rfl)
theorem Txt.f_enumerate (T : Txt K mg) : mg "enumerate" = none := T.fr _ (T.c.fact 64 (f := .free "enumerate") rfl)
theorem Txt.f_zip (T : Txt K mg) : mg "zip" = none := T.fr _ (T.c.fact 65 (f := .free "zip") rfl)
theorem Txt.f_tuple (T : Txt K mg) : mg "tuple" = none := T.fr _ (T.c.fact 66 (f := .free "tuple") rfl)
theorem Txt.f_list (T : Txt K mg) : mg "list" = none := T.fr _ (T.c.fact 67 (f := .free "list") rfl)
theorem Txt.f_int (T : Txt K mg) : mg "int" = none := T.fr _ (T.c.fact 68 (f := .free "int") rfl)
theorem Txt.f_range (T : Txt K mg) : mg "range" = none := T.fr _ (T.c.fact 69 (f := .free "range") rfl)
theorem Txt.f_set (T : Txt K mg) : mg "set" = none := T.fr _ (T.c.fact 70 (f := .free "set") rfl)
theorem Txt.f_isinstance (T : Txt K mg) : mg "isinstance" = none := T.fr _ (T.c.fact 71 (f := .free "isinstance") rfl)
theorem Txt.f_ValueError (T : Txt K mg) : mg "ValueError" = none := T.fr _ (T.c.fact 72 (f := .free "ValueError") rfl)
theorem Txt.c_Source (T : Txt K mg) : Cls K (He.ga K "Source") := He.cls_ok (T.c.fact 73 (f := .cls "Source") rfl)
theorem Txt.n_meter (T : Txt K mg) : NoAttr K (He.ga K "Source") "_meter" := He.noat_ok (T.c.fact 74 (f := .noat "Source" "_meter") rfl)
theorem Txt.n_offset (T : Txt K mg) : NoAttr K (He.ga K "Source") "_offset" := He.noat_ok (T.c.fact 75 (f := .noat "Source" "_offset") rfl)
theorem Txt.n_slots (T : Txt K mg) : NoAttr K (He.ga K "Source") "_slots" := He.noat_ok (T.c.fact 76 (f := .noat "Source" "_slots") rfl)
theorem Txt.n_closed_number (T : Txt K mg) : NoAttr K (He.ga K "Source") "_closed_number" := He.noat_ok (T.c.fact 77 (f := .noat "Source" "_closed_number") rfl)
theorem Txt.n_closed_stamp (T : Txt K mg) : NoAttr K (He.ga K "Source") "_closed_stamp" := He.noat_ok (T.c.fact 78 (f := .noat "Source" "_closed_stamp") rfl)
theorem Txt.n_due (T : Txt K mg) : NoAttr K (He.ga K "Source") "_due" := He.noat_ok (T.c.fact 79 (f := .noat "Source" "_due") rfl)
theorem Txt.m__make (T : Txt K mg) : Meth K (He.ga K "Source") "_make" (He.ma K (He.ga K "Source") "_make") := He.meth_ok (T.c.fact 80 (f := .meth "Source" "_make") rfl)
theorem Txt.m__is_value (T : Txt K mg) : Meth K (He.ga K "Source") "_is_value" (He.ma K (He.ga K "Source") "_is_value") := He.meth_ok (T.c.fact 81 (f := .meth "Source" "_is_value") rfl)
theorem Txt.m__need (T : Txt K mg) : Meth K (He.ga K "Source") "_need" (He.ma K (He.ga K "Source") "_need") := He.meth_ok (T.c.fact 82 (f := .meth "Source" "_need") rfl)
theorem Txt.m_record (T : Txt K mg) : Meth K (He.ga K "Source") "record" (He.ma K (He.ga K "Source") "record") := He.meth_ok (T.c.fact 83 (f := .meth "Source" "record") rfl)
theorem Txt.m__need_open (T : Txt K mg) : Meth K (He.ga K "Source") "_need_open" (He.ma K (He.ga K "Source") "_need_open") := He.meth_ok (T.c.fact 84 (f := .meth "Source" "_need_open") rfl)
theorem Txt.m__add (T : Txt K mg) : Meth K (He.ga K "Source") "_add" (He.ma K (He.ga K "Source") "_add") := He.meth_ok (T.c.fact 85 (f := .meth "Source" "_add") rfl)
theorem Txt.m_correct (T : Txt K mg) : Meth K (He.ga K "Source") "correct" (He.ma K (He.ga K "Source") "correct") := He.meth_ok (T.c.fact 86 (f := .meth "Source" "correct") rfl)
theorem Txt.m_take_back (T : Txt K mg) : Meth K (He.ga K "Source") "take_back" (He.ma K (He.ga K "Source") "take_back") := He.meth_ok (T.c.fact 87 (f := .meth "Source" "take_back") rfl)
theorem Txt.m_close (T : Txt K mg) : Meth K (He.ga K "Source") "close" (He.ma K (He.ga K "Source") "close") := He.meth_ok (T.c.fact 88 (f := .meth "Source" "close") rfl)
theorem Txt.m_check (T : Txt K mg) : Meth K (He.ga K "Source") "check" (He.ma K (He.ga K "Source") "check") := He.meth_ok (T.c.fact 89 (f := .meth "Source" "check") rfl)
theorem Txt.m_log (T : Txt K mg) : Meth K (He.ga K "Source") "log" (He.ma K (He.ga K "Source") "log") := He.meth_ok (T.c.fact 90 (f := .meth "Source" "log") rfl)
theorem Txt.m_due (T : Txt K mg) : Meth K (He.ga K "Source") "due" (He.ma K (He.ga K "Source") "due") := He.meth_ok (T.c.fact 91 (f := .meth "Source" "due") rfl)
theorem Txt.m_acknowledge (T : Txt K mg) : Meth K (He.ga K "Source") "acknowledge" (He.ma K (He.ga K "Source") "acknowledge") := He.meth_ok (T.c.fact 92 (f := .meth "Source" "acknowledge") rfl)
theorem Txt.k_Source (T : Txt K mg) : Mk K (He.ga K "Source") (He.ma K (He.ga K "Source") "__init__") := He.mkr_ok (T.c.fact 93 (f := .mkr "Source") rfl)
theorem Txt.x_InvalidEntry (T : Txt K mg) : (He.Fa.exc "InvalidEntry").ok K = true := T.c.fact 94 (f := .exc "InvalidEntry") rfl
theorem Txt.e_InvalidEntry (T : Txt K mg) : PySem.W.exmOne K (.ref (He.ga K "InvalidEntry")) (.ref (He.ga K "GatherError")) = some true := He.exm_ok (T.c.fact 95 (f := .exm "InvalidEntry" "GatherError" true) rfl)
theorem Txt.x_NoSlot (T : Txt K mg) : (He.Fa.exc "NoSlot").ok K = true := T.c.fact 96 (f := .exc "NoSlot") rfl
theorem Txt.e_NoSlot (T : Txt K mg) : PySem.W.exmOne K (.ref (He.ga K "NoSlot")) (.ref (He.ga K "GatherError")) = some true := He.exm_ok (T.c.fact 97 (f := .exm "NoSlot" "GatherError" true) rfl)
theorem Txt.x_Closed (T : Txt K mg) : (He.Fa.exc "Closed").ok K = true := T.c.fact 98 (f := .exc "Closed") rfl
theorem Txt.e_Closed (T : Txt K mg) : PySem.W.exmOne K (.ref (He.ga K "Closed")) (.ref (He.ga K "GatherError")) = some true := He.exm_ok (T.c.fact 99 (f := .exm "Closed" "GatherError" true) rfl)
theorem Txt.kp_GatherError (T : Txt K mg) : PySem.W.keepIn K (.ref (He.ga K "GatherError")) = true := T.c.fact 100 (f := .keep "GatherError") rfl
theorem Txt.F_meter_of (T : Txt K mg) : ∃ fd, FnP K "meter_of" "meter_of" s_meter_of (He.ga K "meter_of") fd := T.c.def_ 0 (d := d_meter_of) rfl
theorem Txt.F_versions_right (T : Txt K mg) : ∃ fd, FnP K "versions_right" "versions_right" s_versions_right (He.ga K "versions_right") fd := T.c.def_ 1 (d := d_versions_right) rfl
theorem Txt.F_slots_right (T : Txt K mg) : ∃ fd, FnP K "slots_right" "slots_right" s_slots_right (He.ga K "slots_right") fd := T.c.def_ 2 (d := d_slots_right) rfl
theorem Txt.F_is_history (T : Txt K mg) : ∃ fd, FnP K "is_history" "is_history" s_is_history (He.ga K "is_history") fd := T.c.def_ 3 (d := d_is_history) rfl
theorem Txt.F_is_read (T : Txt K mg) : ∃ fd, FnP K "is_read" "is_read" s_is_read (He.ga K "is_read") fd := T.c.def_ 4 (d := d_is_read) rfl
theorem Txt.F_is_closed (T : Txt K mg) : ∃ fd, FnP K "is_closed" "is_closed" s_is_closed (He.ga K "is_closed") fd := T.c.def_ 5 (d := d_is_closed) rfl
theorem Txt.F_is_true (T : Txt K mg) : ∃ fd, FnP K "is_true" "is_true" s_is_true (He.ga K "is_true") fd := T.c.def_ 6 (d := d_is_true) rfl
theorem Txt.F_agrees (T : Txt K mg) : ∃ fd, FnP K "agrees" "agrees" s_agrees (He.ga K "agrees") fd := T.c.def_ 7 (d := d_agrees) rfl
theorem Txt.F_reads_of (T : Txt K mg) : ∃ fd, FnP K "reads_of" "reads_of" s_reads_of (He.ga K "reads_of") fd := T.c.def_ 8 (d := d_reads_of) rfl
theorem Txt.F_reads_about (T : Txt K mg) : ∃ fd, FnP K "reads_about" "reads_about" s_reads_about (He.ga K "reads_about") fd := T.c.def_ 9 (d := d_reads_about) rfl
theorem Txt.F_received_of (T : Txt K mg) : ∃ fd, FnP K "received_of" "received_of" s_received_of (He.ga K "received_of") fd := T.c.def_ 10 (d := d_received_of) rfl
theorem Txt.F_closes_of (T : Txt K mg) : ∃ fd, FnP K "closes_of" "closes_of" s_closes_of (He.ga K "closes_of") fd := T.c.def_ 11 (d := d_closes_of) rfl
theorem Txt.F_offsets_of (T : Txt K mg) : ∃ fd, FnP K "offsets_of" "offsets_of" s_offsets_of (He.ga K "offsets_of") fd := T.c.def_ 12 (d := d_offsets_of) rfl
theorem Txt.F_limits_of (T : Txt K mg) : ∃ fd, FnP K "limits_of" "limits_of" s_limits_of (He.ga K "limits_of") fd := T.c.def_ 13 (d := d_limits_of) rfl
theorem Txt.F_slots_within (T : Txt K mg) : ∃ fd, FnP K "slots_within" "slots_within" s_slots_within (He.ga K "slots_within") fd := T.c.def_ 14 (d := d_slots_within) rfl
theorem Txt.F_hidden_in (T : Txt K mg) : ∃ fd, FnP K "hidden_in" "hidden_in" s_hidden_in (He.ga K "hidden_in") fd := T.c.def_ 15 (d := d_hidden_in) rfl
theorem Txt.F_reads_right (T : Txt K mg) : ∃ fd, FnP K "reads_right" "reads_right" s_reads_right (He.ga K "reads_right") fd := T.c.def_ 16 (d := d_reads_right) rfl
theorem Txt.F_closes_right (T : Txt K mg) : ∃ fd, FnP K "closes_right" "closes_right" s_closes_right (He.ga K "closes_right") fd := T.c.def_ 17 (d := d_closes_right) rfl
theorem Txt.F_stamps_right (T : Txt K mg) : ∃ fd, FnP K "stamps_right" "stamps_right" s_stamps_right (He.ga K "stamps_right") fd := T.c.def_ 18 (d := d_stamps_right) rfl
theorem Txt.F_meter_possible (T : Txt K mg) : ∃ fd, FnP K "meter_possible" "meter_possible" s_meter_possible (He.ga K "meter_possible") fd := T.c.def_ 19 (d := d_meter_possible) rfl
theorem Txt.F_is_possible (T : Txt K mg) : ∃ fd, FnP K "is_possible" "is_possible" s_is_possible (He.ga K "is_possible") fd := T.c.def_ 20 (d := d_is_possible) rfl
theorem Txt.F__law_draws (T : Txt K mg) : ∃ fd, FnP K "_law_draws" "_law_draws" s__law_draws (He.ga K "_law_draws") fd := T.c.def_ 21 (d := d__law_draws) rfl
theorem Txt.F__law_take (T : Txt K mg) : ∃ fd, FnP K "_law_take" "_law_take" s__law_take (He.ga K "_law_take") fd := T.c.def_ 22 (d := d__law_take) rfl
theorem Txt.F__law_cell (T : Txt K mg) : ∃ fd, FnP K "_law_cell" "_law_cell" s__law_cell (He.ga K "_law_cell") fd := T.c.def_ 23 (d := d__law_cell) rfl
theorem Txt.F__law_word (T : Txt K mg) : ∃ fd, FnP K "_law_word" "_law_word" s__law_word (He.ga K "_law_word") fd := T.c.def_ 24 (d := d__law_word) rfl
theorem Txt.F__law_some_word (T : Txt K mg) : ∃ fd, FnP K "_law_some_word" "_law_some_word" s__law_some_word (He.ga K "_law_some_word") fd := T.c.def_ 25 (d := d__law_some_word) rfl
theorem Txt.F__law_reading (T : Txt K mg) : ∃ fd, FnP K "_law_reading" "_law_reading" s__law_reading (He.ga K "_law_reading") fd := T.c.def_ 26 (d := d__law_reading) rfl
theorem Txt.F__law_plan (T : Txt K mg) : ∃ fd, FnP K "_law_plan" "_law_plan" s__law_plan (He.ga K "_law_plan") fd := T.c.def_ 27 (d := d__law_plan) rfl
theorem Txt.F__law_error_name (T : Txt K mg) : ∃ fd, FnP K "_law_error_name" "_law_error_name" s__law_error_name (He.ga K "_law_error_name") fd := T.c.def_ 28 (d := d__law_error_name) rfl
theorem Txt.F__law_with (T : Txt K mg) : ∃ fd, FnP K "_law_with" "_law_with" s__law_with (He.ga K "_law_with") fd := T.c.def_ 29 (d := d__law_with) rfl
theorem Txt.F__law_recorded (T : Txt K mg) : ∃ fd, FnP K "_law_recorded" "_law_recorded" s__law_recorded (He.ga K "_law_recorded") fd := T.c.def_ 30 (d := d__law_recorded) rfl
theorem Txt.F__law_corrected (T : Txt K mg) : ∃ fd, FnP K "_law_corrected" "_law_corrected" s__law_corrected (He.ga K "_law_corrected") fd := T.c.def_ 31 (d := d__law_corrected) rfl
theorem Txt.F__law_after (T : Txt K mg) : ∃ fd, FnP K "_law_after" "_law_after" s__law_after (He.ga K "_law_after") fd := T.c.def_ 32 (d := d__law_after) rfl
theorem Txt.F__law_do (T : Txt K mg) : ∃ fd, FnP K "_law_do" "_law_do" s__law_do (He.ga K "_law_do") fd := T.c.def_ 33 (d := d__law_do) rfl
theorem Txt.F__law_stamp (T : Txt K mg) : ∃ fd, FnP K "_law_stamp" "_law_stamp" s__law_stamp (He.ga K "_law_stamp") fd := T.c.def_ 34 (d := d__law_stamp) rfl
theorem Txt.F__law_entry (T : Txt K mg) : ∃ fd, FnP K "_law_entry" "_law_entry" s__law_entry (He.ga K "_law_entry") fd := T.c.def_ 35 (d := d__law_entry) rfl
theorem Txt.F__law_deed (T : Txt K mg) : ∃ fd, FnP K "_law_deed" "_law_deed" s__law_deed (He.ga K "_law_deed") fd := T.c.def_ 36 (d := d__law_deed) rfl
theorem Txt.F__law_offset (T : Txt K mg) : ∃ fd, FnP K "_law_offset" "_law_offset" s__law_offset (He.ga K "_law_offset") fd := T.c.def_ 37 (d := d__law_offset) rfl
theorem Txt.F__law_log (T : Txt K mg) : ∃ fd, FnP K "_law_log" "_law_log" s__law_log (He.ga K "_law_log") fd := T.c.def_ 38 (d := d__law_log) rfl
theorem Txt.F__law_is_true (T : Txt K mg) : ∃ fd, FnP K "_law_is_true" "_law_is_true" s__law_is_true (He.ga K "_law_is_true") fd := T.c.def_ 39 (d := d__law_is_true) rfl
theorem Txt.F__law_others (T : Txt K mg) : ∃ fd, FnP K "_law_others" "_law_others" s__law_others (He.ga K "_law_others") fd := T.c.def_ 40 (d := d__law_others) rfl
theorem Txt.F__law_all_true (T : Txt K mg) : ∃ fd, FnP K "_law_all_true" "_law_all_true" s__law_all_true (He.ga K "_law_all_true") fd := T.c.def_ 41 (d := d__law_all_true) rfl
theorem Txt.F_law (T : Txt K mg) : ∃ fd, FnP K "law" "law" s_law (He.ga K "law") fd := T.c.def_ 42 (d := d_law) rfl
theorem Txt.F_Source___init__ (T : Txt K mg) : ∃ fd, FnP K "__init__" "Source.__init__" s_Source___init__ (He.ma K (He.ga K "Source") "__init__") fd := T.c.def_ 43 (d := d_Source___init__) rfl
theorem Txt.F_Source__make (T : Txt K mg) : ∃ fd, FnP K "_make" "Source._make" s_Source__make (He.ma K (He.ga K "Source") "_make") fd := T.c.def_ 44 (d := d_Source__make) rfl
theorem Txt.F_Source__is_value (T : Txt K mg) : ∃ fd, FnP K "_is_value" "Source._is_value" s_Source__is_value (He.ma K (He.ga K "Source") "_is_value") fd := T.c.def_ 45 (d := d_Source__is_value) rfl
theorem Txt.F_Source__need (T : Txt K mg) : ∃ fd, FnP K "_need" "Source._need" s_Source__need (He.ma K (He.ga K "Source") "_need") fd := T.c.def_ 46 (d := d_Source__need) rfl
theorem Txt.F_Source_record (T : Txt K mg) : ∃ fd, FnP K "record" "Source.record" s_Source_record (He.ma K (He.ga K "Source") "record") fd := T.c.def_ 47 (d := d_Source_record) rfl
theorem Txt.F_Source__need_open (T : Txt K mg) : ∃ fd, FnP K "_need_open" "Source._need_open" s_Source__need_open (He.ma K (He.ga K "Source") "_need_open") fd := T.c.def_ 48 (d := d_Source__need_open) rfl
theorem Txt.F_Source__add (T : Txt K mg) : ∃ fd, FnP K "_add" "Source._add" s_Source__add (He.ma K (He.ga K "Source") "_add") fd := T.c.def_ 49 (d := d_Source__add) rfl
theorem Txt.F_Source_correct (T : Txt K mg) : ∃ fd, FnP K "correct" "Source.correct" s_Source_correct (He.ma K (He.ga K "Source") "correct") fd := T.c.def_ 50 (d := d_Source_correct) rfl
theorem Txt.F_Source_take_back (T : Txt K mg) : ∃ fd, FnP K "take_back" "Source.take_back" s_Source_take_back (He.ma K (He.ga K "Source") "take_back") fd := T.c.def_ 51 (d := d_Source_take_back) rfl
theorem Txt.F_Source_close (T : Txt K mg) : ∃ fd, FnP K "close" "Source.close" s_Source_close (He.ma K (He.ga K "Source") "close") fd := T.c.def_ 52 (d := d_Source_close) rfl
theorem Txt.F_Source_check (T : Txt K mg) : ∃ fd, FnP K "check" "Source.check" s_Source_check (He.ma K (He.ga K "Source") "check") fd := T.c.def_ 53 (d := d_Source_check) rfl
theorem Txt.F_Source_log (T : Txt K mg) : ∃ fd, FnP K "log" "Source.log" s_Source_log (He.ma K (He.ga K "Source") "log") fd := T.c.def_ 54 (d := d_Source_log) rfl
theorem Txt.F_Source_due (T : Txt K mg) : ∃ fd, FnP K "due" "Source.due" s_Source_due (He.ma K (He.ga K "Source") "due") fd := T.c.def_ 55 (d := d_Source_due) rfl
theorem Txt.F_Source_acknowledge (T : Txt K mg) : ∃ fd, FnP K "acknowledge" "Source.acknowledge" s_Source_acknowledge (He.ma K (He.ga K "Source") "acknowledge") fd := T.c.def_ 56 (d := d_Source_acknowledge) rfl
end
end TW
/-! K28D1 -/
/-! K28: readings told by data alone. A value stands for a datum; a slot holds an entry; what a piece of code does is told over the entries, with no heap in sight. -/
namespace TW
open PySem PySem.Spec PyProof.Rows L2
abbrev Dt := PyData
mutual
/-- the value v is the datum d: scalars and tuples -/
inductive At (H : Hp) : V → Dt → Prop
  | non : At H .non .none
  | bl (b : Bool) : At H (.bl b) (.bool b)
  | int (i : Int) : At H (.int i) (.int i)
  | str (x : Str) : At H (.str x) (.str x)
  | tup {a : Addr} {xs : List V} {ds : List Dt} : H a = some (.tup xs) → AtS H xs ds → At H (.ref a) (.tuple ds)
inductive AtS (H : Hp) : List V → List Dt → Prop
  | nil : AtS H [] []
  | cons {v : V} {vs : List V} {d : Dt} {ds : List Dt} : At H v d → AtS H vs ds → AtS H (v :: vs) (d :: ds)
end
/-- all tuples stay -/
def KT (H H' : Hp) : Prop := ∀ a xs, H a = some (.tup xs) → H' a = some (.tup xs)
theorem At.keep {H H' : Hp} (k : KT H H') {v : V} {d : Dt} (h : At H v d) : At H' v d :=
  At.rec (motive_1 := fun v d _ => At H' v d) (motive_2 := fun vs ds _ => AtS H' vs ds) .non .bl .int .str (fun e _ ih => .tup (k _ _ e) ih) .nil (fun _ _ a b => .cons a b) h
theorem AtS.keep {H H' : Hp} (k : KT H H') {vs : List V} {ds : List Dt} (h : AtS H vs ds) : AtS H' vs ds :=
  AtS.rec (motive_1 := fun v d _ => At H' v d) (motive_2 := fun vs ds _ => AtS H' vs ds) .non .bl .int .str (fun e _ ih => .tup (k _ _ e) ih) .nil (fun _ _ a b => .cons a b) h
theorem At.of_int {H : Hp} {v : V} {i : Int} (h : At H v (.int i)) : v = .int i := by cases h; rfl
theorem At.of_str {H : Hp} {v : V} {i : Str} (h : At H v (.str i)) : v = .str i := by cases h; rfl
theorem At.of_bl {H : Hp} {v : V} {i : Bool} (h : At H v (.bool i)) : v = .bl i := by cases h; rfl
theorem At.of_non {H : Hp} {v : V} (h : At H v .none) : v = .non := by cases h; rfl
theorem At.of_tup {H : Hp} {v : V} {ds : List Dt} (h : At H v (.tuple ds)) : ∃ a xs, v = .ref a ∧ H a = some (.tup xs) ∧ AtS H xs ds := by
  cases h with
  | tup e r => exact ⟨_, _, rfl, e, r⟩
theorem AtS.len {H : Hp} : ∀ {vs : List V} {ds : List Dt}, AtS H vs ds → vs.length = ds.length
  | _, _, .nil => rfl
  | _, _, .cons _ r => congrArg Nat.succ r.len
theorem AtS.get {H : Hp} : ∀ {vs : List V} {ds : List Dt} {i : Nat} {d : Dt}, AtS H vs ds → ds[i]? = some d → ∃ v, vs[i]? = some v ∧ At H v d
  | _, _, i, d, .nil, e => by simp at e
  | _, _, 0, d, .cons a _, e => by
    obtain rfl := Option.some.inj e
    exact ⟨_, rfl, a⟩
  | _, _, i + 1, d, .cons _ r, e => AtS.get (i := i) r e
theorem AtS.get' {H : Hp} : ∀ {vs : List V} {ds : List Dt} {i : Nat} {v : V}, AtS H vs ds → vs[i]? = some v → ∃ d, ds[i]? = some d ∧ At H v d
  | _, _, i, d, .nil, e => by simp at e
  | _, _, 0, d, .cons a _, e => by
    obtain rfl := Option.some.inj e
    exact ⟨_, rfl, a⟩
  | _, _, i + 1, d, .cons _ r, e => AtS.get' (i := i) r e
theorem AtS.app {H : Hp} : ∀ {vs ws : List V} {ds es : List Dt}, AtS H vs ds → AtS H ws es → AtS H (vs ++ ws) (ds ++ es)
  | _, _, _, _, .nil, s => s
  | _, _, _, _, .cons a r, s => .cons a (AtS.app r s)
theorem AtS.take {H : Hp} : ∀ {vs : List V} {ds : List Dt} (n : Nat), AtS H vs ds → AtS H (vs.take n) (ds.take n)
  | _, _, 0, _ => .nil
  | _, _, _ + 1, .nil => .nil
  | _, _, n + 1, .cons a r => .cons a (AtS.take n r)
theorem AtS.drop {H : Hp} : ∀ {vs : List V} {ds : List Dt} (n : Nat), AtS H vs ds → AtS H (vs.drop n) (ds.drop n)
  | _, _, 0, r => r
  | _, _, _ + 1, .nil => .nil
  | _, _, n + 1, .cons _ r => AtS.drop n r
theorem AtS.ints {H : Hp} : ∀ {vs : List V} {ns : List Int}, AtS H vs (ns.map .int) → vs = ns.map V.int
  | _, [], .nil => rfl
  | _, n :: ns, .cons a r => by rw [a.of_int, AtS.ints r]; rfl
theorem AtS.bls {H : Hp} : ∀ {vs : List V} {ns : List Bool}, AtS H vs (ns.map .bool) → vs = ns.map V.bl
  | _, [], .nil => rfl
  | _, n :: ns, .cons a r => by rw [a.of_bl, AtS.bls r]; rfl
theorem AtS.strs {H : Hp} : ∀ {vs : List V} {ns : List Str}, AtS H vs (ns.map .str) → vs = ns.map V.str
  | _, [], .nil => rfl
  | _, n :: ns, .cons a r => by rw [a.of_str, AtS.strs r]; rfl
theorem atS_ints {H : Hp} : ∀ ns : List Int, AtS H (ns.map V.int) (ns.map .int)
  | [] => .nil
  | n :: ns => .cons (.int n) (atS_ints ns)
theorem At.dp {K : PySem.W.Frag} {H : Hp} {v : V} {d : Dt} (h : At H v d) : Dp K H v d :=
  At.rec (motive_1 := fun v d _ => Dp K H v d) (motive_2 := fun vs ds _ => DpAll K H vs ds) .non .bl .int .str (fun e _ ih => .tup (SqT.of e) ih) .nil (fun _ _ a b => .cons a b) h
theorem AtS.dp {K : PySem.W.Frag} {H : Hp} {vs : List V} {ds : List Dt} (h : AtS H vs ds) : DpAll K H vs ds :=
  AtS.rec (motive_1 := fun v d _ => Dp K H v d) (motive_2 := fun vs ds _ => DpAll K H vs ds) .non .bl .int .str (fun e _ ih => .tup (SqT.of e) ih) .nil (fun _ _ a b => .cons a b) h
/-! ### entries -/
/-- what a slot holds: a datum, a list or a dict of data that stands still, or a value as it is -/
inductive En1 where
  | dat (d : Dt) | lst (ds : List Dt) | dic (kvs : List (Int × Dt)) | raw (v : V)
def DicS (H : Hp) : List (Key × V) → List (Int × Dt) → Prop := Paired fun p q => p.1 = .inl q.1 ∧ At H p.2 q.2
def Is (B : Addr → Prop) (H : Hp) (v : V) : En1 → Prop
  | .dat d => At H v d
  | .lst ds => ∃ a xs, v = .ref a ∧ ¬ B a ∧ H a = some (.lst xs) ∧ AtS H xs ds
  | .dic kvs => ∃ a ks, v = .ref a ∧ ¬ B a ∧ H a = some (.dK ks) ∧ DicS H ks kvs
  | .raw u => v = u
theorem Is.d {B : Addr → Prop} {H : Hp} {v : V} {d : Dt} (h : At H v d) : Is B H v (.dat d) := h
theorem Is.l {B : Addr → Prop} {H : Hp} {a : Addr} {xs : List V} {ds : List Dt} (n : ¬ B a) (h : H a = some (.lst xs)) (r : AtS H xs ds) : Is B H (.ref a) (.lst ds) := ⟨a, xs, rfl, n, h, r⟩
theorem DicS.keep {H H' : Hp} (k : KT H H') {ks : List (Key × V)} {kvs : List (Int × Dt)} (h : DicS H ks kvs) : DicS H' ks kvs := Paired.mapP h fun _ _ x => ⟨x.1, x.2.keep k⟩
/-- a mode: the addresses that may change (tracked, no tuples), what is kept of them -/
structure Md where
  B : Addr → Prop
  J : Hp → Prop
  hb : ∀ {H : Hp} {a : Addr}, J H → B a → ∃ o, H a = some o ∧ ∀ xs, o ≠ .tup xs
  he : ∀ {H H' : Hp}, J H → KT H H' → (∀ a o, B a → H a = some o → H' a = some o) → J H'
/-- nothing may change -/
def M0 : Md := ⟨fun _ => False, fun _ => True, fun _ h => h.elim, fun _ _ _ => trivial⟩
def Md.le (M : Md) (H H' : Hp) : Prop := (∀ a o, ¬ M.B a → H a = some o → H' a = some o) ∧ M.J H'
section
variable {M : Md} {H H' H2 : Hp} {v : V} {e : En1} {σ : L2.St}
theorem Md.le.trans (a : M.le H H') (b : M.le H' H2) : M.le H H2 := ⟨fun p o n h => b.1 p o n (a.1 p o n h), b.2⟩
theorem Md.refl (j : M.J H) : M.le H H := ⟨fun _ _ _ h => h, j⟩
theorem Md.same (j : M.J H) (s : Same H H') : M.le H H' := ⟨fun a o _ h => s a o h, M.he j (fun a xs h => s a _ h) fun a o _ h => s a o h⟩
theorem same_new {p : Addr} {o : HO} (h : H p = none) : Same H (upd H p o) := fun a u e => by rw [upd_ne (ne_of_none e h)]; exact e
theorem Md.new (j : M.J H) {p : Addr} {o : HO} (h : H p = none) : M.le H (upd H p o) := Md.same j (same_new h)
theorem Md.le.kt (j : M.J H) (l : M.le H H') : KT H H' := fun a xs h => l.1 a _ (fun b => by
  obtain ⟨o, e, n⟩ := M.hb j b
  rw [h] at e
  exact n xs (Option.some.inj e).symm) h
theorem Md.le0 (l : M0.le H H') : Same H H' := fun a o h => l.1 a o (fun z => z) h
theorem le0_of (s : Same H H') : M0.le H H' := ⟨fun a o _ h => s a o h, trivial⟩
theorem Same.kt (s : Same H H') : KT H H' := fun a xs h => s a _ h
theorem Md.fresh (j : M.J H) {p : Addr} (h : H p = none) : ¬ M.B p := fun b => by
  obtain ⟨o, e, _⟩ := M.hb j b
  rw [h] at e; cases e
theorem Is.le (j : M.J H) (l : M.le H H') (h : Is M.B H v e) : Is M.B H' v e := by
  cases e with
  | dat d => exact At.keep (l.kt j) h
  | lst ds => obtain ⟨a, xs, e, n, ha, r⟩ := h; exact ⟨a, xs, e, n, l.1 a _ n ha, r.keep (l.kt j)⟩
  | dic kvs => obtain ⟨a, xs, e, n, ha, r⟩ := h; exact ⟨a, xs, e, n, l.1 a _ n ha, r.keep (l.kt j)⟩
  | raw u => exact h
theorem Is.pure (h : Is M.B H v e) : Is M0.B H v e := by
  cases e with
  | dat d => exact h
  | lst ds => obtain ⟨a, xs, e, n, ha, r⟩ := h; exact ⟨a, xs, e, fun z => z, ha, r⟩
  | dic kvs => obtain ⟨a, xs, e, n, ha, r⟩ := h; exact ⟨a, xs, e, fun z => z, ha, r⟩
  | raw u => exact h
end
abbrev Ro := List (Option En1)
abbrev EnF (B : Addr → Prop) (H : Hp) (e : Option En1) (v : Option V) : Prop := ∀ x, e = some x → ∃ u, v = some u ∧ Is B H u x
/-- the slots hold the entries -/
def En (M : Md) (H : Hp) (σ : L2.St) (ρ : Ro) : Prop := Paired (EnF M.B H) ρ σ
def wipeR (ρ : Ro) : List Nat → Ro
  | [] => ρ
  | v :: vs => (wipeR ρ vs).set v none
section
variable {M : Md} {H H' : Hp} {v : V} {e : En1} {σ : L2.St} {ρ : Ro}
theorem paired_set {α β : Type} {F : α → β → Prop} {x : α} {y : β} (q : F x y) : ∀ {l : List α} {m : List β} (i : Nat), Paired F l m → Paired F (l.set i x) (m.set i y)
  | _, _, _, .nil => .nil
  | _, _, 0, .cons _ r => .cons q r
  | _, _, i + 1, .cons a r => .cons a (paired_set q i r)
theorem En.le (j : M.J H) (l : M.le H H') (h : En M H σ ρ) : En M H' σ ρ := Paired.mapP h fun x y f z ez => by
  obtain ⟨u, a, b⟩ := f z ez
  exact ⟨u, a, b.le j l⟩
theorem En.get (h : En M H σ ρ) {i : Nat} (q : ρ[i]? = some (some e)) : ∃ v, σ[i]? = some (some v) ∧ Is M.B H v e := by
  obtain ⟨o, a, b⟩ := paired_get h q
  obtain ⟨u, rfl, c⟩ := b e rfl
  exact ⟨u, a, c⟩
theorem En.set (h : En M H σ ρ) (i : Nat) (q : Is M.B H v e) : En M H (σ.set i (some v)) (ρ.set i (some e)) := paired_set (fun x ex => by cases ex; exact ⟨v, rfl, q⟩) i h
theorem En.unset (h : En M H σ ρ) (i : Nat) {o : Option V} : En M H (σ.set i o) (ρ.set i none) := paired_set (fun x ex => by cases ex) i h
theorem En.wipe (h : En M H σ ρ) : ∀ vs : List Nat, En M H (L2.wipe σ vs) (wipeR ρ vs)
  | [] => h
  | v :: vs => (En.wipe h vs).unset v
end
/-! ### readings over entries -/
def We (M : Md) (te : TE) (ρ : Ro) (K : En1 → Prop) : Prop := ∀ σ H, M.J H → En M H σ ρ → ∀ Q : VK, (∀ v H2 e, M.le H H2 → Is M.B H2 v e → K e → Q v H2) → te σ H Q
def Wt (M : Md) (tt : TT) (ρ : Ro) (K : Bool → Prop) : Prop := ∀ σ H, M.J H → En M H σ ρ → ∀ Q : Bool → Hp → Prop, (∀ b H2, M.le H H2 → K b → Q b H2) → tt σ H Q
abbrev IsS (B : Addr → Prop) (H : Hp) (vs : List V) (es : List En1) : Prop := Paired (fun v e => Is B H v e) vs es
def Wa (M : Md) (ta : TA) (ρ : Ro) (K : List En1 → Prop) : Prop := ∀ σ H, M.J H → En M H σ ρ → ∀ Q : List V → Hp → Prop, (∀ vs H2 es, M.le H H2 → IsS M.B H2 vs es → K es → Q vs H2) → ta σ H Q
def Wo (M : Md) (to : TO) (ρ : Ro) (K : Option Int → Prop) : Prop := ∀ σ H, M.J H → En M H σ ρ → ∀ Q : Option Int → Hp → Prop, (∀ o H2, M.le H H2 → K o → Q o H2) → to σ H Q
/-- an operator's rule over entries -/
def Rr (M : Md) (r : R2) (x y : En1) (K : En1 → Prop) : Prop := ∀ v u H, M.J H → Is M.B H v x → Is M.B H u y → ∀ Q : VK, (∀ w H2 e, M.le H H2 → Is M.B H2 w e → K e → Q w H2) → r v u H Q
def Rc (M : Md) (r : List V → Hp → VK → Prop) (es : List En1) (K : En1 → Prop) : Prop := ∀ vs H, M.J H → IsS M.B H vs es → ∀ Q : VK, (∀ w H2 e, M.le H H2 → Is M.B H2 w e → K e → Q w H2) → r vs H Q
section
variable {M : Md} {ρ : Ro} {K : En1 → Prop} {ta tb tc : TE} {e : En1} {KF : PySem.W.Frag}
theorem We.imp {K' : En1 → Prop} (h : We M ta ρ K) (k : ∀ e, K e → K' e) : We M ta ρ K' := fun σ H j n Q q => h σ H j n Q fun v H2 e l i x => q v H2 e l i (k e x)
theorem Wt.imp {t : TT} {K K' : Bool → Prop} (h : Wt M t ρ K) (k : ∀ e, K e → K' e) : Wt M t ρ K' := fun σ H j n Q q => h σ H j n Q fun b H2 l x => q b H2 l (k b x)
theorem w_var {i : Nat} (h : ρ[i]? = some (some e)) (k : K e) : We M (tVar i) ρ K := fun σ H j n Q q => by
  obtain ⟨v, a, b⟩ := n.get h
  exact ⟨v, a, q v H e (Md.refl j) b k⟩
theorem w_int {i : Int} (k : K (.dat (.int i))) : We M (tC (.int i)) ρ K := fun σ H j n Q q => q _ H _ (Md.refl j) (Is.d (At.int i)) k
theorem w_str {i : Str} (k : K (.dat (.str i))) : We M (tC (.str i)) ρ K := fun σ H j n Q q => q _ H _ (Md.refl j) (Is.d (At.str i)) k
theorem w_bl {i : Bool} (k : K (.dat (.bool i))) : We M (tC (.bl i)) ρ K := fun σ H j n Q q => q _ H _ (Md.refl j) (Is.d (At.bl i)) k
theorem w_non (k : K (.dat .none)) : We M (tC .non) ρ K := fun σ H j n Q q => q _ H _ (Md.refl j) (Is.d At.non) k
theorem w_op {r : R2} (h : We M ta ρ fun x => We M tb ρ fun y => Rr M r x y K) : We M (tOp r ta tb) ρ K := fun σ H j n Q q =>
  h σ H j n _ fun v H1 x l1 i1 k1 => k1 σ H1 l1.2 (n.le j l1) _ fun u H2 y l2 i2 k2 =>
    k2 v u H2 l2.2 (i1.le l1.2 l2) i2 Q fun w H3 e l3 i3 k3 => q w H3 e ((l1.trans l2).trans l3) i3 k3
theorem r_I {g : Int → Int → Int} {i j : Int} (k : K (.dat (.int (g i j)))) : Rr M (rI0 fun i j => .int (g i j)) (.dat (.int i)) (.dat (.int j)) K := fun v u H jj a b Q q =>
  ⟨i, j, At.of_int a, At.of_int b, q _ H _ (Md.refl jj) (Is.d (At.int _)) k⟩
theorem r_B {g : Int → Int → Bool} {i j : Int} (k : K (.dat (.bool (g i j)))) : Rr M (rI0 fun i j => .bl (g i j)) (.dat (.int i)) (.dat (.int j)) K := fun v u H jj a b Q q =>
  ⟨i, j, At.of_int a, At.of_int b, q _ H _ (Md.refl jj) (Is.d (At.bl _)) k⟩
theorem r_IC {C : Int → Int → Prop} {g : Int → Int → Int} {i j : Int} (c : C i j) (k : K (.dat (.int (g i j)))) : Rr M (rI C fun i j => .int (g i j)) (.dat (.int i)) (.dat (.int j)) K := fun v u H jj a b Q q =>
  ⟨i, j, At.of_int a, At.of_int b, c, q _ H _ (Md.refl jj) (Is.d (At.int _)) k⟩
/-- a sum, a difference -/
theorem w_add (h : We M ta ρ fun x => We M tb ρ fun y => ∃ i j, x = .dat (.int i) ∧ y = .dat (.int j) ∧ K (.dat (.int (i + j)))) : We M (tOp (rI0 fun i j => .int (i + j)) ta tb) ρ K :=
  w_op (h.imp fun x a => a.imp fun y ⟨i, j, ex, ey, k⟩ => by subst ex ey; exact r_I k)
theorem w_sub (h : We M ta ρ fun x => We M tb ρ fun y => ∃ i j, x = .dat (.int i) ∧ y = .dat (.int j) ∧ K (.dat (.int (i - j)))) : We M (tOp (rI0 fun i j => .int (i - j)) ta tb) ρ K :=
  w_op (h.imp fun x a => a.imp fun y ⟨i, j, ex, ey, k⟩ => by subst ex ey; exact r_I k)
theorem w_lt (h : We M ta ρ fun x => We M tb ρ fun y => ∃ i j, x = .dat (.int i) ∧ y = .dat (.int j) ∧ K (.dat (.bool (decide (i < j))))) : We M (tOp (rI0 fun i j => .bl (decide (i < j))) ta tb) ρ K :=
  w_op (h.imp fun x a => a.imp fun y ⟨i, j, ex, ey, k⟩ => by subst ex ey; exact r_B k)
theorem w_leq (h : We M ta ρ fun x => We M tb ρ fun y => ∃ i j, x = .dat (.int i) ∧ y = .dat (.int j) ∧ K (.dat (.bool (decide (i ≤ j))))) : We M (tOp (rI0 fun i j => .bl (decide (i ≤ j))) ta tb) ρ K :=
  w_op (h.imp fun x a => a.imp fun y ⟨i, j, ex, ey, k⟩ => by subst ex ey; exact r_B k)
theorem w_gt (h : We M ta ρ fun x => We M tb ρ fun y => ∃ i j, x = .dat (.int i) ∧ y = .dat (.int j) ∧ K (.dat (.bool (decide (j < i))))) : We M (tOp (rI0 fun i j => .bl (decide (j < i))) ta tb) ρ K :=
  w_op (h.imp fun x a => a.imp fun y ⟨i, j, ex, ey, k⟩ => by subst ex ey; exact r_B k)
theorem w_ge (h : We M ta ρ fun x => We M tb ρ fun y => ∃ i j, x = .dat (.int i) ∧ y = .dat (.int j) ∧ K (.dat (.bool (decide (j ≤ i))))) : We M (tOp (rI0 fun i j => .bl (decide (j ≤ i))) ta tb) ρ K :=
  w_op (h.imp fun x a => a.imp fun y ⟨i, j, ex, ey, k⟩ => by subst ex ey; exact r_B k)
theorem w_mul (h : We M ta ρ fun x => We M tb ρ fun y => ∃ i j, x = .dat (.int i) ∧ y = .dat (.int j) ∧ CMul i j ∧ K (.dat (.int (i * j)))) : We M (tOp (rI CMul fun i j => .int (i * j)) ta tb) ρ K :=
  w_op (h.imp fun x a => a.imp fun y ⟨i, j, ex, ey, c, k⟩ => by subst ex ey; exact r_IC c k)
theorem w_div (h : We M ta ρ fun x => We M tb ρ fun y => ∃ i j, x = .dat (.int i) ∧ y = .dat (.int j) ∧ CDiv i j ∧ K (.dat (.int (i / j)))) : We M (tOp (rI CDiv fun i j => .int (i / j)) ta tb) ρ K :=
  w_op (h.imp fun x a => a.imp fun y ⟨i, j, ex, ey, c, k⟩ => by subst ex ey; exact r_IC c k)
theorem w_mod (h : We M ta ρ fun x => We M tb ρ fun y => ∃ i j, x = .dat (.int i) ∧ y = .dat (.int j) ∧ 0 < j ∧ K (.dat (.int (i % j)))) : We M (tOp (rI (fun _ j => 0 < j) fun i j => .int (i % j)) ta tb) ρ K :=
  w_op (h.imp fun x a => a.imp fun y ⟨i, j, ex, ey, c, k⟩ => by subst ex ey; exact r_IC c k)
theorem w_pow (h : We M ta ρ fun x => We M tb ρ fun y => ∃ i j, x = .dat (.int i) ∧ y = .dat (.int j) ∧ CPow i j ∧ K (.dat (.int (i ^ j.toNat)))) : We M (tOp (rI CPow fun i j => .int (i ^ j.toNat)) ta tb) ρ K :=
  w_op (h.imp fun x a => a.imp fun y ⟨i, j, ex, ey, c, k⟩ => by subst ex ey; exact r_IC c k)
theorem w_neg (h : We M ta ρ fun x => ∃ i, x = .dat (.int i) ∧ K (.dat (.int (-i)))) : We M (tUn (rU fun i => .int (-i)) ta) ρ K := fun σ H j n Q q =>
  h σ H j n _ fun v H1 x l1 i1 ⟨i, ex, k⟩ => by subst ex; exact ⟨i, At.of_int i1, q _ H1 _ l1 (Is.d (At.int _)) k⟩
/-- equality of scalars -/
def sc : Dt → Option V
  | .none => some .non
  | .bool b => some (.bl b)
  | .int i => some (.int i)
  | .str x => some (.str x)
  | _ => none
theorem At.sc {H : Hp} {v x : V} {d : Dt} (h : At H v d) (e : sc d = some x) : v = x := by cases h <;> cases e <;> rfl
theorem w_eq (h : We M ta ρ fun x => We M tb ρ fun y => ∃ d d' v v', x = .dat d ∧ y = .dat d' ∧ sc d = some v ∧ sc d' = some v' ∧ scal v v' = true ∧ K (.dat (.bool (decide (v = v'))))) : We M (tOp rEq ta tb) ρ K :=
  w_op (h.imp fun x a => a.imp fun y ⟨d, d', v, v', ex, ey, sd, sd', c, k⟩ => by
    subst ex ey
    intro u u' H j a b Q q
    rw [At.sc a sd, At.sc b sd']
    exact ⟨c, q _ H _ (Md.refl j) (Is.d (At.bl _)) k⟩)
theorem w_ne (h : We M ta ρ fun x => We M tb ρ fun y => ∃ d d' v v', x = .dat d ∧ y = .dat d' ∧ sc d = some v ∧ sc d' = some v' ∧ scal v v' = true ∧ K (.dat (.bool (!decide (v = v'))))) : We M (tOp rNe ta tb) ρ K :=
  w_op (h.imp fun x a => a.imp fun y ⟨d, d', v, v', ex, ey, sd, sd', c, k⟩ => by
    subst ex ey
    intro u u' H j a b Q q
    rw [At.sc a sd, At.sc b sd']
    exact ⟨c, q _ H _ (Md.refl j) (Is.d (At.bl _)) k⟩)
/-- is None, is not None -/
def isN : Dt → Bool
  | .none => true
  | _ => false
theorem At.isN {H : Hp} {v : V} {d : Dt} (h : At H v d) : decide (v = .non) = isN d := by cases h <;> rfl
abbrev rIsN : R2 := fun x y H Q => y = .non ∧ Q (.bl (decide (x = .non))) H
abbrev rNotN : R2 := fun x y H Q => y = .non ∧ Q (.bl (!decide (x = .non))) H
theorem w_isN (h : We M ta ρ fun x => ∃ d, x = .dat d ∧ K (.dat (.bool (isN d)))) : We M (tOp rIsN ta (tC .non)) ρ K :=
  w_op (h.imp fun x ⟨d, ex, k⟩ => w_non (by
    subst ex
    intro u u' H j a b Q q
    refine ⟨At.of_non b, ?_⟩
    rw [At.isN a]
    exact q _ H _ (Md.refl j) (Is.d (At.bl _)) k))
theorem w_notN (h : We M ta ρ fun x => ∃ d, x = .dat d ∧ K (.dat (.bool (!isN d)))) : We M (tOp rNotN ta (tC .non)) ρ K :=
  w_op (h.imp fun x ⟨d, ex, k⟩ => w_non (by
    subst ex
    intro u u' H j a b Q q
    refine ⟨At.of_non b, ?_⟩
    rw [At.isN a]
    exact q _ H _ (Md.refl j) (Is.d (At.bl _)) k))
/-- t[i], xs[i] -/
theorem atI_S {H : Hp} {vs : List V} {ds : List Dt} {i : Int} {d : Dt} (r : AtS H vs ds) (h : atI ds i = some d) : ∃ v, atI vs i = some v ∧ At H v d := by
  unfold atI at h ⊢
  rw [r.len]
  obtain ⟨j, a, b⟩ := Option.bind_eq_some_iff.mp h
  obtain ⟨v, c, e⟩ := r.get b
  exact ⟨v, by rw [a]; exact c, e⟩
theorem w_ixT (h : We M ta ρ fun x => We M tb ρ fun y => ∃ ds i d, x = .dat (.tuple ds) ∧ y = .dat (.int i) ∧ atI ds i = some d ∧ K (.dat d)) : We M (tOp (rIxT KF) ta tb) ρ K :=
  w_op (h.imp fun x a => a.imp fun y ⟨ds, i, d, ex, ey, c, k⟩ => by
    subst ex ey
    intro u u' H j a b Q q
    obtain ⟨p, xs, rfl, hp, r⟩ := At.of_tup a
    obtain ⟨v, hv, z⟩ := atI_S r c
    exact ⟨p, xs, i, v, rfl, At.of_int b, SqT.of hp, hv, q _ H _ (Md.refl j) (Is.d z) k⟩)
theorem w_ixL (h : We M ta ρ fun x => We M tb ρ fun y => ∃ ds i d, x = .lst ds ∧ y = .dat (.int i) ∧ atI ds i = some d ∧ K (.dat d)) : We M (tOp (rIxL KF) ta tb) ρ K :=
  w_op (h.imp fun x a => a.imp fun y ⟨ds, i, d, ex, ey, c, k⟩ => by
    subst ex ey
    intro u u' H j a b Q q
    obtain ⟨p, xs, rfl, _, hp, r⟩ := a
    obtain ⟨v, hv, z⟩ := atI_S r c
    exact ⟨p, xs, i, v, rfl, At.of_int b, SqL.of hp, hv, q _ H _ (Md.refl j) (Is.d z) k⟩)
/-! arguments, displays -/
theorem a_nil {K : List En1 → Prop} (k : K []) : Wa M tNil ρ K := fun σ H j n Q q => q [] H [] (Md.refl j) .nil k
theorem isS_le {B : Addr → Prop} {H H' : Hp} (j : M.J H) (l : M.le H H') {vs : List V} {es : List En1} (h : IsS M.B H vs es) : IsS M.B H' vs es := Paired.mapP h fun _ _ x => Is.le j l x
theorem a_cons {K : List En1 → Prop} {t : TA} (h : We M ta ρ fun e => Wa M t ρ fun es => K (e :: es)) : Wa M (tCons ta t) ρ K := fun σ H j n Q q =>
  h σ H j n _ fun v H1 x l1 i1 k1 => k1 σ H1 l1.2 (n.le j l1) _ fun vs H2 es l2 i2 k2 => q (v :: vs) H2 (x :: es) (l1.trans l2) (.cons (i1.le l1.2 l2) i2) k2
def undats : List En1 → Option (List Dt)
  | [] => some []
  | .dat d :: r => (undats r).map (d :: ·)
  | _ :: _ => none
theorem dats_at {B : Addr → Prop} {H : Hp} : ∀ {vs : List V} {es : List En1} {ds : List Dt}, IsS B H vs es → undats es = some ds → AtS H vs ds
  | _, [], ds, .nil, e => by cases e; exact .nil
  | _, .dat d :: r, ds, .cons a q, e => by
    obtain ⟨ds', e', rfl⟩ := Option.map_eq_some_iff.mp (show (undats r).map (d :: ·) = some ds from e)
    exact .cons a (dats_at q e')
  | _, .lst _ :: _, _, .cons _ _, e => by cases e
  | _, .dic _ :: _, _, .cons _ _, e => by cases e
  | _, .raw _ :: _, _, .cons _ _, e => by cases e
theorem w_tup {t : TA} (h : Wa M t ρ fun es => ∃ ds, undats es = some ds ∧ ds.length ≤ 1000000 ∧ K (.dat (.tuple ds))) : We M (tTup t) ρ K := fun σ H j n Q q =>
  h σ H j n _ fun vs H1 es l1 i1 ⟨ds, ee, z, k⟩ => by
    have r := dats_at i1 ee
    refine ⟨by rw [r.len, sizeLine_eq]; omega, fun p hp => ?_⟩
    have l2 := Md.new (o := .tup vs) l1.2 hp
    exact q _ _ _ (l1.trans l2) (Is.d (At.tup upd_same (r.keep (l2.kt l1.2)))) k
theorem w_lst {t : TA} (h : Wa M t ρ fun es => ∃ ds, undats es = some ds ∧ ds.length ≤ 1000000 ∧ K (.lst ds)) : We M (tLst t) ρ K := fun σ H j n Q q =>
  h σ H j n _ fun vs H1 es l1 i1 ⟨ds, ee, z, k⟩ => by
    have r := dats_at i1 ee
    refine ⟨by rw [r.len, sizeLine_eq]; omega, fun p hp => ?_⟩
    have l2 := Md.new (o := .lst vs) l1.2 hp
    exact q _ _ _ (l1.trans l2) (Is.l (Md.fresh l1.2 hp) upd_same (r.keep (l2.kt l1.2))) k
/-! calls of built-ins -/
theorem w_cb {r : List V → Hp → VK → Prop} {t : TA} (h : Wa M t ρ fun es => Rc M r es K) : We M (tCB r t) ρ K := fun σ H j n Q q =>
  h σ H j n _ fun vs H1 es l1 i1 k1 => k1 vs H1 l1.2 i1 Q fun w H2 e l2 i2 k2 => q w H2 e (l1.trans l2) i2 k2
abbrev rLenQ (K : PySem.W.Frag) : List V → Hp → VK → Prop := fun xs H Q => ∃ p ys, xs = [.ref p] ∧ (SqL K H p ys ∨ SqT K H p ys) ∧ Q (.int ys.length) H
theorem w_len {t : TA} (h : Wa M t ρ fun es => ∃ ds, (es = [.dat (.tuple ds)] ∨ es = [.lst ds]) ∧ K (.dat (.int ds.length))) : We M (tCB (rLenQ KF) t) ρ K :=
  w_cb fun σ H j n Q q => h σ H j n _ fun vs H1 es l1 i1 ⟨ds, ee, k⟩ => q vs H1 es l1 i1 fun vs' H' j' i' Q' q' => by
    rcases ee with rfl | rfl
    · cases i' with
      | cons a r =>
        cases r
        obtain ⟨p, xs, rfl, hp, r⟩ := At.of_tup a
        exact ⟨p, xs, rfl, .inr (SqT.of hp), q' _ H' _ (Md.refl j') (by rw [r.len]; exact Is.d (At.int _)) k⟩
    · cases i' with
      | cons a r =>
        cases r
        obtain ⟨p, xs, rfl, _, hp, r⟩ := a
        exact ⟨p, xs, rfl, .inl (SqL.of hp), q' _ H' _ (Md.refl j') (by rw [r.len]; exact Is.d (At.int _)) k⟩
theorem w_sum {t : TA} (h : Wa M t ρ fun es => ∃ ns : List Int, es = [.lst (ns.map .int)] ∧ K (.dat (.int ns.sum))) : We M (tCB (rSum KF) t) ρ K :=
  w_cb fun σ H j n Q q => h σ H j n _ fun vs H1 es l1 i1 ⟨ns, ee, k⟩ => q vs H1 es l1 i1 fun vs' H' j' i' Q' q' => by
    subst ee
    cases i' with
    | cons a r =>
      cases r
      obtain ⟨p, xs, rfl, _, hp, r⟩ := a
      exact ⟨p, ns, rfl, SqL.of (by rw [hp, r.ints]), q' _ H' _ (Md.refl j') (Is.d (At.int _)) k⟩
theorem w_all {t : TA} (h : Wa M t ρ fun es => ∃ ns : List Bool, es = [.lst (ns.map .bool)] ∧ K (.dat (.bool (ns.all id)))) : We M (tCB (rAll KF) t) ρ K :=
  w_cb fun σ H j n Q q => h σ H j n _ fun vs H1 es l1 i1 ⟨ns, ee, k⟩ => q vs H1 es l1 i1 fun vs' H' j' i' Q' q' => by
    subst ee
    cases i' with
    | cons a r =>
      cases r
      obtain ⟨p, xs, rfl, _, hp, r⟩ := a
      exact ⟨p, ns, rfl, SqL.of (by rw [hp, r.bls]), q' _ H' _ (Md.refl j') (Is.d (At.bl _)) k⟩
/-- tuple(list) -/
abbrev rTupOf (K : PySem.W.Frag) : List V → Hp → VK → Prop := fun xs H Q => ∃ p ys, xs = [.ref p] ∧ ((SqL K H p ys ∧ ∀ l, H l = none → Q (.ref l) (upd H l (.tup ys))) ∨ (SqT K H p ys ∧ Q (.ref p) H))
theorem w_tuple {t : TA} (h : Wa M t ρ fun es => ∃ ds, es = [.lst ds] ∧ K (.dat (.tuple ds))) : We M (tCB (rTupOf KF) t) ρ K :=
  w_cb fun σ H j n Q q => h σ H j n _ fun vs H1 es l1 i1 ⟨ds, ee, k⟩ => q vs H1 es l1 i1 fun vs' H' j' i' Q' q' => by
    subst ee
    cases i' with
    | cons a r =>
      cases r
      obtain ⟨p, xs, rfl, _, hp, r⟩ := a
      refine ⟨p, xs, rfl, .inl ⟨SqL.of hp, fun l hl => ?_⟩⟩
      have l2 := Md.new (o := .tup xs) j' hl
      exact q' _ _ _ l2 (Is.d (At.tup upd_same (r.keep (l2.kt j')))) k
abbrev rAbs : List V → Hp → VK → Prop := fun xs H Q => ∃ i, xs = [.int i] ∧ Q (.int (if i < 0 then -i else i)) H
theorem w_abs {t : TA} (h : Wa M t ρ fun es => ∃ i, es = [.dat (.int i)] ∧ K (.dat (.int (if i < 0 then -i else i)))) : We M (tCB rAbs t) ρ K :=
  w_cb fun σ H j n Q q => h σ H j n _ fun vs H1 es l1 i1 ⟨i, ee, k⟩ => q vs H1 es l1 i1 fun vs' H' j' i' Q' q' => by
    subst ee
    cases i' with
    | cons a r =>
      cases r
      exact ⟨i, by rw [At.of_int a], q' _ H' _ (Md.refl j') (Is.d (At.int _)) k⟩
abbrev rInt1 : List V → Hp → VK → Prop := fun xs H Q => (∃ i, xs = [.int i] ∧ Q (.int i) H) ∨ ∃ k, xs = [.bl k] ∧ Q (.int (if k then 1 else 0)) H
theorem w_toInt {t : TA} (h : Wa M t ρ fun es => ∃ i, es = [.dat (.int i)] ∧ K (.dat (.int i))) : We M (tCB rInt1 t) ρ K :=
  w_cb fun σ H j n Q q => h σ H j n _ fun vs H1 es l1 i1 ⟨i, ee, k⟩ => q vs H1 es l1 i1 fun vs' H' j' i' Q' q' => by
    subst ee
    cases i' with
    | cons a r =>
      cases r
      exact .inl ⟨i, by rw [At.of_int a], q' _ H' _ (Md.refl j') (Is.d (At.int _)) k⟩
abbrev rMax2 : List V → Hp → VK → Prop := fun xs H Q => ∃ i j, xs = [.int i, .int j] ∧ Q (.int (if j > i then j else i)) H
abbrev rMin2 : List V → Hp → VK → Prop := fun xs H Q => ∃ i j, xs = [.int i, .int j] ∧ Q (.int (if j < i then j else i)) H
theorem w_max2 {t : TA} (h : Wa M t ρ fun es => ∃ i j, es = [.dat (.int i), .dat (.int j)] ∧ K (.dat (.int (if j > i then j else i)))) : We M (tCB rMax2 t) ρ K :=
  w_cb fun σ H j n Q q => h σ H j n _ fun vs H1 es l1 i1 ⟨i, j', ee, k⟩ => q vs H1 es l1 i1 fun vs' H' jj i' Q' q' => by
    subst ee
    cases i' with
    | cons a r =>
      cases r with
      | cons b r =>
        cases r
        exact ⟨i, j', by rw [At.of_int a, At.of_int b], q' _ H' _ (Md.refl jj) (Is.d (At.int _)) k⟩
theorem w_min2 {t : TA} (h : Wa M t ρ fun es => ∃ i j, es = [.dat (.int i), .dat (.int j)] ∧ K (.dat (.int (if j < i then j else i)))) : We M (tCB rMin2 t) ρ K :=
  w_cb fun σ H j n Q q => h σ H j n _ fun vs H1 es l1 i1 ⟨i, j', ee, k⟩ => q vs H1 es l1 i1 fun vs' H' jj i' Q' q' => by
    subst ee
    cases i' with
    | cons a r =>
      cases r with
      | cons b r =>
        cases r
        exact ⟨i, j', by rw [At.of_int a, At.of_int b], q' _ H' _ (Md.refl jj) (Is.d (At.int _)) k⟩
end
end TW
/-! K28D2 -/
namespace TW
open PySem PySem.Spec PyProof.Rows L2
section
variable {M : Md} {ρ : Ro} {K : En1 → Prop} {ta tb tc : TE} {e : En1} {KF : PySem.W.Frag} {KB : Bool → Prop} {t u : TT}
/-! tests -/
theorem t_test (h : We M ta ρ fun e => ∃ b, e = .dat (.bool b) ∧ KB b) : Wt M (tTest ta) ρ KB := fun σ H j n Q q =>
  h σ H j n _ fun v H1 x l1 i1 ⟨b, ex, k⟩ => by subst ex; exact ⟨b, At.of_bl i1, q b H1 l1 k⟩
theorem t_B (h : We M ta ρ fun e => ∃ b, e = .dat (.bool b) ∧ KB b) : Wt M (tB ta) ρ KB := fun σ H j n Q q =>
  h σ H j n _ fun v H1 x l1 i1 ⟨b, ex, k⟩ => by subst ex; exact ⟨b, At.of_bl i1, q b H1 l1 k⟩
theorem t_and (h : Wt M t ρ fun a => if a = true then Wt M u ρ KB else KB false) : Wt M (tAnd t u) ρ KB := fun σ H j n Q q =>
  h σ H j n _ fun b H1 l1 k1 => by
    cases b with
    | true => exact iteT ((show Wt M u ρ KB from by simpa using k1) σ H1 l1.2 (n.le j l1) Q fun b H2 l2 k2 => q b H2 (l1.trans l2) k2)
    | false => exact iteF (q false H1 l1 (by simpa using k1))
theorem t_or (h : Wt M t ρ fun a => if a = true then KB true else Wt M u ρ KB) : Wt M (tOr t u) ρ KB := fun σ H j n Q q =>
  h σ H j n _ fun b H1 l1 k1 => by
    cases b with
    | false => exact iteF ((show Wt M u ρ KB from by simpa using k1) σ H1 l1.2 (n.le j l1) Q fun b H2 l2 k2 => q b H2 (l1.trans l2) k2)
    | true => exact iteT (q true H1 l1 (by simpa using k1))
theorem t_not (h : Wt M t ρ fun b => KB (!b)) : Wt M (tNot t) ρ KB := fun σ H j n Q q => h σ H j n _ fun b H1 l1 k1 => q (!b) H1 l1 k1
theorem t_yes (k : KB true) : Wt M tYes ρ KB := fun σ H j n Q q => q true H (Md.refl j) k
theorem w_andV (h : We M ta ρ fun x => ∃ c, x = .dat (.bool c) ∧ if c = true then We M tb ρ K else K (.dat (.bool false))) : We M (tAndV ta tb) ρ K := fun σ H j n Q q =>
  h σ H j n _ fun v H1 x l1 i1 ⟨c, ex, k1⟩ => by
    subst ex
    refine ⟨c, At.of_bl i1, ?_⟩
    cases c with
    | true => exact iteT ((show We M tb ρ K from by simpa using k1) σ H1 l1.2 (n.le j l1) Q fun w H2 e l2 i2 k2 => q w H2 e (l1.trans l2) i2 k2)
    | false => exact iteF (q _ H1 _ l1 (Is.d (At.bl _)) (by simpa using k1))
theorem w_orV (h : We M ta ρ fun x => ∃ c, x = .dat (.bool c) ∧ if c = true then K (.dat (.bool true)) else We M tb ρ K) : We M (tOrV ta tb) ρ K := fun σ H j n Q q =>
  h σ H j n _ fun v H1 x l1 i1 ⟨c, ex, k1⟩ => by
    subst ex
    refine ⟨c, At.of_bl i1, ?_⟩
    cases c with
    | false => exact iteF ((show We M tb ρ K from by simpa using k1) σ H1 l1.2 (n.le j l1) Q fun w H2 e l2 i2 k2 => q w H2 e (l1.trans l2) i2 k2)
    | true => exact iteT (q _ H1 _ l1 (Is.d (At.bl _)) (by simpa using k1))
theorem w_notV (h : We M ta ρ fun x => ∃ c, x = .dat (.bool c) ∧ K (.dat (.bool (!c)))) : We M (tNotV ta) ρ K := fun σ H j n Q q =>
  h σ H j n _ fun v H1 x l1 i1 ⟨c, ex, k1⟩ => by subst ex; exact ⟨c, At.of_bl i1, q _ H1 _ l1 (Is.d (At.bl _)) k1⟩
theorem w_if (h : Wt M t ρ fun c => if c = true then We M ta ρ K else We M tb ρ K) : We M (tIf t ta tb) ρ K := fun σ H j n Q q =>
  h σ H j n _ fun b H1 l1 k1 => by
    cases b with
    | true => exact iteT ((show We M ta ρ K from by simpa using k1) σ H1 l1.2 (n.le j l1) Q fun w H2 e l2 i2 k2 => q w H2 e (l1.trans l2) i2 k2)
    | false => exact iteF ((show We M tb ρ K from by simpa using k1) σ H1 l1.2 (n.le j l1) Q fun w H2 e l2 i2 k2 => q w H2 e (l1.trans l2) i2 k2)
/-- a <= b <= c -/
theorem w_chain {g g' : Int → Int → Bool} (h : We M ta ρ fun x => We M tb ρ fun y => ∃ i j, x = .dat (.int i) ∧ y = .dat (.int j) ∧ (if g i j = true then We M tc ρ fun z => ∃ k, z = .dat (.int k) ∧ K (.dat (.bool (g' j k))) else K (.dat (.bool false)))) :
    We M (tChain (rI0 fun i j => .bl (g i j)) (rI0 fun i j => .bl (g' i j)) ta tb tc) ρ K := fun σ H j n Q q =>
  h σ H j n _ fun v H1 x l1 i1 k1 => k1 σ H1 l1.2 (n.le j l1) _ fun w H2 y l2 i2 ⟨a, b, ex, ey, k⟩ => by
    subst ex ey
    have n2 : En M H2 σ ρ := (n.le j l1).le l1.2 l2
    refine ⟨a, b, At.of_int (Is.le l1.2 l2 i1), At.of_int i2, g a b, rfl, ?_⟩
    cases e : g a b with
    | true =>
      rw [e] at k
      refine iteT ((show We M tc ρ (fun z => ∃ k, z = .dat (.int k) ∧ K (.dat (.bool (g' b k)))) from by simpa using k) σ H2 l2.2 n2 _ fun z H3 z' l3 i3 ⟨c, ez, k3⟩ => ?_)
      subst ez
      exact ⟨b, c, At.of_int (Is.le l2.2 l3 i2), At.of_int i3, q _ H3 _ ((l1.trans l2).trans l3) (Is.d (At.bl _)) k3⟩
    | false =>
      rw [e] at k
      exact iteF (q _ H2 _ (l1.trans l2) (Is.d (At.bl _)) (by simpa using k))
/-! slices, sums of tuples and lists -/
theorem o_none {K : Option Int → Prop} (k : K none) : Wo M tNoPart ρ K := fun σ H j n Q q => q none H (Md.refl j) k
theorem o_some {K : Option Int → Prop} (h : We M ta ρ fun e => ∃ i, e = .dat (.int i) ∧ K (some i)) : Wo M (tPart ta) ρ K := fun σ H j n Q q =>
  h σ H j n _ fun v H1 x l1 i1 ⟨i, ex, k⟩ => by subst ex; exact ⟨i, At.of_int i1, q (some i) H1 l1 k⟩
def cutD (ds : List Dt) (lo hi : Option Int) : List Dt := (ds.drop (HT.sIx ds.length 0 lo)).take (HT.sIx ds.length ds.length hi - HT.sIx ds.length 0 lo)
theorem cut_at {H : Hp} {xs : List V} {ds : List Dt} {lo hi : Option Int} (r : AtS H xs ds) : AtS H (cutV xs lo hi) (cutD ds lo hi) := by
  unfold cutV cutD
  rw [r.len]
  exact (r.drop _).take _
theorem w_slT {tl th : TO} (h : We M ta ρ fun x => Wo M tl ρ fun lo => Wo M th ρ fun hi => ∃ ds, x = .dat (.tuple ds) ∧ K (.dat (.tuple (cutD ds lo hi)))) : We M (tSl (rSlA KF) ta tl th) ρ K := fun σ H j n Q q =>
  h σ H j n _ fun v H1 x l1 i1 k1 => k1 σ H1 l1.2 (n.le j l1) _ fun lo H2 l2 k2 => k2 σ H2 l2.2 ((n.le j l1).le l1.2 l2) _ fun hi H3 l3 ⟨ds, ex, k⟩ => by
    subst ex
    obtain ⟨a, xs, rfl, ha, r⟩ := At.of_tup (Is.le l1.2 (l2.trans l3) i1)
    have c := cut_at (lo := lo) (hi := hi) r
    refine ⟨a, xs, rfl, SqT.of ha, fun w => ?_, fun _ p hp => ?_⟩
    · refine q _ H3 _ ((l1.trans l2).trans l3) (Is.d (At.tup ha ?_)) k
      have e : cutV xs lo hi = xs := by
        unfold cutV
        rw [w.1, w.2]
        simp
      rw [e] at c
      exact c
    · have l4 := Md.new (M := M) (o := .tup (cutV xs lo hi)) l3.2 hp
      exact q _ _ _ (((l1.trans l2).trans l3).trans l4) (Is.d (At.tup upd_same (c.keep (l4.kt l3.2)))) k
theorem w_slL {tl th : TO} (h : We M ta ρ fun x => Wo M tl ρ fun lo => Wo M th ρ fun hi => ∃ ds, x = .lst ds ∧ K (.lst (cutD ds lo hi))) : We M (tSl (rSlL KF) ta tl th) ρ K := fun σ H j n Q q =>
  h σ H j n _ fun v H1 x l1 i1 k1 => k1 σ H1 l1.2 (n.le j l1) _ fun lo H2 l2 k2 => k2 σ H2 l2.2 ((n.le j l1).le l1.2 l2) _ fun hi H3 l3 ⟨ds, ex, k⟩ => by
    subst ex
    obtain ⟨a, xs, rfl, _, ha, r⟩ := Is.le l1.2 (l2.trans l3) i1
    have c := cut_at (lo := lo) (hi := hi) r
    refine ⟨a, xs, rfl, SqL.of ha, fun p hp => ?_⟩
    have l4 := Md.new (M := M) (o := .lst (cutV xs lo hi)) l3.2 hp
    exact q _ _ _ (((l1.trans l2).trans l3).trans l4) (Is.l (Md.fresh l3.2 hp) upd_same (c.keep (l4.kt l3.2))) k
theorem w_catT (h : We M ta ρ fun x => We M tb ρ fun y => ∃ ds es, x = .dat (.tuple ds) ∧ y = .dat (.tuple es) ∧ ds.length + es.length ≤ sizeLine ∧ K (.dat (.tuple (ds ++ es)))) : We M (tOp (rCatA KF) ta tb) ρ K :=
  w_op (h.imp fun x a => a.imp fun y ⟨ds, es, ex, ey, c, k⟩ => by
    subst ex ey
    intro u u' H j a b Q q
    obtain ⟨p, xs, rfl, hp, r⟩ := At.of_tup a
    obtain ⟨p', xs', rfl, hp', r'⟩ := At.of_tup b
    have rr := r.app r'
    refine ⟨p, p', xs, xs', rfl, rfl, SqT.of hp, SqT.of hp', by rw [r.len, r'.len]; exact c, fun z => ?_, fun _ z => ?_, fun _ _ w hw => ?_⟩
    · subst z
      exact q _ H _ (Md.refl j) (Is.d (At.tup hp' rr)) k
    · subst z
      rw [List.append_nil] at rr
      exact q _ H _ (Md.refl j) (Is.d (At.tup hp rr)) k
    · have l4 := Md.new (M := M) (o := .tup (xs ++ xs')) j hw
      exact q _ _ _ l4 (Is.d (At.tup upd_same (rr.keep (l4.kt j)))) k)
theorem w_catL (h : We M ta ρ fun x => We M tb ρ fun y => ∃ ds es, x = .lst ds ∧ y = .lst es ∧ ds.length + es.length ≤ sizeLine ∧ K (.lst (ds ++ es))) : We M (tOp rCat ta tb) ρ K :=
  w_op (h.imp fun x a => a.imp fun y ⟨ds, es, ex, ey, c, k⟩ => by
    subst ex ey
    intro u u' H j a b Q q
    obtain ⟨p, xs, rfl, _, hp, r⟩ := a
    obtain ⟨p', xs', rfl, _, hp', r'⟩ := b
    refine ⟨p, p', xs, xs', rfl, rfl, hp, hp', by rw [r.len, r'.len]; exact c, fun w hw => ?_⟩
    have l4 := Md.new (M := M) (o := .lst (xs ++ xs')) j hw
    exact q _ _ _ l4 (Is.l (Md.fresh j hw) upd_same ((r.app r').keep (l4.kt j))) k)
/-! dicts of int keys -/
def lookD (kvs : List (Int × Dt)) (i : Int) : Option Dt := (kvs.find? fun q => decide (q.1 = i)).map (·.2)
theorem lookD_at {H : Hp} : ∀ {ks : List (Key × V)} {kvs : List (Int × Dt)} (i : Int), DicS H ks kvs → (∀ d, lookD kvs i = some d → ∃ v, valV ks (.inl i) = some v ∧ At H v d) ∧ (lookD kvs i = none → valV ks (.inl i) = none)
  | _, _, i, .nil => ⟨fun d e => (by cases e), fun _ => rfl⟩
  | (k, v) :: _, (k', d') :: _, i, .cons h r => by
    obtain ⟨h1, h2⟩ := h
    simp only at h1 h2
    subst h1
    obtain ⟨i1, i2⟩ := lookD_at i r
    by_cases c : k' = i
    · subst c
      refine ⟨fun d e => ⟨v, by simp [valV], ?_⟩, fun e => ?_⟩
      · simp [lookD] at e
        subst e
        exact h2
      · simp [lookD] at e
    · have e1 : ∀ {l}, lookD ((k', d') :: l) i = lookD l i := fun {l} => by simp [lookD, c]
      have e2 : ∀ {l : List (Key × V)}, valV ((Sum.inl k', v) :: l) (Sum.inl i) = valV l (Sum.inl i) := fun {l} => by simp [valV, c]
      rw [e1, e2]
      exact ⟨i1, i2⟩
theorem w_dget (h : We M ta ρ fun x => We M tb ρ fun y => ∃ kvs i d, x = .dic kvs ∧ y = .dat (.int i) ∧ lookD kvs i = some d ∧ K (.dat d)) : We M (tDGet ta tb) ρ K := fun σ H j n Q q =>
  h σ H j n _ fun v H1 x l1 i1 k1 => k1 σ H1 l1.2 (n.le j l1) _ fun w H2 y l2 i2 ⟨kvs, i, d, ex, ey, c, k⟩ => by
    subst ex ey
    obtain ⟨a, ks, rfl, _, ha, r⟩ := Is.le l1.2 l2 i1
    obtain ⟨z, ez, az⟩ := (lookD_at i r).1 d c
    refine ⟨a, z, rfl, ?_, q _ H2 _ (l1.trans l2) (Is.d az) k⟩
    rw [At.of_int i2, ← ez]
    exact DGet.k (k := Sum.inl i) ha
theorem w_din (h : We M ta ρ fun x => We M tb ρ fun y => ∃ kvs i, x = .dat (.int i) ∧ y = .dic kvs ∧ K (.dat (.bool (lookD kvs i).isSome))) : We M (tDIn ta tb) ρ K := fun σ H j n Q q =>
  h σ H j n _ fun v H1 x l1 i1 k1 => k1 σ H1 l1.2 (n.le j l1) _ fun w H2 y l2 i2 ⟨kvs, i, ex, ey, k⟩ => by
    subst ex ey
    obtain ⟨a, ks, rfl, _, ha, r⟩ := i2
    have e : (valV ks (.inl i)).isSome = (lookD kvs i).isSome := by
      cases c : lookD kvs i with
      | none => rw [(lookD_at i r).2 c]; rfl
      | some d =>
        obtain ⟨z, ez, _⟩ := (lookD_at i r).1 d c
        rw [ez]; rfl
    refine ⟨a, valV ks (.inl i), rfl, ?_, ?_⟩
    · rw [At.of_int (Is.le l1.2 l2 i1)]
      exact DGet.k (k := Sum.inl i) ha
    · rw [e]
      exact q _ H2 _ (l1.trans l2) (Is.d (At.bl _)) k
/-! equality of data -/
theorem w_eqD (h : We M ta ρ fun x => We M tb ρ fun y => ∃ d d', ((x = .dat d ∨ ∃ ds, x = .lst ds ∧ d = .list ds) ∧ (y = .dat d' ∨ ∃ ds, y = .lst ds ∧ d' = .list ds)) ∧ SeqAt.shaped d = true ∧ SeqAt.shaped d' = true ∧ K (.dat (.bool (PyData.eqv d d')))) : We M (tOp (rEqD KF) ta tb) ρ K :=
  w_op (h.imp fun x a => a.imp fun y ⟨d, d', ⟨ex, ey⟩, s, s', k⟩ => by
    intro u u' H j a b Q q
    have c1 : Dp KF H u d := by
      rcases ex with rfl | ⟨ds, rfl, rfl⟩
      · exact At.dp a
      · obtain ⟨p, xs, rfl, _, hp, r⟩ := a
        exact .lst (SqL.of hp) r.dp
    have c2 : Dp KF H u' d' := by
      rcases ey with rfl | ⟨ds, rfl, rfl⟩
      · exact At.dp b
      · obtain ⟨p, xs, rfl, _, hp, r⟩ := b
        exact .lst (SqL.of hp) r.dp
    exact ⟨d, d', c1, c2, s, s', q _ H _ (Md.refl j) (Is.d (At.bl _)) k⟩)
theorem w_neD (h : We M ta ρ fun x => We M tb ρ fun y => ∃ d d', ((x = .dat d ∨ ∃ ds, x = .lst ds ∧ d = .list ds) ∧ (y = .dat d' ∨ ∃ ds, y = .lst ds ∧ d' = .list ds)) ∧ SeqAt.shaped d = true ∧ SeqAt.shaped d' = true ∧ K (.dat (.bool (!PyData.eqv d d')))) : We M (tOp (rNeD KF) ta tb) ρ K :=
  w_op (h.imp fun x a => a.imp fun y ⟨d, d', ⟨ex, ey⟩, s, s', k⟩ => by
    intro u u' H j a b Q q
    have c1 : Dp KF H u d := by
      rcases ex with rfl | ⟨ds, rfl, rfl⟩
      · exact At.dp a
      · obtain ⟨p, xs, rfl, _, hp, r⟩ := a
        exact .lst (SqL.of hp) r.dp
    have c2 : Dp KF H u' d' := by
      rcases ey with rfl | ⟨ds, rfl, rfl⟩
      · exact At.dp b
      · obtain ⟨p, xs, rfl, _, hp, r⟩ := b
        exact .lst (SqL.of hp) r.dp
    exact ⟨d, d', c1, c2, s, s', q _ H _ (Md.refl j) (Is.d (At.bl _)) k⟩)
theorem w_isB (h : We M ta ρ fun x => We M tb ρ fun y => ∃ i j, x = .dat (.bool i) ∧ y = .dat (.bool j) ∧ K (.dat (.bool (decide (i = j))))) : We M (tOp rIsB ta tb) ρ K :=
  w_op (h.imp fun x a => a.imp fun y ⟨i, jj, ex, ey, k⟩ => by
    subst ex ey
    intro u u' H j a b Q q
    exact ⟨i, jj, At.of_bl a, At.of_bl b, q _ H _ (Md.refl j) (Is.d (At.bl _)) k⟩)
theorem w_notB (h : We M ta ρ fun x => We M tb ρ fun y => ∃ i j, x = .dat (.bool i) ∧ y = .dat (.bool j) ∧ K (.dat (.bool (!decide (i = j))))) : We M (tOp rNotB ta tb) ρ K :=
  w_op (h.imp fun x a => a.imp fun y ⟨i, jj, ex, ey, k⟩ => by
    subst ex ey
    intro u u' H j a b Q q
    exact ⟨i, jj, At.of_bl a, At.of_bl b, q _ H _ (Md.refl j) (Is.d (At.bl _)) k⟩)
/-! calls of defs that change nothing -/
/-- R: what is handed in, what comes back -/
def psp (R : List En1 → En1 → Prop) : Sp := fun vs H Q _ => ∃ es e, IsS M0.B H vs es ∧ R es e ∧ ∀ v H', Same H H' → Is M0.B H' v e → Q v H'
theorem w_call0 {R : List En1 → En1 → Prop} {E : XK} {t : TA} (h : Wa M0 t ρ fun es => ∃ e, R es e ∧ K e) : We M0 (tCall (psp R) [] E t) ρ K := fun σ H j n Q q =>
  h σ H j n _ fun vs H1 es l1 i1 ⟨e, r, k⟩ => by
    show psp R (vs ++ []) H1 Q E
    rw [List.append_nil]
    exact ⟨es, e, i1, r, fun v H' s i => q v H' e (l1.trans (le0_of s)) i k⟩
theorem w_call {R : List En1 → En1 → Prop} {E : XK} {t : TA} (h : Wa M t ρ fun es => ∃ d, R es (.dat d) ∧ K (.dat d)) : We M (tCall (psp R) [] E t) ρ K := fun σ H j n Q q =>
  h σ H j n _ fun vs H1 es l1 i1 ⟨e, r, k⟩ => by
    show psp R (vs ++ []) H1 Q E
    rw [List.append_nil]
    exact ⟨es, .dat e, Paired.mapP i1 fun _ _ x => x.pure, r, fun v H' s i => q v H' (.dat e) (l1.trans (Md.same l1.2 s)) i k⟩
end
/-! ### statements -/
structure Po where
  nx : Ro → Prop
  rt : En1 → Prop
  bk : Ro → Prop := fun _ => False
  ct : Ro → Prop := fun _ => False
abbrev Hits (M : Md) (H : Hp) (N : Ro → Prop) (F : L2.St → Hp → Prop) : Prop := ∀ σ' H' ρ', M.le H H' → En M H' σ' ρ' → N ρ' → F σ' H'
abbrev HitV (M : Md) (H : Hp) (N : En1 → Prop) (F : VK) : Prop := ∀ v H' e, M.le H H' → Is M.B H' v e → N e → F v H'
def Ws (M : Md) (t : TS) (ρ : Ro) (P : Po) : Prop := ∀ D σ H, M.J H → En M H σ ρ → Hits M H P.nx D.nx → HitV M H P.rt D.rt → Hits M H P.bk D.bk → Hits M H P.ct D.ct → t D σ H
def Wg (M : Md) (g : TG) (e : En1) (ρ : Ro) (K : Ro → Prop) : Prop := ∀ v σ H, M.J H → Is M.B H v e → En M H σ ρ → ∀ Q : L2.St → Hp → Prop, Hits M H K Q → g v σ H Q
def Wgs (M : Md) (g : TGs) (ds : List Dt) (ρ : Ro) (K : Ro → Prop) : Prop := ∀ vs σ H, M.J H → AtS H vs ds → En M H σ ρ → ∀ Q : L2.St → Hp → Prop, Hits M H K Q → g vs σ H Q
theorem Hits.le {M : Md} {H H1 : Hp} {N : Ro → Prop} {F : L2.St → Hp → Prop} (h : Hits M H N F) (l : M.le H H1) : Hits M H1 N F := fun σ' H' ρ' l' => h σ' H' ρ' (l.trans l')
theorem HitV.le {M : Md} {H H1 : Hp} {N : En1 → Prop} {F : VK} (h : HitV M H N F) (l : M.le H H1) : HitV M H1 N F := fun σ' H' ρ' l' => h σ' H' ρ' (l.trans l')
section
variable {M : Md} {ρ : Ro} {P : Po} {ta tb tc : TE} {e : En1} {KF : PySem.W.Frag} {t u : TS} {g : TG}
theorem g_name {i : Nat} {K : Ro → Prop} (k : K (ρ.set i (some e))) : Wg M (gName i) e ρ K := fun v σ H j a n Q q => q _ H _ (Md.refl j) (n.set i a) k
theorem gs_nil {K : Ro → Prop} {ds : List Dt} (e : ds = []) (k : K ρ) : Wgs M gNil ds ρ K := fun vs σ H j a n Q q => by
  subst e
  cases a
  exact ⟨rfl, q _ H _ (Md.refl j) n k⟩
theorem gs_cons {i : Nat} {gs : TGs} {d : Dt} {ds ds' : List Dt} {K : Ro → Prop} (e : ds' = d :: ds) (h : Wgs M gs ds (ρ.set i (some (.dat d))) K) : Wgs M (gCons (gName i) gs) ds' ρ K := fun vs σ H j a n Q q => by
  subst e
  cases a with
  | cons a r => exact ⟨_, _, rfl, h _ _ H j r (n.set i (Is.d a)) Q q⟩
theorem g_tup {n : Nat} {gs : TGs} {K : Ro → Prop} (h : ∃ ds, e = .dat (.tuple ds) ∧ ds.length = n ∧ Wgs M gs ds ρ K) : Wg M (gTup KF n gs) e ρ K := fun v σ H j a m Q q => by
  obtain ⟨ds, rfl, z, h⟩ := h
  obtain ⟨p, xs, rfl, hp, r⟩ := At.of_tup a
  exact ⟨p, xs, rfl, SqT.of hp, by rw [r.len]; exact z, h xs σ H j r m Q q⟩
theorem s_next (k : P.nx ρ) : Ws M tNext ρ P := fun D σ H j n a _ _ _ => a σ H ρ (Md.refl j) n k
theorem s_seq (h : Ws M t ρ { P with nx := fun ρ' => Ws M u ρ' P }) : Ws M (tSeq t u) ρ P := fun D σ H j n a b c d =>
  h { D with nx := u D } σ H j n (fun σ' H' ρ' l n' k => k D σ' H' l.2 n' (Hits.le a l) (HitV.le b l) (Hits.le c l) (Hits.le d l)) b c d
theorem s_asg (h : We M ta ρ fun x => Wg M g x ρ P.nx) : Ws M (tAsg ta g) ρ P := fun D σ H j n a _ _ _ =>
  h σ H j n _ fun v H1 x l1 i1 k => k v σ H1 l1.2 i1 (n.le j l1) _ (Hits.le a l1)
theorem s_drop (h : We M ta ρ fun x => P.nx ρ) : Ws M (tDrop ta) ρ P := fun D σ H j n a _ _ _ => h σ H j n _ fun v H1 x l1 i1 k => a σ H1 ρ l1 (n.le j l1) k
theorem s_ret (h : We M ta ρ P.rt) : Ws M (tRet ta) ρ P := fun D σ H j n _ b _ _ => h σ H j n _ fun v H1 x l1 i1 k => b v H1 x l1 i1 k
theorem s_brk (k : P.bk ρ) : Ws M tBreak ρ P := fun D σ H j n _ _ c _ => c σ H ρ (Md.refl j) n k
theorem s_if {c : TT} (h : Wt M c ρ fun b => if b = true then Ws M t ρ P else Ws M u ρ P) : Ws M (tIfS c t u) ρ P := fun D σ H j n a b c' d =>
  h σ H j n _ fun x H1 l1 k => by
    cases x with
    | true => exact iteT ((show Ws M t ρ P from by simpa using k) D σ H1 l1.2 (n.le j l1) (Hits.le a l1) (HitV.le b l1) (Hits.le c' l1) (Hits.le d l1))
    | false => exact iteF ((show Ws M u ρ P from by simpa using k) D σ H1 l1.2 (n.le j l1) (Hits.le a l1) (HitV.le b l1) (Hits.le c' l1) (Hits.le d l1))
theorem s_never (h : False) : Ws M tNever ρ P := h.elim
/-- for over a tuple, by an invariant over the entries -/
theorem s_forT {α : Type} {F : α → Dt} (h : We M ta ρ fun x => ∃ ds : List α, x = .dat (.tuple (ds.map F)) ∧ ∃ I : Nat → Ro → Prop, I 0 ρ ∧ (∀ i d ρ', ds[i]? = some d → I i ρ' → Wg M g (.dat (F d)) ρ' fun ρ2 => Ws M t ρ2 { nx := I (i + 1), ct := I (i + 1), bk := P.nx, rt := P.rt }) ∧ ∀ ρ', I ds.length ρ' → P.nx ρ') :
    Ws M (tFor (iTup KF ta) g t) ρ P := fun D σ H j n a b c d =>
  h σ H j n _ fun v H1 x l1 i1 ⟨ds, ex, I, h0, hs, hd⟩ => by
    subst ex
    obtain ⟨p, xs, rfl, hp, r⟩ := At.of_tup i1
    refine ⟨p, rfl, ⟨xs, SqT.of hp⟩, for_tup (xs := xs) (fun i σ' H' => M.le H1 H' ∧ ∃ ρ', En M H' σ' ρ' ∧ I i ρ') ⟨Md.refl l1.2, ρ, n.le j l1, h0⟩ (fun i σ' H' _ z => SqT.of (z.1.kt l1.2 _ _ hp)) ?_ ?_⟩
    · rintro i x σ' H' hx ⟨l2, ρ', n2, k2⟩
      obtain ⟨d', hd', az⟩ := r.get' hx
      rw [List.getElem?_map] at hd'
      obtain ⟨a', ha', rfl⟩ := Option.map_eq_some_iff.mp hd'
      exact hs i a' ρ' ha' k2 x σ' H' l2.2 (Is.d (az.keep (l2.kt l1.2))) n2 _ fun σ2 H2 ρ2 l3 n3 k3 => k3 _ σ2 H2 l3.2 n3 (fun σ4 H4 ρ4 l4 n4 k4 => ⟨(l2.trans l3).trans l4, ρ4, n4, k4⟩)
        (HitV.le b (l1.trans (l2.trans l3))) (Hits.le a (l1.trans (l2.trans l3))) (fun σ4 H4 ρ4 l4 n4 k4 => ⟨(l2.trans l3).trans l4, ρ4, n4, k4⟩)
    · rintro σ' H' ⟨l2, ρ', n2, k2⟩
      rw [r.len, List.length_map] at k2
      exact a σ' H' ρ' (l1.trans l2) n2 (hd ρ' k2)
/-- for over a list that stands still -/
theorem s_forL {α : Type} {F : α → Dt} (h : We M ta ρ fun x => ∃ ds : List α, x = .lst (ds.map F) ∧ ∃ I : Nat → Ro → Prop, I 0 ρ ∧ (∀ i d ρ', ds[i]? = some d → I i ρ' → Wg M g (.dat (F d)) ρ' fun ρ2 => Ws M t ρ2 { nx := I (i + 1), ct := I (i + 1), bk := P.nx, rt := P.rt }) ∧ ∀ ρ', I ds.length ρ' → P.nx ρ') :
    Ws M (tFor (iList KF ta) g t) ρ P := fun D σ H j n a b c d =>
  h σ H j n _ fun v H1 x l1 i1 ⟨ds, ex, I, h0, hs, hd⟩ => by
    subst ex
    obtain ⟨p, xs, rfl, nb, hp, r⟩ := i1
    refine ⟨p, rfl, ⟨xs, SqL.of hp⟩, for_list (xs := xs) (fun i σ' H' => M.le H1 H' ∧ ∃ ρ', En M H' σ' ρ' ∧ I i ρ') ⟨Md.refl l1.2, ρ, n.le j l1, h0⟩ (fun i σ' H' _ z => SqL.of (z.1.1 _ _ nb hp)) ?_ ?_⟩
    · rintro i x σ' H' hx ⟨l2, ρ', n2, k2⟩
      obtain ⟨d', hd', az⟩ := r.get' hx
      rw [List.getElem?_map] at hd'
      obtain ⟨a', ha', rfl⟩ := Option.map_eq_some_iff.mp hd'
      exact hs i a' ρ' ha' k2 x σ' H' l2.2 (Is.d (az.keep (l2.kt l1.2))) n2 _ fun σ2 H2 ρ2 l3 n3 k3 => k3 _ σ2 H2 l3.2 n3 (fun σ4 H4 ρ4 l4 n4 k4 => ⟨(l2.trans l3).trans l4, ρ4, n4, k4⟩)
        (HitV.le b (l1.trans (l2.trans l3))) (Hits.le a (l1.trans (l2.trans l3))) (fun σ4 H4 ρ4 l4 n4 k4 => ⟨(l2.trans l3).trans l4, ρ4, n4, k4⟩)
    · rintro σ' H' ⟨l2, ρ', n2, k2⟩
      rw [r.len, List.length_map] at k2
      exact a σ' H' ρ' (l1.trans l2) n2 (hd ρ' k2)
/-- for over a range -/
theorem s_forR {t' : TA} (h : Wa M t' ρ fun es => ∃ m : Int, es = [.dat (.int m)] ∧ 0 ≤ m ∧ m ≤ 1000000 ∧ ∃ I : Nat → Ro → Prop, I 0 ρ ∧ (∀ (i : Nat) ρ', (i : Int) < m → I i ρ' → Wg M g (.dat (.int i)) ρ' fun ρ2 => Ws M t ρ2 { nx := I (i + 1), ct := I (i + 1), bk := P.nx, rt := P.rt }) ∧ ∀ ρ', I m.toNat ρ' → P.nx ρ') :
    Ws M (tFor (iRng1 t') g t) ρ P := fun D σ H j n a b c d =>
  h σ H j n _ fun vs H1 x l1 i1 ⟨m, ex, m0, m1, I, h0, hs, hd⟩ => by
    subst ex
    cases i1 with
    | cons a1 r1 =>
      cases r1
      refine ⟨m, by rw [At.of_int a1], by omega, by omega, for_range (lo := 0) (n := m.toNat) (fun i σ' H' => M.le H1 H' ∧ ∃ ρ', En M H' σ' ρ' ∧ I i ρ') ⟨Md.refl l1.2, ρ, n.le j l1, h0⟩ ?_ ?_⟩
      · rintro i σ' H' hi ⟨l2, ρ', n2, k2⟩
        rw [show (0 : Int) + (i : Int) = (i : Int) by omega]
        exact hs i ρ' (by omega) k2 _ σ' H' l2.2 (Is.d (At.int _)) n2 _ fun σ2 H2 ρ2 l3 n3 k3 => k3 _ σ2 H2 l3.2 n3 (fun σ4 H4 ρ4 l4 n4 k4 => ⟨(l2.trans l3).trans l4, ρ4, n4, k4⟩)
          (HitV.le b (l1.trans (l2.trans l3))) (Hits.le a (l1.trans (l2.trans l3))) (fun σ4 H4 ρ4 l4 n4 k4 => ⟨(l2.trans l3).trans l4, ρ4, n4, k4⟩)
      · rintro σ' H' ⟨l2, ρ', n2, k2⟩
        exact a σ' H' ρ' (l1.trans l2) n2 (hd ρ' k2)
end
/-! ### comprehensions: one name at slot j -/
section
variable {M : Md} {ρ : Ro} {K : En1 → Prop} {tl te : TE} {tt : TT} {KF : PySem.W.Frag} {j : Nat}
theorem filt_snoc {α : Type} {l : List α} {i : Nat} {d : α} (h : l[i]? = some d) (f : α → Bool) (v : α → Dt) : ((l.take (i + 1)).filter f).map v = ((l.take i).filter f).map v ++ (if f d = true then [v d] else []) := by
  have e : l.take (i + 1) = l.take i ++ [d] := by rw [List.take_succ, h]; rfl
  rw [e, List.filter_append, List.map_append]
  by_cases c : f d = true
  · simp [c]
  · simp [c]
theorem wipe1 (σ : L2.St) (j : Nat) (o : Option V) : L2.wipe ((L2.wipe σ [j]).set j o) [j] = L2.wipe σ [j] := by
  show (((σ.set j none).set j o).set j none) = σ.set j none
  rw [List.set_set, List.set_set]
/-- one turn -/
theorem lc_turn {α : Type} {F : α → Dt} {H0 : Hp} {D : Addr} {xs : List V} {ds : List α} {f : α → Bool} {v : α → Dt} (jj : M.J H0) (nb : ¬ M.B D) (r : AtS H0 xs (ds.map F)) (z : ds.length ≤ 1000000) {σ : L2.St} (n : En M H0 σ ρ)
    (ht : ∀ d ∈ ds, Wt M tt (ρ.set j (some (.dat (F d)))) fun b => b = f d) (he : ∀ d ∈ ds, f d = true → We M te (ρ.set j (some (.dat (F d)))) fun e => e = .dat (v d)) {i : Nat} {x : V} {H : Hp} (hx : xs[i]? = some x) (hD0 : H0 D = none)
    (l : M.le H0 H) {acc : List V} (ha : H D = some (.lst acc)) (ra : AtS H acc (((ds.take i).filter f).map v)) :
    gName j x (L2.wipe σ [j]) H fun σ2 H2 => L2.wipe σ2 [j] = L2.wipe σ [j] ∧ tt σ2 H2 fun b H3 =>
      if b = true then te σ2 H3 fun y H4 => ∃ acc, H4 D = some (.lst acc) ∧ acc.length < sizeLine ∧ (M.le H0 (upd H4 D (.lst (acc ++ [y]))) ∧ ∃ acc', upd H4 D (.lst (acc ++ [y])) D = some (.lst acc') ∧ AtS (upd H4 D (.lst (acc ++ [y]))) acc' (((ds.take (i + 1)).filter f).map v))
      else (M.le H0 H3 ∧ ∃ acc', H3 D = some (.lst acc') ∧ AtS H3 acc' (((ds.take (i + 1)).filter f).map v)) := by
  obtain ⟨d', hd', az⟩ := r.get' hx
  rw [List.getElem?_map] at hd'
  obtain ⟨d, hd, rfl⟩ := Option.map_eq_some_iff.mp hd'
  have dm : d ∈ ds := List.mem_of_getElem? hd
  refine ⟨wipe1 σ j _, ?_⟩
  have n1 : En M H ((L2.wipe σ [j]).set j (some x)) (ρ.set j (some (.dat (F d)))) := by
    have q := ((n.le jj l).wipe [j]).set j (Is.d (B := M.B) (az.keep (l.kt jj)))
    have e : (wipeR ρ [j]).set j (some (En1.dat (F d))) = ρ.set j (some (.dat (F d))) := by
      show (ρ.set j none).set j _ = _
      rw [List.set_set]
    rw [e] at q
    exact q
  refine ht d dm _ H l.2 n1 _ fun b H3 l3 eb => ?_
  subst eb
  rw [filt_snoc hd f v]
  by_cases c : f d = true
  · rw [if_pos c, if_pos c]
    refine he d dm c _ H3 l3.2 (n1.le l.2 l3) _ fun y H4 ey l4 i4 ke => ?_
    subst ke
    have l34 := l3.trans l4
    have hD4 : H4 D = some (.lst acc) := l34.1 D _ nb ha
    have kt := l34.kt l.2
    have kd : KT H4 (upd H4 D (.lst (acc ++ [y]))) := fun a ys h => by rw [upd_ne (ne_of h hD4 (by intro z; cases z))]; exact h
    have lz : acc.length < sizeLine := by
      have q := ra.len
      have q2 : (((ds.take i).filter f).map v).length ≤ ds.length := by
        rw [List.length_map]
        exact Nat.le_trans (List.length_filter_le _ _) (by rw [List.length_take]; omega)
      rw [sizeLine_eq]
      omega
    refine ⟨acc, hD4, lz, ⟨fun a o na h => ?_, ?_⟩, _, upd_same, ?_⟩
    · rw [upd_ne (ne_of_none h hD0)]
      exact (l.trans l34).1 a o na h
    · exact M.he (l.trans l34).2 kd fun a o ba h => by rw [upd_ne (show a ≠ D from fun e => nb (by rw [← e]; exact ba))]; exact h
    · exact ((ra.keep kt).keep kd).app (.cons (At.keep kd i4) .nil)
  · have c' : f d = false := by simpa using c
    rw [c', if_neg (by simp)]
    simp only [Bool.false_eq_true, if_false, List.append_nil]
    exact ⟨l.trans l3, acc, l3.1 D _ nb ha, ra.keep (l3.kt l.2)⟩
/-- [.. for x in a tuple if ..] -/
theorem w_lcT {α : Type} {F : α → Dt} (h : We M tl ρ fun x => ∃ ds : List α, x = .dat (.tuple (ds.map F)) ∧ ds.length ≤ 1000000 ∧ ∃ (f : α → Bool) (v : α → Dt), (∀ d ∈ ds, Wt M tt (ρ.set j (some (.dat (F d)))) fun b => b = f d) ∧ (∀ d ∈ ds, f d = true → We M te (ρ.set j (some (.dat (F d)))) fun e => e = .dat (v d)) ∧ K (.lst ((ds.filter f).map v))) :
    We M (tLc (iTup KF tl) (gName j) tt te [j]) ρ K := fun σ H jj n Q q =>
  h σ H jj n _ fun u H1 x l1 i1 ⟨ds, ex, z, f, v, ht, he, k⟩ => by
    subst ex
    obtain ⟨p, xs, rfl, hp, r⟩ := At.of_tup i1
    refine ⟨p, rfl, ⟨xs, SqT.of hp⟩, fun D hD => ?_⟩
    have nb := Md.fresh l1.2 hD
    refine lc_tup (xs := xs) (fun i H' => M.le H1 H' ∧ ∃ acc, H' D = some (.lst acc) ∧ AtS H' acc (((ds.take i).filter f).map v)) ⟨Md.new l1.2 hD, [], upd_same, .nil⟩ (fun i H' _ l => SqT.of (l.1.kt l1.2 _ _ hp)) ?_ ?_
    · rintro i x H' hx ⟨l, acc, ha, ra⟩
      exact lc_turn l1.2 nb r z (n.le jj l1) ht he hx hD l ha ra
    · rintro H' ⟨l, acc, ha, ra⟩
      rw [r.len, List.length_map, List.take_length] at ra
      exact q _ H' _ (l1.trans l) (Is.l nb ha ra) k
/-- the same over a list -/
theorem w_lcL {α : Type} {F : α → Dt} (h : We M tl ρ fun x => ∃ ds : List α, x = .lst (ds.map F) ∧ ds.length ≤ 1000000 ∧ ∃ (f : α → Bool) (v : α → Dt), (∀ d ∈ ds, Wt M tt (ρ.set j (some (.dat (F d)))) fun b => b = f d) ∧ (∀ d ∈ ds, f d = true → We M te (ρ.set j (some (.dat (F d)))) fun e => e = .dat (v d)) ∧ K (.lst ((ds.filter f).map v))) :
    We M (tLc (iList KF tl) (gName j) tt te [j]) ρ K := fun σ H jj n Q q =>
  h σ H jj n _ fun u H1 x l1 i1 ⟨ds, ex, z, f, v, ht, he, k⟩ => by
    subst ex
    obtain ⟨p, xs, rfl, nbp, hp, r⟩ := i1
    refine ⟨p, rfl, ⟨xs, SqL.of hp⟩, fun D hD => ?_⟩
    have nb := Md.fresh l1.2 hD
    refine lc_list (xs := xs) (fun i H' => M.le H1 H' ∧ ∃ acc, H' D = some (.lst acc) ∧ AtS H' acc (((ds.take i).filter f).map v)) ⟨Md.new l1.2 hD, [], upd_same, .nil⟩ (fun i H' _ l => SqL.of (l.1.1 _ _ nbp hp)) ?_ ?_
    · rintro i x H' hx ⟨l, acc, ha, ra⟩
      exact lc_turn l1.2 nb r z (n.le jj l1) ht he hx hD l ha ra
    · rintro H' ⟨l, acc, ha, ra⟩
      rw [r.len, List.length_map, List.take_length] at ra
      exact q _ H' _ (l1.trans l) (Is.l nb ha ra) k
/-- without a test -/
theorem w_lcT0 {α : Type} {F : α → Dt} (h : We M tl ρ fun x => ∃ ds : List α, x = .dat (.tuple (ds.map F)) ∧ ds.length ≤ 1000000 ∧ ∃ v : α → Dt, (∀ d ∈ ds, We M te (ρ.set j (some (.dat (F d)))) fun e => e = .dat (v d)) ∧ K (.lst (ds.map v))) :
    We M (tLc (iTup KF tl) (gName j) tYes te [j]) ρ K :=
  w_lcT (F := F) (h.imp fun x ⟨ds, ex, z, v, he, k⟩ => ⟨ds, ex, z, fun _ => true, v, fun _ _ => t_yes rfl, fun d hd _ => he d hd, by rw [List.filter_eq_self.mpr (fun _ _ => rfl)]; exact k⟩)
theorem w_lcL0 {α : Type} {F : α → Dt} (h : We M tl ρ fun x => ∃ ds : List α, x = .lst (ds.map F) ∧ ds.length ≤ 1000000 ∧ ∃ v : α → Dt, (∀ d ∈ ds, We M te (ρ.set j (some (.dat (F d)))) fun e => e = .dat (v d)) ∧ K (.lst (ds.map v))) :
    We M (tLc (iList KF tl) (gName j) tYes te [j]) ρ K :=
  w_lcL (F := F) (h.imp fun x ⟨ds, ex, z, v, he, k⟩ => ⟨ds, ex, z, fun _ => true, v, fun _ _ => t_yes rfl, fun d hd _ => he d hd, by rw [List.filter_eq_self.mpr (fun _ _ => rfl)]; exact k⟩)
theorem w_allM {t : TA} (h : Wa M t ρ fun es => ∃ (α : Type) (l : List α) (g : α → Bool), es = [.lst (l.map fun a => .bool (g a))] ∧ K (.dat (.bool (l.all g)))) : We M (tCB (rAll KF) t) ρ K :=
  w_all fun σ H j n Q q => h σ H j n Q fun vs H2 es l i ⟨α, ls, g, ex, k⟩ => q vs H2 es l i ⟨ls.map g, by rw [ex, List.map_map]; rfl, by rw [List.all_map]; exact k⟩
theorem w_sumM {t : TA} (h : Wa M t ρ fun es => ∃ (α : Type) (l : List α) (g : α → Int), es = [.lst (l.map fun a => .int (g a))] ∧ K (.dat (.int (l.map g).sum))) : We M (tCB (rSum KF) t) ρ K :=
  w_sum fun σ H j n Q q => h σ H j n Q fun vs H2 es l i ⟨α, ls, g, ex, k⟩ => q vs H2 es l i ⟨ls.map g, by rw [ex, List.map_map]; rfl, k⟩
end
/-! ### a def that changes nothing keeps its promise -/
section
variable {P : Program} {w : World} {K : PySem.W.Frag} {mg : Str → Option Value} {base : Heap}
def startR (N : List Str) (es : List En1) : Ro := es.map some ++ List.replicate (N.length - es.length) none
theorem en_start {M : Md} {H : Hp} {N : List Str} {vs : List V} {es : List En1} (i : IsS M.B H vs es) : En M H (L2.start N vs) (startR N es) := by
  unfold L2.start startR
  have hl : vs.length = es.length := Paired.length i
  rw [hl]
  have rep : ∀ m : Nat, En M H (List.replicate m none) (List.replicate m none) := fun m => by
    induction m with
    | zero => exact .nil
    | succ m ih => exact .cons (fun x ex => by cases ex) ih
  have go : ∀ {vs : List V} {es : List En1} {m : Nat}, IsS M.B H vs es → En M H (vs.map some ++ List.replicate m none) (es.map some ++ List.replicate m none) := fun {vs es m} q => by
    induction q with
    | nil => exact rep m
    | cons a _ ih => exact .cons (fun x ex => by cases ex; exact ⟨_, rfl, a⟩) ih
  exact go i
abbrev FnQ (K : PySem.W.Frag) (x qual : Str) (st : Stmt) (f : Addr) (fd : FuncData) : Prop := FunD K x qual (defArgs st) (defBody st) (defScope st) [] [] f fd
theorem ok_pure {x qual : Str} {st : Stmt} {f : Addr} {fd : FuncData} {N ps : List Str} {k : Nat} {R : List En1 → En1 → Prop} (F : FnQ K x qual st f fd) (S : FnScope N ps (defScope st)) (len : ∀ es e, R es e → es.length = ps.length)
    (body : ∀ (cdv : Value) (A : Around) (outer : List Env) (s : Shared) (H : Hp) (E : XK), Room k (A.deeper (envOfC qual (defScope st) s.heap.objs.size f cdv)) →
      ∃ t, PSs (cxOf CX0 P w K mg base N qual (defScope st) f cdv A outer s H E).nox (defBody st) t ∧ ∀ es e, R es e → Ws M0 t (startR N es) { nx := fun _ => e = .dat .none, rt := fun e' => e' = e }) :
    FnOk P w K mg base CX0 (k + 1) f fd ps (psp R) := by
  refine F.ok S (fun vs H Q E ⟨es, e, i, r, q⟩ => (Paired.length i).trans (len es e r)) (fun cdv A outer s H vs Q E hr ⟨es, e, i, r, q⟩ => ?_)
  obtain ⟨t, h, b⟩ := body cdv A outer s H E hr
  refine ⟨t, h.nox, b es e r _ _ H trivial (en_start i) (fun σ' H' ρ' l n k => ?_) (fun v H' e' l iv k => ?_) (fun σ' H' ρ' l n k => k.elim) (fun σ' H' ρ' l n k => k.elim)⟩
  · subst k
    exact q .non H' (Md.le0 l) (Is.d At.non)
  · subst k
    exact q v H' (Md.le0 l) iv
/-- a def of the text, its promise -/
structure Ok (P : Program) (w : World) (K : PySem.W.Frag) (mg : Str → Option Value) (base : Heap) (CX : CXT) (k : Nat) (x : Str) (f : Addr) (ps : List Str) (sp : Sp) : Prop where
  ex : ∃ fd, FnOk P w K mg base CX k f fd ps sp ∧ Binds K fd ps []
  g : mg x = some (.ref f)
  kp : PySem.W.keepIn K (.ref f) = true
theorem Ok.imp {CX : CXT} {k : Nat} {x : Str} {f : Addr} {ps : List Str} {sp sp' : Sp} (o : Ok P w K mg base CX k x f ps sp) (h : ∀ vs H Q E, sp' vs H Q E → sp vs H Q E) : Ok P w K mg base CX k x f ps sp' :=
  let ⟨fd, a, b⟩ := o.ex; ⟨⟨fd, a.imp h, b⟩, o.g, o.kp⟩
end
/-- a call of it -/
theorem pe_ok {X : Cx} {j k : Nat} {x : Str} {f : Addr} {ps : List Str} {sp : Sp} {p pos : Pos} {e : Expr} {es : List Expr} {t : TA} (o : Ok X.prog X.w X.K X.mg X.base CX0 j x f ps sp) (hr : Room k X.A) (hj : j ≤ k) (hg : Gl X x)
    (ha : PA X (e :: es) t) (hdb : (x == ("__debug__" : Str)) = false := by decide) (he : starEach (e :: es) X.env = (false, eval e X.env) :: starEach es X.env := by rfl) (hpl : (backTo pos (starEach es X.env)).any (·.1) = false := by rfl) :
    PE X (.Call (.Name x p) (e :: es) [] pos) (tCall sp [] E0 t) := by
  obtain ⟨fd, a, b⟩ := o.ex
  exact pe_call a (hr.mono hj) hg o.g o.kp b .nil pass0 ha hdb he hpl
/-! ### rules whose written part is named (within a comprehension the context is another, its written part the same) -/
section
variable {X : Cx} {K : PySem.W.Frag}
theorem kIxT (h : X.K = K) : IxR X (rIxT K) := by subst h; exact ix_tup
theorem kIxL (h : X.K = K) : IxR X (rIxL K) := by subst h; exact ix_list
theorem kSlT (h : X.K = K) : SlR X (rSlA K) := by subst h; exact sl_tupA
theorem kSlL (h : X.K = K) : SlR X (rSlL K) := by subst h; exact sl_list
theorem kCatT (h : X.K = K) : OpR X (binaryOp .Add) (rCatA K) := by subst h; exact op_catA
theorem kEqD (h : X.K = K) (hu : X.A.units + 64 < cLine) : OpR X (compareOp .Eq) (rEqD K) := by subst h; exact op_eqD hu
theorem kNeD (h : X.K = K) (hu : X.A.units + 64 < cLine) : OpR X (compareOp .NotEq) (rNeD K) := by subst h; exact op_neD hu
theorem kLen (h : X.K = K) : CallR X (.builtin "len") (rLenQ K) := by subst h; exact call_len_seq
theorem kSum (h : X.K = K) (hc : X.calm = true) : CallR X (.builtin "sum") (rSum K) := by subst h; exact cr_sum hc
theorem kAll (h : X.K = K) (hc : X.calm = true) : CallR X (.builtin "all") (rAll K) := by subst h; exact cr_all hc
theorem kTuple (h : X.K = K) : CallR X (.type "tuple") (rTupOf K) := by subst h; exact call_tuple_of
theorem kgTup {es : List Expr} {k : Nat} {t : TGs} {n : Nat} {pos : Pos} (h : X.K = K) (hc : X.calm = true) (q : PGs X es t) (hl : (assignEach es X.env).length = n := by rfl) (hst : (assignEach es X.env).findIdx? (·.1) = none := by rfl) : PG X (.Tuple es k pos) (gTup K n t) := by subst h; exact pg_tup hc q hl hst
theorem kiTup {tg l : Expr} {tl : TE} (h : X.K = K) (hl : PE X l tl) : PI X tg l (iTup K tl) := by subst h; exact pi_tup hl
theorem kiList {tg l : Expr} {tl : TE} (h : X.K = K) (hl : PE X l tl) : PI X tg l (iList K tl) := by subst h; exact pi_list hl
theorem kFld {e : Expr} {f : Str} {pos : Pos} {ta : TE} (h : X.K = K) (he : PE X e ta) (hb : attributeBase e f X.env (eval e X.env) = eval e X.env) : PE X (.Attribute e f pos) (tFld K ta f) := by subst h; exact pe_fld he hb
end
end TW
/-! K28E -/
/-! K28: enumerate over a tuple. -/
namespace TW
open PySem PySem.Spec PyProof.Rows L2
set_option maxHeartbeats 4000000 in
theorem meets_enum1 {v : Value} {o : Obj} {Hd : Heap → Prop} (B : Begins v o Hd) :
    Meets (Builtin.«enumerate.__new__» ⟨[.type "enumerate", v], []⟩) (fun _ R s => Hd s.heap ∧ R (.ok (.ret (.ref (s.heap.push o).objs.size)))
      { s with heap := (s.heap.push o).push { cls := .type "enumerate", data := .fields #[.none, .bool false, .ref s.heap.objs.size, rawInt 0, .none, .none] } }) :=
  .of_wp fun prog w A R s hh => by
    obtain ⟨hp, g, dr, tk, os⟩ := s
    obtain ⟨h1, h2⟩ := hh
    have hsub := sub_enumerate
    have it1 : ∀ {A' : Around} {E : Value → Shared → Prop} {Q : Value → Shared → Prop}, Q (.ref hp.objs.size) ⟨hp.push o, g, dr, tk, os⟩ → wpAny (model prog w) A' (pyIter v) Q E ⟨hp, g, dr, tk, os⟩ :=
      fun z => B.iter prog w _ _ ⟨hp, g, dr, tk, os⟩ _ h1 z
    wp_walk using it1
    refine wpAny_stack_any fun st => (wpAny_pure ?_)
    split
    · rename_i c _ _ _ _ _
      cases (c == Value.type "enumerate") <;> (wp_walk using it1; exact ⟨_, rfl, h2⟩)
    · wp_walk using it1
      exact ⟨_, rfl, h2⟩
section
variable {prog : Program} {w : World} {A : Around} {E : Value → Shared → Prop} {s : Shared}
theorem call_enum1 {v : Value} {o : Obj} {Hd : Heap → Prop} {Q : Value → Shared → Prop} (B : Begins v o Hd) (h1 : Hd s.heap)
    (h : ∀ h', IsEnum h' (s.heap.objs.size + 1) s.heap.objs.size 0 .none → h'.get? s.heap.objs.size = some o → h'.objs.size = s.heap.objs.size + 2 → (∀ b u, s.heap.get? b = some u → h'.get? b = some u) → Q (.ref (s.heap.objs.size + 1)) { s with heap := h' }) :
    wpAny (model prog w) A (call (.type "enumerate") [v]) Q E s := by
  refine callType_new F.called_enumerate (by decide) (F.typeCall_enumerate_1 _) (F.newCall_enumerate_1 _) (fun obj => F.args_object_init_2 obj _) F.entry_enumerate_new (meets_enum1 B) ⟨h1, ?_⟩
  have hz : (s.heap.push o).objs.size = s.heap.objs.size + 1 := Heap.size_push ..
  show _ ∧ _
  rw [hz]
  have he : IsEnum ((s.heap.push o).push { cls := .type "enumerate", data := .fields #[.none, .bool false, .ref s.heap.objs.size, rawInt 0, .none, .none] }) (s.heap.objs.size + 1) s.heap.objs.size 0 .none := by
    have q := Heap.get?_push_size (s.heap.push o) (o := { cls := .type "enumerate", data := .fields #[.none, .bool false, .ref s.heap.objs.size, rawInt 0, .none, .none] }) rfl
    rw [hz] at q
    exact q
  exact ⟨⟨_, he, rfl⟩, h _ he (Heap.get?_push_of_some _ (Heap.get?_push_size _ B.free)) (by rw [Heap.size_push, hz]) fun b u x => Heap.get?_push_of_some _ (Heap.get?_push_of_some _ x)⟩
end
/-- enumerate of the tuple at a -/
def IteT (K : PySem.W.Frag) (a : Addr) : It :=
  ⟨fun i H => ∃ (xs : List V) (x : V), SqT K H a xs ∧ xs[i]? = some x, fun i H v H' => ∃ T x, v = .ref T ∧ H T = none ∧ H' = upd H T (.tup [.int (i : Nat), x]) ∧ ∀ xs, SqT K H a xs → xs[i]? = some x, fun i H => ∃ xs : List V, SqT K H a xs ∧ xs.length = i⟩
theorem turn_enumT {P : Program} {w : World} {K : PySem.W.Frag} {elts : List Expr} {kk : Nat} {tpos : Pos} (a e it : Addr) :
    Turn P w K (.Tuple elts kk tpos) (IteT K a) [e, it] e (fun i h => (∃ old, IsEnum h e it ((i : Nat) : Int) old) ∧ h.IsTupleIter it a i ∧ e ≠ it) where
  mem := by simp
  obj := fun i h st b hb => by
    obtain ⟨⟨old, he⟩, ⟨o, ho, hc, hd⟩, _⟩ := st
    rcases (show b = e ∨ b = it by simpa using hb) with z | z
    · rw [z]; exact ⟨_, he, fun v q => nomatch q⟩
    · rw [z]; exact ⟨o, ho, fun v q => by rw [hd] at q; cases q⟩
  keep := fun i h h' st k => let ⟨⟨old, he⟩, hi, hne⟩ := st; ⟨⟨old, k e (by simp) _ he⟩, hi.at fun o q => k it (by simp) o q, hne⟩
  item := by
    intro X hP hw hK hc i pins s σ H E I hf st hg
    subst hP hw hK
    obtain ⟨⟨old, he⟩, hit, hne⟩ := st
    obtain ⟨xs, x, hq, hx⟩ := hg
    obtain ⟨its, rv, p, hz⟩ := I.tuple hq
    obtain ⟨u, hu, ru⟩ := rv.get hx
    have hel : e < s.heap.objs.size := Heap.lt_size he
    have hil : it < s.heap.objs.size := by obtain ⟨_, q, _⟩ := hit; exact Heap.lt_size q
    have nai : a ≠ it := fun z => by
      obtain ⟨o, ho, hc', _⟩ := p
      obtain ⟨o', ho', hc2, _⟩ := hit
      rw [z, ho'] at ho
      cases ho
      rw [hc'] at hc2
      simp at hc2
    have nea : e ≠ a := fun z => by
      obtain ⟨o, ho, hc', _⟩ := p
      have he' := he
      unfold IsEnum at he'
      rw [z, ho] at he'
      cases he'
      simp at hc'
    have D := Draws.tuple (prog := X.prog) (w := X.w) (A := X.A.in1) (by show X.A.in1.handled = none; simp [I.ok.hd hc]) it a nai its.toArray
    have hlt : i < its.toArray.size := by
      have q : i < its.length := (List.getElem?_eq_some_iff.mp hu).1
      simpa using q
    refine wpAny_pyNext_enum_itemD D he ⟨hit, p⟩ hlt hne (by simp [hne, nea]) fun x' h' tk hPx ho st' hT hsz hk => ?_
    obtain rfl : x' = u := by
      have q : its.toArray[i]? = some x' := hPx
      have q2 : its.toArray[i]? = some u := by simpa using hu
      exact Option.some.inj (q.symm.trans q2)
    refine ⟨_, rfl, wpAny_letOwnedTupleGo_enum (s := { s with heap := h', toks := tk + 1 }) ho fun h2 he2 sb => ?_⟩
    have hT2 : h2.get? s.heap.objs.size = some { cls := .type "tuple", data := .seq #[.int i tk, x'] } := (sb.2 _ (Nat.ne_of_gt hel)).trans hT
    have new : ObjOk X.prog X.w (upd H s.heap.objs.size (.tup [.int (i : Nat), x])) h2 s.heap.objs.size (.tup [.int (i : Nat), x]) :=
      ⟨by show 2 ≤ sizeLine; decide, [.int i tk, x'], .cons ⟨_, rfl⟩ (.cons ru .nil), ⟨_, hT2, rfl, _, rfl⟩⟩
    have I1 : Inv X pins σ (upd H s.heap.objs.size (.tup [.int (i : Nat), x])) { s with heap := h2, toks := tk + 1 } :=
      I.turnedNew (ch := [e, it]) (fun b ob hb q => (sb.2 b fun z => hb (by simp [z])).trans (hk b ob (fun z => hb (by simp [z])) (fun z => hb (by simp [z])) q)) hf (Nat.le_refl _) new
    refine ⟨.ref s.heap.objs.size, _, I1, rfl, ⟨_, x, rfl, I.hok.fresh (Nat.le_refl _), rfl, fun ys hy => by rw [I.tuple_inj hy hq]; exact hx⟩, ⟨⟨x', ?_⟩, st'.1.at fun o q => (sb.2 it (Ne.symm hne)).trans q, hne⟩, fun b hb => ?_⟩
    · rw [show ((i + 1 : Nat) : Int) = (i : Int) + 1 by omega]
      exact he2
    · have hb' : b < s.heap.objs.size := by
        rcases (show b = e ∨ b = it by simpa using hb) with z | z
        · rw [z]; exact hel
        · rw [z]; exact hil
      rw [upd_ne (Nat.ne_of_lt hb')]
      exact (hf b hb).1
  done := by
    intro X hP hw hK hc i pins s σ H E I hf st hg
    subst hP hw hK
    obtain ⟨⟨old, he⟩, hit, hne⟩ := st
    obtain ⟨xs, hq, hx⟩ := hg
    obtain ⟨its, rv, p, hz⟩ := I.tuple hq
    obtain ⟨f0, f1, f2, f3, f4, f5⟩ := hf it (by simp)
    have nai : a ≠ it := fun z => by
      obtain ⟨o, ho, hc', _⟩ := p
      obtain ⟨o', ho', hc2, _⟩ := hit
      rw [z, ho'] at ho
      cases ho
      rw [hc'] at hc2
      simp at hc2
    have hi : its.toArray.size = i := by
      have hl := rv.length
      simp only [List.size_toArray]
      omega
    have D := Draws.tuple (prog := X.prog) (w := X.w) (A := X.A.in1) (by show X.A.in1.handled = none; simp [I.ok.hd hc]) it a nai its.toArray
    exact wpAny_pyNext_enum_endD D he (by rw [hi]; exact ⟨hit, p⟩) fun h' eb => ⟨rfl, I.turned (t' := s.toks) (fun b o hb q => eb b o hb q) f0 f1 f3 f4 f5⟩
  self := fun A i s Q E st h => let ⟨⟨_, he⟩, _⟩ := st; wpAny_pyIter_enum he h
def iEnumT (K : PySem.W.Frag) (ta : TA) : TI := fun σ H R => ta σ H fun vs H1 => ∃ a xs, vs = [.ref a] ∧ SqT K H1 a xs ∧ R (IteT K a) H1
theorem pi_enumT {X : Cx} {K : PySem.W.Frag} {e : Expr} {ta : TA} {p pos tpos : Pos} {elts : List Expr} {kk : Nat} (hK : X.K = K) (hg : Gl X "enumerate") (hm : X.mg "enumerate" = none) (ha : PA X [e] ta) (hs : starEach [e] X.env = [(false, eval e X.env)] := by rfl) :
    PI X (.Tuple elts kk tpos) (.Call (.Name "enumerate" p) [e] [] pos) (iEnumT K ta) := by
  subst hK
  refine ⟨fun pins s σ H R I h => Call_ (ld_blt I hg hm boot_enumerate (PyProof.Rows.callWith_type1 (thn (ha.run pos pins s σ H _ I h) fun us s1 ⟨vs, H1, I1, r1, q1⟩ => ?_) hs rfl))⟩
  obtain ⟨a, xs, ex, hq, q⟩ := q1
  subst ex
  cases r1 with
  | cons r rr =>
    cases rr
    cases r
    obtain ⟨its, rv, p', hz⟩ := I1.tuple hq
    refine call_enum1 (begins_tuple a its.toArray) p' fun h' he ho hsz hk => wpAny_pyIter_enum he ?_
    have I2 : Inv X pins σ H1 { s1 with heap := h' } := I1.kept (t' := s1.toks) hk
    refine ⟨s1.heap.objs.size + 1, [s1.heap.objs.size + 1, s1.heap.objs.size], _, _, H1, rfl, I2, turn_enumT a (s1.heap.objs.size + 1) s1.heap.objs.size, ⟨⟨.none, he⟩, ⟨_, ho, rfl, rfl⟩, Nat.succ_ne_self _⟩, fun b hb => ?_, q⟩
    have hle : s1.heap.objs.size ≤ b := by
      rcases (show b = s1.heap.objs.size + 1 ∨ b = s1.heap.objs.size by simpa using hb) with z | z
      · rw [z]; exact Nat.le_add_right _ _
      · rw [z]; exact Nat.le_refl _
    exact I1.fpOk hle (I1.hok.fresh hle)
/-- over the entries: the pair is told item by item -/
theorem s_forE {M : Md} {ρ : Ro} {P : Po} {α : Type} {F : α → Dt} {KF : PySem.W.Frag} {t : TS} {g : TG} {t' : TA} (h : Wa M t' ρ fun es => ∃ ds : List α, es = [.dat (.tuple (ds.map F))] ∧ ∃ I : Nat → Ro → Prop, I 0 ρ ∧
      (∀ i d ρ', ds[i]? = some d → I i ρ' → Wg M g (.dat (.tuple [.int (i : Nat), F d])) ρ' fun ρ2 => Ws M t ρ2 { nx := I (i + 1), ct := I (i + 1), bk := P.nx, rt := P.rt }) ∧ ∀ ρ', I ds.length ρ' → P.nx ρ') :
    Ws M (tFor (iEnumT KF t') g t) ρ P := fun D σ H j n a b c d =>
  h σ H j n _ fun vs H1 es l1 i1 ⟨ds, ex, I, h0, hs, hd⟩ => by
    subst ex
    cases i1 with
    | cons a1 r1 =>
      cases r1
      obtain ⟨p, xs, rfl, hp, r⟩ := At.of_tup a1
      have hlen : xs.length = ds.length := by rw [r.len, List.length_map]
      refine ⟨p, xs, rfl, SqT.of hp, fun i m σ' H' => m = ds.length - i ∧ i ≤ ds.length ∧ M.le H1 H' ∧ ∃ ρ', En M H' σ' ρ' ∧ I i ρ', ⟨ds.length, rfl, Nat.zero_le _, Md.refl l1.2, ρ, n.le j l1, h0⟩, ?_⟩
      rintro i m σ' H' ⟨rfl, hi, l2, ρ', n2, k2⟩
      have hq : SqT KF H' p xs := SqT.of (l2.kt l1.2 _ _ hp)
      by_cases hlt : i < ds.length
      · refine .inr ⟨⟨xs, xs[i]'(by omega), hq, by simp [hlen, hlt]⟩, fun σ2 H2 => i + 1 ≤ ds.length ∧ M.le H1 H2 ∧ ∃ ρ', En M H2 σ2 ρ' ∧ I (i + 1) ρ', fun σ2 H2 ⟨a1, a2, a3⟩ => ⟨ds.length - (i + 1), by omega, rfl, a1, a2, a3⟩, fun v H2 y => ?_⟩
        obtain ⟨T, x, rfl, hT, rfl, hx⟩ := y
        have hx := hx xs hq
        obtain ⟨d', hd', az⟩ := r.get' hx
        rw [List.getElem?_map] at hd'
        obtain ⟨d0, hd0, rfl⟩ := Option.map_eq_some_iff.mp hd'
        have l3 := Md.new (M := M) (o := .tup [.int (i : Nat), x]) l2.2 hT
        have az3 : At (upd H' T (.tup [.int (i : Nat), x])) x (F d0) := (az.keep (l2.kt l1.2)).keep (l3.kt l2.2)
        refine hs i d0 ρ' hd0 k2 _ σ' _ l3.2 (Is.d (At.tup upd_same (.cons (.int _) (.cons az3 .nil)))) (n2.le l2.2 l3) _ fun σ4 H4 ρ4 l4 n4 k4 => ?_
        have l5 := (l2.trans l3).trans l4
        exact k4 _ σ4 H4 l4.2 n4 (fun σ6 H6 ρ6 l6 n6 k6 => ⟨hlt, l5.trans l6, ρ6, n6, k6⟩) (HitV.le b (l1.trans l5)) (Hits.le a (l1.trans l5)) (fun σ6 H6 ρ6 l6 n6 k6 => ⟨hlt, l5.trans l6, ρ6, n6, k6⟩)
      · have e : i = ds.length := by omega
        subst e
        exact .inl ⟨⟨xs, hq, hlen⟩, a σ' H' ρ' (l1.trans l2) n2 (hd ρ' k2)⟩
end TW
/-! K28D3 -/
namespace TW
open PySem PySem.Spec PyProof.Rows L2
/-! ### defs whose answer is told by what holds of it -/
def psq {ι : Type} (A : ι → List En1 → Prop) (S : ι → En1 → Prop) : Sp := fun vs H Q _ => ∃ i es, IsS M0.B H vs es ∧ A i es ∧ ∀ v H' e, Same H H' → Is M0.B H' v e → S i e → Q v H'
section
variable {M : Md} {ρ : Ro} {K : En1 → Prop} {ta tb tc te td : TE} {e : En1} {KF : PySem.W.Frag} {ι : Type} {A : ι → List En1 → Prop} {S : ι → En1 → Prop}
theorem w_callq {E : XK} {t : TA} (h : Wa M0 t ρ fun es => ∃ i, A i es ∧ ∀ e, S i e → K e) : We M0 (tCall (psq A S) [] E t) ρ K := fun σ H j n Q q =>
  h σ H j n _ fun vs H1 es l1 i1 ⟨i, a, k⟩ => by
    show psq A S (vs ++ []) H1 Q E
    rw [List.append_nil]
    exact ⟨i, es, i1, a, fun v H' e s iv se => q v H' e (l1.trans (le0_of s)) iv (k e se)⟩
variable {P : Program} {w : World} {mg : Str → Option Value} {base : Heap}
theorem ok_pureq {x qual : Str} {st : Stmt} {f : Addr} {fd : FuncData} {N ps : List Str} {k : Nat} (F : FnQ KF x qual st f fd) (Sc : FnScope N ps (defScope st)) (len : ∀ i es, A i es → es.length = ps.length)
    (body : ∀ (cdv : Value) (Ar : Around) (outer : List Env) (s : Shared) (H : Hp) (E : XK), Room k (Ar.deeper (envOfC qual (defScope st) s.heap.objs.size f cdv)) →
      ∃ t, PSs (cxOf CX0 P w KF mg base N qual (defScope st) f cdv Ar outer s H E).nox (defBody st) t ∧ ∀ i es, A i es → Ws M0 t (startR N es) { nx := fun _ => S i (.dat .none), rt := S i }) :
    FnOk P w KF mg base CX0 (k + 1) f fd ps (psq A S) := by
  refine F.ok Sc (fun vs H Q E ⟨i, es, is, r, q⟩ => (Paired.length is).trans (len i es r)) (fun cdv Ar outer s H vs Q E hr ⟨i, es, is, r, q⟩ => ?_)
  obtain ⟨t, h, b⟩ := body cdv Ar outer s H E hr
  refine ⟨t, h.nox, b i es r _ _ H trivial (en_start is) (fun σ' H' ρ' l n k => ?_) (fun v H' e' l iv k => ?_) (fun σ' H' ρ' l n k => k.elim) (fun σ' H' ρ' l n k => k.elim)⟩
  · exact q .non H' _ (Md.le0 l) (Is.d At.non) k
  · exact q v H' _ (Md.le0 l) iv k
theorem t_is {t : TT} {KB : Bool → Prop} (b0 : Bool) (h : Wt M t ρ fun b => b = b0) (k : KB b0) : Wt M t ρ KB := h.imp fun b e => by rw [e]; exact k
theorem w_is (e0 : En1) (h : We M ta ρ fun b => b = e0) (k : K e0) : We M ta ρ K := h.imp fun b e => by rw [e]; exact k
/-! ### sorted -/
abbrev rSortD : List V → Hp → VK → Prop := fun xs H Q => ∃ (a : Addr) (kvs : List (Key × V)) (ks : List Int), xs = [.ref a] ∧ Rd H a (.dK kvs) ∧ kvs.map (·.1) = ks.map Sum.inl ∧ ks.length < 64 ∧
    ∀ (ys : List Int) (p : Addr), ys.Perm ks → ys.Pairwise (· ≤ ·) → H p = none → Q (.ref p) (upd H p (.lst (ys.map V.int)))
theorem dicS_keys {H : Hp} : ∀ {ks : List (Key × V)} {kvs : List (Int × Dt)}, DicS H ks kvs → ks.map (·.1) = (kvs.map (·.1)).map Sum.inl
  | _, _, .nil => rfl
  | (k, v) :: _, (k', d) :: _, .cons h r => by
    obtain ⟨h1, _⟩ := h
    simp only at h1
    subst h1
    simp only [List.map_cons, dicS_keys r]
theorem w_sortD {t : TA} (h : Wa M t ρ fun es => ∃ kvs, es = [.dic kvs] ∧ kvs.length < 64 ∧ ∀ ys : List Int, ys.Perm (kvs.map (·.1)) → ys.Pairwise (· ≤ ·) → K (.lst (ys.map .int))) : We M (tCB rSortD t) ρ K :=
  w_cb fun σ H j n Q q => h σ H j n _ fun vs H1 es l1 i1 ⟨kvs, ee, z, k⟩ => q vs H1 es l1 i1 fun vs' H' j' i' Q' q' => by
    subst ee
    cases i' with
    | cons a r =>
      cases r
      obtain ⟨p, ks, rfl, nb, hp, r⟩ := a
      refine ⟨p, ks, kvs.map (·.1), rfl, Rd.of hp, dicS_keys r, by rw [List.length_map]; exact z, fun ys l pm pw hl => ?_⟩
      exact q' _ _ _ (Md.new j' hl) (Is.l (Md.fresh j' hl) upd_same (atS_ints ys)) (k ys pm pw)
theorem w_sortI {t : TA} (h : Wa M t ρ fun es => ∃ ns : List Int, es = [.lst (ns.map .int)] ∧ ∀ ys : List Int, ys.Perm ns → ys.Pairwise (· ≤ ·) → K (.lst (ys.map .int))) : We M (tCB (rSortedI KF) t) ρ K :=
  w_cb fun σ H j n Q q => h σ H j n _ fun vs H1 es l1 i1 ⟨ns, ee, k⟩ => q vs H1 es l1 i1 fun vs' H' j' i' Q' q' => by
    subst ee
    cases i' with
    | cons a r =>
      cases r
      obtain ⟨p, xs, rfl, nb, hp, r⟩ := a
      refine ⟨p, ns, rfl, SqL.of (by rw [hp, r.ints]), fun ys l pm pw hl => ?_⟩
      exact q' _ _ _ (Md.new j' hl) (Is.l (Md.fresh j' hl) upd_same (atS_ints ys)) (k ys pm pw)
theorem w_dnotin (h : We M ta ρ fun x => We M tb ρ fun y => ∃ kvs i, x = .dat (.int i) ∧ y = .dic kvs ∧ K (.dat (.bool (!(lookD kvs i).isSome)))) : We M (tDNotIn ta tb) ρ K := fun σ H j n Q q =>
  h σ H j n _ fun v H1 x l1 i1 k1 => k1 σ H1 l1.2 (n.le j l1) _ fun u H2 y l2 i2 ⟨kvs, i, ex, ey, k⟩ => by
    subst ex ey
    obtain ⟨a, ks, rfl, _, ha, r⟩ := i2
    have e : (valV ks (.inl i)).isSome = (lookD kvs i).isSome := by
      cases c : lookD kvs i with
      | none => rw [(lookD_at i r).2 c]; rfl
      | some d =>
        obtain ⟨z, ez, _⟩ := (lookD_at i r).1 d c
        rw [ez]; rfl
    refine ⟨a, valV ks (.inl i), rfl, ?_, ?_⟩
    · rw [At.of_int (Is.le l1.2 l2 i1)]
      exact DGet.k (k := Sum.inl i) ha
    · rw [e]
      exact q _ H2 _ (l1.trans l2) (Is.d (At.bl _)) k
/-! ### a comprehension over zip -/
theorem wipe2 (σ : L2.St) {i j : Nat} (h : i ≠ j) (o u : Option V) : L2.wipe (((L2.wipe σ [i, j]).set i o).set j u) [i, j] = L2.wipe σ [i, j] := by
  apply List.ext_getElem?
  intro k
  simp only [L2.wipe, List.getElem?_set, List.length_set]
  repeat' split
  all_goals first | rfl | (exfalso; omega)
theorem wipeR2 (ρ : Ro) {i j : Nat} (h : i ≠ j) (o u : Option En1) : (((wipeR ρ [i, j]).set i o).set j u) = ((ρ.set i o).set j u) := by
  apply List.ext_getElem?
  intro k
  simp only [wipeR, List.getElem?_set, List.length_set]
  repeat' split
  all_goals first | rfl | (exfalso; omega)
theorem yes_if {te : TE} {σ : L2.St} {H : Hp} {Q : VK} {R : Hp → Prop} (h : te σ H Q) : tYes σ H fun b H3 => if b = true then te σ H3 Q else R H3 := by
  show (if true = true then te σ H Q else R H)
  exact iteT h
theorem w_lcZ {i j : Nat} {t : TA} (hij : i ≠ j) (h : Wa M t ρ fun es => ∃ ns ms : List Dt, es = [.lst ns, .lst ms] ∧ ns.length ≤ 1000000 ∧ ∃ v : Dt → Dt → Dt, (∀ (q : Nat) (a b : Dt), ns[q]? = some a → ms[q]? = some b → We M te ((ρ.set i (some (.dat a))).set j (some (.dat b))) fun e => e = .dat (v a b)) ∧
      K (.lst ((ns.zip ms).map fun q => v q.1 q.2))) :
    We M (tLc (iZip KF t) (gTup KF 2 (gCons (gName i) (gCons (gName j) gNil))) tYes te [i, j]) ρ K := fun σ H jj n Q q =>
  h σ H jj n _ fun vs H1 es l1 i1 ⟨ns, ms, ex, z, v, he, k⟩ => by
    subst ex
    cases i1 with
    | cons a1 r1 =>
    cases r1 with
    | cons a2 r2 =>
    cases r2
    obtain ⟨p, xs, rfl, nbp, hp, r⟩ := a1
    obtain ⟨p', xs', rfl, nbp', hp', r'⟩ := a2
    refine ⟨p, p', xs, xs', rfl, SqL.of hp, SqL.of hp', fun D hD => ?_⟩
    have nb := Md.fresh l1.2 hD
    refine lc_it (walk_zip (n := (ns.zip ms).length) (by rw [List.length_zip, r.len, r'.len])) (fun m H' => M.le H1 H' ∧ ∃ acc, H' D = some (.lst acc) ∧ AtS H' acc (((ns.zip ms).take m).map fun q => v q.1 q.2)) ⟨Md.new l1.2 hD, [], upd_same, .nil⟩
      (fun m H' _ l => ⟨SqL.of (l.1.1 _ _ nbp hp), SqL.of (l.1.1 _ _ nbp' hp')⟩) ?_ ?_
    · rintro m x H2 H3 hm ⟨l2, acc, ha, ra⟩ ⟨T, x1, x2, rfl, hT, rfl, e1, e2⟩
      obtain ⟨d1, f1, z1⟩ := r.get' e1
      obtain ⟨d2, f2, z2⟩ := r'.get' e2
      have l3 := Md.new (M := M) (o := .tup [x1, x2]) l2.2 hT
      have l23 := l2.trans l3
      refine ⟨T, [x1, x2], rfl, SqT.of upd_same, rfl, x1, [x2], rfl, x2, [], rfl, rfl, wipe2 σ hij _ _, ?_⟩
      refine yes_if ?_
      have n1 := (((n.le jj l1).le l1.2 l23).wipe [i, j]).set i (Is.d (B := M.B) (z1.keep (l23.kt l1.2)))
      have n2 := n1.set j (Is.d (B := M.B) (z2.keep (l23.kt l1.2)))
      rw [wipeR2 ρ hij] at n2
      refine he m d1 d2 f1 f2 _ _ l23.2 n2 _ fun y H4 ey l4 i4 ke => ?_
      subst ke
      have l34 := l3.trans l4
      have hD4 : H4 D = some (.lst acc) := l34.1 D _ nb ha
      have kt := l34.kt l2.2
      have kd : KT H4 (upd H4 D (.lst (acc ++ [y]))) := fun a ys h => by rw [upd_ne (ne_of h hD4 (by intro z; cases z))]; exact h
      have hz : (ns.zip ms)[m]? = some (d1, d2) := by rw [List.getElem?_zip_eq_some]; exact ⟨f1, f2⟩
      have tk : (ns.zip ms).take (m + 1) = (ns.zip ms).take m ++ [(d1, d2)] := by rw [List.take_succ, hz]; rfl
      have lz : acc.length < sizeLine := by
        have q := ra.len
        have q2 : (((ns.zip ms).take m).map fun q => v q.1 q.2).length ≤ ns.length := by
          rw [List.length_map, List.length_take, List.length_zip]
          omega
        rw [sizeLine_eq]
        omega
      refine ⟨acc, hD4, lz, ⟨fun a o na h => ?_, ?_⟩, _, upd_same, ?_⟩
      · rw [upd_ne (ne_of_none h hD)]
        exact (l2.trans l34).1 a o na h
      · exact M.he (l2.trans l34).2 kd fun a o ba h => by rw [upd_ne (show a ≠ D from fun e => nb (by rw [← e]; exact ba))]; exact h
      · rw [tk, List.map_append]
        exact ((ra.keep kt).keep kd).app (.cons (At.keep kd i4) .nil)
    · rintro H' ⟨l, acc, ha, ra⟩
      rw [List.take_length] at ra
      exact q _ H' _ (l1.trans l) (Is.l nb ha ra) k
end
theorem kiZip {X : Cx} {K : PySem.W.Frag} {e e2 : Expr} {ta : TA} {p pos tpos : Pos} {elts : List Expr} {kk : Nat} (hK : X.K = K) (hg : Gl X "zip") (hm : X.mg "zip" = none) (ha : PA X [e, e2] ta)
    (hs : starEach [e, e2] X.env = (false, eval e X.env) :: starEach [e2] X.env := by rfl) (hpl : (backTo pos (starEach [e2] X.env)).any (·.1) = false := by rfl) :
    PI X (.Tuple elts kk tpos) (.Call (.Name "zip" p) [e, e2] [] pos) (iZip K ta) := by subst hK; exact pi_zip hg hm ha hs hpl
theorem kSortI {X : Cx} {K : PySem.W.Frag} (h : X.K = K) : CallR X (.builtin "sorted") (rSortedI K) := by subst h; exact cr_sortedI
end TW
/-! K28S -/
/-! K28: the data of the program, in plain Lean. -/
namespace TW
open PySem PySem.Spec PyProof.Rows L2
theorem atI_of {α : Type} {xs : List α} {z : Int} {j : Nat} {v : α} (e : z = (j : Int)) (h : xs[j]? = some v) : atI xs z = some v := by rw [e]; exact atI_nat h
/-- a claim that the steps leave alone -/
@[irreducible] def Hid (p : Prop) : Prop := p
theorem hid {p : Prop} (h : p) : Hid p := by unfold Hid; exact h
theorem Hid.out {p : Prop} (h : Hid p) : p := by unfold Hid at h; exact h
structure Meter where
  name : Str
  lo : Int
  hi : Int
  err : Int
structure Plan where
  len : Int
  ms : List Meter
abbrev Slot := Int × List (Option Int)
structure Log where
  name : Str
  off : Int
  ss : List Slot
@[reducible] def optD : Option Int → Dt
  | none => .none
  | some i => .int i
abbrev Meter.d (m : Meter) : Dt := .tuple [.str m.name, .int m.lo, .int m.hi, .int m.err]
abbrev Plan.d (p : Plan) : Dt := .tuple [.int p.len, .tuple (p.ms.map Meter.d)]
abbrev slotD (s : Slot) : Dt := .tuple [.int s.1, .tuple (s.2.map optD)]
abbrev Log.d (l : Log) : Dt := .tuple [.str l.name, .int l.off, .tuple (l.ss.map slotD)]
inductive Let where
  | read (s v : Nat) (st : Int) (x : Option Int)
  | close (n : Nat) (st : Int) (vs : Nat)
  | clock (lo hi : Int)
  deriving DecidableEq
abbrev Let.d (nm : Str) : Let → Dt
  | .read s v st x => .tuple [.str "read", .str nm, .int s, .int v, .int st, optD x]
  | .close n st vs => .tuple [.str "close", .str nm, .int n, .int st, .int vs]
  | .clock lo hi => .tuple [.str "clock", .str nm, .int lo, .int hi]
/-! what is right -/
def InR (m : Meter) : Option Int → Prop
  | none => True
  | some v => m.lo ≤ v ∧ v ≤ m.hi
structure VsOk (m : Meter) (vs : List (Option Int)) : Prop where
  len : vs.length ≤ 1000
  first : ∃ v r, vs = some v :: r
  inr : ∀ x ∈ vs, InR m x
structure SsOk (m : Meter) (ss : List Slot) : Prop where
  len : ss.length ≤ 1000
  vs : ∀ s ∈ ss, VsOk m s.2
  asc : ss.Pairwise fun a b => a.1 ≤ b.1
/-- a letter is true of a log -/
def Tr (off : Int) (ss : List Slot) : Let → Prop
  | .read s v st x => ∃ sl : Slot, 1 ≤ s ∧ ss[s - 1]? = some sl ∧ sl.1 = st ∧ sl.2[v]? = some x
  | .close n st vs => n ≤ ss.length ∧ (∀ i sl, ss[i]? = some sl → (sl.1 < st ↔ i < n)) ∧ ((ss.take n).map fun s => s.2.length).sum = vs
  | .clock lo hi => lo ≤ off ∧ off ≤ hi
/-- a plan as the law makes it -/
structure PlOk (p : Plan) : Prop where
  few : p.ms.length ≤ 60
  nd : (p.ms.map Meter.name).Nodup
  ok : ∀ m ∈ p.ms, PyData.strOk m.name = true ∧ m.lo ≤ m.hi ∧ 0 ≤ m.err
theorem find_name {l : List Meter} (nd : (l.map Meter.name).Nodup) {m : Meter} (h : m ∈ l) : l.find? (fun x => decide (x.name = m.name)) = some m := by
  induction l with
  | nil => cases h
  | cons a r ih =>
    rw [List.map_cons, List.nodup_cons] at nd
    rcases List.mem_cons.mp h with e | h
    · subst e
      simp
    · have ne : a.name ≠ m.name := fun e => nd.1 (by rw [e]; exact List.mem_map.mpr ⟨m, h, rfl⟩)
      rw [List.find?_cons_of_neg (by simpa using ne)]
      exact ih nd.2 h
/-- the history of the law: the log of the meter, logs without slots for the others -/
def histOf (p : Plan) (m : Meter) (off : Int) (ss : List Slot) : List Log := p.ms.map fun o => if o.name = m.name then ⟨m.name, off, ss⟩ else ⟨o.name, o.err, []⟩
theorem lay_strs : ∀ {xs : List Str}, (∀ x ∈ xs, PyData.strOk x = true) → PyData.canLayAll0 (xs.map PyData.str) = true ∧ PyData.depthAll (xs.map PyData.str) ≤ 2
  | [], _ => by simp [PyData.canLayAll0, PyData.depthAll]
  | x :: xs, h => by
    obtain ⟨a, b⟩ := lay_strs (xs := xs) fun y hy => h y (List.mem_cons_of_mem _ hy)
    have c := h x List.mem_cons_self
    simp only [List.map_cons, PyData.canLayAll0, PyData.canLay0, PyData.depthAll, PyData.depth, c, a, Bool.and_self, true_and]
    omega
theorem shaped_strs {xs : List Str} (h : ∀ x ∈ xs, PyData.strOk x = true) : SeqAt.shaped (.list (xs.map PyData.str)) = true := by
  obtain ⟨a, b⟩ := lay_strs h
  show (PyData.canLay0 (.list (xs.map PyData.str)) && decide (PyData.depth (.list (xs.map PyData.str)) ≤ 64)) = true
  rw [Bool.and_eq_true]
  refine ⟨by simpa only [PyData.canLay0] using a, decide_eq_true ?_⟩
  simp only [PyData.depth]
  omega
end TW
/-! K28S2 -/
namespace TW
open PySem PySem.Spec PyProof.Rows L2
/-! the letters about the meter n, where all letters are about nm -/
def abt (nm n : Str) (us : List Let) : List Let := if nm = n then us else []
def isRd : Let → Bool
  | .read .. => true
  | _ => false
theorem mem_abt {nm n : Str} {us : List Let} {l : Let} (h : l ∈ abt nm n us) : nm = n ∧ l ∈ us := by
  unfold abt at h
  split at h
  · exact ⟨by assumption, h⟩
  · cases h
theorem abt_mem {nm n : Str} {us : List Let} {l : Let} (e : nm = n) (h : l ∈ us) : l ∈ abt nm n us := by
  unfold abt
  rw [if_pos e]
  exact h
/-- how many versions the slots from a to b (not included) have -/
def cnt (ss : List Slot) (a b : Nat) : Nat := (((ss.take b).drop a).map fun s => s.2.length).sum
theorem cnt_zero (ss : List Slot) : cnt ss 0 0 = 0 := by simp [cnt]
theorem cnt_split (ss : List Slot) {a b : Nat} (h : a ≤ b) : cnt ss 0 b = cnt ss 0 a + cnt ss a b := by
  unfold cnt
  have e : ss.take b = (ss.take b).take a ++ (ss.take b).drop a := (List.take_append_drop a _).symm
  have e2 : (ss.take b).take a = ss.take a := by rw [List.take_take, Nat.min_eq_left h]
  simp only [List.drop_zero]
  conv => lhs; rw [e, List.map_append, List.sum_append, e2]
theorem cnt_range (ss : List Slot) {a b : Nat} (h : a ≤ b) (hb : b ≤ ss.length) : cnt ss a b = ((List.range' a (b - a)).map fun i => ((ss[i]?.map fun s => s.2.length).getD 0)).sum := by
  unfold cnt
  congr 1
  apply List.ext_getElem?
  intro i
  rw [List.getElem?_map, List.getElem?_map, List.getElem?_drop, List.getElem?_take]
  by_cases c : i < b - a
  · have q : a + i < ss.length := by omega
    have r : (List.range' a (b - a))[i]? = some (a + i) := by
      rw [List.getElem?_eq_getElem (by simpa using c)]
      simp
    rw [if_pos (by omega), r]
    simp [q]
  · have r : (List.range' a (b - a))[i]? = none := by
      rw [List.getElem?_eq_none (by simpa using c)]
    rw [if_neg (by omega), r]
    rfl
/-- over a list without doubles within another -/
theorem sum_sub {f g : Nat → Nat} : ∀ {ns l : List Nat}, ns.Nodup → (∀ n ∈ ns, n ∈ l) → (∀ n ∈ ns, f n ≤ g n) → (ns.map f).sum ≤ (l.map g).sum
  | [], _, _, _, _ => by simp
  | n :: ns, l, nd, sub, le => by
    rw [List.nodup_cons] at nd
    have hn := sub n List.mem_cons_self
    have pm := List.perm_cons_erase hn
    have ih := sum_sub (ns := ns) (l := l.erase n) nd.2 (fun m hm => (List.mem_erase_of_ne (show m ≠ n from fun e => nd.1 (by rw [← e]; exact hm))).mpr (sub m (List.mem_cons_of_mem _ hm))) fun m hm => le m (List.mem_cons_of_mem _ hm)
    have e := (pm.map g).sum_nat
    rw [List.map_cons, List.sum_cons, e, List.map_cons, List.sum_cons]
    have := le n List.mem_cons_self
    omega
theorem sum_minus {L : List Nat} {f : Nat → Nat} (h : ∀ n ∈ L, 1 ≤ f n) : (L.map f).sum = L.length + (L.map fun n => f n - 1).sum := by
  induction L with
  | nil => rfl
  | cons a r ih =>
    have q := ih fun n hn => h n (List.mem_cons_of_mem _ hn)
    have := h a List.mem_cons_self
    simp only [List.map_cons, List.sum_cons, List.length_cons, q]
    omega
/-! received slots -/
structure RecP (ss : List Slot) (kvs : List (Int × Dt)) : Prop where
  nd : (kvs.map (·.1)).Nodup
  few : kvs.length ≤ 60
  ok : ∀ q ∈ kvs, ∃ (k ver : Nat) (x : Option Int) (sl : Slot), q = ((k : Int), .tuple [.int ver, .int sl.1, optD x]) ∧ 1 ≤ k ∧ ss[k - 1]? = some sl ∧ ver < sl.2.length
theorem lookD_mem {kvs : List (Int × Dt)} {i : Int} {d : Dt} (nd : (kvs.map (·.1)).Nodup) (h : (i, d) ∈ kvs) : lookD kvs i = some d := by
  induction kvs with
  | nil => cases h
  | cons a r ih =>
    rw [List.map_cons, List.nodup_cons] at nd
    rcases List.mem_cons.mp h with e | h
    · subst e
      simp [lookD]
    · have ne : a.1 ≠ i := fun e => nd.1 (by rw [e]; exact List.mem_map.mpr ⟨_, h, rfl⟩)
      have q : lookD (a :: r) i = lookD r i := by simp [lookD, ne]
      rw [q]
      exact ih nd.2 h
theorem mem_lookD {kvs : List (Int × Dt)} {i : Int} {d : Dt} (h : lookD kvs i = some d) : (i, d) ∈ kvs := by
  unfold lookD at h
  obtain ⟨q, hq, rfl⟩ := Option.map_eq_some_iff.mp h
  have e : q.1 = i := by simpa using List.find?_some hq
  rw [← e]
  exact List.mem_of_find?_eq_some hq
theorem RecP.at {ss : List Slot} {kvs : List (Int × Dt)} (R : RecP ss kvs) {n : Int} (h : n ∈ kvs.map (·.1)) :
    ∃ (k ver : Nat) (x : Option Int) (sl : Slot), n = (k : Int) ∧ lookD kvs n = some (.tuple [.int ver, .int sl.1, optD x]) ∧ 1 ≤ k ∧ ss[k - 1]? = some sl ∧ ver < sl.2.length := by
  obtain ⟨q, hq, rfl⟩ := List.mem_map.mp h
  obtain ⟨k, ver, x, sl, rfl, a, b, c⟩ := R.ok q hq
  exact ⟨k, ver, x, sl, rfl, lookD_mem R.nd hq, a, b, c⟩
def rvv (kvs : List (Int × Dt)) (n : Int) : Int := match lookD kvs n with
  | some (.tuple (.int v :: _)) => v
  | _ => 0
def rvs (kvs : List (Int × Dt)) (n : Int) : Int := match lookD kvs n with
  | some (.tuple (_ :: .int v :: _)) => v
  | _ => 0
/-- the stamps of the received slots, by their numbers, rise -/
theorem rec_asc {m : Meter} {ss : List Slot} {kvs : List (Int × Dt)} (R : RecP ss kvs) (S : SsOk m ss) {ys : List Int} (pm : ys.Perm (kvs.map (·.1))) (pw : ys.Pairwise (· ≤ ·)) : (ys.map (rvs kvs)).Pairwise (· ≤ ·) := by
  rw [List.pairwise_map]
  refine List.Pairwise.imp_of_mem (fun {a b} ha hb hle => ?_) pw
  obtain ⟨k, ver, x, sl, rfl, e, k1, hs, _⟩ := R.at (pm.mem_iff.mp ha)
  obtain ⟨k', ver', x', sl', rfl, e', k1', hs', _⟩ := R.at (pm.mem_iff.mp hb)
  have q1 : rvs kvs (k : Int) = sl.1 := by unfold rvs; rw [e]
  have q2 : rvs kvs (k' : Int) = sl'.1 := by unfold rvs; rw [e']
  rw [q1, q2]
  obtain ⟨l1, f1⟩ := List.getElem?_eq_some_iff.mp hs
  obtain ⟨l2, f2⟩ := List.getElem?_eq_some_iff.mp hs'
  by_cases c : k = k'
  · subst c
    rw [hs] at hs'
    cases hs'
    exact Int.le_refl _
  · have q := List.pairwise_iff_getElem.mp S.asc (k - 1) (k' - 1) l1 l2 (by omega)
    rw [f1, f2] at q
    exact q
/-- the hidden versions of a segment are not less than none -/
theorem hidden_ok {m : Meter} {ss : List Slot} {kvs : List (Int × Dt)} (R : RecP ss kvs) (S : SsOk m ss) {first la : Nat} (h1 : 1 ≤ first) (h2 : first ≤ la + 1) (h3 : la ≤ ss.length) {ns : List Int} (nd : ns.Nodup)
    (hn : ∀ n ∈ ns, n ∈ kvs.map (·.1) ∧ (first : Int) ≤ n ∧ n ≤ la) : 0 ≤ (cnt ss (first - 1) la : Int) - ((la : Int) - first + 1 - ns.length) - (ns.map fun n => rvv kvs n + 1).sum := by
  have cr := cnt_range ss (a := first - 1) (b := la) (by omega) h3
  have pos : ∀ i ∈ List.range' (first - 1) (la - (first - 1)), 1 ≤ ((ss[i]?.map fun s => s.2.length).getD 0) := fun i hi => by
    have q := List.mem_range'.mp hi
    obtain ⟨j, hj, rfl⟩ := q
    have hl : first - 1 + 1 * j < ss.length := by omega
    have hm : ss[first - 1 + 1 * j]? = some ss[first - 1 + 1 * j] := List.getElem?_eq_getElem hl
    obtain ⟨v, r, e⟩ := (S.vs _ (List.getElem_mem hl)).first
    rw [hm]
    show 1 ≤ (ss[first - 1 + 1 * j]).2.length
    rw [e]
    simp
  rw [sum_minus pos, List.length_range'] at cr
  have nn : (ns.map fun n => rvv kvs n + 1).sum = (((ns.map Int.toNat).map fun (k : Nat) => (rvv kvs (k : Int)).toNat).sum : Int) + ns.length := by
    have key : ∀ l : List Int, (∀ n ∈ l, n ∈ kvs.map (·.1)) → (l.map fun n => rvv kvs n + 1).sum = (((l.map Int.toNat).map fun (k : Nat) => (rvv kvs (k : Int)).toNat).sum : Int) + l.length := by
      intro l
      induction l with
      | nil => intro _; rfl
      | cons a r ih =>
        intro h
        have q := ih fun n hn => h n (List.mem_cons_of_mem _ hn)
        obtain ⟨k, ver, x, sl, rfl, e, _⟩ := R.at (h a List.mem_cons_self)
        have q1 : rvv kvs (k : Int) = ver := by unfold rvv; rw [e]
        simp only [List.map_cons, List.sum_cons, List.length_cons, q, Int.toNat_natCast, q1]
        push_cast
        omega
    exact key ns fun n hn' => (hn n hn').1
  have le : ((ns.map Int.toNat).map fun (k : Nat) => (rvv kvs (k : Int)).toNat).sum ≤ ((List.range' (first - 1) (la - (first - 1))).map fun i => ((ss[i]?.map fun s => s.2.length).getD 0) - 1).sum := by
    have e : ((ns.map Int.toNat).map fun (k : Nat) => (rvv kvs (k : Int)).toNat) = ((ns.map fun n => n.toNat - 1).map fun (k : Nat) => (rvv kvs ((k + 1 : Nat) : Int)).toNat) := by
      rw [List.map_map, List.map_map]
      refine List.map_congr_left fun n hn' => ?_
      have q := (hn n hn').2.1
      have z : n.toNat - 1 + 1 = n.toNat := by omega
      simp only [Function.comp, z]
    rw [e]
    refine sum_sub ?_ ?_ ?_
    · have inj : ∀ l : List Int, l.Nodup → (∀ n ∈ l, (1 : Int) ≤ n) → (l.map fun n => n.toNat - 1).Nodup := by
        intro l nd' h
        refine List.pairwise_map.mpr (List.Pairwise.imp_of_mem (fun {a b} ha hb hne e => ?_) nd')
        have := h a ha
        have := h b hb
        exact hne (by omega)
      exact inj ns nd fun n hn' => by have := (hn n hn').2.1; omega
    · intro j hj
      obtain ⟨n, hn', rfl⟩ := List.mem_map.mp hj
      have q := (hn n hn').2
      exact List.mem_range'.mpr ⟨n.toNat - 1 - (first - 1), by omega, by omega⟩
    · intro j hj
      obtain ⟨n, hn', rfl⟩ := List.mem_map.mp hj
      obtain ⟨k, ver, x, sl, rfl, e2, k1, hs, hv⟩ := R.at (hn n hn').1
      have z : k - 1 + 1 = k := by omega
      have q1 : rvv kvs (k : Int) = ver := by unfold rvv; rw [e2]
      simp only [Int.toNat_natCast, z, q1, hs]
      show ver ≤ sl.2.length - 1
      omega
  rw [nn, cr]
  push_cast
  omega
end TW
/-! K28P1 -/
namespace TW
open PySem PySem.Spec PyProof.Rows L2
local macro_rules | `(tactic| walk_at "k28 d") => `(tactic| first
  | refine w_var rfl ?_ | with_reducible refine w_int ?_ | with_reducible refine w_str ?_ | with_reducible refine w_non ?_ | with_reducible refine w_bl ?_
  | with_reducible refine w_ixT ?_ | with_reducible refine w_ixL ?_ | with_reducible refine w_add ?_ | with_reducible refine w_sub ?_ | with_reducible refine w_eq ?_ | with_reducible refine w_ne ?_ | with_reducible refine w_lt ?_
  | with_reducible refine w_leq ?_ | with_reducible refine w_gt ?_ | with_reducible refine w_ge ?_ | with_reducible refine w_mul ?_ | with_reducible refine w_div ?_ | with_reducible refine w_mod ?_ | with_reducible refine w_pow ?_
  | with_reducible refine w_neg ?_ | with_reducible refine w_isN ?_ | with_reducible refine w_notN ?_ | with_reducible refine a_nil ?_ | with_reducible refine a_cons ?_ | with_reducible refine w_tup ?_ | with_reducible refine w_lst ?_
  | with_reducible refine w_call0 ?_ | with_reducible refine w_len ?_ | with_reducible refine w_sumM ?_ | with_reducible refine w_allM ?_ | with_reducible refine w_tuple ?_ | with_reducible refine w_abs ?_ | with_reducible refine w_toInt ?_ | with_reducible refine w_max2 ?_
  | with_reducible refine w_min2 ?_ | with_reducible refine t_test ?_ | with_reducible refine t_B ?_ | with_reducible refine t_and ?_ | with_reducible refine t_or ?_ | with_reducible refine t_not ?_ | with_reducible refine t_yes ?_
  | with_reducible refine w_andV ?_ | with_reducible refine w_orV ?_ | with_reducible refine w_notV ?_ | with_reducible refine w_if ?_ | with_reducible refine w_chain ?_ | with_reducible refine o_none ?_ | with_reducible refine o_some ?_
  | with_reducible refine w_slT ?_ | with_reducible refine w_slL ?_ | with_reducible refine w_catT ?_ | with_reducible refine w_catL ?_ | with_reducible refine w_dget ?_ | with_reducible refine w_din ?_ | with_reducible refine w_dnotin ?_ | with_reducible refine w_sortD ?_ | with_reducible refine w_sortI ?_ | with_reducible refine w_callq ?_ | with_reducible refine w_isB ?_
  | with_reducible refine w_notB ?_ | with_reducible refine g_name ?_ | refine gs_nil rfl ?_ | refine gs_cons rfl ?_ | with_reducible refine s_next ?_ | with_reducible refine s_seq ?_ | with_reducible refine s_asg ?_
  | with_reducible refine s_drop ?_ | with_reducible refine s_ret ?_ | with_reducible refine s_brk ?_ | with_reducible refine s_if ?_)
local macro_rules | `(tactic| walk_at "k28 x") => `(tactic| first
  | refine g_tup ⟨_, rfl, rfl, ?_⟩ | refine ⟨_, _, _, _, rfl, rfl, rfl, rfl, rfl, ?_⟩ | refine ⟨_, _, _, rfl, rfl, rfl, ?_⟩ | refine ⟨_, _, _, rfl, rfl, atI_nat (j := 0) rfl, ?_⟩ | refine ⟨_, _, _, rfl, ?_⟩ | refine ⟨_, _, rfl, rfl, by decide, ?_⟩ | refine ⟨_, _, rfl, rfl, ⟨by decide, by decide⟩, ?_⟩ | refine ⟨_, _, rfl, rfl, ⟨by decide, by decide, by decide⟩, ?_⟩ | refine ⟨_, _, rfl, rfl, .inl ⟨by decide, by decide⟩, ?_⟩ | refine ⟨_, _, rfl, rfl, .inr ⟨by decide, by decide⟩, ?_⟩ | refine ⟨_, _, rfl, rfl, ?_⟩ | refine ⟨_, _, rfl, ?_⟩ | refine ⟨_, (show undats _ = some _ from rfl), by simp, ?_⟩ | refine ⟨_, rfl, ?_⟩ | refine ⟨_, .inl rfl, ?_⟩ | refine ⟨_, .inr rfl, ?_⟩ | refine ⟨_, _, rfl, rfl, ?_, ?_⟩)
local macro_rules | `(tactic| walk_at "k28 t") => `(tactic| first | rw [if_pos (by decide)] | rw [if_neg (by decide)] | rw [if_pos (by simp)] | rw [if_neg (by simp)])
local macro_rules | `(tactic| walk_at "k28") => `(tactic| repeat (first | walk_at "k28 d" | walk_at "k28 x" | exact rfl))
local macro_rules | `(tactic| walk_at "k28 s") => `(tactic| repeat (first | (fail_if_success with_reducible refine s_if ?_); (first | walk_at "k28 d" | walk_at "k28 x" | exact rfl)))
local macro_rules | `(tactic| walk_at "k28 o") => `(tactic| first
  | with_reducible refine w_dnotinO ?_ | with_reducible refine w_dgetO ?_ | with_reducible refine w_dget2O ?_ | with_reducible refine w_lenO ?_ | with_reducible refine w_tupleO ?_ | with_reducible refine w_notInO ?_ | with_reducible refine w_ixO ?_ | with_reducible refine w_fld ?_
  | refine ⟨_, _, _, rfl, rfl, .of (.head _), ?_⟩ | refine ⟨_, _, _, rfl, rfl, .of (.tail _ (.head _)), ?_⟩ | refine ⟨_, _, rfl, .of (.head _), ?_⟩ | refine ⟨_, _, rfl, .of (.tail _ (.head _)), ?_⟩)
local macro_rules | `(tactic| walk_at "k28 w") => `(tactic| first | with_reducible refine m_next ?_ | with_reducible refine m_seq ?_ | with_reducible refine m_asg (x_dnew fun p => ?_) | with_reducible refine m_asg (x_dnewT fun p => ?_) | with_reducible refine m_asg (x_lst ?_) | with_reducible refine m_asgP ?_ | with_reducible refine m_if ?_ | with_reducible refine m_retP ?_)
local macro_rules | `(tactic| walk_at "k28 m") => `(tactic| repeat (first | walk_at "k28 w" | walk_at "k28 o" | walk_at "k28 d" | walk_at "k28 x" | exact rfl))
local macro_rules | `(tactic| walk_at "k28 g") => `(tactic| repeat (first | with_reducible refine w_take ?_ | with_reducible refine w_word ?_ | with_reducible refine w_calld ?_ | with_reducible refine w_callgq ?_ | with_reducible refine w_addS ?_ | with_reducible refine w_ixS ?_ | with_reducible refine w_catL ?_ | walk_at "k28 w" | walk_at "k28 d" | refine ⟨_, _, rfl, .head _, (by first | decide | omega | simp | (simp only [List.length_map]; omega)), fun (r : Int) (r1 : 0 ≤ r) (r2 : r < _) => ?_⟩ | refine ⟨_, rfl, fun (s : Str) (sw : Wdn 60 s) => ?_⟩ | walk_at "k28 x" | exact rfl))
local macro_rules | `(tactic| walk_at "k28 f") => `(tactic| first
  | refine wf (Txt.c_Source (by assumption)) (Txt.n_meter (by assumption)) rfl lk_meter ?_ | refine wf (Txt.c_Source (by assumption)) (Txt.n_offset (by assumption)) rfl lk_offset ?_ | refine wf (Txt.c_Source (by assumption)) (Txt.n_slots (by assumption)) rfl lk_slots ?_ | refine wf (Txt.c_Source (by assumption)) (Txt.n_closed_number (by assumption)) rfl lk_closed_number ?_ | refine wf (Txt.c_Source (by assumption)) (Txt.n_closed_stamp (by assumption)) rfl lk_closed_stamp ?_ | refine wf (Txt.c_Source (by assumption)) (Txt.n_due (by assumption)) rfl lk_due ?_)
local macro_rules | `(tactic| walk_at "k28 n") => `(tactic| repeat (first | walk_at "k28 w" | walk_at "k28 f" | walk_at "k28 d" | walk_at "k28 x" | exact rfl))
local macro_rules | `(tactic| walk_at "k28 p") => `(tactic| first
  | with_reducible refine w_lenO ?_ | with_reducible refine w_tupleO ?_ | with_reducible refine w_ixO ?_
  | refine ⟨_, _, rfl, .of (.tail _ (.head _)), ?_⟩ | refine ⟨_, _, rfl, .of (.tail _ (.tail _ (.head _))), ?_⟩)
local macro_rules | `(tactic| walk_at "k28 q") => `(tactic| repeat (first | walk_at "k28 w" | walk_at "k28 f" | walk_at "k28 p" | walk_at "k28 d" | walk_at "k28 x" | exact rfl))
section
variable {P : Program} {w : World} {K : PySem.W.Frag} {mg : Str → Option Value} {base : Heap}
theorem sc_meter_of : FnScope ["plan", "name", "meter"] ["plan", "name"] (defScope s_meter_of) := ⟨rfl, rfl, rfl, by decide +kernel, rfl, by decide +kernel, by decide +kernel⟩
def RMeterOf (es : List En1) (e : En1) : Prop := ∃ (p : Plan) (nm : Str) (m : Meter), es = [.dat p.d, .dat (.str nm)] ∧ p.ms.length ≤ 1000 ∧ p.ms.find? (fun m => decide (m.name = nm)) = some m ∧ e = .dat m.d
theorem ok_meter_of (T : Txt K mg) : Ok P w K mg base CX0 1 "meter_of" (He.ga K "meter_of") ["plan", "name"] (psp RMeterOf) := by
  obtain ⟨fd, F⟩ := T.F_meter_of
  refine ⟨⟨fd, ok_pure F sc_meter_of (fun es e ⟨p, nm, m, h, _⟩ => by rw [h]; rfl) (fun cdv A outer s H E hr => ⟨_, (pss_one (ps_ret (pe_ix (kIxL (K := K) rfl) (pe_lc (own := [("meter", 2)]) (by rfl) sc_meter_of.nd (kiTup (K := K) rfl (pe_ix (kIxT (K := K) rfl) (pv 0) pe_int (fun _ _ => rfl))) (blkOk_by (own := [("meter", 2)]) (N := ["plan", "name", "meter"]) (sc := defScope s_meter_of) (by decide +kernel)) (fun _ _ _ _ _ => (pg_name (i := 2) sc_meter_of.nd rfl (Or.inl rfl))) (fun _ _ _ _ _ => (pts_one (pt_cmpR op_eq (pe_ix (kIxT (K := K) rfl) (pv 2) pe_int (fun _ _ => rfl)) (pv 1) (nomark _)))) (fun _ _ _ _ _ => (pv 2))) pe_int (fun _ _ => rfl)))), fun es e r => ?_⟩), (F.bindsN fun _ _ _ _ _ _ us hl => match us, hl with | [_, _], _ => rfl)⟩, T.g_meter_of, F.kp⟩
  obtain ⟨p, nm, m, rfl, hz, hm, rfl⟩ := r
  walk_at "k28"
  refine w_lcT (F := Meter.d) ?_
  walk_at "k28"
  refine ⟨by omega, fun m => decide (m.name = nm), Meter.d, fun m _ => ?_, fun m _ _ => ?_, ?_⟩
  · walk_at "k28"
    simp
  · walk_at "k28"
  · walk_at "k28"
    refine ⟨_, 0, m.d, rfl, rfl, ?_, rfl⟩
    rw [← List.head?_filter] at hm
    obtain ⟨r, e⟩ := List.head?_eq_some_iff.mp hm
    rw [e]
    exact atI_nat (j := 0) rfl
theorem sc_versions_right : FnScope ["meter", "versions", "value"] ["meter", "versions"] (defScope s_versions_right) := ⟨rfl, rfl, rfl, by decide +kernel, rfl, by decide +kernel, by decide +kernel⟩
def RVersionsRight (es : List En1) (e : En1) : Prop := ∃ (m : Meter) (vs : List (Option Int)), es = [.dat m.d, .dat (.tuple (vs.map optD))] ∧ VsOk m vs ∧ e = .dat (.bool true)
theorem ok_versions_right (T : Txt K mg) : Ok P w K mg base CX0 1 "versions_right" (He.ga K "versions_right") ["meter", "versions"] (psp RVersionsRight) := by
  obtain ⟨fd, F⟩ := T.F_versions_right
  refine ⟨⟨fd, ok_pure F sc_versions_right (fun es e ⟨m, vs, h, _⟩ => by rw [h]; rfl) (fun cdv A outer s H E hr => ⟨_, (pss_cons (ps_if (PW.pt (pw_or (pt_cmpR op_eq (pe_callB (kLen (K := K) rfl) (by rfl) T.f_len (by decide +kernel) (pa_cons (pv 1) pa_nil)) pe_int (nomark _)) (pw_or1 (pt_cmpR op_isN (pe_ix (kIxT (K := K) rfl) (pv 1) pe_int (fun _ _ => rfl)) pe_non (nomark _))))) (pss_one (ps_ret pe_bl)) pss_nil) (pss_one (ps_ret (pe_callB (kAll (K := K) rfl rfl) (by rfl) T.f_all (by decide +kernel) (pa_cons (pe_lc (own := [("value", 2)]) (by rfl) sc_versions_right.nd (kiTup (K := K) rfl (pv 1)) (blkOk_by (own := [("value", 2)]) (N := ["meter", "versions", "value"]) (sc := defScope s_versions_right) (by decide +kernel)) (fun _ _ _ _ _ => (pg_name (i := 2) sc_versions_right.nd rfl (Or.inl rfl))) (fun _ _ _ _ _ => pts_nil) (fun _ _ _ _ _ => (pe_or (pe_cmpR op_isN (pv 2) pe_non (nomark _)) (pe_one (pe_chain op_le op_le (pe_ix (kIxT (K := K) rfl) (pv 0) pe_int (fun _ _ => rfl)) (pv 2) (pe_ix (kIxT (K := K) rfl) (pv 0) pe_int (fun _ _ => rfl))))))) pa_nil))))), fun es e r => ?_⟩), (F.bindsN fun _ _ _ _ _ _ us hl => match us, hl with | [_, _], _ => rfl)⟩, T.g_versions_right, F.kp⟩
  obtain ⟨m, vs, rfl, hv, rfl⟩ := r
  obtain ⟨v, r, rfl⟩ := hv.first
  walk_at "k28"
  rw [if_neg (by simp; omega)]
  walk_at "k28"
  rw [if_neg (by simp [isN])]
  walk_at "k28"
  refine w_lcT0 (F := optD) ?_
  walk_at "k28"
  refine ⟨by have := hv.len; omega, fun _ => .bool true, fun o ho => ?_, ?_⟩
  · cases o with
    | none =>
      walk_at "k28"
    | some i =>
      have q := hv.inr _ ho
      walk_at "k28"
      rw [if_neg (by simp [isN])]
      walk_at "k28"
      rw [if_pos (by simpa using q.1)]
      walk_at "k28"
      rw [decide_eq_true q.2]
  · walk_at "k28"
    show En1.dat _ = En1.dat _
    simp
theorem sc_slots_right : FnScope ["meter", "slots", "index", "slot"] ["meter", "slots"] (defScope s_slots_right) := ⟨rfl, rfl, rfl, by decide +kernel, rfl, by decide +kernel, by decide +kernel⟩
def RSlotsRight (es : List En1) (e : En1) : Prop := ∃ (m : Meter) (ss : List Slot), es = [.dat m.d, .dat (.tuple (ss.map slotD))] ∧ SsOk m ss ∧ e = .dat (.bool true)
theorem ok_slots_right (T : Txt K mg) : Ok P w K mg base CX0 2 "slots_right" (He.ga K "slots_right") ["meter", "slots"] (psp RSlotsRight) := by
  obtain ⟨fd, F⟩ := T.F_slots_right
  have o_versions_right := ok_versions_right (P := P) (w := w) (base := base) T
  refine ⟨⟨fd, ok_pure F sc_slots_right (fun es e ⟨m, vs, h, _⟩ => by rw [h]; rfl) (fun cdv A outer s H E hr => ⟨_, (pss_cons (ps_for PassesOwn.never rfl (pi_enumT (K := K) rfl (by rfl) T.f_enumerate (pa_cons (pv 1) pa_nil)) (kgTup (K := K) (n := 2) rfl rfl (pgs_cons (pg_name (i := 2) sc_slots_right.nd rfl (Or.inl rfl)) (pgs_cons (pg_name (i := 3) sc_slots_right.nd rfl (Or.inl rfl)) pgs_nil))) (pss_cons (ps_if (pt_not (pt_val (pe_ok o_versions_right hr (by decide) (by rfl) (pa_cons (pv 0) (pa_cons (pe_ix (kIxT (K := K) rfl) (pv 3) pe_int (fun _ _ => rfl)) pa_nil))))) (pss_one (ps_ret pe_bl)) pss_nil) (pss_one (ps_if (PW.pt (pw_and (pt_cmpR op_gt (pv 2) pe_int (nomark _)) (pw_and1 (pt_cmpR op_lt (pe_ix (kIxT (K := K) rfl) (pv 3) pe_int (fun _ _ => rfl)) (pe_ix (kIxT (K := K) rfl) (pe_ix (kIxT (K := K) rfl) (pv 1) (pe_op op_sub (pv 2) pe_int) (fun _ _ => rfl)) pe_int (fun _ _ => rfl)) (nomark _))))) (pss_one (ps_ret pe_bl)) pss_nil)))) (pss_one (ps_ret pe_bl))), fun es e r => ?_⟩), (F.bindsN fun _ _ _ _ _ _ us hl => match us, hl with | [_, _], _ => rfl)⟩, T.g_slots_right, F.kp⟩
  obtain ⟨m, ss, rfl, hs, rfl⟩ := r
  walk_at "k28"
  refine s_forE (F := slotD) ?_
  walk_at "k28"
  refine ⟨fun i ρ' => ∃ a b, ρ' = [some (.dat m.d), some (.dat (.tuple (ss.map slotD))), a, b], ⟨_, _, rfl⟩, ?_, ?_⟩
  · rintro i sl ρ' hi ⟨a, b, rfl⟩
    walk_at "k28"
    refine ⟨_, ⟨m, sl.2, rfl, hs.vs _ (List.mem_of_getElem? hi), rfl⟩, ?_⟩
    walk_at "k28"
    rw [if_neg (by simp)]
    walk_at "k28"
    cases i with
    | zero =>
      rw [if_neg (by simp), if_neg (by simp)]
      walk_at "k28"
      exact ⟨_, _, rfl⟩
    | succ i =>
      rw [if_pos (by simp)]
      have hlt := (List.getElem?_eq_some_iff.mp hi).1
      have hi' : ss[i]? = some (ss[i]'(by omega)) := List.getElem?_eq_getElem _
      have asc : (ss[i]'(by omega)).1 ≤ sl.1 := by
        have q := List.pairwise_iff_getElem.mp hs.asc i (i + 1) (by omega) hlt (by omega)
        rw [(List.getElem?_eq_some_iff.mp hi).2] at q
        exact q
      walk_at "k28"
      refine ⟨_, _, slotD (ss[i]'(by omega)), rfl, rfl, atI_of (j := i) (by omega) (by rw [List.getElem?_map, hi']; rfl), ?_⟩
      walk_at "k28"
      rw [if_neg (by simp; omega)]
      walk_at "k28"
      exact ⟨_, _, rfl⟩
  · rintro ρ' ⟨a, b, rfl⟩
    walk_at "k28"
theorem sc_is_history : FnScope ["plan", "history", "meter", "name", "offset", "slots", "log"] ["plan", "history"] (defScope s_is_history) := ⟨rfl, rfl, rfl, by decide +kernel, rfl, by decide +kernel, by decide +kernel⟩
def RIsHistory (es : List En1) (e : En1) : Prop := ∃ (p : Plan) (ls : List Log), es = [.dat p.d, .dat (.tuple (ls.map Log.d))] ∧ PlOk p ∧ ls.map Log.name = p.ms.map Meter.name ∧ (∀ (i : Nat) (l : Log) (m : Meter), ls[i]? = some l → p.ms[i]? = some m → -m.err ≤ l.off ∧ l.off ≤ m.err ∧ SsOk m l.ss) ∧ e = .dat (.bool true)
theorem ok_is_history (T : Txt K mg) : Ok P w K mg base CX0 3 "is_history" (He.ga K "is_history") ["plan", "history"] (psp RIsHistory) := by
  obtain ⟨fd, F⟩ := T.F_is_history
  have o_slots_right := ok_slots_right (P := P) (w := w) (base := base) T
  have o_meter_of := ok_meter_of (P := P) (w := w) (base := base) T
  refine ⟨⟨fd, ok_pure F sc_is_history (fun es e ⟨p, ls, h, _⟩ => by rw [h]; rfl) (fun cdv A outer s H E hr => ⟨_, (pss_cons (ps_if (pt_cmpR (kNeD (K := K) rfl hr.units) (pe_lc (own := [("log", 6)]) (by rfl) sc_is_history.nd (kiTup (K := K) rfl (pv 1)) (blkOk_by (own := [("log", 6)]) (N := ["plan", "history", "meter", "name", "offset", "slots", "log"]) (sc := defScope s_is_history) (by decide +kernel)) (fun _ _ _ _ _ => (pg_name (i := 6) sc_is_history.nd rfl (Or.inl rfl))) (fun _ _ _ _ _ => pts_nil) (fun _ _ _ _ _ => (pe_ix (kIxT (K := K) rfl) (pv 6) pe_int (fun _ _ => rfl)))) (pe_lc (own := [("meter", 2)]) (by rfl) sc_is_history.nd (kiTup (K := K) rfl (pe_ix (kIxT (K := K) rfl) (pv 0) pe_int (fun _ _ => rfl))) (blkOk_by (own := [("meter", 2)]) (N := ["plan", "history", "meter", "name", "offset", "slots", "log"]) (sc := defScope s_is_history) (by decide +kernel)) (fun _ _ _ _ _ => (pg_name (i := 2) sc_is_history.nd rfl (Or.inl rfl))) (fun _ _ _ _ _ => pts_nil) (fun _ _ _ _ _ => (pe_ix (kIxT (K := K) rfl) (pv 2) pe_int (fun _ _ => rfl)))) (nomark _)) (pss_one (ps_ret pe_bl)) pss_nil) (pss_cons (ps_for PassesOwn.never rfl (kiTup (K := K) rfl (pv 1)) (kgTup (K := K) (n := 3) rfl rfl (pgs_cons (pg_name (i := 3) sc_is_history.nd rfl (Or.inl rfl)) (pgs_cons (pg_name (i := 4) sc_is_history.nd rfl (Or.inl rfl)) (pgs_cons (pg_name (i := 5) sc_is_history.nd rfl (Or.inl rfl)) pgs_nil)))) (pss_cons (ps_set (i := 2) sc_is_history.nd rfl (Or.inl rfl) (pe_ok o_meter_of hr (by decide) (by rfl) (pa_cons (pv 0) (pa_cons (pv 3) pa_nil)))) (pss_one (ps_if (PW.pt (pw_or (pt_cmpR op_gt (pe_callB call_abs (by rfl) T.f_abs (by decide +kernel) (pa_cons (pv 4) pa_nil)) (pe_ix (kIxT (K := K) rfl) (pv 2) pe_int (fun _ _ => rfl)) (nomark _)) (pw_or1 (pt_not (pt_val (pe_ok o_slots_right hr (by decide) (by rfl) (pa_cons (pv 2) (pa_cons (pv 5) pa_nil)))))))) (pss_one (ps_ret pe_bl)) pss_nil)))) (pss_one (ps_ret pe_bl)))), fun es e r => ?_⟩), (F.bindsN fun _ _ _ _ _ _ us hl => match us, hl with | [_, _], _ => rfl)⟩, T.g_is_history, F.kp⟩
  obtain ⟨p, ls, rfl, hp, hn, hl, rfl⟩ := r
  have few := hp.few
  have hlen : ls.length = p.ms.length := by have := congrArg List.length hn; simpa using this
  walk_at "k28"
  refine w_neD ?_
  walk_at "k28"
  refine w_lcT0 (F := Log.d) ?_
  walk_at "k28"
  refine ⟨by omega, fun l => .str l.name, fun l _ => ?_, ?_⟩
  · walk_at "k28"
  refine w_lcT0 (F := Meter.d) ?_
  walk_at "k28"
  refine ⟨by omega, fun m => .str m.name, fun l _ => ?_, ?_⟩
  · walk_at "k28"
  have e1 : ls.map (fun l => PyData.str l.name) = (p.ms.map Meter.name).map PyData.str := by rw [← hn, List.map_map]; rfl
  have e2 : p.ms.map (fun m => PyData.str m.name) = (p.ms.map Meter.name).map PyData.str := by rw [List.map_map]; rfl
  have sh : SeqAt.shaped (.list ((p.ms.map Meter.name).map PyData.str)) = true := shaped_strs (fun x hx => by
    obtain ⟨m, hm, rfl⟩ := List.mem_map.mp hx
    exact (hp.ok m hm).1)
  refine ⟨_, _, ⟨.inr ⟨_, rfl, rfl⟩, .inr ⟨_, rfl, rfl⟩⟩, by rw [e1]; exact sh, by rw [e2]; exact sh, ?_⟩
  walk_at "k28"
  rw [e1, e2, SeqAt.eqv_refl _ (SeqAt.canLay_of_shaped sh), if_neg (by simp)]
  walk_at "k28"
  refine s_forT (F := Log.d) ?_
  walk_at "k28"
  refine ⟨fun i ρ' => ∃ a b c d e, ρ' = [some (.dat p.d), some (.dat (.tuple (ls.map Log.d))), a, b, c, d, e], ⟨_, _, _, _, _, rfl⟩, ?_, ?_⟩
  · rintro i l ρ' hi ⟨a, b, c, d, e, rfl⟩
    have hi2 : i < p.ms.length := by rw [← hlen]; exact (List.getElem?_eq_some_iff.mp hi).1
    have hm : p.ms[i]? = some p.ms[i] := List.getElem?_eq_getElem hi2
    obtain ⟨q1, q2, q3⟩ := hl i l _ hi hm
    have en : l.name = (p.ms[i]).name := by
      have q := congrArg (fun z => z[i]?) hn
      simp only [List.getElem?_map, hi, hm] at q
      exact Option.some.inj q
    walk_at "k28"
    refine ⟨_, ⟨p, l.name, p.ms[i], rfl, by omega, by rw [en]; exact find_name hp.nd (List.getElem_mem hi2), rfl⟩, ?_⟩
    walk_at "k28"
    rw [if_neg (by simp; split <;> omega)]
    walk_at "k28"
    refine ⟨_, ⟨p.ms[i], l.ss, rfl, q3, rfl⟩, ?_⟩
    walk_at "k28"
    rw [if_neg (by simp)]
    walk_at "k28"
    exact ⟨_, _, _, _, _, rfl⟩
  · rintro ρ' ⟨a, b, c, d, e, rfl⟩
    walk_at "k28"
end
end TW
/-! K28P2 -/
namespace TW
open PySem PySem.Spec PyProof.Rows L2
local macro_rules | `(tactic| walk_at "k28 d") => `(tactic| first
  | refine w_var rfl ?_ | with_reducible refine w_int ?_ | with_reducible refine w_str ?_ | with_reducible refine w_non ?_ | with_reducible refine w_bl ?_
  | with_reducible refine w_ixT ?_ | with_reducible refine w_ixL ?_ | with_reducible refine w_add ?_ | with_reducible refine w_sub ?_ | with_reducible refine w_eq ?_ | with_reducible refine w_ne ?_ | with_reducible refine w_lt ?_
  | with_reducible refine w_leq ?_ | with_reducible refine w_gt ?_ | with_reducible refine w_ge ?_ | with_reducible refine w_mul ?_ | with_reducible refine w_div ?_ | with_reducible refine w_mod ?_ | with_reducible refine w_pow ?_
  | with_reducible refine w_neg ?_ | with_reducible refine w_isN ?_ | with_reducible refine w_notN ?_ | with_reducible refine a_nil ?_ | with_reducible refine a_cons ?_ | with_reducible refine w_tup ?_ | with_reducible refine w_lst ?_
  | with_reducible refine w_call0 ?_ | with_reducible refine w_len ?_ | with_reducible refine w_sumM ?_ | with_reducible refine w_allM ?_ | with_reducible refine w_tuple ?_ | with_reducible refine w_abs ?_ | with_reducible refine w_toInt ?_ | with_reducible refine w_max2 ?_
  | with_reducible refine w_min2 ?_ | with_reducible refine t_test ?_ | with_reducible refine t_B ?_ | with_reducible refine t_and ?_ | with_reducible refine t_or ?_ | with_reducible refine t_not ?_ | with_reducible refine t_yes ?_
  | with_reducible refine w_andV ?_ | with_reducible refine w_orV ?_ | with_reducible refine w_notV ?_ | with_reducible refine w_if ?_ | with_reducible refine w_chain ?_ | with_reducible refine o_none ?_ | with_reducible refine o_some ?_
  | with_reducible refine w_slT ?_ | with_reducible refine w_slL ?_ | with_reducible refine w_catT ?_ | with_reducible refine w_catL ?_ | with_reducible refine w_dget ?_ | with_reducible refine w_din ?_ | with_reducible refine w_dnotin ?_ | with_reducible refine w_sortD ?_ | with_reducible refine w_sortI ?_ | with_reducible refine w_callq ?_ | with_reducible refine w_isB ?_
  | with_reducible refine w_notB ?_ | with_reducible refine g_name ?_ | refine gs_nil rfl ?_ | refine gs_cons rfl ?_ | with_reducible refine s_next ?_ | with_reducible refine s_seq ?_ | with_reducible refine s_asg ?_
  | with_reducible refine s_drop ?_ | with_reducible refine s_ret ?_ | with_reducible refine s_brk ?_ | with_reducible refine s_if ?_)
local macro_rules | `(tactic| walk_at "k28 x") => `(tactic| first
  | refine g_tup ⟨_, rfl, rfl, ?_⟩ | refine ⟨_, _, _, _, rfl, rfl, rfl, rfl, rfl, ?_⟩ | refine ⟨_, _, _, rfl, rfl, rfl, ?_⟩ | refine ⟨_, _, _, rfl, rfl, atI_nat (j := 0) rfl, ?_⟩ | refine ⟨_, _, _, rfl, ?_⟩ | refine ⟨_, _, rfl, rfl, by decide, ?_⟩ | refine ⟨_, _, rfl, rfl, ⟨by decide, by decide⟩, ?_⟩ | refine ⟨_, _, rfl, rfl, ⟨by decide, by decide, by decide⟩, ?_⟩ | refine ⟨_, _, rfl, rfl, .inl ⟨by decide, by decide⟩, ?_⟩ | refine ⟨_, _, rfl, rfl, .inr ⟨by decide, by decide⟩, ?_⟩ | refine ⟨_, _, rfl, rfl, ?_⟩ | refine ⟨_, _, rfl, ?_⟩ | refine ⟨_, (show undats _ = some _ from rfl), by simp, ?_⟩ | refine ⟨_, rfl, ?_⟩ | refine ⟨_, .inl rfl, ?_⟩ | refine ⟨_, .inr rfl, ?_⟩ | refine ⟨_, _, rfl, rfl, ?_, ?_⟩)
local macro_rules | `(tactic| walk_at "k28 t") => `(tactic| first | rw [if_pos (by decide)] | rw [if_neg (by decide)] | rw [if_pos (by simp)] | rw [if_neg (by simp)])
local macro_rules | `(tactic| walk_at "k28") => `(tactic| repeat (first | walk_at "k28 d" | walk_at "k28 x" | exact rfl))
local macro_rules | `(tactic| walk_at "k28 s") => `(tactic| repeat (first | (fail_if_success with_reducible refine s_if ?_); (first | walk_at "k28 d" | walk_at "k28 x" | exact rfl)))
local macro_rules | `(tactic| walk_at "k28 o") => `(tactic| first
  | with_reducible refine w_dnotinO ?_ | with_reducible refine w_dgetO ?_ | with_reducible refine w_dget2O ?_ | with_reducible refine w_lenO ?_ | with_reducible refine w_tupleO ?_ | with_reducible refine w_notInO ?_ | with_reducible refine w_ixO ?_ | with_reducible refine w_fld ?_
  | refine ⟨_, _, _, rfl, rfl, .of (.head _), ?_⟩ | refine ⟨_, _, _, rfl, rfl, .of (.tail _ (.head _)), ?_⟩ | refine ⟨_, _, rfl, .of (.head _), ?_⟩ | refine ⟨_, _, rfl, .of (.tail _ (.head _)), ?_⟩)
local macro_rules | `(tactic| walk_at "k28 w") => `(tactic| first | with_reducible refine m_next ?_ | with_reducible refine m_seq ?_ | with_reducible refine m_asg (x_dnew fun p => ?_) | with_reducible refine m_asg (x_dnewT fun p => ?_) | with_reducible refine m_asg (x_lst ?_) | with_reducible refine m_asgP ?_ | with_reducible refine m_if ?_ | with_reducible refine m_retP ?_)
local macro_rules | `(tactic| walk_at "k28 m") => `(tactic| repeat (first | walk_at "k28 w" | walk_at "k28 o" | walk_at "k28 d" | walk_at "k28 x" | exact rfl))
local macro_rules | `(tactic| walk_at "k28 g") => `(tactic| repeat (first | with_reducible refine w_take ?_ | with_reducible refine w_word ?_ | with_reducible refine w_calld ?_ | with_reducible refine w_callgq ?_ | with_reducible refine w_addS ?_ | with_reducible refine w_ixS ?_ | with_reducible refine w_catL ?_ | walk_at "k28 w" | walk_at "k28 d" | refine ⟨_, _, rfl, .head _, (by first | decide | omega | simp | (simp only [List.length_map]; omega)), fun (r : Int) (r1 : 0 ≤ r) (r2 : r < _) => ?_⟩ | refine ⟨_, rfl, fun (s : Str) (sw : Wdn 60 s) => ?_⟩ | walk_at "k28 x" | exact rfl))
local macro_rules | `(tactic| walk_at "k28 f") => `(tactic| first
  | refine wf (Txt.c_Source (by assumption)) (Txt.n_meter (by assumption)) rfl lk_meter ?_ | refine wf (Txt.c_Source (by assumption)) (Txt.n_offset (by assumption)) rfl lk_offset ?_ | refine wf (Txt.c_Source (by assumption)) (Txt.n_slots (by assumption)) rfl lk_slots ?_ | refine wf (Txt.c_Source (by assumption)) (Txt.n_closed_number (by assumption)) rfl lk_closed_number ?_ | refine wf (Txt.c_Source (by assumption)) (Txt.n_closed_stamp (by assumption)) rfl lk_closed_stamp ?_ | refine wf (Txt.c_Source (by assumption)) (Txt.n_due (by assumption)) rfl lk_due ?_)
local macro_rules | `(tactic| walk_at "k28 n") => `(tactic| repeat (first | walk_at "k28 w" | walk_at "k28 f" | walk_at "k28 d" | walk_at "k28 x" | exact rfl))
local macro_rules | `(tactic| walk_at "k28 p") => `(tactic| first
  | with_reducible refine w_lenO ?_ | with_reducible refine w_tupleO ?_ | with_reducible refine w_ixO ?_
  | refine ⟨_, _, rfl, .of (.tail _ (.head _)), ?_⟩ | refine ⟨_, _, rfl, .of (.tail _ (.tail _ (.head _))), ?_⟩)
local macro_rules | `(tactic| walk_at "k28 q") => `(tactic| repeat (first | walk_at "k28 w" | walk_at "k28 f" | walk_at "k28 p" | walk_at "k28 d" | walk_at "k28 x" | exact rfl))
section
variable {P : Program} {w : World} {K : PySem.W.Frag} {mg : Str → Option Value} {base : Heap}
theorem scx (x : Option Int) : ∃ v, sc (optD x) = some v ∧ scal v v = true := by
  cases x with
  | none => exact ⟨.non, rfl, rfl⟩
  | some i => exact ⟨.int i, rfl, rfl⟩
theorem cut_to {l : List Dt} {n : Nat} (h : n ≤ l.length) : cutD l none (some (n : Int)) = l.take n := by
  unfold cutD
  rw [HT.sIx_nat, HT.sIx_none, Nat.min_eq_left h]
  simp
theorem sum_cast {α : Type} {f : α → Nat} : ∀ l : List α, (l.map fun s => (f s : Int)).sum = (((l.map f).sum : Nat) : Int)
  | [] => rfl
  | a :: l => by
    rw [List.map_cons, List.sum_cons, List.map_cons, List.sum_cons, sum_cast l]
    omega
theorem sc_is_read : FnScope ["letter", "slots", "number", "version", "stamp", "value", "slot"] ["letter", "slots"] (defScope s_is_read) := ⟨rfl, rfl, rfl, by decide +kernel, rfl, by decide +kernel, by decide +kernel⟩
def RIsRead (es : List En1) (e : En1) : Prop := ∃ (nm : Str) (s v : Nat) (st : Int) (x : Option Int) (off : Int) (ss : List Slot), es = [.dat (Let.d nm (.read s v st x)), .dat (.tuple (ss.map slotD))] ∧ Tr off ss (.read s v st x) ∧ e = .dat (.bool true)
theorem ok_is_read (T : Txt K mg) : Ok P w K mg base CX0 1 "is_read" (He.ga K "is_read") ["letter", "slots"] (psp RIsRead) := by
  obtain ⟨fd, F⟩ := T.F_is_read
  refine ⟨⟨fd, ok_pure F sc_is_read (fun es e ⟨nm, s, v, st, x, off, ss, h, _⟩ => by rw [h]; rfl) (fun cdv A outer s H E hr => ⟨_, (pss_cons (ps_asg (pe_slice (kSlT (K := K) rfl) (pv 0) (po_some pe_int) po_none) (kgTup (K := K) (n := 4) rfl rfl (pgs_cons (pg_name (i := 2) sc_is_read.nd rfl (Or.inl rfl)) (pgs_cons (pg_name (i := 3) sc_is_read.nd rfl (Or.inl rfl)) (pgs_cons (pg_name (i := 4) sc_is_read.nd rfl (Or.inl rfl)) (pgs_cons (pg_name (i := 5) sc_is_read.nd rfl (Or.inl rfl)) pgs_nil)))))) (pss_cons (ps_if (pt_cmpR op_gt (pv 2) (pe_callB (kLen (K := K) rfl) (by rfl) T.f_len (by decide +kernel) (pa_cons (pv 1) pa_nil)) (nomark _)) (pss_one (ps_ret pe_bl)) pss_nil) (pss_cons (ps_set (i := 6) sc_is_read.nd rfl (Or.inl rfl) (pe_ix (kIxT (K := K) rfl) (pv 1) (pe_op op_sub (pv 2) pe_int) (fun _ _ => rfl))) (pss_one (ps_ret (pe_and (pe_cmpR op_eq (pe_ix (kIxT (K := K) rfl) (pv 6) pe_int (fun _ _ => rfl)) (pv 4) (nomark _)) (pe_and (pe_cmpR op_lt (pv 3) (pe_callB (kLen (K := K) rfl) (by rfl) T.f_len (by decide +kernel) (pa_cons (pe_ix (kIxT (K := K) rfl) (pv 6) pe_int (fun _ _ => rfl)) pa_nil)) (nomark _)) (pe_one (pe_cmpR op_eq (pe_ix (kIxT (K := K) rfl) (pe_ix (kIxT (K := K) rfl) (pv 6) pe_int (fun _ _ => rfl)) (pv 3) (fun _ _ => rfl)) (pv 5) (nomark _)))))))))), fun es e r => ?_⟩), (F.bindsN fun _ _ _ _ _ _ us hl => match us, hl with | [_, _], _ => rfl)⟩, T.g_is_read, F.kp⟩
  obtain ⟨nm, s, v, st, x, off, ss, rfl, ⟨sl, s1, hs, rfl, hv⟩, rfl⟩ := r
  obtain ⟨hlt, _⟩ := List.getElem?_eq_some_iff.mp hs
  obtain ⟨hlv, _⟩ := List.getElem?_eq_some_iff.mp hv
  walk_at "k28"
  rw [if_neg (by simp; omega)]
  walk_at "k28"
  refine ⟨_, _, slotD sl, rfl, rfl, atI_of (j := s - 1) (by omega) (by rw [List.getElem?_map, hs]; rfl), ?_⟩
  walk_at "k28"
  rw [if_pos (by simp)]
  walk_at "k28"
  rw [if_pos (by simp; omega)]
  walk_at "k28"
  refine ⟨_, _, optD x, rfl, rfl, atI_of (j := v) rfl (by rw [List.getElem?_map, hv]; rfl), ?_⟩
  walk_at "k28"
  obtain ⟨z, z1, z2⟩ := scx x
  refine ⟨_, _, z, z, rfl, rfl, z1, z1, z2, ?_⟩
  show En1.dat _ = En1.dat _
  simp
theorem sc_is_closed : FnScope ["letter", "slots", "many", "stamp", "versions", "index", "slot"] ["letter", "slots"] (defScope s_is_closed) := ⟨rfl, rfl, rfl, by decide +kernel, rfl, by decide +kernel, by decide +kernel⟩
def RIsClosed (es : List En1) (e : En1) : Prop := ∃ (nm : Str) (n : Nat) (st : Int) (vs : Nat) (off : Int) (ss : List Slot), es = [.dat (Let.d nm (.close n st vs)), .dat (.tuple (ss.map slotD))] ∧ ss.length ≤ 1000 ∧ Tr off ss (.close n st vs) ∧ e = .dat (.bool true)
theorem ok_is_closed (T : Txt K mg) : Ok P w K mg base CX0 1 "is_closed" (He.ga K "is_closed") ["letter", "slots"] (psp RIsClosed) := by
  obtain ⟨fd, F⟩ := T.F_is_closed
  refine ⟨⟨fd, ok_pure F sc_is_closed (fun es e ⟨nm, n, st, vs, off, ss, h, _⟩ => by rw [h]; rfl) (fun cdv A outer s H E hr => ⟨_, (pss_cons (ps_asg (pe_slice (kSlT (K := K) rfl) (pv 0) (po_some pe_int) po_none) (kgTup (K := K) (n := 3) rfl rfl (pgs_cons (pg_name (i := 2) sc_is_closed.nd rfl (Or.inl rfl)) (pgs_cons (pg_name (i := 3) sc_is_closed.nd rfl (Or.inl rfl)) (pgs_cons (pg_name (i := 4) sc_is_closed.nd rfl (Or.inl rfl)) pgs_nil))))) (pss_cons (ps_if (pt_cmpR op_gt (pv 2) (pe_callB (kLen (K := K) rfl) (by rfl) T.f_len (by decide +kernel) (pa_cons (pv 1) pa_nil)) (nomark _)) (pss_one (ps_ret pe_bl)) pss_nil) (pss_cons (ps_for PassesOwn.never rfl (pi_enumT (K := K) rfl (by rfl) T.f_enumerate (pa_cons (pv 1) pa_nil)) (kgTup (K := K) (n := 2) rfl rfl (pgs_cons (pg_name (i := 5) sc_is_closed.nd rfl (Or.inl rfl)) (pgs_cons (pg_name (i := 6) sc_is_closed.nd rfl (Or.inl rfl)) pgs_nil))) (pss_one (ps_if (pt_cmpR op_ne (pe_cmpR op_lt (pe_ix (kIxT (K := K) rfl) (pv 6) pe_int (fun _ _ => rfl)) (pv 3) (nomark _)) (pe_cmpR op_lt (pv 5) (pv 2) (nomark _)) (nomark _)) (pss_one (ps_ret pe_bl)) pss_nil))) (pss_one (ps_ret (pe_cmpR op_eq (pe_callB (kSum (K := K) rfl rfl) (by rfl) T.f_sum (by decide +kernel) (pa_cons (pe_lc (own := [("slot", 6)]) (by rfl) sc_is_closed.nd (kiTup (K := K) rfl (pe_slice (kSlT (K := K) rfl) (pv 1) po_none (po_some (pv 2)))) (blkOk_by (own := [("slot", 6)]) (N := ["letter", "slots", "many", "stamp", "versions", "index", "slot"]) (sc := defScope s_is_closed) (by decide +kernel)) (fun _ _ _ _ _ => (pg_name (i := 6) sc_is_closed.nd rfl (Or.inl rfl))) (fun _ _ _ _ _ => pts_nil) (fun _ _ _ _ _ => (pe_callB (kLen (K := K) rfl) (by rfl) T.f_len (by decide +kernel) (pa_cons (pe_ix (kIxT (K := K) rfl) (pv 6) pe_int (fun _ _ => rfl)) pa_nil)))) pa_nil)) (pv 4) (nomark _))))))), fun es e r => ?_⟩), (F.bindsN fun _ _ _ _ _ _ us hl => match us, hl with | [_, _], _ => rfl)⟩, T.g_is_closed, F.kp⟩
  obtain ⟨nm, n, st, vs, off, ss, rfl, len, ⟨hn, hc, hv⟩, rfl⟩ := r
  walk_at "k28"
  rw [if_neg (by simp; omega)]
  walk_at "k28"
  refine s_forE (F := slotD) ?_
  walk_at "k28"
  refine ⟨fun i ρ' => ∃ a b, ρ' = [some (.dat (Let.d nm (.close n st vs))), some (.dat (.tuple (ss.map slotD))), some (.dat (.int n)), some (.dat (.int st)), some (.dat (.int vs)), a, b], ⟨_, _, rfl⟩, ?_, ?_⟩
  · rintro i sl ρ' hi ⟨a, b, rfl⟩
    have q := hc i sl hi
    walk_at "k28"
    rw [if_neg (by
      have e : decide (sl.1 < st) = decide ((i : Int) < (n : Int)) := by
        rw [decide_eq_decide, q]
        omega
      simp [e])]
    walk_at "k28"
    exact ⟨_, _, rfl⟩
  · rintro ρ' ⟨a, b, rfl⟩
    walk_at "k28"
    refine w_lcT0 (F := slotD) ?_
    walk_at "k28"
    rw [cut_to (by simpa using hn), ← List.map_take]
    refine ⟨_, rfl, by rw [List.length_take]; omega, fun s => .int s.2.length, fun s hs => ?_, ?_⟩
    · walk_at "k28"
      simp
    · walk_at "k28"
      show En1.dat _ = En1.dat _
      have e : ((ss.take n).map fun s => (s.2.length : Int)).sum = (vs : Int) := by
        rw [← hv]
        exact sum_cast _
      rw [e]
      simp
theorem sc_is_true : FnScope ["letter", "history", "offset", "slots", "log"] ["letter", "history"] (defScope s_is_true) := ⟨rfl, rfl, rfl, by decide +kernel, rfl, by decide +kernel, by decide +kernel⟩
def RIsTrue (es : List En1) (e : En1) : Prop := ∃ (nm : Str) (l : Let) (ls : List Log) (lg : Log), es = [.dat (l.d nm), .dat (.tuple (ls.map Log.d))] ∧ ls.length ≤ 1000 ∧ ls.find? (fun l => decide (l.name = nm)) = some lg ∧ lg.ss.length ≤ 1000 ∧ Tr lg.off lg.ss l ∧ e = .dat (.bool true)
theorem ok_is_true (T : Txt K mg) : Ok P w K mg base CX0 2 "is_true" (He.ga K "is_true") ["letter", "history"] (psp RIsTrue) := by
  obtain ⟨fd, F⟩ := T.F_is_true
  have o_is_read := ok_is_read (P := P) (w := w) (base := base) T
  have o_is_closed := ok_is_closed (P := P) (w := w) (base := base) T
  refine ⟨⟨fd, ok_pure F sc_is_true (fun es e ⟨nm, l, ls, lg, h, _⟩ => by rw [h]; rfl) (fun cdv A outer s H E hr => ⟨_, (pss_cons (ps_asg (pe_ix (kIxL (K := K) rfl) (pe_lc (own := [("log", 4)]) (by rfl) sc_is_true.nd (kiTup (K := K) rfl (pv 1)) (blkOk_by (own := [("log", 4)]) (N := ["letter", "history", "offset", "slots", "log"]) (sc := defScope s_is_true) (by decide +kernel)) (fun _ _ _ _ _ => (pg_name (i := 4) sc_is_true.nd rfl (Or.inl rfl))) (fun _ _ _ _ _ => (pts_one (pt_cmpR op_eq (pe_ix (kIxT (K := K) rfl) (pv 4) pe_int (fun _ _ => rfl)) (pe_ix (kIxT (K := K) rfl) (pv 0) pe_int (fun _ _ => rfl)) (nomark _)))) (fun _ _ _ _ _ => (pe_slice (kSlT (K := K) rfl) (pv 4) (po_some pe_int) po_none))) pe_int (fun _ _ => rfl)) (kgTup (K := K) (n := 2) rfl rfl (pgs_cons (pg_name (i := 2) sc_is_true.nd rfl (Or.inl rfl)) (pgs_cons (pg_name (i := 3) sc_is_true.nd rfl (Or.inl rfl)) pgs_nil)))) (pss_cons (ps_if (pt_cmpR op_eq (pe_ix (kIxT (K := K) rfl) (pv 0) pe_int (fun _ _ => rfl)) pe_str (nomark _)) (pss_one (ps_ret (pe_ok o_is_read hr (by decide) (by rfl) (pa_cons (pv 0) (pa_cons (pv 3) pa_nil))))) pss_nil) (pss_cons (ps_if (pt_cmpR op_eq (pe_ix (kIxT (K := K) rfl) (pv 0) pe_int (fun _ _ => rfl)) pe_str (nomark _)) (pss_one (ps_ret (pe_ok o_is_closed hr (by decide) (by rfl) (pa_cons (pv 0) (pa_cons (pv 3) pa_nil))))) pss_nil) (pss_one (ps_ret (pe_chain op_le op_le (pe_ix (kIxT (K := K) rfl) (pv 0) pe_int (fun _ _ => rfl)) (pv 2) (pe_ix (kIxT (K := K) rfl) (pv 0) pe_int (fun _ _ => rfl)))))))), fun es e r => ?_⟩), (F.bindsN fun _ _ _ _ _ _ us hl => match us, hl with | [_, _], _ => rfl)⟩, T.g_is_true, F.kp⟩
  obtain ⟨nm, l, ls, lg, rfl, few, hf, few2, tr, rfl⟩ := r
  walk_at "k28"
  refine w_lcT (F := Log.d) ?_
  walk_at "k28"
  refine ⟨by omega, fun g => decide (g.name = nm), fun g => .tuple [.int g.off, .tuple (g.ss.map slotD)], fun g _ => ?_, fun g _ _ => ?_, ?_⟩
  · cases l <;> walk_at "k28" <;> simp
  · walk_at "k28"
  rw [← List.head?_filter] at hf
  obtain ⟨r, e⟩ := List.head?_eq_some_iff.mp hf
  rw [e]
  walk_at "k28"
  cases l with
  | read s v st x =>
    walk_at "k28"
    rw [if_pos (by decide)]
    walk_at "k28"
    refine ⟨_, ⟨nm, s, v, st, x, lg.off, lg.ss, rfl, tr, rfl⟩, ?_⟩
    walk_at "k28"
  | close n st vs =>
    walk_at "k28"
    rw [if_neg (by decide)]
    walk_at "k28"
    rw [if_pos (by decide)]
    walk_at "k28"
    refine ⟨_, ⟨nm, n, st, vs, lg.off, lg.ss, rfl, few2, tr, rfl⟩, ?_⟩
    walk_at "k28"
  | clock lo hi =>
    walk_at "k28"
    rw [if_neg (by decide)]
    walk_at "k28"
    rw [if_neg (by decide)]
    walk_at "k28"
    rw [if_pos (by simpa using tr.1)]
    walk_at "k28"
    rw [decide_eq_true tr.2]
theorem sc_agrees : FnScope ["history", "letters", "letter"] ["history", "letters"] (defScope s_agrees) := ⟨rfl, rfl, rfl, by decide +kernel, rfl, by decide +kernel, by decide +kernel⟩
def RAgrees (es : List En1) (e : En1) : Prop := ∃ (nm : Str) (us : List Let) (ls : List Log) (lg : Log), es = [.dat (.tuple (ls.map Log.d)), .lst (us.map (Let.d nm))] ∧ us.length ≤ 1000 ∧ ls.length ≤ 1000 ∧ ls.find? (fun l => decide (l.name = nm)) = some lg ∧ lg.ss.length ≤ 1000 ∧ (∀ l ∈ us, Tr lg.off lg.ss l) ∧ e = .dat (.bool true)
theorem ok_agrees (T : Txt K mg) : Ok P w K mg base CX0 3 "agrees" (He.ga K "agrees") ["history", "letters"] (psp RAgrees) := by
  obtain ⟨fd, F⟩ := T.F_agrees
  have o_is_true := ok_is_true (P := P) (w := w) (base := base) T
  refine ⟨⟨fd, ok_pure F sc_agrees (fun es e ⟨nm, l, ls, lg, h, _⟩ => by rw [h]; rfl) (fun cdv A outer s H E hr => ⟨_, (pss_one (ps_ret (pe_callB (kAll (K := K) rfl rfl) (by rfl) T.f_all (by decide +kernel) (pa_cons (pe_lc (own := [("letter", 2)]) (by rfl) sc_agrees.nd (kiList (K := K) rfl (pv 1)) (blkOk_by (own := [("letter", 2)]) (N := ["history", "letters", "letter"]) (sc := defScope s_agrees) (by decide +kernel)) (fun _ _ _ _ _ => (pg_name (i := 2) sc_agrees.nd rfl (Or.inl rfl))) (fun _ _ _ _ _ => pts_nil) (fun _ _ _ _ _ => (pe_ok o_is_true hr (by decide) (by rfl) (pa_cons (pv 2) (pa_cons (pv 0) pa_nil))))) pa_nil)))), fun es e r => ?_⟩), (F.bindsN fun _ _ _ _ _ _ us hl => match us, hl with | [_, _], _ => rfl)⟩, T.g_agrees, F.kp⟩
  obtain ⟨nm, us, ls, lg, rfl, few0, few, hf, few2, tr, rfl⟩ := r
  walk_at "k28"
  refine w_lcL0 (F := Let.d nm) ?_
  walk_at "k28"
  refine ⟨by omega, fun _ => .bool true, fun l hl => ?_, ?_⟩
  · walk_at "k28"
    exact ⟨_, ⟨nm, l, ls, lg, rfl, few, hf, few2, tr l hl, rfl⟩, rfl⟩
  · walk_at "k28"
    show En1.dat _ = En1.dat _
    simp
end
end TW
/-! K28P3 -/
namespace TW
open PySem PySem.Spec PyProof.Rows L2
local macro_rules | `(tactic| walk_at "k28 d") => `(tactic| first
  | refine w_var rfl ?_ | with_reducible refine w_int ?_ | with_reducible refine w_str ?_ | with_reducible refine w_non ?_ | with_reducible refine w_bl ?_
  | with_reducible refine w_ixT ?_ | with_reducible refine w_ixL ?_ | with_reducible refine w_add ?_ | with_reducible refine w_sub ?_ | with_reducible refine w_eq ?_ | with_reducible refine w_ne ?_ | with_reducible refine w_lt ?_
  | with_reducible refine w_leq ?_ | with_reducible refine w_gt ?_ | with_reducible refine w_ge ?_ | with_reducible refine w_mul ?_ | with_reducible refine w_div ?_ | with_reducible refine w_mod ?_ | with_reducible refine w_pow ?_
  | with_reducible refine w_neg ?_ | with_reducible refine w_isN ?_ | with_reducible refine w_notN ?_ | with_reducible refine a_nil ?_ | with_reducible refine a_cons ?_ | with_reducible refine w_tup ?_ | with_reducible refine w_lst ?_
  | with_reducible refine w_call0 ?_ | with_reducible refine w_len ?_ | with_reducible refine w_sumM ?_ | with_reducible refine w_allM ?_ | with_reducible refine w_tuple ?_ | with_reducible refine w_abs ?_ | with_reducible refine w_toInt ?_ | with_reducible refine w_max2 ?_
  | with_reducible refine w_min2 ?_ | with_reducible refine t_test ?_ | with_reducible refine t_B ?_ | with_reducible refine t_and ?_ | with_reducible refine t_or ?_ | with_reducible refine t_not ?_ | with_reducible refine t_yes ?_
  | with_reducible refine w_andV ?_ | with_reducible refine w_orV ?_ | with_reducible refine w_notV ?_ | with_reducible refine w_if ?_ | with_reducible refine w_chain ?_ | with_reducible refine o_none ?_ | with_reducible refine o_some ?_
  | with_reducible refine w_slT ?_ | with_reducible refine w_slL ?_ | with_reducible refine w_catT ?_ | with_reducible refine w_catL ?_ | with_reducible refine w_dget ?_ | with_reducible refine w_din ?_ | with_reducible refine w_dnotin ?_ | with_reducible refine w_sortD ?_ | with_reducible refine w_sortI ?_ | with_reducible refine w_callq ?_ | with_reducible refine w_isB ?_
  | with_reducible refine w_notB ?_ | with_reducible refine g_name ?_ | refine gs_nil rfl ?_ | refine gs_cons rfl ?_ | with_reducible refine s_next ?_ | with_reducible refine s_seq ?_ | with_reducible refine s_asg ?_
  | with_reducible refine s_drop ?_ | with_reducible refine s_ret ?_ | with_reducible refine s_brk ?_ | with_reducible refine s_if ?_)
local macro_rules | `(tactic| walk_at "k28 x") => `(tactic| first
  | refine g_tup ⟨_, rfl, rfl, ?_⟩ | refine ⟨_, _, _, _, rfl, rfl, rfl, rfl, rfl, ?_⟩ | refine ⟨_, _, _, rfl, rfl, rfl, ?_⟩ | refine ⟨_, _, _, rfl, rfl, atI_nat (j := 0) rfl, ?_⟩ | refine ⟨_, _, _, rfl, ?_⟩ | refine ⟨_, _, rfl, rfl, by decide, ?_⟩ | refine ⟨_, _, rfl, rfl, ⟨by decide, by decide⟩, ?_⟩ | refine ⟨_, _, rfl, rfl, ⟨by decide, by decide, by decide⟩, ?_⟩ | refine ⟨_, _, rfl, rfl, .inl ⟨by decide, by decide⟩, ?_⟩ | refine ⟨_, _, rfl, rfl, .inr ⟨by decide, by decide⟩, ?_⟩ | refine ⟨_, _, rfl, rfl, ?_⟩ | refine ⟨_, _, rfl, ?_⟩ | refine ⟨_, (show undats _ = some _ from rfl), by simp, ?_⟩ | refine ⟨_, rfl, ?_⟩ | refine ⟨_, .inl rfl, ?_⟩ | refine ⟨_, .inr rfl, ?_⟩ | refine ⟨_, _, rfl, rfl, ?_, ?_⟩)
local macro_rules | `(tactic| walk_at "k28 t") => `(tactic| first | rw [if_pos (by decide)] | rw [if_neg (by decide)] | rw [if_pos (by simp)] | rw [if_neg (by simp)])
local macro_rules | `(tactic| walk_at "k28") => `(tactic| repeat (first | walk_at "k28 d" | walk_at "k28 x" | exact rfl))
local macro_rules | `(tactic| walk_at "k28 s") => `(tactic| repeat (first | (fail_if_success with_reducible refine s_if ?_); (first | walk_at "k28 d" | walk_at "k28 x" | exact rfl)))
local macro_rules | `(tactic| walk_at "k28 o") => `(tactic| first
  | with_reducible refine w_dnotinO ?_ | with_reducible refine w_dgetO ?_ | with_reducible refine w_dget2O ?_ | with_reducible refine w_lenO ?_ | with_reducible refine w_tupleO ?_ | with_reducible refine w_notInO ?_ | with_reducible refine w_ixO ?_ | with_reducible refine w_fld ?_
  | refine ⟨_, _, _, rfl, rfl, .of (.head _), ?_⟩ | refine ⟨_, _, _, rfl, rfl, .of (.tail _ (.head _)), ?_⟩ | refine ⟨_, _, rfl, .of (.head _), ?_⟩ | refine ⟨_, _, rfl, .of (.tail _ (.head _)), ?_⟩)
local macro_rules | `(tactic| walk_at "k28 w") => `(tactic| first | with_reducible refine m_next ?_ | with_reducible refine m_seq ?_ | with_reducible refine m_asg (x_dnew fun p => ?_) | with_reducible refine m_asg (x_dnewT fun p => ?_) | with_reducible refine m_asg (x_lst ?_) | with_reducible refine m_asgP ?_ | with_reducible refine m_if ?_ | with_reducible refine m_retP ?_)
local macro_rules | `(tactic| walk_at "k28 m") => `(tactic| repeat (first | walk_at "k28 w" | walk_at "k28 o" | walk_at "k28 d" | walk_at "k28 x" | exact rfl))
local macro_rules | `(tactic| walk_at "k28 g") => `(tactic| repeat (first | with_reducible refine w_take ?_ | with_reducible refine w_word ?_ | with_reducible refine w_calld ?_ | with_reducible refine w_callgq ?_ | with_reducible refine w_addS ?_ | with_reducible refine w_ixS ?_ | with_reducible refine w_catL ?_ | walk_at "k28 w" | walk_at "k28 d" | refine ⟨_, _, rfl, .head _, (by first | decide | omega | simp | (simp only [List.length_map]; omega)), fun (r : Int) (r1 : 0 ≤ r) (r2 : r < _) => ?_⟩ | refine ⟨_, rfl, fun (s : Str) (sw : Wdn 60 s) => ?_⟩ | walk_at "k28 x" | exact rfl))
local macro_rules | `(tactic| walk_at "k28 f") => `(tactic| first
  | refine wf (Txt.c_Source (by assumption)) (Txt.n_meter (by assumption)) rfl lk_meter ?_ | refine wf (Txt.c_Source (by assumption)) (Txt.n_offset (by assumption)) rfl lk_offset ?_ | refine wf (Txt.c_Source (by assumption)) (Txt.n_slots (by assumption)) rfl lk_slots ?_ | refine wf (Txt.c_Source (by assumption)) (Txt.n_closed_number (by assumption)) rfl lk_closed_number ?_ | refine wf (Txt.c_Source (by assumption)) (Txt.n_closed_stamp (by assumption)) rfl lk_closed_stamp ?_ | refine wf (Txt.c_Source (by assumption)) (Txt.n_due (by assumption)) rfl lk_due ?_)
local macro_rules | `(tactic| walk_at "k28 n") => `(tactic| repeat (first | walk_at "k28 w" | walk_at "k28 f" | walk_at "k28 d" | walk_at "k28 x" | exact rfl))
local macro_rules | `(tactic| walk_at "k28 p") => `(tactic| first
  | with_reducible refine w_lenO ?_ | with_reducible refine w_tupleO ?_ | with_reducible refine w_ixO ?_
  | refine ⟨_, _, rfl, .of (.tail _ (.head _)), ?_⟩ | refine ⟨_, _, rfl, .of (.tail _ (.tail _ (.head _))), ?_⟩)
local macro_rules | `(tactic| walk_at "k28 q") => `(tactic| repeat (first | walk_at "k28 w" | walk_at "k28 f" | walk_at "k28 p" | walk_at "k28 d" | walk_at "k28 x" | exact rfl))
section
variable {P : Program} {w : World} {K : PySem.W.Frag} {mg : Str → Option Value} {base : Heap}
theorem sc_reads_about : FnScope ["letters", "name", "letter"] ["letters", "name"] (defScope s_reads_about) := ⟨rfl, rfl, rfl, by decide +kernel, rfl, by decide +kernel, by decide +kernel⟩
def RReadsAbout (es : List En1) (e : En1) : Prop := ∃ (nm n : Str) (us : List Let), es = [.lst (us.map (Let.d nm)), .dat (.str n)] ∧ us.length ≤ 1000 ∧ e = .lst (((abt nm n us).filter isRd).map (Let.d nm))
theorem ok_reads_about (T : Txt K mg) : Ok P w K mg base CX0 1 "reads_about" (He.ga K "reads_about") ["letters", "name"] (psp RReadsAbout) := by
  obtain ⟨fd, F⟩ := T.F_reads_about
  refine ⟨⟨fd, ok_pure F sc_reads_about (fun es e ⟨p, nm, m, h, _⟩ => by rw [h]; rfl) (fun cdv A outer s H E hr => ⟨_, (pss_one (ps_ret (pe_lc (own := [("letter", 2)]) (by rfl) sc_reads_about.nd (kiList (K := K) rfl (pv 0)) (blkOk_by (own := [("letter", 2)]) (N := ["letters", "name", "letter"]) (sc := defScope s_reads_about) (by decide +kernel)) (fun _ _ _ _ _ => (pg_name (i := 2) sc_reads_about.nd rfl (Or.inl rfl))) (fun _ _ _ _ _ => (pts_one (PW.pt (pw_and (pt_cmpR op_eq (pe_ix (kIxT (K := K) rfl) (pv 2) pe_int (fun _ _ => rfl)) pe_str (nomark _)) (pw_and1 (pt_cmpR op_eq (pe_ix (kIxT (K := K) rfl) (pv 2) pe_int (fun _ _ => rfl)) (pv 1) (nomark _))))))) (fun _ _ _ _ _ => (pv 2))))), fun es e r => ?_⟩), (F.bindsN fun _ _ _ _ _ _ us hl => match us, hl with | [_, _], _ => rfl)⟩, T.g_reads_about, F.kp⟩
  obtain ⟨nm, n, us, rfl, hz, rfl⟩ := r
  walk_at "k28"
  refine w_lcL (F := Let.d nm) ?_
  walk_at "k28"
  refine ⟨by omega, fun l => isRd l && decide (nm = n), Let.d nm, fun l _ => ?_, fun l _ _ => ?_, ?_⟩
  · cases l with
    | read s v st x =>
      walk_at "k28"
      rw [if_pos (by decide)]
      walk_at "k28"
      simp [isRd]
    | close n' st vs => walk_at "k28"
    | clock lo hi => walk_at "k28"
  · cases l <;> walk_at "k28"
  · show En1.lst _ = En1.lst _
    unfold abt
    by_cases c : nm = n
    · simp [c]
    · simp [c]
theorem sc_offsets_of : FnScope ["plan", "letters", "name", "error", "low", "high", "letter"] ["plan", "letters", "name"] (defScope s_offsets_of) := ⟨rfl, rfl, rfl, by decide +kernel, rfl, by decide +kernel, by decide +kernel⟩
structure GOff where
  p : Plan
  nm : Str
  n : Str
  us : List Let
  m : Meter
  off : Int
def AOff (g : GOff) (es : List En1) : Prop := es = [.dat g.p.d, .lst (g.us.map (Let.d g.nm)), .dat (.str g.n)] ∧ g.p.ms.length ≤ 1000 ∧ g.p.ms.find? (fun m => decide (m.name = g.n)) = some g.m ∧ (-g.m.err ≤ g.off ∧ g.off ≤ g.m.err) ∧
  ∀ lo hi, Let.clock lo hi ∈ abt g.nm g.n g.us → lo ≤ g.off ∧ g.off ≤ hi
def SOff (g : GOff) (e : En1) : Prop := ∃ lo hi, e = .dat (.tuple [.int lo, .int hi]) ∧ lo ≤ g.off ∧ g.off ≤ hi
theorem ok_offsets_of (T : Txt K mg) : Ok P w K mg base CX0 2 "offsets_of" (He.ga K "offsets_of") ["plan", "letters", "name"] (psq AOff SOff) := by
  obtain ⟨fd, F⟩ := T.F_offsets_of
  have o_meter_of := ok_meter_of (P := P) (w := w) (base := base) T
  refine ⟨⟨fd, ok_pureq F sc_offsets_of (fun g es h => by rw [h.1]; rfl) (fun cdv A outer s H E hr => ⟨_, (pss_cons (ps_set (i := 3) sc_offsets_of.nd rfl (Or.inl rfl) (pe_ix (kIxT (K := K) rfl) (pe_ok o_meter_of hr (by decide) (by rfl) (pa_cons (pv 0) (pa_cons (pv 2) pa_nil))) pe_int (fun _ _ => rfl))) (pss_cons (ps_set (i := 4) sc_offsets_of.nd rfl (Or.inl rfl) (pe_un un_neg (pv 3))) (pss_cons (ps_set (i := 5) sc_offsets_of.nd rfl (Or.inl rfl) (pv 3)) (pss_cons (ps_for PassesOwn.never rfl (kiList (K := K) rfl (pv 1)) (pg_name (i := 6) sc_offsets_of.nd rfl (Or.inl rfl)) (pss_one (ps_if (PW.pt (pw_and (pt_cmpR op_eq (pe_ix (kIxT (K := K) rfl) (pv 6) pe_int (fun _ _ => rfl)) pe_str (nomark _)) (pw_and1 (pt_cmpR op_eq (pe_ix (kIxT (K := K) rfl) (pv 6) pe_int (fun _ _ => rfl)) (pv 2) (nomark _))))) (pss_cons (ps_set (i := 4) sc_offsets_of.nd rfl (Or.inl rfl) (pe_callB (call_max2 rfl) (by rfl) T.f_max (by decide +kernel) (pa_cons (pv 4) (pa_cons (pe_ix (kIxT (K := K) rfl) (pv 6) pe_int (fun _ _ => rfl)) pa_nil)))) (pss_one (ps_set (i := 5) sc_offsets_of.nd rfl (Or.inl rfl) (pe_callB (call_min2 rfl) (by rfl) T.f_min (by decide +kernel) (pa_cons (pv 5) (pa_cons (pe_ix (kIxT (K := K) rfl) (pv 6) pe_int (fun _ _ => rfl)) pa_nil)))))) pss_nil))) (pss_one (ps_ret (pe_tup (pa_cons (pv 4) (pa_cons (pv 5) pa_nil))))))))), fun g es r => ?_⟩), (F.bindsN fun _ _ _ _ _ _ us hl => match us, hl with | [_, _, _], _ => rfl)⟩, T.g_offsets_of, F.kp⟩
  obtain ⟨p, nm, n, us, m, off⟩ := g
  obtain ⟨rfl, hz, hf, ho, hc⟩ := r
  walk_at "k28"
  refine ⟨_, ⟨p, n, m, rfl, hz, hf, rfl⟩, ?_⟩
  walk_at "k28"
  refine s_forL (F := Let.d nm) ?_
  walk_at "k28"
  refine ⟨fun i ρ' => Hid (∃ lo hi a, ρ' = [some (.dat p.d), some (.lst (us.map (Let.d nm))), some (.dat (.str n)), some (.dat (.int m.err)), some (.dat (.int lo)), some (.dat (.int hi)), a] ∧ lo ≤ off ∧ off ≤ hi), hid ⟨_, _, _, rfl, ho⟩, ?_, ?_⟩
  · intro i l ρ' hi hI
    obtain ⟨lo, hh, a, rfl, q1, q2⟩ := hI.out
    cases l with
    | read s v st x =>
      walk_at "k28"
      rw [if_neg (by decide)]
      simp only [Bool.false_eq_true, if_false]
      walk_at "k28"
      exact hid ⟨_, _, _, rfl, q1, q2⟩
    | close n' st vs =>
      walk_at "k28"
      rw [if_neg (by decide)]
      simp only [Bool.false_eq_true, if_false]
      walk_at "k28"
      exact hid ⟨_, _, _, rfl, q1, q2⟩
    | clock lo' hi' =>
      walk_at "k28"
      rw [if_pos (by decide)]
      walk_at "k28"
      by_cases c : nm = n
      · rw [if_pos (by simpa using c)]
        obtain ⟨q3, q4⟩ := hc lo' hi' (abt_mem c (List.mem_of_getElem? hi))
        walk_at "k28"
        exact hid ⟨_, _, _, rfl, by split <;> assumption, by split <;> assumption⟩
      · rw [if_neg (by simpa using c)]
        walk_at "k28"
        exact hid ⟨_, _, _, rfl, q1, q2⟩
  · intro ρ' hI
    obtain ⟨lo, hi, a, rfl, q1, q2⟩ := hI.out
    walk_at "k28"
    exact ⟨q1, q2⟩
theorem sc_slots_within : FnScope ["received", "first", "last", "slot"] ["received", "first", "last"] (defScope s_slots_within) := ⟨rfl, rfl, rfl, by decide +kernel, rfl, by decide +kernel, by decide +kernel⟩
structure GWin where
  kvs : List (Int × Dt)
  first : Int
  last : Option Int
def AWin (g : GWin) (es : List En1) : Prop := es = [.dic g.kvs, .dat (.int g.first), .dat (optD g.last)] ∧ g.kvs.length ≤ 60 ∧ (g.kvs.map (·.1)).Nodup
def SWin (g : GWin) (e : En1) : Prop := ∃ ns : List Int, e = .lst (ns.map .int) ∧ ns.Nodup ∧ ns.length ≤ 60 ∧ ∀ n ∈ ns, n ∈ g.kvs.map (·.1) ∧ g.first ≤ n ∧ ∀ l, g.last = some l → n ≤ l
theorem ok_slots_within (T : Txt K mg) : Ok P w K mg base CX0 1 "slots_within" (He.ga K "slots_within") ["received", "first", "last"] (psq AWin SWin) := by
  obtain ⟨fd, F⟩ := T.F_slots_within
  refine ⟨⟨fd, ok_pureq F sc_slots_within (fun g es h => by rw [h.1]; rfl) (fun cdv A outer s H E hr => ⟨_, (pss_one (ps_ret (pe_lc (own := [("slot", 3)]) (by rfl) sc_slots_within.nd (kiList (K := K) rfl (pe_callB (call_sortedDI rfl) (by rfl) T.f_sorted (by decide +kernel) (pa_cons (pv 0) pa_nil))) (blkOk_by (own := [("slot", 3)]) (N := ["received", "first", "last", "slot"]) (sc := defScope s_slots_within) (by decide +kernel)) (fun _ _ _ _ _ => (pg_name (i := 3) sc_slots_within.nd rfl (Or.inl rfl))) (fun _ _ _ _ _ => (pts_one (PW.pt (pw_and (pt_cmpR op_ge (pv 3) (pv 1) (nomark _)) (pw_and1 (PW.pt (pw_or (pt_cmpR op_isN (pv 2) pe_non (nomark _)) (pw_or1 (pt_cmpR op_le (pv 3) (pv 2) (nomark _)))))))))) (fun _ _ _ _ _ => (pv 3))))), fun g es r => ?_⟩), (F.bindsN fun _ _ _ _ _ _ us hl => match us, hl with | [_, _, _], _ => rfl)⟩, T.g_slots_within, F.kp⟩
  obtain ⟨kvs, first, last⟩ := g
  obtain ⟨rfl, hz, hn⟩ := r
  dsimp only at hz hn
  walk_at "k28"
  refine w_lcL (F := PyData.int) ?_
  walk_at "k28"
  refine ⟨show kvs.length < 64 by omega, fun ys pm pw => ?_⟩
  have yl : ys.length = kvs.length := by rw [pm.length_eq, List.length_map]
  refine ⟨ys, rfl, by omega, fun y => decide (first ≤ y) && (match last with | none => true | some l => decide (y ≤ l)), PyData.int, fun y _ => ?_, fun y _ _ => ?_, ?_⟩
  · cases last with
    | none =>
      walk_at "k28"
      by_cases c : first ≤ y
      · rw [if_pos (by simpa using c)]
        walk_at "k28"
        rw [if_pos (by simp [isN])]
        simp [c]
      · rw [if_neg (by simpa using c)]
        simp [c]
    | some l =>
      walk_at "k28"
      by_cases c : first ≤ y
      · rw [if_pos (by simpa using c)]
        walk_at "k28"
        rw [if_neg (by simp [isN])]
        walk_at "k28"
        simp [c]
      · rw [if_neg (by simpa using c)]
        simp [c]
  · walk_at "k28"
  · refine ⟨_, rfl, ((pm.nodup_iff).mpr hn).filter _, Nat.le_trans (List.length_filter_le _ _) (by omega), fun n hn' => ?_⟩
    obtain ⟨a, b⟩ := List.mem_filter.mp hn'
    rw [Bool.and_eq_true] at b
    refine ⟨pm.mem_iff.mp a, by simpa using b.1, fun l hl => ?_⟩
    simp only at hl
    subst hl
    simpa using b.2
theorem sc_hidden_in : FnScope ["received", "limits", "first", "last", "least", "greatest", "versions", "slots", "missing", "slot"] ["received", "limits"] (defScope s_hidden_in) := ⟨rfl, rfl, rfl, by decide +kernel, rfl, by decide +kernel, by decide +kernel⟩
structure Seg where
  first : Nat
  last : Option Nat
  least : Option Int
  gr : Option Int
  vers : Option Int
@[reducible] def optN (o : Option Nat) : Option Int := match o with
  | none => none
  | some n => some (n : Int)
abbrev Seg.d (s : Seg) : Dt := .tuple [.int s.first, optD (optN s.last), optD s.least, optD s.gr, optD s.vers]
structure SegOk (ss : List Slot) (s : Seg) : Prop where
  one : 1 ≤ s.first
  least : ∀ b, s.least = some b → ∀ (j : Nat) (sl : Slot), ss[j]? = some sl → s.first - 1 ≤ j → b ≤ sl.1
  gr : ∀ g, s.gr = some g → ∀ (la j : Nat) (sl : Slot), s.last = some la → ss[j]? = some sl → j < la → sl.1 ≤ g
  seg : ∀ la, s.last = some la → s.first ≤ la + 1 ∧ la ≤ ss.length ∧ s.vers = some (cnt ss (s.first - 1) la : Int)
  tail : s.last = none → s.gr = none
structure GHid where
  m : Meter
  ss : List Slot
  kvs : List (Int × Dt)
  s : Seg
  la : Nat
def AHid (g : GHid) (es : List En1) : Prop := es = [.dic g.kvs, .dat g.s.d] ∧ RecP g.ss g.kvs ∧ SsOk g.m g.ss ∧ SegOk g.ss g.s ∧ g.s.last = some g.la
def SHid (g : GHid) (e : En1) : Prop := ∃ z : Int, e = .dat (.int z) ∧ 0 ≤ z
theorem ok_hidden_in (T : Txt K mg) : Ok P w K mg base CX0 2 "hidden_in" (He.ga K "hidden_in") ["received", "limits"] (psq AHid SHid) := by
  obtain ⟨fd, F⟩ := T.F_hidden_in
  have o_slots_within := ok_slots_within (P := P) (w := w) (base := base) T
  refine ⟨⟨fd, ok_pureq F sc_hidden_in (fun g es h => by rw [h.1]; rfl) (fun cdv A outer s H E hr => ⟨_, (pss_cons (ps_asg (pv 1) (kgTup (K := K) (n := 5) rfl rfl (pgs_cons (pg_name (i := 2) sc_hidden_in.nd rfl (Or.inl rfl)) (pgs_cons (pg_name (i := 3) sc_hidden_in.nd rfl (Or.inl rfl)) (pgs_cons (pg_name (i := 4) sc_hidden_in.nd rfl (Or.inl rfl)) (pgs_cons (pg_name (i := 5) sc_hidden_in.nd rfl (Or.inl rfl)) (pgs_cons (pg_name (i := 6) sc_hidden_in.nd rfl (Or.inl rfl)) pgs_nil))))))) (pss_cons (ps_if (pt_cmpR op_isN (pv 3) pe_non (nomark _)) (pss_one (ps_ret pe_non)) pss_nil) (pss_cons (ps_set (i := 7) sc_hidden_in.nd rfl (Or.inl rfl) (pe_ok o_slots_within hr (by decide) (by rfl) (pa_cons (pv 0) (pa_cons (pv 2) (pa_cons (pv 3) pa_nil))))) (pss_cons (ps_set (i := 8) sc_hidden_in.nd rfl (Or.inl rfl) (pe_op op_sub (pe_op op_add (pe_op op_sub (pv 3) (pv 2)) pe_int) (pe_callB (kLen (K := K) rfl) (by rfl) T.f_len (by decide +kernel) (pa_cons (pv 7) pa_nil)))) (pss_one (ps_ret (pe_op op_sub (pe_op op_sub (pv 6) (pv 8)) (pe_callB (kSum (K := K) rfl rfl) (by rfl) T.f_sum (by decide +kernel) (pa_cons (pe_lc (own := [("slot", 9)]) (by rfl) sc_hidden_in.nd (kiList (K := K) rfl (pv 7)) (blkOk_by (own := [("slot", 9)]) (N := ["received", "limits", "first", "last", "least", "greatest", "versions", "slots", "missing", "slot"]) (sc := defScope s_hidden_in) (by decide +kernel)) (fun _ _ _ _ _ => (pg_name (i := 9) sc_hidden_in.nd rfl (Or.inl rfl))) (fun _ _ _ _ _ => pts_nil) (fun _ _ _ _ _ => (pe_op op_add (pe_ix (kIxT (K := K) rfl) (pe_dget (hu_of hr) (pv 0) (pv 9) (fun _ _ => rfl)) pe_int (fun _ _ => rfl)) pe_int))) pa_nil))))))))), fun g es r => ?_⟩), (F.bindsN fun _ _ _ _ _ _ us hl => match us, hl with | [_, _], _ => rfl)⟩, T.g_hidden_in, F.kp⟩
  obtain ⟨m, ss, kvs, ⟨first, last, least, gr, vers⟩, la⟩ := g
  obtain ⟨rfl, R, S, so, hla⟩ := r
  dsimp only at R S so hla ⊢
  subst hla
  obtain ⟨h1, h2, h3⟩ := so.seg la rfl
  have h0 := so.one
  dsimp only at h1 h2 h3 h0
  subst h3
  walk_at "k28"
  rw [if_neg (by simp [isN])]
  walk_at "k28"
  refine ⟨⟨kvs, first, some (la : Int)⟩, ⟨rfl, R.few, R.nd⟩, ?_⟩
  rintro e ⟨ns, rfl, nd, nl, hn⟩
  walk_at "k28"
  refine w_lcL0 (F := PyData.int) ?_
  walk_at "k28"
  refine ⟨by omega, fun n => .int (rvv kvs n + 1), fun n hn' => ?_, ?_⟩
  · obtain ⟨k, ver, x, sl, rfl, e, k1, hs, hv⟩ := R.at (hn n hn').1
    have q1 : rvv kvs (k : Int) = ver := by unfold rvv; rw [e]
    walk_at "k28"
    refine ⟨_, _, _, rfl, rfl, e, ?_⟩
    walk_at "k28"
    simp only [q1]
  · walk_at "k28"
    have q := hidden_ok R S h0 h1 h2 nd fun n hn' => ⟨(hn n hn').1, (hn n hn').2.1, (hn n hn').2.2 _ rfl⟩
    simpa using q
theorem sc_closes_right : FnScope ["letters", "name", "closes", "letter", "numbers", "n", "k"] ["letters", "name", "closes"] (defScope s_closes_right) := ⟨rfl, rfl, rfl, by decide +kernel, rfl, by decide +kernel, by decide +kernel⟩
structure ClsP (ss : List Slot) (kvs : List (Int × Dt)) : Prop where
  nd : (kvs.map (·.1)).Nodup
  few : kvs.length ≤ 60
  ok : ∀ q ∈ kvs, ∃ (n : Nat) (c f : Int), q = ((n : Int), .tuple [.int c, .int f, .int (cnt ss 0 n : Int)]) ∧ n ≤ ss.length ∧ (∀ (j : Nat) (sl : Slot), ss[j]? = some sl → j < n → sl.1 < c) ∧ ∀ (j : Nat) (sl : Slot), ss[j]? = some sl → n ≤ j → f ≤ sl.1
theorem ClsP.at {ss : List Slot} {kvs : List (Int × Dt)} (R : ClsP ss kvs) {i : Int} (h : i ∈ kvs.map (·.1)) :
    ∃ (n : Nat) (c f : Int), i = (n : Int) ∧ lookD kvs i = some (.tuple [.int c, .int f, .int (cnt ss 0 n : Int)]) ∧ n ≤ ss.length ∧ (∀ (j : Nat) (sl : Slot), ss[j]? = some sl → j < n → sl.1 < c) ∧ ∀ (j : Nat) (sl : Slot), ss[j]? = some sl → n ≤ j → f ≤ sl.1 := by
  obtain ⟨q, hq, rfl⟩ := List.mem_map.mp h
  obtain ⟨n, c, f, rfl, a, b, d⟩ := R.ok q hq
  exact ⟨n, c, f, rfl, lookD_mem R.nd hq, a, b, d⟩
structure GCls where
  nm : Str
  n : Str
  us : List Let
  ss : List Slot
  kvs : List (Int × Dt)
def ACls (g : GCls) (es : List En1) : Prop := es = [.lst (g.us.map (Let.d g.nm)), .dat (.str g.n), .dic g.kvs] ∧ ClsP g.ss g.kvs ∧ (∀ (k : Nat) (st : Int) (vs : Nat), Let.close k st vs ∈ abt g.nm g.n g.us → ((k : Int) ∈ g.kvs.map (·.1)) ∧ cnt g.ss 0 k = vs)
def STrue {ι : Type} (_ : ι) (e : En1) : Prop := e = .dat (.bool true)
def dgt (kvs : List (Int × Dt)) (k : Nat) (d : Dt) : Int := match d with
  | .int i => (match lookD kvs i with
    | some (.tuple [.int c, .int f, _]) => if k = 0 then c else f
    | _ => 0)
  | _ => 0
theorem ok_closes_right (T : Txt K mg) : Ok P w K mg base CX0 1 "closes_right" (He.ga K "closes_right") ["letters", "name", "closes"] (psq ACls STrue) := by
  obtain ⟨fd, F⟩ := T.F_closes_right
  refine ⟨⟨fd, ok_pureq F sc_closes_right (fun g es h => by rw [h.1]; rfl) (fun cdv A outer s H E hr => ⟨_, (pss_cons (ps_for PassesOwn.never rfl (kiList (K := K) rfl (pv 0)) (pg_name (i := 3) sc_closes_right.nd rfl (Or.inl rfl)) (pss_one (ps_if (PW.pt (pw_and (pt_cmpR op_eq (pe_ix (kIxT (K := K) rfl) (pv 3) pe_int (fun _ _ => rfl)) pe_str (nomark _)) (pw_and (pt_cmpR op_eq (pe_ix (kIxT (K := K) rfl) (pv 3) pe_int (fun _ _ => rfl)) (pv 1) (nomark _)) (pw_and1 (pt_cmpR op_ne (pe_ix (kIxT (K := K) rfl) (pe_dget (hu_of hr) (pv 2) (pe_ix (kIxT (K := K) rfl) (pv 3) pe_int (fun _ _ => rfl)) (fun _ _ => rfl)) pe_int (fun _ _ => rfl)) (pe_ix (kIxT (K := K) rfl) (pv 3) pe_int (fun _ _ => rfl)) (nomark _)))))) (pss_one (ps_ret pe_bl)) pss_nil))) (pss_cons (ps_if (PW.pt (pw_and (pt_cmp (pc_din (hu_of hr) pe_int (pv 2))) (pw_and1 (pt_cmpR op_ne (pe_ix (kIxT (K := K) rfl) (pe_dget (hu_of hr) (pv 2) pe_int (fun _ _ => rfl)) pe_int (fun _ _ => rfl)) pe_int (nomark _))))) (pss_one (ps_ret pe_bl)) pss_nil) (pss_cons (ps_set (i := 4) sc_closes_right.nd rfl (Or.inl rfl) (pe_callB (call_sortedDI rfl) (by rfl) T.f_sorted (by decide +kernel) (pa_cons (pv 2) pa_nil))) (pss_one (ps_ret (pe_callB (kAll (K := K) rfl rfl) (by rfl) T.f_all (by decide +kernel) (pa_cons (pe_lc (own := [("n", 5), ("k", 6)]) (by rfl) sc_closes_right.nd (kiZip (K := K) rfl (by rfl) T.f_zip (pa_cons (pv 4) (pa_cons (pe_slice (kSlL (K := K) rfl) (pv 4) (po_some pe_int) po_none) pa_nil))) (blkOk_by (own := [("n", 5), ("k", 6)]) (N := ["letters", "name", "closes", "letter", "numbers", "n", "k"]) (sc := defScope s_closes_right) (by decide +kernel)) (fun _ _ _ _ _ => (kgTup (K := K) (n := 2) rfl rfl (pgs_cons (pg_name (i := 5) sc_closes_right.nd rfl (Or.inl rfl)) (pgs_cons (pg_name (i := 6) sc_closes_right.nd rfl (Or.inl rfl)) pgs_nil)))) (fun _ _ _ _ _ => pts_nil) (fun _ _ _ _ _ => (pe_cmpR op_lt (pe_ix (kIxT (K := K) rfl) (pe_dget (hu_of hr) (pv 2) (pv 5) (fun _ _ => rfl)) pe_int (fun _ _ => rfl)) (pe_ix (kIxT (K := K) rfl) (pe_dget (hu_of hr) (pv 2) (pv 6) (fun _ _ => rfl)) pe_int (fun _ _ => rfl)) (nomark _)))) pa_nil))))))), fun g es r => ?_⟩), (F.bindsN fun _ _ _ _ _ _ us hl => match us, hl with | [_, _, _], _ => rfl)⟩, T.g_closes_right, F.kp⟩
  obtain ⟨nm, n, us, ss, kvs⟩ := g
  obtain ⟨rfl, C, hc⟩ := r
  dsimp only at C hc ⊢
  walk_at "k28"
  refine s_forL (F := Let.d nm) ?_
  walk_at "k28"
  refine ⟨fun i ρ' => Hid (∃ a b c d e, ρ' = [some (.lst (us.map (Let.d nm))), some (.dat (.str n)), some (.dic kvs), a, b, c, d]), hid ⟨_, _, _, _, 0, rfl⟩, ?_, ?_⟩
  · intro i l ρ' hi hI
    obtain ⟨a, b, c, d, e, rfl⟩ := hI.out
    cases l with
    | read s v st x =>
      walk_at "k28"
      rw [if_neg (by decide)]
      simp only [Bool.false_eq_true, if_false]
      walk_at "k28"
      exact hid ⟨_, _, _, _, 0, rfl⟩
    | clock lo hi =>
      walk_at "k28"
      rw [if_neg (by decide)]
      simp only [Bool.false_eq_true, if_false]
      walk_at "k28"
      exact hid ⟨_, _, _, _, 0, rfl⟩
    | close k st vs =>
      walk_at "k28"
      rw [if_pos (by decide)]
      walk_at "k28"
      by_cases c : nm = n
      · rw [if_pos (by simpa using c)]
        obtain ⟨q1, q2⟩ := hc k st vs (abt_mem c (List.mem_of_getElem? hi))
        obtain ⟨k', c', f', e1, e2, _⟩ := C.at q1
        obtain rfl : k = k' := by omega
        walk_at "k28"
        refine ⟨_, _, _, rfl, rfl, e2, ?_⟩
        walk_at "k28"
        rw [if_neg (by simp [q2])]
        walk_at "k28"
        exact hid ⟨_, _, _, _, 0, rfl⟩
      · rw [if_neg (by simpa using c)]
        simp only [Bool.false_eq_true, if_false]
        walk_at "k28"
        exact hid ⟨_, _, _, _, 0, rfl⟩
  · intro ρ' hI
    obtain ⟨a, b, c, d, e, rfl⟩ := hI.out
    refine s_seq (s_if (t_is false ?_ ?_))
    · walk_at "k28"
      cases e0 : lookD kvs 0 with
      | none => simp
      | some d0 =>
        obtain ⟨k', c', f', e1, e2, _⟩ := C.at (i := 0) (List.mem_map.mpr ⟨_, mem_lookD e0, rfl⟩)
        obtain rfl : k' = 0 := by omega
        simp only [Option.isSome_some, if_true]
        walk_at "k28"
        refine ⟨_, _, _, rfl, rfl, e2, ?_⟩
        walk_at "k28"
    rw [if_neg (by simp)]
    walk_at "k28"
    refine ⟨show kvs.length < 64 by have := C.few; omega, fun ys pm pw => ?_⟩
    have yl : ys.length = kvs.length := by rw [pm.length_eq, List.length_map]
    have nd : ys.Nodup := (pm.nodup_iff).mpr C.nd
    walk_at "k28"
    refine w_lcZ (by decide) ?_
    walk_at "k28"
    refine ⟨by have := C.few; simp; omega, fun _ _ => .bool true, fun q a b ha hb => ?_, ?_⟩
    · rw [List.getElem?_map] at ha
      obtain ⟨x, hx, rfl⟩ := Option.map_eq_some_iff.mp ha
      have hb2 : (ys.map PyData.int)[q + 1]? = some b := by
        have e : cutD (ys.map PyData.int) (some 1) none = (ys.map PyData.int).drop 1 := by
          unfold cutD
          rw [show (some 1 : Option Int) = some ((1 : Nat) : Int) from rfl, HT.sIx_nat, HT.sIx_none]
          by_cases c : 1 ≤ (ys.map PyData.int).length
          · rw [Nat.min_eq_left c, List.take_of_length_le (by rw [List.length_drop]; exact Nat.le_refl _)]
          · have z : ys.map PyData.int = [] := List.eq_nil_of_length_eq_zero (by omega)
            rw [z]
            rfl
        rw [e, List.getElem?_drop, Nat.add_comm] at hb
        exact hb
      rw [List.getElem?_map] at hb2
      obtain ⟨y, hy, rfl⟩ := Option.map_eq_some_iff.mp hb2
      obtain ⟨l1, f1⟩ := List.getElem?_eq_some_iff.mp hx
      obtain ⟨l2, f2⟩ := List.getElem?_eq_some_iff.mp hy
      have lt : x < y := by
        have q1 := List.pairwise_iff_getElem.mp pw q (q + 1) l1 l2 (by omega)
        have q2 := List.pairwise_iff_getElem.mp nd q (q + 1) l1 l2 (by omega)
        rw [f1, f2] at q1 q2
        omega
      obtain ⟨n1, c1, g1, rfl, e1, b1, _, d1⟩ := C.at (pm.mem_iff.mp (List.mem_of_getElem? hx))
      obtain ⟨n2, c2, g2, rfl, e2, b2, d2, _⟩ := C.at (pm.mem_iff.mp (List.mem_of_getElem? hy))
      have hs : ss[n1]? = some (ss[n1]'(by omega)) := List.getElem?_eq_getElem _
      have r1 := d1 n1 _ hs (Nat.le_refl _)
      have r2 := d2 n1 _ hs (by omega)
      walk_at "k28"
      refine ⟨_, _, _, rfl, rfl, e1, ?_⟩
      walk_at "k28"
      refine ⟨_, _, _, rfl, rfl, e2, ?_⟩
      walk_at "k28"
      rw [decide_eq_true (by omega)]
    · walk_at "k28"
      show En1.dat _ = En1.dat _
      simp
end
end TW
/-! K28P4 -/
namespace TW
open PySem PySem.Spec PyProof.Rows L2
local macro_rules | `(tactic| walk_at "k28 d") => `(tactic| first
  | refine w_var rfl ?_ | with_reducible refine w_int ?_ | with_reducible refine w_str ?_ | with_reducible refine w_non ?_ | with_reducible refine w_bl ?_
  | with_reducible refine w_ixT ?_ | with_reducible refine w_ixL ?_ | with_reducible refine w_add ?_ | with_reducible refine w_sub ?_ | with_reducible refine w_eq ?_ | with_reducible refine w_ne ?_ | with_reducible refine w_lt ?_
  | with_reducible refine w_leq ?_ | with_reducible refine w_gt ?_ | with_reducible refine w_ge ?_ | with_reducible refine w_mul ?_ | with_reducible refine w_div ?_ | with_reducible refine w_mod ?_ | with_reducible refine w_pow ?_
  | with_reducible refine w_neg ?_ | with_reducible refine w_isN ?_ | with_reducible refine w_notN ?_ | with_reducible refine a_nil ?_ | with_reducible refine a_cons ?_ | with_reducible refine w_tup ?_ | with_reducible refine w_lst ?_
  | with_reducible refine w_call0 ?_ | with_reducible refine w_len ?_ | with_reducible refine w_sumM ?_ | with_reducible refine w_allM ?_ | with_reducible refine w_tuple ?_ | with_reducible refine w_abs ?_ | with_reducible refine w_toInt ?_ | with_reducible refine w_max2 ?_
  | with_reducible refine w_min2 ?_ | with_reducible refine t_test ?_ | with_reducible refine t_B ?_ | with_reducible refine t_and ?_ | with_reducible refine t_or ?_ | with_reducible refine t_not ?_ | with_reducible refine t_yes ?_
  | with_reducible refine w_andV ?_ | with_reducible refine w_orV ?_ | with_reducible refine w_notV ?_ | with_reducible refine w_if ?_ | with_reducible refine w_chain ?_ | with_reducible refine o_none ?_ | with_reducible refine o_some ?_
  | with_reducible refine w_slT ?_ | with_reducible refine w_slL ?_ | with_reducible refine w_catT ?_ | with_reducible refine w_catL ?_ | with_reducible refine w_dget ?_ | with_reducible refine w_din ?_ | with_reducible refine w_dnotin ?_ | with_reducible refine w_sortD ?_ | with_reducible refine w_sortI ?_ | with_reducible refine w_callq ?_ | with_reducible refine w_isB ?_
  | with_reducible refine w_notB ?_ | with_reducible refine g_name ?_ | refine gs_nil rfl ?_ | refine gs_cons rfl ?_ | with_reducible refine s_next ?_ | with_reducible refine s_seq ?_ | with_reducible refine s_asg ?_
  | with_reducible refine s_drop ?_ | with_reducible refine s_ret ?_ | with_reducible refine s_brk ?_ | with_reducible refine s_if ?_)
local macro_rules | `(tactic| walk_at "k28 x") => `(tactic| first
  | refine g_tup ⟨_, rfl, rfl, ?_⟩ | refine ⟨_, _, _, _, rfl, rfl, rfl, rfl, rfl, ?_⟩ | refine ⟨_, _, _, rfl, rfl, rfl, ?_⟩ | refine ⟨_, _, _, rfl, rfl, atI_nat (j := 0) rfl, ?_⟩ | refine ⟨_, _, _, rfl, ?_⟩ | refine ⟨_, _, rfl, rfl, by decide, ?_⟩ | refine ⟨_, _, rfl, rfl, ⟨by decide, by decide⟩, ?_⟩ | refine ⟨_, _, rfl, rfl, ⟨by decide, by decide, by decide⟩, ?_⟩ | refine ⟨_, _, rfl, rfl, .inl ⟨by decide, by decide⟩, ?_⟩ | refine ⟨_, _, rfl, rfl, .inr ⟨by decide, by decide⟩, ?_⟩ | refine ⟨_, _, rfl, rfl, ?_⟩ | refine ⟨_, _, rfl, ?_⟩ | refine ⟨_, (show undats _ = some _ from rfl), by simp, ?_⟩ | refine ⟨_, rfl, ?_⟩ | refine ⟨_, .inl rfl, ?_⟩ | refine ⟨_, .inr rfl, ?_⟩ | refine ⟨_, _, rfl, rfl, ?_, ?_⟩)
local macro_rules | `(tactic| walk_at "k28 t") => `(tactic| first | rw [if_pos (by decide)] | rw [if_neg (by decide)] | rw [if_pos (by simp)] | rw [if_neg (by simp)])
local macro_rules | `(tactic| walk_at "k28") => `(tactic| repeat (first | walk_at "k28 d" | walk_at "k28 x" | exact rfl))
local macro_rules | `(tactic| walk_at "k28 s") => `(tactic| repeat (first | (fail_if_success with_reducible refine s_if ?_); (first | walk_at "k28 d" | walk_at "k28 x" | exact rfl)))
local macro_rules | `(tactic| walk_at "k28 o") => `(tactic| first
  | with_reducible refine w_dnotinO ?_ | with_reducible refine w_dgetO ?_ | with_reducible refine w_dget2O ?_ | with_reducible refine w_lenO ?_ | with_reducible refine w_tupleO ?_ | with_reducible refine w_notInO ?_ | with_reducible refine w_ixO ?_ | with_reducible refine w_fld ?_
  | refine ⟨_, _, _, rfl, rfl, .of (.head _), ?_⟩ | refine ⟨_, _, _, rfl, rfl, .of (.tail _ (.head _)), ?_⟩ | refine ⟨_, _, rfl, .of (.head _), ?_⟩ | refine ⟨_, _, rfl, .of (.tail _ (.head _)), ?_⟩)
local macro_rules | `(tactic| walk_at "k28 w") => `(tactic| first | with_reducible refine m_next ?_ | with_reducible refine m_seq ?_ | with_reducible refine m_asg (x_dnew fun p => ?_) | with_reducible refine m_asg (x_dnewT fun p => ?_) | with_reducible refine m_asg (x_lst ?_) | with_reducible refine m_asgP ?_ | with_reducible refine m_if ?_ | with_reducible refine m_retP ?_)
local macro_rules | `(tactic| walk_at "k28 m") => `(tactic| repeat (first | walk_at "k28 w" | walk_at "k28 o" | walk_at "k28 d" | walk_at "k28 x" | exact rfl))
local macro_rules | `(tactic| walk_at "k28 g") => `(tactic| repeat (first | with_reducible refine w_take ?_ | with_reducible refine w_word ?_ | with_reducible refine w_calld ?_ | with_reducible refine w_callgq ?_ | with_reducible refine w_addS ?_ | with_reducible refine w_ixS ?_ | with_reducible refine w_catL ?_ | walk_at "k28 w" | walk_at "k28 d" | refine ⟨_, _, rfl, .head _, (by first | decide | omega | simp | (simp only [List.length_map]; omega)), fun (r : Int) (r1 : 0 ≤ r) (r2 : r < _) => ?_⟩ | refine ⟨_, rfl, fun (s : Str) (sw : Wdn 60 s) => ?_⟩ | walk_at "k28 x" | exact rfl))
local macro_rules | `(tactic| walk_at "k28 f") => `(tactic| first
  | refine wf (Txt.c_Source (by assumption)) (Txt.n_meter (by assumption)) rfl lk_meter ?_ | refine wf (Txt.c_Source (by assumption)) (Txt.n_offset (by assumption)) rfl lk_offset ?_ | refine wf (Txt.c_Source (by assumption)) (Txt.n_slots (by assumption)) rfl lk_slots ?_ | refine wf (Txt.c_Source (by assumption)) (Txt.n_closed_number (by assumption)) rfl lk_closed_number ?_ | refine wf (Txt.c_Source (by assumption)) (Txt.n_closed_stamp (by assumption)) rfl lk_closed_stamp ?_ | refine wf (Txt.c_Source (by assumption)) (Txt.n_due (by assumption)) rfl lk_due ?_)
local macro_rules | `(tactic| walk_at "k28 n") => `(tactic| repeat (first | walk_at "k28 w" | walk_at "k28 f" | walk_at "k28 d" | walk_at "k28 x" | exact rfl))
local macro_rules | `(tactic| walk_at "k28 p") => `(tactic| first
  | with_reducible refine w_lenO ?_ | with_reducible refine w_tupleO ?_ | with_reducible refine w_ixO ?_
  | refine ⟨_, _, rfl, .of (.tail _ (.head _)), ?_⟩ | refine ⟨_, _, rfl, .of (.tail _ (.tail _ (.head _))), ?_⟩)
local macro_rules | `(tactic| walk_at "k28 q") => `(tactic| repeat (first | walk_at "k28 w" | walk_at "k28 f" | walk_at "k28 p" | walk_at "k28 d" | walk_at "k28 x" | exact rfl))
section
variable {P : Program} {w : World} {K : PySem.W.Frag} {mg : Str → Option Value} {base : Heap}
theorem lay_ints : ∀ xs : List Int, PyData.canLayAll0 (xs.map PyData.int) = true ∧ PyData.depthAll (xs.map PyData.int) ≤ 2
  | [] => by simp [PyData.canLayAll0, PyData.depthAll]
  | x :: xs => by
    obtain ⟨a, b⟩ := lay_ints xs
    simp only [List.map_cons, PyData.canLayAll0, PyData.canLay0, PyData.depthAll, PyData.depth, a, Bool.and_self, true_and]
    omega
theorem shaped_ints (xs : List Int) : SeqAt.shaped (.list (xs.map PyData.int)) = true := by
  obtain ⟨a, b⟩ := lay_ints xs
  show (PyData.canLay0 (.list (xs.map PyData.int)) && decide (PyData.depth (.list (xs.map PyData.int)) ≤ 64)) = true
  rw [Bool.and_eq_true]
  refine ⟨by simpa only [PyData.canLay0] using a, decide_eq_true ?_⟩
  simp only [PyData.depth]
  omega
theorem sc_stamps_right : FnScope ["received", "limits", "slot", "stamps", "first", "last", "least", "greatest", "versions", "stamp"] ["received", "limits"] (defScope s_stamps_right) := ⟨rfl, rfl, rfl, by decide +kernel, rfl, by decide +kernel, by decide +kernel⟩
structure GStm where
  m : Meter
  ss : List Slot
  kvs : List (Int × Dt)
  segs : List Seg
def AStm (g : GStm) (es : List En1) : Prop := es = [.dic g.kvs, .lst (g.segs.map Seg.d)] ∧ RecP g.ss g.kvs ∧ SsOk g.m g.ss ∧ ∀ s ∈ g.segs, SegOk g.ss s
theorem ok_stamps_right (T : Txt K mg) : Ok P w K mg base CX0 2 "stamps_right" (He.ga K "stamps_right") ["received", "limits"] (psq AStm STrue) := by
  obtain ⟨fd, F⟩ := T.F_stamps_right
  have o_slots_within := ok_slots_within (P := P) (w := w) (base := base) T
  refine ⟨⟨fd, ok_pureq F sc_stamps_right (fun g es h => by rw [h.1]; rfl) (fun cdv A outer s H E hr => ⟨_, (pss_cons (ps_setLc (i := 3) (own := [("slot", 2)]) (by rfl) sc_stamps_right.nd rfl rfl (sw_true rfl rfl rfl (by decide +kernel)) (kiList (K := K) rfl (pe_callB (call_sortedDI rfl) (by rfl) T.f_sorted (by decide +kernel) (pa_cons (pv 0) pa_nil))) (blkOk_by (own := [("slot", 2)]) (N := ["received", "limits", "slot", "stamps", "first", "last", "least", "greatest", "versions", "stamp"]) (sc := defScope s_stamps_right) (by decide +kernel)) (fun _ _ _ _ _ => (pg_name (i := 2) sc_stamps_right.nd rfl (Or.inl rfl))) (fun _ _ _ _ _ => pts_nil) (fun _ _ _ _ _ => (pe_ix (kIxT (K := K) rfl) (pe_dget (hu_of hr) (pv 0) (pv 2) (fun _ _ => rfl)) pe_int (fun _ _ => rfl)))) (pss_cons (ps_if (pt_cmpR (kNeD (K := K) rfl hr.units) (pv 3) (pe_callB (kSortI (K := K) rfl) (by rfl) T.f_sorted (by decide +kernel) (pa_cons (pv 3) pa_nil)) (nomark _)) (pss_one (ps_ret pe_bl)) pss_nil) (pss_cons (ps_for PassesOwn.never rfl (kiList (K := K) rfl (pv 1)) (kgTup (K := K) (n := 5) rfl rfl (pgs_cons (pg_name (i := 4) sc_stamps_right.nd rfl (Or.inl rfl)) (pgs_cons (pg_name (i := 5) sc_stamps_right.nd rfl (Or.inl rfl)) (pgs_cons (pg_name (i := 6) sc_stamps_right.nd rfl (Or.inl rfl)) (pgs_cons (pg_name (i := 7) sc_stamps_right.nd rfl (Or.inl rfl)) (pgs_cons (pg_name (i := 8) sc_stamps_right.nd rfl (Or.inl rfl)) pgs_nil)))))) (pss_one (ps_for PassesOwn.never rfl (kiList (K := K) rfl (pe_ok o_slots_within hr (by decide) (by rfl) (pa_cons (pv 0) (pa_cons (pv 4) (pa_cons (pv 5) pa_nil))))) (pg_name (i := 2) sc_stamps_right.nd rfl (Or.inl rfl)) (pss_cons (ps_set (i := 9) sc_stamps_right.nd rfl (Or.inl rfl) (pe_ix (kIxT (K := K) rfl) (pe_dget (hu_of hr) (pv 0) (pv 2) (fun _ _ => rfl)) pe_int (fun _ _ => rfl))) (pss_one (ps_if (PW.pt (pw_or (PW.pt (pw_and (pt_cmpR op_notN (pv 6) pe_non (nomark _)) (pw_and1 (pt_cmpR op_lt (pv 9) (pv 6) (nomark _))))) (pw_or1 (PW.pt (pw_and (pt_cmpR op_notN (pv 7) pe_non (nomark _)) (pw_and1 (pt_cmpR op_gt (pv 9) (pv 7) (nomark _)))))))) (pss_one (ps_ret pe_bl)) pss_nil)))))) (pss_one (ps_ret pe_bl))))), fun g es r => ?_⟩), (F.bindsN fun _ _ _ _ _ _ us hl => match us, hl with | [_, _], _ => rfl)⟩, T.g_stamps_right, F.kp⟩
  obtain ⟨m, ss, kvs, segs⟩ := g
  obtain ⟨rfl, R, S, so⟩ := r
  dsimp only at R S so ⊢
  walk_at "k28"
  refine w_lcL0 (F := PyData.int) ?_
  walk_at "k28"
  refine ⟨show kvs.length < 64 by have := R.few; omega, fun ys pm pw => ?_⟩
  have yl : ys.length = kvs.length := by rw [pm.length_eq, List.length_map]
  refine ⟨ys, rfl, by have := R.few; omega, fun y => .int (rvs kvs y), fun y hy => ?_, ?_⟩
  · obtain ⟨k, ver, x, sl, rfl, e, k1, hs, hv⟩ := R.at (pm.mem_iff.mp hy)
    have q1 : rvs kvs (k : Int) = sl.1 := by unfold rvs; rw [e]
    walk_at "k28"
    refine ⟨_, _, _, rfl, rfl, e, ?_⟩
    walk_at "k28"
    simp only [q1]
  have asc := rec_asc R S pm pw
  have em : ys.map (fun y => PyData.int (rvs kvs y)) = (ys.map (rvs kvs)).map PyData.int := by rw [List.map_map]; rfl
  rw [em]
  walk_at "k28"
  refine w_neD ?_
  walk_at "k28"
  intro zs pz wz
  obtain rfl : zs = ys.map (rvs kvs) := pz.eq_of_pairwise (fun x y _ _ h1 h2 => Int.le_antisymm h1 h2) wz asc
  refine ⟨_, _, ⟨.inr ⟨_, rfl, rfl⟩, .inr ⟨_, rfl, rfl⟩⟩, shaped_ints _, shaped_ints _, ?_⟩
  rw [SeqAt.eqv_refl _ (SeqAt.canLay_of_shaped (shaped_ints _))]
  walk_at "k28"
  rw [if_neg (by simp)]
  walk_at "k28"
  refine s_forL (F := Seg.d) ?_
  walk_at "k28"
  refine ⟨fun i ρ' => Hid (∃ a b c d e f g, ρ' = [some (.dic kvs), some (.lst (segs.map Seg.d)), a, some (.lst ((ys.map (rvs kvs)).map .int)), b, c, d, e, f, g]), hid ⟨_, _, _, _, _, _, _, rfl⟩, ?_, ?_⟩
  · intro i sg ρ' hi hI
    obtain ⟨a, b, c, d, e, f, g, rfl⟩ := hI.out
    have sk := so sg (List.mem_of_getElem? hi)
    walk_at "k28"
    refine s_forL (F := PyData.int) ?_
    walk_at "k28"
    refine ⟨⟨kvs, sg.first, optN sg.last⟩, ⟨rfl, R.few, R.nd⟩, ?_⟩
    rintro e ⟨ns, rfl, nd, nl, hn⟩
    refine ⟨ns, rfl, fun i ρ' => Hid (∃ a f g, ρ' = [some (.dic kvs), some (.lst (segs.map Seg.d)), a, some (.lst ((ys.map (rvs kvs)).map .int)), some (.dat (.int sg.first)), some (.dat (optD (optN sg.last))), some (.dat (optD sg.least)), some (.dat (optD sg.gr)), f, g]), hid ⟨_, _, _, rfl⟩, ?_, ?_⟩
    · intro j n ρ' hj hI
      obtain ⟨a, f, g, rfl⟩ := hI.out
      obtain ⟨h1, h2, h3⟩ := hn n (List.mem_of_getElem? hj)
      obtain ⟨k, ver, x, sl, rfl, e, k1, hs, hv⟩ := R.at h1
      dsimp only at h2 h3
      walk_at "k28"
      refine ⟨_, _, _, rfl, rfl, e, ?_⟩
      walk_at "k28 s"
      refine s_if (t_or (t_is false ?_ ?_))
      · obtain ⟨first, last, least, gr, vers⟩ := sg
        cases least with
        | none => walk_at "k28"
        | some b =>
          walk_at "k28"
          rw [if_pos (by simp [isN])]
          walk_at "k28"
          have q := sk.least b rfl (k - 1) sl hs (by dsimp only at h2 ⊢; omega)
          simp
          omega
      rw [if_neg (by simp)]
      refine t_is false ?_ ?_
      · obtain ⟨first, last, least, gr, vers⟩ := sg
        cases gr with
        | none => walk_at "k28"
        | some b =>
          cases last with
          | none => exact absurd (sk.tail rfl) (by simp)
          | some la =>
            walk_at "k28"
            rw [if_pos (by simp [isN])]
            walk_at "k28"
            have q := sk.gr b rfl la (k - 1) sl rfl hs (by have := h3 la rfl; omega)
            simp
            omega
      rw [if_neg (by simp)]
      walk_at "k28"
      exact hid ⟨_, _, _, rfl⟩
    · intro ρ' hI
      obtain ⟨a, f, g, rfl⟩ := hI.out
      exact hid ⟨_, _, _, _, _, _, _, rfl⟩
  · intro ρ' hI
    obtain ⟨a, b, c, d, e, f, g, rfl⟩ := hI.out
    walk_at "k28"
end
end TW
/-! K28G -/
/-! K28: cells that a piece of code owns and writes. The mode knows what stands in them. -/
namespace TW
open PySem PySem.Spec PyProof.Rows L2
inductive Cell where
  | l (xs : List V) (ds : List Dt)
  | rnd
  | d (ks : List (Key × V)) (kvs : List (Int × Dt))
  | t (ks : List (List Key × V)) (kvs : List (List Key × Dt))
  | o (C dx : Addr) (vs : List (Str × V)) (fs : List (Str × En1))
def FIs (H : Hp) (v : V) : En1 → Prop
  | .dat d => At H v d
  | .raw u => v = u
  | _ => False
def FldS (H : Hp) : List (Str × V) → List (Str × En1) → Prop := Paired fun p q => p.1 = q.1 ∧ FIs H p.2 q.2
def DitS (H : Hp) : List (List Key × V) → List (List Key × Dt) → Prop := Paired fun p q => p.1 = q.1 ∧ At H p.2 q.2
def Holds (H : Hp) (a : Addr) : Cell → Prop
  | .l xs ds => H a = some (.lst xs) ∧ AtS H xs ds
  | .rnd => ∃ ns : List Int, H a = some (.lst (ns.map V.int))
  | .d ks kvs => H a = some (.dK ks) ∧ DicS H ks kvs
  | .t ks kvs => H a = some (.dT ks) ∧ DitS H ks kvs
  | .o C dx vs fs => H a = some (.ins C dx vs) ∧ FldS H vs fs
theorem FIs.keep {H H' : Hp} (k : KT H H') {v : V} {e : En1} (h : FIs H v e) : FIs H' v e := by
  cases e with
  | dat d => exact At.keep k h
  | raw u => exact h
  | lst _ => exact h.elim
  | dic _ => exact h.elim
theorem FldS.keep {H H' : Hp} (k : KT H H') {vs : List (Str × V)} {fs : List (Str × En1)} (h : FldS H vs fs) : FldS H' vs fs := Paired.mapP h fun _ _ x => ⟨x.1, x.2.keep k⟩
theorem DitS.keep {H H' : Hp} (k : KT H H') {ks : List (List Key × V)} {kvs : List (List Key × Dt)} (h : DitS H ks kvs) : DitS H' ks kvs := Paired.mapP h fun _ _ x => ⟨x.1, x.2.keep k⟩
theorem Holds.keep {H H' : Hp} (k : KT H H') {a : Addr} (q : ∀ o, H a = some o → H' a = some o) {c : Cell} (h : Holds H a c) : Holds H' a c := by
  cases c with
  | l xs ds => exact ⟨q _ h.1, h.2.keep k⟩
  | rnd => obtain ⟨ns, e⟩ := h; exact ⟨ns, q _ e⟩
  | d ks kvs => exact ⟨q _ h.1, h.2.keep k⟩
  | t ks kvs => exact ⟨q _ h.1, h.2.keep k⟩
  | o C dx vs fs => exact ⟨q _ h.1, h.2.keep k⟩
theorem Holds.ob {H : Hp} {a : Addr} {c : Cell} (h : Holds H a c) : ∃ o, H a = some o ∧ ∀ xs, o ≠ .tup xs := by
  cases c with
  | l xs ds => exact ⟨_, h.1, fun _ e => by cases e⟩
  | rnd => obtain ⟨ns, e⟩ := h; exact ⟨_, e, fun _ e => by cases e⟩
  | d ks kvs => exact ⟨_, h.1, fun _ e => by cases e⟩
  | t ks kvs => exact ⟨_, h.1, fun _ e => by cases e⟩
  | o C dx vs fs => exact ⟨_, h.1, fun _ e => by cases e⟩
abbrev Gs := List (Addr × Cell)
def dm (Γ : Gs) : List Addr := Γ.map (·.1)
theorem mem_dm {Γ : Gs} {a : Addr} {c : Cell} (h : (a, c) ∈ Γ) : a ∈ dm Γ := List.mem_map.mpr ⟨_, h, rfl⟩
def JG (Γ : Gs) (H : Hp) : Prop := (dm Γ).Nodup ∧ ∀ x ∈ Γ, Holds H x.1 x.2
/-- the mode of the owned cells -/
def MG (Γ : Gs) : Md where
  B a := a ∈ dm Γ
  J H := JG Γ H
  hb j b := by
    obtain ⟨x, hx, rfl⟩ := List.mem_map.mp b
    exact (j.2 x hx).ob
  he j k p := ⟨j.1, fun x hx => (j.2 x hx).keep k fun o e => p x.1 o (List.mem_map.mpr ⟨x, hx, rfl⟩) e⟩
/-- from one set of owned cells to another: no other thing is touched, new cells are fresh -/
structure Lg (Γ Γ' : Gs) (H H' : Hp) : Prop where
  k : ∀ a o, a ∉ dm Γ → H a = some o → H' a = some o
  f : ∀ a ∈ dm Γ', a ∈ dm Γ ∨ H a = none
  j : JG Γ' H'
section
variable {Γ Γ' Γ2 : Gs} {H H' H2 : Hp} {v : V} {e : En1} {σ : L2.St} {ρ : Ro}
theorem Lg.refl (j : JG Γ H) : Lg Γ Γ H H := ⟨fun _ _ _ h => h, fun _ h => .inl h, j⟩
theorem Lg.trans (a : Lg Γ Γ' H H') (b : Lg Γ' Γ2 H' H2) : Lg Γ Γ2 H H2 := by
  refine ⟨fun p o n h => ?_, fun p hp => ?_, b.j⟩
  · refine b.k p o (fun m => ?_) (a.k p o n h)
    rcases a.f p m with q | q
    · exact n q
    · rw [h] at q; cases q
  · rcases b.f p hp with q | q
    · exact a.f p q
    · by_cases c : p ∈ dm Γ
      · exact .inl c
      · refine .inr ?_
        cases e : H p with
        | none => rfl
        | some o => rw [a.k p o c e] at q; cases q
theorem Lg.of (l : (MG Γ).le H H') : Lg Γ Γ H H' := ⟨fun a o n h => l.1 a o n h, fun _ h => .inl h, l.2⟩
theorem Lg.le (l : Lg Γ Γ H H') : (MG Γ).le H H' := ⟨fun a o n h => l.k a o n h, l.j⟩
theorem JG.kt (j : JG Γ H) (h : ∀ a o, a ∉ dm Γ → H a = some o → H' a = some o) : KT H H' := fun a xs e => h a _ (fun m => by
  obtain ⟨x, hx, rfl⟩ := List.mem_map.mp m
  obtain ⟨o, e', n⟩ := (j.2 x hx).ob
  rw [e] at e'
  exact n xs (Option.some.inj e').symm) e
theorem Lg.out (l : Lg Γ Γ' H H') {a : Addr} (n : a ∉ dm Γ) {o : HO} (h : H a = some o) : a ∉ dm Γ' := fun m => by
  rcases l.f a m with q | q
  · exact n q
  · rw [h] at q; cases q
theorem Is.lg (j : JG Γ H) (l : Lg Γ Γ' H H') (h : Is (MG Γ).B H v e) : Is (MG Γ').B H' v e := by
  have kt := j.kt l.k
  cases e with
  | dat d => exact At.keep kt h
  | lst ds => obtain ⟨a, xs, e, n, ha, r⟩ := h; exact ⟨a, xs, e, l.out n ha, l.k a _ n ha, r.keep kt⟩
  | dic kvs => obtain ⟨a, xs, e, n, ha, r⟩ := h; exact ⟨a, xs, e, l.out n ha, l.k a _ n ha, r.keep kt⟩
  | raw u => exact h
theorem En.lg (j : JG Γ H) (l : Lg Γ Γ' H H') (h : En (MG Γ) H σ ρ) : En (MG Γ') H' σ ρ := Paired.mapP h fun x y f z ez => by
  obtain ⟨u, a, b⟩ := f z ez
  exact ⟨u, a, b.lg j l⟩
theorem IsS.lg (j : JG Γ H) (l : Lg Γ Γ' H H') {vs : List V} {es : List En1} (h : IsS (MG Γ).B H vs es) : IsS (MG Γ').B H' vs es := Paired.mapP h fun _ _ x => Is.lg j l x
/-! writing -/
theorem dm_set {i : Nat} {a : Addr} {c c' : Cell} (h : Γ[i]? = some (a, c)) : dm (Γ.set i (a, c')) = dm Γ := by
  unfold dm
  apply List.ext_getElem?
  intro k
  rw [List.map_set]
  by_cases e : i = k
  · subst e
    rw [List.getElem?_set_self (by rw [List.length_map]; exact (List.getElem?_eq_some_iff.mp h).1), List.getElem?_map, h]
    rfl
  · rw [List.getElem?_set_ne e]
theorem JG.at (j : JG Γ H) {i : Nat} {a : Addr} {c : Cell} (h : Γ[i]? = some (a, c)) : Holds H a c := j.2 _ (List.mem_of_getElem? h)
theorem JG.write (j : JG Γ H) {i : Nat} {a : Addr} {c c' : Cell} {o : HO} (h : Γ[i]? = some (a, c)) (nt : ∀ xs, o ≠ .tup xs) (q : Holds (upd H a o) a c') : Lg Γ (Γ.set i (a, c')) H (upd H a o) := by
  have ha : a ∈ dm Γ := mem_dm (List.mem_of_getElem? h)
  have kp : ∀ b u, b ≠ a → H b = some u → upd H a o b = some u := fun b u n e => by rw [upd_ne n]; exact e
  have kt : KT H (upd H a o) := fun b xs e => kp b _ (fun z => by
    subst z
    obtain ⟨u, e', n⟩ := (j.at h).ob
    rw [e] at e'
    exact n xs (Option.some.inj e').symm) e
  refine ⟨fun b u n e => kp b u (fun z => n (by rw [z]; exact ha)) e, fun b hb => .inl (by rw [dm_set h] at hb; exact hb), ?_, fun x hx => ?_⟩
  · rw [dm_set h]; exact j.1
  · obtain ⟨m, hm⟩ := List.mem_iff_getElem?.mp hx
    by_cases e : i = m
    · subst e
      rw [List.getElem?_set_self (List.getElem?_eq_some_iff.mp h).1] at hm
      obtain rfl := Option.some.inj hm
      exact q
    · rw [List.getElem?_set_ne e] at hm
      have ne : x.1 ≠ a := fun z => e (by
        have h1 : (dm Γ)[i]? = some a := by unfold dm; rw [List.getElem?_map, h]; rfl
        have h2 : (dm Γ)[m]? = some a := by unfold dm; rw [List.getElem?_map, hm, ← z]; rfl
        have l1 := (List.getElem?_eq_some_iff.mp h1).1
        exact (List.getElem?_inj l1 j.1).mp (by rw [h1, h2]))
      exact (j.2 x (List.mem_of_getElem? hm)).keep kt fun u e => kp _ u ne e
theorem JG.new (j : JG Γ H) {p : Addr} {o : HO} {c : Cell} (h : H p = none) (q : Holds (upd H p o) p c) : Lg Γ (Γ ++ [(p, c)]) H (upd H p o) := by
  have s : Same H (upd H p o) := same_new h
  have np : p ∉ dm Γ := fun m => by
    obtain ⟨x, hx, rfl⟩ := List.mem_map.mp m
    obtain ⟨u, e, _⟩ := (j.2 x hx).ob
    rw [h] at e; cases e
  refine ⟨fun a u _ e => s a u e, fun a ha => ?_, ?_, fun x hx => ?_⟩
  · unfold dm at ha
    rw [List.map_append, List.mem_append] at ha
    rcases ha with ha | ha
    · exact .inl ha
    · obtain rfl : a = p := by simpa using ha
      exact .inr h
  · unfold dm
    rw [List.map_append]
    exact List.nodup_append.mpr ⟨j.1, by simp, fun a ha b hb e => np (by
      have hb' : b = p := by simpa using hb
      rw [← hb', ← e]; exact ha)⟩
  · rcases List.mem_append.mp hx with hx | hx
    · exact (j.2 x hx).keep (fun a xs e => s a _ e) fun u e => s _ u e
    · obtain rfl : x = (p, c) := by simpa using hx
      exact q
end
/-! ### expressions that write -/
def Wx (Γ : Gs) (te : TE) (ρ : Ro) (K : Gs → En1 → Prop) : Prop := ∀ σ H, JG Γ H → En (MG Γ) H σ ρ → ∀ Q : VK, (∀ v H' Γ' e, Lg Γ Γ' H H' → Is (MG Γ').B H' v e → K Γ' e → Q v H') → te σ H Q
structure Pg where
  nx : Gs → Ro → Prop
  rt : Gs → En1 → Prop
  bk : Gs → Ro → Prop := fun _ _ => False
  ct : Gs → Ro → Prop := fun _ _ => False
abbrev HitG (Γ : Gs) (H : Hp) (N : Gs → Ro → Prop) (F : L2.St → Hp → Prop) : Prop := ∀ σ' H' Γ' ρ', Lg Γ Γ' H H' → En (MG Γ') H' σ' ρ' → N Γ' ρ' → F σ' H'
abbrev HitE (Γ : Gs) (H : Hp) (N : Gs → En1 → Prop) (F : VK) : Prop := ∀ v H' Γ' e, Lg Γ Γ' H H' → Is (MG Γ').B H' v e → N Γ' e → F v H'
def Wm (Γ : Gs) (t : TS) (ρ : Ro) (P : Pg) : Prop := ∀ D σ H, JG Γ H → En (MG Γ) H σ ρ → HitG Γ H P.nx D.nx → HitE Γ H P.rt D.rt → HitG Γ H P.bk D.bk → HitG Γ H P.ct D.ct → t D σ H
theorem HitG.lg {Γ Γ' : Gs} {H H1 : Hp} {N : Gs → Ro → Prop} {F : L2.St → Hp → Prop} (h : HitG Γ H N F) (l : Lg Γ Γ' H H1) : HitG Γ' H1 N F := fun σ' H' Γ2 ρ' l' => h σ' H' Γ2 ρ' (l.trans l')
theorem HitE.lg {Γ Γ' : Gs} {H H1 : Hp} {N : Gs → En1 → Prop} {F : VK} (h : HitE Γ H N F) (l : Lg Γ Γ' H H1) : HitE Γ' H1 N F := fun v H' Γ2 e l' => h v H' Γ2 e (l.trans l')
section
variable {Γ : Gs} {ρ : Ro} {P : Pg} {ta tb tc td ty tv te : TE} {KF : PySem.W.Frag} {t u : TS} {g : TG} {K : Gs → En1 → Prop}
theorem x_pure (h : We (MG Γ) te ρ (K Γ)) : Wx Γ te ρ K := fun σ H j n Q q => h σ H j n Q fun v H2 e l i k => q v H2 Γ e (.of l) i k
theorem m_pure (h : Ws (MG Γ) t ρ { nx := P.nx Γ, rt := P.rt Γ, bk := P.bk Γ, ct := P.ct Γ }) : Wm Γ t ρ P := fun D σ H j n a b c d =>
  h D σ H j n (fun σ' H' ρ' l => a σ' H' Γ ρ' (.of l)) (fun v H' e l => b v H' Γ e (.of l)) (fun σ' H' ρ' l => c σ' H' Γ ρ' (.of l)) (fun σ' H' ρ' l => d σ' H' Γ ρ' (.of l))
theorem m_next (k : P.nx Γ ρ) : Wm Γ tNext ρ P := m_pure (s_next k)
theorem m_seq (h : Wm Γ t ρ { P with nx := fun Γ' ρ' => Wm Γ' u ρ' P }) : Wm Γ (tSeq t u) ρ P := fun D σ H j n a b c d =>
  h { D with nx := u D } σ H j n (fun σ' H' Γ' ρ' l n' k => k D σ' H' l.j n' (HitG.lg a l) (HitE.lg b l) (HitG.lg c l) (HitG.lg d l)) b c d
theorem m_if {c : TT} (h : Wt (MG Γ) c ρ fun b => if b = true then Wm Γ t ρ P else Wm Γ u ρ P) : Wm Γ (tIfS c t u) ρ P := fun D σ H j n a b c' d =>
  h σ H j n _ fun x H1 l1 k => by
    have l := Lg.of l1
    have n1 := n.lg j l
    cases x with
    | true => exact iteT ((show Wm Γ t ρ P from by simpa using k) D σ H1 l.j n1 (HitG.lg a l) (HitE.lg b l) (HitG.lg c' l) (HitG.lg d l))
    | false => exact iteF ((show Wm Γ u ρ P from by simpa using k) D σ H1 l.j n1 (HitG.lg a l) (HitE.lg b l) (HitG.lg c' l) (HitG.lg d l))
theorem m_asg (h : Wx Γ ta ρ fun Γ' x => Wg (MG Γ') g x ρ (P.nx Γ')) : Wm Γ (tAsg ta g) ρ P := fun D σ H j n a _ _ _ =>
  h σ H j n _ fun v H1 Γ1 x l1 i1 k => k v σ H1 l1.j i1 (n.lg j l1) _ fun σ' H' ρ' l2 n2 k2 => a σ' H' Γ1 ρ' (l1.trans (.of l2)) n2 k2
theorem m_asgP (h : We (MG Γ) ta ρ fun x => Wg (MG Γ) g x ρ (P.nx Γ)) : Wm Γ (tAsg ta g) ρ P := m_asg (x_pure h)
theorem m_drop (h : Wx Γ ta ρ fun Γ' _ => P.nx Γ' ρ) : Wm Γ (tDrop ta) ρ P := fun D σ H j n a _ _ _ => h σ H j n _ fun v H1 Γ1 x l1 i1 k => a σ H1 Γ1 ρ l1 (n.lg j l1) k
theorem m_ret (h : Wx Γ ta ρ P.rt) : Wm Γ (tRet ta) ρ P := fun D σ H j n _ b _ _ => h σ H j n _ fun v H1 Γ1 x l1 i1 k => b v H1 Γ1 x l1 i1 k
theorem m_retP (h : We (MG Γ) ta ρ (P.rt Γ)) : Wm Γ (tRet ta) ρ P := m_ret (x_pure h)
/-! new cells -/
theorem x_dnew (h : ∀ p, K (Γ ++ [(p, .d [] [])]) (.raw (.ref p))) : Wx Γ tDNewK ρ K := fun σ H j n Q q p hp => q _ _ _ (.raw (.ref p)) (j.new (c := .d [] []) hp ⟨upd_same, .nil⟩) rfl (h p)
theorem x_dnewT (h : ∀ p, K (Γ ++ [(p, .t [] [])]) (.raw (.ref p))) : Wx Γ tDNewT ρ K := fun σ H j n Q q p hp => q _ _ _ (.raw (.ref p)) (j.new (c := .t [] []) hp ⟨upd_same, .nil⟩) rfl (h p)
theorem x_lst {ta : TA} (h : Wa (MG Γ) ta ρ fun es => ∃ ds, undats es = some ds ∧ ds.length ≤ 1000000 ∧ ∀ p xs, K (Γ ++ [(p, .l xs ds)]) (.raw (.ref p))) : Wx Γ (tLst ta) ρ K := fun σ H j n Q q =>
  h σ H j n _ fun vs H1 es l1 i1 ⟨ds, ee, z, k⟩ => by
    have r := dats_at i1 ee
    refine ⟨by rw [r.len, sizeLine_eq]; omega, fun p hp => ?_⟩
    exact q _ _ _ (.raw (.ref p)) ((Lg.of l1).trans (JG.new (c := .l vs ds) l1.2 hp ⟨upd_same, r.keep (Same.kt (same_new hp))⟩)) rfl (k p vs)
/-! for -/
theorem m_forT {α : Type} {F : α → Dt} (h : We (MG Γ) ta ρ fun x => ∃ ds : List α, x = .dat (.tuple (ds.map F)) ∧ ∃ I : Nat → Gs → Ro → Prop, I 0 Γ ρ ∧ (∀ i d Γ' ρ', ds[i]? = some d → I i Γ' ρ' → Wg (MG Γ') g (.dat (F d)) ρ' fun ρ2 => Wm Γ' t ρ2 { nx := I (i + 1), ct := I (i + 1), bk := P.nx, rt := P.rt }) ∧ ∀ Γ' ρ', I ds.length Γ' ρ' → P.nx Γ' ρ') :
    Wm Γ (tFor (iTup KF ta) g t) ρ P := fun D σ H j n a b c d =>
  h σ H j n _ fun v H1 x l1 i1 ⟨ds, ex, I, h0, hs, hd⟩ => by
    subst ex
    obtain ⟨p, xs, rfl, hp, r⟩ := At.of_tup i1
    have lb := Lg.of l1
    have j1 : JG Γ H1 := lb.j
    refine ⟨p, rfl, ⟨xs, SqT.of hp⟩, for_tup (xs := xs) (fun i σ' H' => ∃ Γ' ρ', Lg Γ Γ' H1 H' ∧ En (MG Γ') H' σ' ρ' ∧ I i Γ' ρ') ⟨Γ, ρ, .refl j1, n.lg j lb, h0⟩ (fun i σ' H' _ ⟨_, _, z, _⟩ => SqT.of (j1.kt z.k _ _ hp)) ?_ ?_⟩
    · rintro i x σ' H' hx ⟨Γ', ρ', l2, n2, k2⟩
      obtain ⟨d', hd', az⟩ := r.get' hx
      rw [List.getElem?_map] at hd'
      obtain ⟨a', ha', rfl⟩ := Option.map_eq_some_iff.mp hd'
      refine hs i a' Γ' ρ' ha' k2 x σ' H' l2.j (Is.d (az.keep (j1.kt l2.k))) n2 _ fun σ2 H2 ρ2 l3 n3 k3 => ?_
      have l23 := l2.trans (.of l3)
      exact k3 _ σ2 H2 l3.2 n3 (fun σ4 H4 Γ4 ρ4 l4 n4 k4 => ⟨Γ4, ρ4, l23.trans l4, n4, k4⟩) (HitE.lg b (lb.trans l23)) (HitG.lg a (lb.trans l23)) (fun σ4 H4 Γ4 ρ4 l4 n4 k4 => ⟨Γ4, ρ4, l23.trans l4, n4, k4⟩)
    · rintro σ' H' ⟨Γ', ρ', l2, n2, k2⟩
      rw [r.len, List.length_map] at k2
      exact a σ' H' Γ' ρ' (lb.trans l2) n2 (hd Γ' ρ' k2)
theorem m_forL {α : Type} {F : α → Dt} (h : We (MG Γ) ta ρ fun x => ∃ ds : List α, x = .lst (ds.map F) ∧ ∃ I : Nat → Gs → Ro → Prop, I 0 Γ ρ ∧ (∀ i d Γ' ρ', ds[i]? = some d → I i Γ' ρ' → Wg (MG Γ') g (.dat (F d)) ρ' fun ρ2 => Wm Γ' t ρ2 { nx := I (i + 1), ct := I (i + 1), bk := P.nx, rt := P.rt }) ∧ ∀ Γ' ρ', I ds.length Γ' ρ' → P.nx Γ' ρ') :
    Wm Γ (tFor (iList KF ta) g t) ρ P := fun D σ H j n a b c d =>
  h σ H j n _ fun v H1 x l1 i1 ⟨ds, ex, I, h0, hs, hd⟩ => by
    subst ex
    obtain ⟨p, xs, rfl, nb, hp, r⟩ := i1
    have lb := Lg.of l1
    have j1 : JG Γ H1 := lb.j
    refine ⟨p, rfl, ⟨xs, SqL.of hp⟩, for_list (xs := xs) (fun i σ' H' => ∃ Γ' ρ', Lg Γ Γ' H1 H' ∧ En (MG Γ') H' σ' ρ' ∧ I i Γ' ρ') ⟨Γ, ρ, .refl j1, n.lg j lb, h0⟩ (fun i σ' H' _ ⟨_, _, z, _⟩ => SqL.of (z.k _ _ nb hp)) ?_ ?_⟩
    · rintro i x σ' H' hx ⟨Γ', ρ', l2, n2, k2⟩
      obtain ⟨d', hd', az⟩ := r.get' hx
      rw [List.getElem?_map] at hd'
      obtain ⟨a', ha', rfl⟩ := Option.map_eq_some_iff.mp hd'
      refine hs i a' Γ' ρ' ha' k2 x σ' H' l2.j (Is.d (az.keep (j1.kt l2.k))) n2 _ fun σ2 H2 ρ2 l3 n3 k3 => ?_
      have l23 := l2.trans (.of l3)
      exact k3 _ σ2 H2 l3.2 n3 (fun σ4 H4 Γ4 ρ4 l4 n4 k4 => ⟨Γ4, ρ4, l23.trans l4, n4, k4⟩) (HitE.lg b (lb.trans l23)) (HitG.lg a (lb.trans l23)) (fun σ4 H4 Γ4 ρ4 l4 n4 k4 => ⟨Γ4, ρ4, l23.trans l4, n4, k4⟩)
    · rintro σ' H' ⟨Γ', ρ', l2, n2, k2⟩
      rw [r.len, List.length_map] at k2
      exact a σ' H' Γ' ρ' (lb.trans l2) n2 (hd Γ' ρ' k2)
theorem m_forR {t' : TA} (h : Wa (MG Γ) t' ρ fun es => ∃ m : Int, es = [.dat (.int m)] ∧ 0 ≤ m ∧ m ≤ 1000000 ∧ ∃ I : Nat → Gs → Ro → Prop, I 0 Γ ρ ∧ (∀ (i : Nat) Γ' ρ', (i : Int) < m → I i Γ' ρ' → Wg (MG Γ') g (.dat (.int i)) ρ' fun ρ2 => Wm Γ' t ρ2 { nx := I (i + 1), ct := I (i + 1), bk := P.nx, rt := P.rt }) ∧ ∀ Γ' ρ', I m.toNat Γ' ρ' → P.nx Γ' ρ') :
    Wm Γ (tFor (iRng1 t') g t) ρ P := fun D σ H j n a b c d =>
  h σ H j n _ fun vs H1 x l1 i1 ⟨m, ex, m0, m1, I, h0, hs, hd⟩ => by
    subst ex
    have lb := Lg.of l1
    have j1 : JG Γ H1 := lb.j
    cases i1 with
    | cons a1 r1 =>
      cases r1
      refine ⟨m, by rw [At.of_int a1], by omega, by omega, for_range (lo := 0) (n := m.toNat) (fun i σ' H' => ∃ Γ' ρ', Lg Γ Γ' H1 H' ∧ En (MG Γ') H' σ' ρ' ∧ I i Γ' ρ') ⟨Γ, ρ, .refl j1, n.lg j lb, h0⟩ ?_ ?_⟩
      · rintro i σ' H' hi ⟨Γ', ρ', l2, n2, k2⟩
        rw [show (0 : Int) + (i : Int) = (i : Int) by omega]
        refine hs i Γ' ρ' (by omega) k2 _ σ' H' l2.j (Is.d (At.int _)) n2 _ fun σ2 H2 ρ2 l3 n3 k3 => ?_
        have l23 := l2.trans (.of l3)
        exact k3 _ σ2 H2 l3.2 n3 (fun σ4 H4 Γ4 ρ4 l4 n4 k4 => ⟨Γ4, ρ4, l23.trans l4, n4, k4⟩) (HitE.lg b (lb.trans l23)) (HitG.lg a (lb.trans l23)) (fun σ4 H4 Γ4 ρ4 l4 n4 k4 => ⟨Γ4, ρ4, l23.trans l4, n4, k4⟩)
      · rintro σ' H' ⟨Γ', ρ', l2, n2, k2⟩
        exact a σ' H' Γ' ρ' (lb.trans l2) n2 (hd Γ' ρ' k2)
/-! xs.append(..) -/
theorem ty_list {H : Hp} {a : Addr} {xs : List V} (h : H a = some (.lst xs)) : tyV KF "list" (.ref a) H := .inl ⟨rfl, xs, SqL.of h⟩
theorem x_append (i : Nat) {t : TA} (h : We (MG Γ) ta ρ fun x => ∃ a xs ds, x = .raw (.ref a) ∧ Γ[i]? = some (a, .l xs ds) ∧ Wa (MG Γ) t ρ fun es => ∃ d, es = [.dat d] ∧ ds.length < 1000000 ∧ ∀ xs', K (Γ.set i (a, .l xs' (ds ++ [d]))) (.dat .none)) :
    Wx Γ (tBM KF "list" rAppend ta t) ρ K := fun σ H j n Q q =>
  h σ H j n _ fun v H1 x l1 i1 ⟨a, xs, ds, ex, hi, k1⟩ => by
    subst ex
    obtain rfl : v = .ref a := i1
    have lb := Lg.of l1
    refine ⟨ty_list (lb.j.at hi).1, k1 σ H1 l1.2 (n.lg j lb) _ fun vs H2 es l2 i2 ⟨d, ee, z, k⟩ => ?_⟩
    subst ee
    cases i2 with
    | cons i2 r2 =>
    cases r2
    rename_i y
    have l3 := Lg.of l2
    obtain ⟨c1, c2⟩ := l3.j.at hi
    have kt : KT H2 (upd H2 a (.lst (xs ++ [y]))) := fun b ys e => by rw [upd_ne (ne_of e c1 (by intro z; cases z))]; exact e
    have w := l3.j.write (c' := .l (xs ++ [y]) (ds ++ [d])) (o := .lst (xs ++ [y])) hi (fun _ e => by cases e) ⟨upd_same, (c2.keep kt).app (.cons (At.keep kt i2) .nil)⟩
    exact ⟨a, xs, y, rfl, rfl, c1, by rw [c2.len, sizeLine_eq]; omega, q _ _ _ _ ((lb.trans l3).trans w) (Is.d At.non) (k _)⟩
/-! xs[i] = v -/
theorem m_setL (i : Nat) (h : We (MG Γ) tv ρ fun e => We (MG Γ) ta ρ fun x => We (MG Γ) tb ρ fun y => ∃ d a xs ds k j, e = .dat d ∧ x = .raw (.ref a) ∧ y = .dat (.int k) ∧ Γ[i]? = some (a, .l xs ds) ∧ ixN ds.length k = some j ∧ ∀ xs', P.nx (Γ.set i (a, .l xs' (ds.set j d))) ρ) :
    Wm Γ (tAsg tv (gSub ta tb rSetL)) ρ P := fun D σ H j n a _ _ _ =>
  h σ H j n _ fun v H1 e l1 i1 k1 => k1 σ H1 l1.2 (n.le j l1) _ fun v2 H2 x l2 i2 k2 => k2 σ H2 l2.2 ((n.le j l1).le l1.2 l2) _ fun v3 H3 y l3 i3 ⟨d, p, xs, ds, kk, jj, ee, ex, ey, hi, hx, k⟩ => by
    subst ee ex ey
    obtain rfl : v2 = .ref p := i2
    obtain rfl := At.of_int i3
    have lb := Lg.of ((l1.trans l2).trans l3)
    obtain ⟨c1, c2⟩ := lb.j.at hi
    have kt : KT H3 (upd H3 p (.lst (xs.set jj v))) := fun b ys e => by rw [upd_ne (ne_of e c1 (by intro z; cases z))]; exact e
    have dv : At H3 v d := At.keep (((l2.trans l3)).kt l1.2) i1
    have st : AtS (upd H3 p (.lst (xs.set jj v))) (xs.set jj v) (ds.set jj d) := by
      have key : ∀ {xs : List V} {ds : List Dt} (j : Nat), AtS H3 xs ds → AtS H3 (xs.set j v) (ds.set j d) := fun {xs ds} => by
        induction ds generalizing xs with
        | nil => intro j r; cases r; exact .nil
        | cons d0 ds ih =>
          intro j r
          cases r with
          | cons a r =>
            cases j with
            | zero => exact .cons dv r
            | succ j => exact .cons a (ih j r)
      exact (key jj c2).keep kt
    have w := lb.j.write (c' := .l (xs.set jj v) (ds.set jj d)) (o := .lst (xs.set jj v)) hi (fun _ e => by cases e) ⟨upd_same, st⟩
    refine ⟨p, xs, kk, jj, rfl, rfl, c1, by rw [c2.len]; exact hx, ?_⟩
    exact a σ _ _ ρ (lb.trans w) (n.lg j (lb.trans w)) (k _)
/-! d[k] = v -/
def putD (kvs : List (Int × Dt)) (k : Int) (d : Dt) : List (Int × Dt) :=
  if (kvs.any fun q => decide (q.1 = k)) = true then kvs.map (fun q => if q.1 = k then (q.1, d) else q) else kvs ++ [(k, d)]
theorem dic_put {H : Hp} {v : V} {d : Dt} (hv : At H v d) {k : Int} : ∀ {ks : List (Key × V)} {kvs : List (Int × Dt)}, DicS H ks kvs → DicS H (putK ks (.inl k) v) (putD kvs k d) := by
  intro ks kvs r
  have e1 : (ks.any fun kv => decide (kv.1 = Sum.inl k)) = (kvs.any fun q => decide (q.1 = k)) := by
    induction r with
    | nil => rfl
    | cons a _ ih =>
      rw [List.any_cons, List.any_cons, ih, a.1]
      congr 1
      simp
  unfold putK putD
  rw [e1]
  split
  · have key : ∀ {ks : List (Key × V)} {kvs : List (Int × Dt)}, DicS H ks kvs → DicS H (ks.map fun kv => if kv.1 = Sum.inl k then (kv.1, v) else kv) (kvs.map fun q => if q.1 = k then (q.1, d) else q) := fun {ks kvs} q => by
      induction q with
      | nil => exact .nil
      | @cons a b as bs h _ ih =>
        refine .cons ?_ ih
        by_cases c : b.1 = k
        · have c' : a.1 = Sum.inl k := by rw [h.1, c]
          simp only [c, c', if_true]
          exact ⟨trivial, hv⟩
        · have c' : ¬ a.1 = Sum.inl k := by rw [h.1]; simpa using c
          simp only [c, c', if_false]
          exact h
    exact key r
  · have app : ∀ {ks : List (Key × V)} {kvs : List (Int × Dt)}, DicS H ks kvs → DicS H (ks ++ [(.inl k, v)]) (kvs ++ [(k, d)]) := fun {ks kvs} q => by
      induction q with
      | nil => exact .cons ⟨rfl, hv⟩ .nil
      | cons a _ ih => exact .cons a ih
    exact app r
theorem m_dput (i : Nat) (h : We (MG Γ) tv ρ fun e => We (MG Γ) td ρ fun x => We (MG Γ) ty ρ fun y => ∃ d a ks kvs k, e = .dat d ∧ x = .raw (.ref a) ∧ y = .dat (.int k) ∧ Γ[i]? = some (a, .d ks kvs) ∧ kvs.length < 1000000 ∧ ∀ ks', P.nx (Γ.set i (a, .d ks' (putD kvs k d))) ρ) :
    Wm Γ (sDPut td ty tv) ρ P := fun D σ H j n a _ _ _ =>
  h σ H j n _ fun v H1 e l1 i1 k1 => k1 σ H1 l1.2 (n.le j l1) _ fun v2 H2 x l2 i2 k2 => k2 σ H2 l2.2 ((n.le j l1).le l1.2 l2) _ fun v3 H3 y l3 i3 ⟨d, p, ks, kvs, kk, ee, ex, ey, hi, z, k⟩ => by
    subst ee ex ey
    obtain rfl : v2 = .ref p := i2
    obtain rfl := At.of_int i3
    have lb := Lg.of ((l1.trans l2).trans l3)
    obtain ⟨c1, c2⟩ := lb.j.at hi
    have kt : KT H3 (upd H3 p (.dK (putK ks (.inl kk) v))) := fun b ys e => by rw [upd_ne (ne_of e c1 (by intro z; cases z))]; exact e
    have dv : At H3 v d := At.keep (((l2.trans l3)).kt l1.2) i1
    have w := lb.j.write (c' := .d (putK ks (.inl kk) v) (putD kvs kk d)) (o := .dK (putK ks (.inl kk) v)) hi (fun _ e => by cases e) ⟨upd_same, (dic_put dv c2).keep kt⟩
    refine ⟨p, _, rfl, DPut.k (k := Sum.inl kk) c1 (by rw [Paired.length c2, sizeLine_eq]; omega), ?_⟩
    exact a σ _ _ ρ (lb.trans w) (n.lg j (lb.trans w)) (k _)
/-! fields -/
theorem w_fld {f : Str} (h : We (MG Γ) ta ρ fun x => ∃ a C dx vs fs e, x = .raw (.ref a) ∧ (a, .o C dx vs fs) ∈ Γ ∧ Cls KF C ∧ NoAttr KF C f ∧ fs.lookup f = some e ∧ K Γ e) : We (MG Γ) (tFld KF ta f) ρ (K Γ) := fun σ H j n Q q =>
  h σ H j n _ fun v H1 x l1 i1 ⟨a, C, dx, vs, fs, e, ex, hi, c, na, lk, k⟩ => by
    subst ex
    obtain rfl : v = .ref a := i1
    obtain ⟨c1, c2⟩ := l1.2.2 _ hi
    have key : ∀ {vs : List (Str × V)} {fs : List (Str × En1)}, FldS H1 vs fs → fs.lookup f = some e → ∃ u, vs.lookup f = some u ∧ FIs H1 u e := fun {vs fs} r => by
      induction r with
      | nil => intro e; cases e
      | @cons a b as bs h _ ih =>
        obtain ⟨x, u⟩ := a
        obtain ⟨y, e'⟩ := b
        obtain ⟨rfl, h2⟩ := h
        intro lk
        by_cases c : f = x
        · subst c
          rw [List.lookup_cons_self] at lk ⊢
          obtain rfl := Option.some.inj lk
          exact ⟨u, rfl, h2⟩
        · have nb : (f == x) = false := by simpa using c
          rw [List.lookup_cons, nb] at lk ⊢
          exact ih lk
    obtain ⟨u, hu, fu⟩ := key c2 lk
    refine ⟨a, C, dx, vs, u, rfl, c1, c, na, hu, q u H1 e l1 ?_ k⟩
    cases e with
    | dat d => exact fu
    | raw w => exact fu
    | lst _ => exact fu.elim
    | dic _ => exact fu.elim
def putE (f : Str) (e : En1) : List (Str × En1) → List (Str × En1)
  | [] => [(f, e)]
  | (g, x) :: r => if g = f then (g, e) :: r else (g, x) :: putE f e r
theorem fld_put {H : Hp} {v : V} {e : En1} {f : Str} (h : FIs H v e) : ∀ {vs : List (Str × V)} {fs : List (Str × En1)}, FldS H vs fs → FldS H (putF f v vs) (putE f e fs) := by
  intro vs fs r
  induction r with
  | nil => exact .cons ⟨rfl, h⟩ .nil
  | @cons a b as bs h' r' ih =>
    obtain ⟨x, u⟩ := a
    obtain ⟨y, e'⟩ := b
    obtain ⟨hx, h2⟩ := h'
    simp only at hx h2
    subst hx
    unfold putF putE
    by_cases c : x = f
    · rw [if_pos c, if_pos c]
      exact .cons ⟨rfl, h⟩ r'
    · rw [if_neg c, if_neg c]
      exact .cons ⟨rfl, h2⟩ ih
def fsOk : En1 → Bool
  | .dat _ | .raw _ => true
  | _ => false
theorem m_fld (i : Nat) {f : Str} (h : Wx Γ tv ρ fun Γ' e => fsOk e = true ∧ We (MG Γ') ta ρ fun x => ∃ a C dx vs fs, x = .raw (.ref a) ∧ Γ'[i]? = some (a, .o C dx vs fs) ∧ Cls KF C ∧ NoAttr KF C f ∧ fs.length < 1000 ∧ ∀ v, P.nx (Γ'.set i (a, .o C dx (putF f v vs) (putE f e fs))) ρ) :
    Wm Γ (sFld KF ta tv f) ρ P := fun D σ H j n a _ _ _ =>
  h σ H j n _ fun v H1 Γ1 e l1 i1 ⟨fe, k1⟩ => k1 σ H1 l1.j (n.lg j l1) _ fun v2 H2 x l2 i2 ⟨p, C, dx, vs, fs, ex, hi, c, na, z, k⟩ => by
    subst ex
    obtain rfl : v2 = .ref p := i2
    have lb := l1.trans (.of l2)
    obtain ⟨c1, c2⟩ := lb.j.at hi
    have kt : KT H2 (upd H2 p (.ins C dx (putF f v vs))) := fun b ys e => by rw [upd_ne (ne_of e c1 (by intro z; cases z))]; exact e
    have fv : FIs H2 v e := by
      have q := Is.le l1.j l2 i1
      cases e with
      | dat d => exact q
      | raw w => exact q
      | lst _ => cases fe
      | dic _ => cases fe
    have w := lb.j.write (c' := .o C dx (putF f v vs) (putE f e fs)) (o := .ins C dx (putF f v vs)) hi (fun _ e => by cases e) ⟨upd_same, (fld_put fv c2).keep kt⟩
    refine ⟨p, C, dx, vs, rfl, c1, c, na, by rw [Paired.length c2]; exact z, ?_⟩
    exact a σ _ _ ρ (lb.trans w) (n.lg j (lb.trans w)) (k _)
/-! reading what is owned -/
def OwL (M : Md) (a : Addr) (ds : List Dt) : Prop := ∃ xs, ∀ H, M.J H → H a = some (.lst xs) ∧ AtS H xs ds
def OwD (M : Md) (a : Addr) (kvs : List (Int × Dt)) : Prop := ∃ ks, ∀ H, M.J H → H a = some (.dK ks) ∧ DicS H ks kvs
theorem OwL.of {a : Addr} {xs : List V} {ds : List Dt} (h : (a, .l xs ds) ∈ Γ) : OwL (MG Γ) a ds := ⟨xs, fun H j => j.2 _ h⟩
theorem OwD.of {a : Addr} {ks : List (Key × V)} {kvs : List (Int × Dt)} (h : (a, .d ks kvs) ∈ Γ) : OwD (MG Γ) a kvs := ⟨ks, fun H j => j.2 _ h⟩
end
section
variable {M : Md} {ρ : Ro} {K : En1 → Prop} {ta tb tc td ty te : TE} {KF : PySem.W.Frag} {tt : TT}
theorem w_ixO (h : We M ta ρ fun x => We M tb ρ fun y => ∃ a ds i d, x = .raw (.ref a) ∧ OwL M a ds ∧ y = .dat (.int i) ∧ atI ds i = some d ∧ K (.dat d)) : We M (tOp (rIxL KF) ta tb) ρ K :=
  w_op (h.imp fun x a => a.imp fun y ⟨p, ds, i, d, ex, ⟨xs, o⟩, ey, c, k⟩ => by
    subst ex ey
    intro u u' H j a b Q q
    obtain rfl : u = .ref p := a
    obtain ⟨hp, r⟩ := o H j
    obtain ⟨v, hv, z⟩ := atI_S r c
    exact ⟨p, xs, i, v, rfl, At.of_int b, SqL.of hp, hv, q _ H _ (Md.refl j) (Is.d z) k⟩)
theorem w_lenO {t : TA} (h : Wa M t ρ fun es => ∃ a ds, es = [.raw (.ref a)] ∧ OwL M a ds ∧ K (.dat (.int ds.length))) : We M (tCB (rLenQ KF) t) ρ K :=
  w_cb fun σ H j n Q q => h σ H j n _ fun vs H1 es l1 i1 ⟨p, ds, ee, ⟨xs, o⟩, k⟩ => q vs H1 es l1 i1 fun vs' H' j' i' Q' q' => by
    subst ee
    cases i' with
    | cons a r =>
      cases r
      obtain ⟨hp, r⟩ := o H' j'
      rename_i y
      obtain rfl : y = .ref p := a
      exact ⟨p, xs, rfl, .inl (SqL.of hp), q' _ H' _ (Md.refl j') (by rw [r.len]; exact Is.d (At.int _)) k⟩
theorem w_tupleO {t : TA} (h : Wa M t ρ fun es => ∃ a ds, es = [.raw (.ref a)] ∧ OwL M a ds ∧ K (.dat (.tuple ds))) : We M (tCB (rTupOf KF) t) ρ K :=
  w_cb fun σ H j n Q q => h σ H j n _ fun vs H1 es l1 i1 ⟨p, ds, ee, ⟨xs, o⟩, k⟩ => q vs H1 es l1 i1 fun vs' H' j' i' Q' q' => by
    subst ee
    cases i' with
    | cons a r =>
      cases r
      obtain ⟨hp, r⟩ := o H' j'
      rename_i y
      obtain rfl : y = .ref p := a
      refine ⟨p, xs, rfl, .inl ⟨SqL.of hp, fun l hl => ?_⟩⟩
      have l2 := Md.new (o := .tup xs) j' hl
      exact q' _ _ _ l2 (Is.d (At.tup upd_same (r.keep (l2.kt j')))) k
theorem w_dgetO (h : We M ta ρ fun x => We M tb ρ fun y => ∃ a kvs i d, x = .raw (.ref a) ∧ OwD M a kvs ∧ y = .dat (.int i) ∧ lookD kvs i = some d ∧ K (.dat d)) : We M (tDGet ta tb) ρ K := fun σ H j n Q q =>
  h σ H j n _ fun v H1 x l1 i1 k1 => k1 σ H1 l1.2 (n.le j l1) _ fun w H2 y l2 i2 ⟨p, kvs, i, d, ex, ⟨ks, o⟩, ey, c, k⟩ => by
    subst ex ey
    obtain rfl : v = .ref p := i1
    obtain ⟨ha, r⟩ := o H2 l2.2
    obtain ⟨z, ez, az⟩ := (lookD_at i r).1 d c
    refine ⟨p, z, rfl, ?_, q _ H2 _ (l1.trans l2) (Is.d az) k⟩
    rw [At.of_int i2, ← ez]
    exact DGet.k (k := Sum.inl i) ha
theorem w_dnotinO (h : We M ta ρ fun x => We M tb ρ fun y => ∃ a kvs i, x = .dat (.int i) ∧ y = .raw (.ref a) ∧ OwD M a kvs ∧ K (.dat (.bool (!(lookD kvs i).isSome)))) : We M (tDNotIn ta tb) ρ K := fun σ H j n Q q =>
  h σ H j n _ fun v H1 x l1 i1 k1 => k1 σ H1 l1.2 (n.le j l1) _ fun u H2 y l2 i2 ⟨p, kvs, i, ex, ey, ⟨ks, o⟩, k⟩ => by
    subst ex ey
    obtain rfl : u = .ref p := i2
    obtain ⟨ha, r⟩ := o H2 l2.2
    have e : (valV ks (.inl i)).isSome = (lookD kvs i).isSome := by
      cases c : lookD kvs i with
      | none => rw [(lookD_at i r).2 c]; rfl
      | some d =>
        obtain ⟨z, ez, _⟩ := (lookD_at i r).1 d c
        rw [ez]; rfl
    refine ⟨p, valV ks (.inl i), rfl, ?_, ?_⟩
    · rw [At.of_int (Is.le l1.2 l2 i1)]
      exact DGet.k (k := Sum.inl i) ha
    · rw [e]
      exact q _ H2 _ (l1.trans l2) (Is.d (At.bl _)) k
/-- d.get(y, z), of tuples -/
theorem w_dget2O (h : We M ta ρ fun x => ∃ a kvs, x = .raw (.ref a) ∧ OwD M a kvs ∧ We M tb ρ fun y => We M tc ρ fun z => ∃ i d, y = .dat (.int i) ∧ z = .dat d ∧ K (.dat ((lookD kvs i).getD d))) : We M (tDGet2 ta tb tc) ρ K := fun σ H j n Q q =>
  h σ H j n _ fun v H1 x l1 i1 ⟨p, kvs, ex, ⟨ks, o⟩, k1⟩ => by
    subst ex
    obtain rfl : v = .ref p := i1
    have n1 := n.le j l1
    refine ⟨p, rfl, .inl ⟨ks, Rd.of (o H1 l1.2).1⟩, k1 σ H1 l1.2 n1 _ fun u H2 y l2 i2 k2 => k2 σ H2 l2.2 (n1.le l1.2 l2) _ fun w H3 z l3 i3 ⟨i, d, ey, ez, k⟩ => ?_⟩
    subst ey ez
    obtain ⟨ha, r⟩ := o H3 l3.2
    refine ⟨valV ks (.inl i), ?_, ?_⟩
    · rw [At.of_int i2]
      exact DGet.k (k := Sum.inl i) ha
    · have l := (l1.trans l2).trans l3
      cases c : lookD kvs i with
      | none =>
        rw [c] at k
        rw [(lookD_at i r).2 c]
        exact q _ H3 _ l i3 k
      | some d' =>
        rw [c] at k
        obtain ⟨z, ez, az⟩ := (lookD_at i r).1 d' c
        rw [ez]
        exact q _ H3 _ l (Is.d az) k
/-- x not in l -/
theorem w_notInO (h : We M ta ρ fun x => We M tb ρ fun y => ∃ d a ds, x = .dat d ∧ y = .raw (.ref a) ∧ OwL M a ds ∧ SeqAt.shaped d = true ∧ SeqAt.shaped (.list ds) = true ∧ K (.dat (.bool (!ds.any fun z => PyData.eqv z d)))) : We M (tOp (rNotInD KF) ta tb) ρ K :=
  w_op (h.imp fun x a => a.imp fun y ⟨d, p, ds, ex, ey, ⟨xs, o⟩, s1, s2, k⟩ => by
    subst ex ey
    intro u u' H j a b Q q
    obtain rfl : u' = .ref p := b
    obtain ⟨hp, r⟩ := o H j
    exact ⟨d, ds, At.dp a, .lst (SqL.of hp) r.dp, s1, s2, q _ H _ (Md.refl j) (Is.d (At.bl _)) k⟩)
/-- over a list that is owned -/
theorem w_lcO {j : Nat} {α : Type} {F : α → Dt} (h : We M ta ρ fun x => ∃ (a : Addr) (ds : List α), x = .raw (.ref a) ∧ OwL M a (ds.map F) ∧ ds.length ≤ 1000000 ∧ ∃ (f : α → Bool) (v : α → Dt), (∀ d ∈ ds, Wt M tt (ρ.set j (some (.dat (F d)))) fun b => b = f d) ∧ (∀ d ∈ ds, f d = true → We M te (ρ.set j (some (.dat (F d)))) fun e => e = .dat (v d)) ∧ K (.lst ((ds.filter f).map v))) :
    We M (tLc (iList KF ta) (gName j) tt te [j]) ρ K := fun σ H jj n Q q =>
  h σ H jj n _ fun u H1 x l1 i1 ⟨p, ds, ex, ⟨xs, o⟩, z, f, v, ht, he, k⟩ => by
    subst ex
    obtain rfl : u = .ref p := i1
    obtain ⟨hp, r⟩ := o H1 l1.2
    refine ⟨p, rfl, ⟨xs, SqL.of hp⟩, fun D hD => ?_⟩
    have nb := Md.fresh l1.2 hD
    refine lc_list (xs := xs) (fun i H' => M.le H1 H' ∧ ∃ acc, H' D = some (.lst acc) ∧ AtS H' acc (((ds.take i).filter f).map v)) ⟨Md.new l1.2 hD, [], upd_same, .nil⟩ (fun i H' _ l => SqL.of (o H' l.1.2).1) ?_ ?_
    · rintro i x H' hx ⟨l, acc, ha, ra⟩
      exact lc_turn l1.2 nb r z (n.le jj l1) ht he hx hD l ha ra
    · rintro H' ⟨l, acc, ha, ra⟩
      rw [r.len, List.length_map, List.take_length] at ra
      exact q _ H' _ (l1.trans l) (Is.l nb ha ra) k
end
/-! ### calls and defs with cells of their own -/
inductive Cv (Γ : Gs) : En1 → En1 → Prop
  | same (e : En1) : Cv Γ e e
  | l {a : Addr} {xs : List V} {ds : List Dt} (h : (a, Cell.l xs ds) ∈ Γ) : Cv Γ (.raw (.ref a)) (.lst ds)
  | d {a : Addr} {ks : List (Key × V)} {kvs : List (Int × Dt)} (h : (a, Cell.d ks kvs) ∈ Γ) : Cv Γ (.raw (.ref a)) (.dic kvs)
theorem Cv.is {Γ : Gs} {H : Hp} {v : V} {e e' : En1} (j : JG Γ H) (c : Cv Γ e e') (i : Is (MG Γ).B H v e) : Is M0.B H v e' := by
  cases c with
  | same => exact i.pure
  | @l a xs ds m =>
    obtain rfl : v = .ref a := i
    obtain ⟨h1, h2⟩ := j.2 _ m
    exact ⟨a, xs, rfl, fun z => z, h1, h2⟩
  | @d a ks kvs m =>
    obtain rfl : v = .ref a := i
    obtain ⟨h1, h2⟩ := j.2 _ m
    exact ⟨a, ks, rfl, fun z => z, h1, h2⟩
theorem cvs_is {Γ : Gs} {H : Hp} (j : JG Γ H) : ∀ {vs : List V} {es es' : List En1}, Paired (Cv Γ) es es' → IsS (MG Γ).B H vs es → IsS M0.B H vs es'
  | _, _, _, .nil, .nil => .nil
  | _, _, _, .cons y r, .cons x q => .cons (y.is j x) (cvs_is j r q)
/-- a list (dict) that came back is none of the owned things -/
def OkRes (Γ : Gs) : En1 → Prop
  | .dat _ | .raw _ => True
  | .lst _ => ∀ x ∈ Γ, ∀ H, Holds H x.1 x.2 → ∀ xs, H x.1 ≠ some (.lst xs)
  | .dic _ => ∀ x ∈ Γ, ∀ H, Holds H x.1 x.2 → ∀ ks, H x.1 ≠ some (.dK ks)
theorem okRes_dic {Γ : Gs} {ds : List Dt} (h : ∀ x ∈ Γ, ∃ ks kvs, x.2 = .d ks kvs) : OkRes Γ (.lst ds) := fun x hx H hh xs e => by
  obtain ⟨ks, kvs, q⟩ := h x hx
  rw [q] at hh
  rw [hh.1] at e
  cases e
theorem OkRes.is {Γ : Gs} {H : Hp} {v : V} {e : En1} (o : OkRes Γ e) (j : JG Γ H) (i : Is M0.B H v e) : Is (MG Γ).B H v e := by
  cases e with
  | dat d => exact i
  | raw u => exact i
  | lst ds =>
    obtain ⟨a, xs, rfl, _, h, r⟩ := i
    refine ⟨a, xs, rfl, fun m => ?_, h, r⟩
    obtain ⟨x, hx, rfl⟩ := List.mem_map.mp m
    exact o x hx H (j.2 x hx) xs h
  | dic ds =>
    obtain ⟨a, xs, rfl, _, h, r⟩ := i
    refine ⟨a, xs, rfl, fun m => ?_, h, r⟩
    obtain ⟨x, hx, rfl⟩ := List.mem_map.mp m
    exact o x hx H (j.2 x hx) xs h
section
variable {Γ : Gs} {ρ : Ro} {K : En1 → Prop} {ι : Type} {A : ι → List En1 → Prop} {S : ι → En1 → Prop} {R : List En1 → En1 → Prop} {t : TA} {E : XK}
theorem w_callgq (h : Wa (MG Γ) t ρ fun es => ∃ i es', Paired (Cv Γ) es es' ∧ A i es' ∧ ∀ e, S i e → OkRes Γ e ∧ K e) : We (MG Γ) (tCall (psq A S) [] E t) ρ K := fun σ H j n Q q =>
  h σ H j n _ fun vs H1 es l1 i1 ⟨i, es', cv, a, k⟩ => by
    show psq A S (vs ++ []) H1 Q E
    rw [List.append_nil]
    have i2 : IsS M0.B H1 vs es' := cvs_is l1.2 cv i1
    refine ⟨i, es', i2, a, fun v H' e s iv se => ?_⟩
    have l2 := Md.same (M := MG Γ) l1.2 s
    exact q v H' e (l1.trans l2) ((k e se).1.is l2.2 iv) (k e se).2
theorem w_callgp (h : Wa (MG Γ) t ρ fun es => ∃ e es', Paired (Cv Γ) es es' ∧ R es' e ∧ OkRes Γ e ∧ K e) : We (MG Γ) (tCall (psp R) [] E t) ρ K := fun σ H j n Q q =>
  h σ H j n _ fun vs H1 es l1 i1 ⟨e, es', cv, r, o, k⟩ => by
    show psp R (vs ++ []) H1 Q E
    rw [List.append_nil]
    have i2 : IsS M0.B H1 vs es' := cvs_is l1.2 cv i1
    refine ⟨es', e, i2, r, fun v H' s iv => ?_⟩
    have l2 := Md.same (M := MG Γ) l1.2 s
    exact q v H' e (l1.trans l2) (o.is l2.2 iv) k
/-- a call, the arguments as they are -/
theorem w_callg1 (h : Wa (MG Γ) t ρ fun es => ∃ e, R es e ∧ OkRes Γ e ∧ K e) : We (MG Γ) (tCall (psp R) [] E t) ρ K := fun σ H j n Q q =>
  h σ H j n _ fun vs H1 es l1 i1 ⟨e, r, o, k⟩ => by
    show psp R (vs ++ []) H1 Q E
    rw [List.append_nil]
    refine ⟨es, e, Paired.mapP i1 fun _ _ x => x.pure, r, fun v H' s iv => ?_⟩
    have l2 := Md.same (M := MG Γ) l1.2 s
    exact q v H' e (l1.trans l2) (o.is l2.2 iv) k
variable {P : Program} {w : World} {KF : PySem.W.Frag} {mg : Str → Option Value} {base : Heap}
theorem jg_nil (H : Hp) : JG [] H := ⟨List.nodup_nil, fun x hx => by cases hx⟩
theorem ok_ownq {x qual : Str} {st : Stmt} {f : Addr} {fd : FuncData} {N ps : List Str} {k : Nat} (F : FnQ KF x qual st f fd) (Sc : FnScope N ps (defScope st)) (len : ∀ i es, A i es → es.length = ps.length)
    (body : ∀ (cdv : Value) (Ar : Around) (outer : List Env) (s : Shared) (H : Hp) (E : XK), Room k (Ar.deeper (envOfC qual (defScope st) s.heap.objs.size f cdv)) →
      ∃ t, PSs (cxOf CX0 P w KF mg base N qual (defScope st) f cdv Ar outer s H E).nox (defBody st) t ∧ ∀ i es, A i es → Wm [] t (startR N es) { nx := fun _ _ => S i (.dat .none), rt := fun Γ' e => ∃ e', Cv Γ' e e' ∧ S i e' }) :
    FnOk P w KF mg base CX0 (k + 1) f fd ps (psq A S) := by
  refine F.ok Sc (fun vs H Q E ⟨i, es, is, r, q⟩ => (Paired.length is).trans (len i es r)) (fun cdv Ar outer s H vs Q E hr ⟨i, es, is, r, q⟩ => ?_)
  obtain ⟨t, h, b⟩ := body cdv Ar outer s H E hr
  have is' : IsS (MG []).B H vs es := Paired.mapP is fun v e x => by
    cases e with
    | dat d => exact x
    | raw u => exact x
    | lst ds => obtain ⟨a, xs, e, _, h, r⟩ := x; exact ⟨a, xs, e, fun z => (by cases z), h, r⟩
    | dic ds => obtain ⟨a, xs, e, _, h, r⟩ := x; exact ⟨a, xs, e, fun z => (by cases z), h, r⟩
  have sm : ∀ {Γ' : Gs} {H' : Hp}, Lg [] Γ' H H' → Same H H' := fun l a o e => l.k a o (fun z => by cases z) e
  refine ⟨t, h.nox, b i es r _ _ H (jg_nil H) (en_start is') (fun σ' H' Γ' ρ' l n k => ?_) (fun v H' Γ' e' l iv ⟨e2, cv, k⟩ => ?_) (fun σ' H' Γ' ρ' l n k => k.elim) (fun σ' H' Γ' ρ' l n k => k.elim)⟩
  · exact q .non H' _ (sm l) (Is.d At.non) k
  · exact q v H' _ (sm l) (cv.is l.j iv) k
end
end TW
/-! K28P5 -/
namespace TW
open PySem PySem.Spec PyProof.Rows L2
local macro_rules | `(tactic| walk_at "k28 d") => `(tactic| first
  | refine w_var rfl ?_ | with_reducible refine w_int ?_ | with_reducible refine w_str ?_ | with_reducible refine w_non ?_ | with_reducible refine w_bl ?_
  | with_reducible refine w_ixT ?_ | with_reducible refine w_ixL ?_ | with_reducible refine w_add ?_ | with_reducible refine w_sub ?_ | with_reducible refine w_eq ?_ | with_reducible refine w_ne ?_ | with_reducible refine w_lt ?_
  | with_reducible refine w_leq ?_ | with_reducible refine w_gt ?_ | with_reducible refine w_ge ?_ | with_reducible refine w_mul ?_ | with_reducible refine w_div ?_ | with_reducible refine w_mod ?_ | with_reducible refine w_pow ?_
  | with_reducible refine w_neg ?_ | with_reducible refine w_isN ?_ | with_reducible refine w_notN ?_ | with_reducible refine a_nil ?_ | with_reducible refine a_cons ?_ | with_reducible refine w_tup ?_ | with_reducible refine w_lst ?_
  | with_reducible refine w_call0 ?_ | with_reducible refine w_len ?_ | with_reducible refine w_sumM ?_ | with_reducible refine w_allM ?_ | with_reducible refine w_tuple ?_ | with_reducible refine w_abs ?_ | with_reducible refine w_toInt ?_ | with_reducible refine w_max2 ?_
  | with_reducible refine w_min2 ?_ | with_reducible refine t_test ?_ | with_reducible refine t_B ?_ | with_reducible refine t_and ?_ | with_reducible refine t_or ?_ | with_reducible refine t_not ?_ | with_reducible refine t_yes ?_
  | with_reducible refine w_andV ?_ | with_reducible refine w_orV ?_ | with_reducible refine w_notV ?_ | with_reducible refine w_if ?_ | with_reducible refine w_chain ?_ | with_reducible refine o_none ?_ | with_reducible refine o_some ?_
  | with_reducible refine w_slT ?_ | with_reducible refine w_slL ?_ | with_reducible refine w_catT ?_ | with_reducible refine w_catL ?_ | with_reducible refine w_dget ?_ | with_reducible refine w_din ?_ | with_reducible refine w_dnotin ?_ | with_reducible refine w_sortD ?_ | with_reducible refine w_sortI ?_ | with_reducible refine w_callq ?_ | with_reducible refine w_isB ?_
  | with_reducible refine w_notB ?_ | with_reducible refine g_name ?_ | refine gs_nil rfl ?_ | refine gs_cons rfl ?_ | with_reducible refine s_next ?_ | with_reducible refine s_seq ?_ | with_reducible refine s_asg ?_
  | with_reducible refine s_drop ?_ | with_reducible refine s_ret ?_ | with_reducible refine s_brk ?_ | with_reducible refine s_if ?_)
local macro_rules | `(tactic| walk_at "k28 x") => `(tactic| first
  | refine g_tup ⟨_, rfl, rfl, ?_⟩ | refine ⟨_, _, _, _, rfl, rfl, rfl, rfl, rfl, ?_⟩ | refine ⟨_, _, _, rfl, rfl, rfl, ?_⟩ | refine ⟨_, _, _, rfl, rfl, atI_nat (j := 0) rfl, ?_⟩ | refine ⟨_, _, _, rfl, ?_⟩ | refine ⟨_, _, rfl, rfl, by decide, ?_⟩ | refine ⟨_, _, rfl, rfl, ⟨by decide, by decide⟩, ?_⟩ | refine ⟨_, _, rfl, rfl, ⟨by decide, by decide, by decide⟩, ?_⟩ | refine ⟨_, _, rfl, rfl, .inl ⟨by decide, by decide⟩, ?_⟩ | refine ⟨_, _, rfl, rfl, .inr ⟨by decide, by decide⟩, ?_⟩ | refine ⟨_, _, rfl, rfl, ?_⟩ | refine ⟨_, _, rfl, ?_⟩ | refine ⟨_, (show undats _ = some _ from rfl), by simp, ?_⟩ | refine ⟨_, rfl, ?_⟩ | refine ⟨_, .inl rfl, ?_⟩ | refine ⟨_, .inr rfl, ?_⟩ | refine ⟨_, _, rfl, rfl, ?_, ?_⟩)
local macro_rules | `(tactic| walk_at "k28 t") => `(tactic| first | rw [if_pos (by decide)] | rw [if_neg (by decide)] | rw [if_pos (by simp)] | rw [if_neg (by simp)])
local macro_rules | `(tactic| walk_at "k28") => `(tactic| repeat (first | walk_at "k28 d" | walk_at "k28 x" | exact rfl))
local macro_rules | `(tactic| walk_at "k28 s") => `(tactic| repeat (first | (fail_if_success with_reducible refine s_if ?_); (first | walk_at "k28 d" | walk_at "k28 x" | exact rfl)))
local macro_rules | `(tactic| walk_at "k28 o") => `(tactic| first
  | with_reducible refine w_dnotinO ?_ | with_reducible refine w_dgetO ?_ | with_reducible refine w_dget2O ?_ | with_reducible refine w_lenO ?_ | with_reducible refine w_tupleO ?_ | with_reducible refine w_notInO ?_ | with_reducible refine w_ixO ?_ | with_reducible refine w_fld ?_
  | refine ⟨_, _, _, rfl, rfl, .of (.head _), ?_⟩ | refine ⟨_, _, _, rfl, rfl, .of (.tail _ (.head _)), ?_⟩ | refine ⟨_, _, rfl, .of (.head _), ?_⟩ | refine ⟨_, _, rfl, .of (.tail _ (.head _)), ?_⟩)
local macro_rules | `(tactic| walk_at "k28 w") => `(tactic| first | with_reducible refine m_next ?_ | with_reducible refine m_seq ?_ | with_reducible refine m_asg (x_dnew fun p => ?_) | with_reducible refine m_asg (x_dnewT fun p => ?_) | with_reducible refine m_asg (x_lst ?_) | with_reducible refine m_asgP ?_ | with_reducible refine m_if ?_ | with_reducible refine m_retP ?_)
local macro_rules | `(tactic| walk_at "k28 m") => `(tactic| repeat (first | walk_at "k28 w" | walk_at "k28 o" | walk_at "k28 d" | walk_at "k28 x" | exact rfl))
local macro_rules | `(tactic| walk_at "k28 g") => `(tactic| repeat (first | with_reducible refine w_take ?_ | with_reducible refine w_word ?_ | with_reducible refine w_calld ?_ | with_reducible refine w_callgq ?_ | with_reducible refine w_addS ?_ | with_reducible refine w_ixS ?_ | with_reducible refine w_catL ?_ | walk_at "k28 w" | walk_at "k28 d" | refine ⟨_, _, rfl, .head _, (by first | decide | omega | simp | (simp only [List.length_map]; omega)), fun (r : Int) (r1 : 0 ≤ r) (r2 : r < _) => ?_⟩ | refine ⟨_, rfl, fun (s : Str) (sw : Wdn 60 s) => ?_⟩ | walk_at "k28 x" | exact rfl))
local macro_rules | `(tactic| walk_at "k28 f") => `(tactic| first
  | refine wf (Txt.c_Source (by assumption)) (Txt.n_meter (by assumption)) rfl lk_meter ?_ | refine wf (Txt.c_Source (by assumption)) (Txt.n_offset (by assumption)) rfl lk_offset ?_ | refine wf (Txt.c_Source (by assumption)) (Txt.n_slots (by assumption)) rfl lk_slots ?_ | refine wf (Txt.c_Source (by assumption)) (Txt.n_closed_number (by assumption)) rfl lk_closed_number ?_ | refine wf (Txt.c_Source (by assumption)) (Txt.n_closed_stamp (by assumption)) rfl lk_closed_stamp ?_ | refine wf (Txt.c_Source (by assumption)) (Txt.n_due (by assumption)) rfl lk_due ?_)
local macro_rules | `(tactic| walk_at "k28 n") => `(tactic| repeat (first | walk_at "k28 w" | walk_at "k28 f" | walk_at "k28 d" | walk_at "k28 x" | exact rfl))
local macro_rules | `(tactic| walk_at "k28 p") => `(tactic| first
  | with_reducible refine w_lenO ?_ | with_reducible refine w_tupleO ?_ | with_reducible refine w_ixO ?_
  | refine ⟨_, _, rfl, .of (.tail _ (.head _)), ?_⟩ | refine ⟨_, _, rfl, .of (.tail _ (.tail _ (.head _))), ?_⟩)
local macro_rules | `(tactic| walk_at "k28 q") => `(tactic| repeat (first | walk_at "k28 w" | walk_at "k28 f" | walk_at "k28 p" | walk_at "k28 d" | walk_at "k28 x" | exact rfl))
theorem putD_mem {kvs : List (Int × Dt)} {k : Int} {d : Dt} {q : Int × Dt} (h : q ∈ putD kvs k d) : q = (k, d) ∨ q ∈ kvs := by
  unfold putD at h
  split at h
  · obtain ⟨x, hx, e⟩ := List.mem_map.mp h
    split at e
    · rename_i c
      subst e
      exact .inl (by rw [c])
    · subst e
      exact .inr hx
  · rcases List.mem_append.mp h with h | h
    · exact .inr h
    · exact .inl (by simpa using h)
theorem putD_len (kvs : List (Int × Dt)) (k : Int) (d : Dt) : (putD kvs k d).length ≤ kvs.length + 1 := by
  unfold putD
  split <;> simp
theorem putD_keys (kvs : List (Int × Dt)) (k : Int) (d : Dt) : (putD kvs k d).map (·.1) = if k ∈ kvs.map (·.1) then kvs.map (·.1) else kvs.map (·.1) ++ [k] := by
  unfold putD
  have e : (kvs.any fun q => decide (q.1 = k)) = true ↔ k ∈ kvs.map (·.1) := by
    rw [List.any_eq_true]
    constructor
    · rintro ⟨x, hx, e⟩
      exact List.mem_map.mpr ⟨x, hx, by simpa using e⟩
    · intro h
      obtain ⟨x, hx, e⟩ := List.mem_map.mp h
      exact ⟨x, hx, by simpa using e⟩
  by_cases c : k ∈ kvs.map (·.1)
  · rw [if_pos (e.mpr c), if_pos c, List.map_map]
    refine List.map_congr_left fun x _ => ?_
    simp only [Function.comp]
    split <;> rfl
  · rw [if_neg (fun z => c (e.mp z)), if_neg c]
    simp
theorem putD_nd {kvs : List (Int × Dt)} {k : Int} {d : Dt} (h : (kvs.map (·.1)).Nodup) : ((putD kvs k d).map (·.1)).Nodup := by
  rw [putD_keys]
  split
  · exact h
  · rename_i c
    refine List.nodup_append.mpr ⟨h, by simp, fun a ha b hb e => c ?_⟩
    obtain rfl : b = k := by simpa using hb
    rw [← e]
    exact ha
theorem putD_key {kvs : List (Int × Dt)} {k : Int} {d : Dt} : k ∈ (putD kvs k d).map (·.1) := by
  rw [putD_keys]
  split
  · assumption
  · simp
theorem putD_old {kvs : List (Int × Dt)} {k j : Int} {d : Dt} (h : j ∈ kvs.map (·.1)) : j ∈ (putD kvs k d).map (·.1) := by
  rw [putD_keys]
  split
  · exact h
  · exact List.mem_append.mpr (.inl h)
theorem lookD_key {kvs : List (Int × Dt)} {i : Int} (h : i ∈ kvs.map (·.1)) : ∃ d, lookD kvs i = some d ∧ (i, d) ∈ kvs := by
  cases e : lookD kvs i with
  | some d => exact ⟨d, rfl, mem_lookD e⟩
  | none =>
    exfalso
    unfold lookD at e
    obtain ⟨x, hx, rfl⟩ := List.mem_map.mp h
    have q := List.find?_eq_none.mp (Option.map_eq_none_iff.mp e) x hx
    simp at q
section
variable {P : Program} {w : World} {K : PySem.W.Frag} {mg : Str → Option Value} {base : Heap}
theorem sc_received_of : FnScope ["letters", "name", "found", "kind", "meter", "slot", "version", "stamp", "value"] ["letters", "name"] (defScope s_received_of) := ⟨rfl, rfl, rfl, by decide +kernel, rfl, by decide +kernel, by decide +kernel⟩
structure GRec where
  nm : Str
  n : Str
  us : List Let
  ss : List Slot
def ARec (g : GRec) (es : List En1) : Prop := es = [.lst (g.us.map (Let.d g.nm)), .dat (.str g.n)] ∧ g.us.length ≤ 60 ∧ ∀ (s v : Nat) (st : Int) (x : Option Int), Let.read s v st x ∈ abt g.nm g.n g.us → ∃ sl : Slot, 1 ≤ s ∧ g.ss[s - 1]? = some sl ∧ sl.1 = st ∧ sl.2[v]? = some x
def SRec (g : GRec) (e : En1) : Prop := ∃ kvs, e = .dic kvs ∧ RecP g.ss kvs
theorem ok_received_of (T : Txt K mg) : Ok P w K mg base CX0 2 "received_of" (He.ga K "received_of") ["letters", "name"] (psq ARec SRec) := by
  obtain ⟨fd, F⟩ := T.F_received_of
  have o_reads_about := ok_reads_about (P := P) (w := w) (base := base) T
  refine ⟨⟨fd, ok_ownq F sc_received_of (fun g es h => by rw [h.1]; rfl) (fun cdv A outer s H E hr => ⟨_, (pss_cons (ps_set (i := 2) sc_received_of.nd rfl (Or.inl rfl) pe_dnewK) (pss_cons (ps_for PassesOwn.never rfl (kiList (K := K) rfl (pe_ok o_reads_about hr (by decide) (by rfl) (pa_cons (pv 0) (pa_cons (pv 1) pa_nil)))) (kgTup (K := K) (n := 6) rfl rfl (pgs_cons (pg_name (i := 3) sc_received_of.nd rfl (Or.inl rfl)) (pgs_cons (pg_name (i := 4) sc_received_of.nd rfl (Or.inl rfl)) (pgs_cons (pg_name (i := 5) sc_received_of.nd rfl (Or.inl rfl)) (pgs_cons (pg_name (i := 6) sc_received_of.nd rfl (Or.inl rfl)) (pgs_cons (pg_name (i := 7) sc_received_of.nd rfl (Or.inl rfl)) (pgs_cons (pg_name (i := 8) sc_received_of.nd rfl (Or.inl rfl)) pgs_nil))))))) (pss_one (ps_if (PW.pt (pw_or (pt_cmp (pc_dnotin (hu_of hr) (pv 5) (pv 2))) (pw_or1 (pt_cmpR op_lt (pe_ix (kIxT (K := K) rfl) (pe_dget (hu_of hr) (pv 2) (pv 5) (fun _ _ => rfl)) pe_int (fun _ _ => rfl)) (pv 6) (nomark _))))) (pss_one (ps_dput (hu_of hr) (pv 2) (pv 5) (pe_tup (pa_cons (pv 6) (pa_cons (pv 7) (pa_cons (pv 8) pa_nil)))) rfl)) pss_nil))) (pss_one (ps_ret (pv 2))))), fun g es r => ?_⟩), (F.bindsN fun _ _ _ _ _ _ us hl => match us, hl with | [_, _], _ => rfl)⟩, T.g_received_of, F.kp⟩
  obtain ⟨nm, n, us, ss⟩ := g
  obtain ⟨rfl, hz, hc⟩ := r
  dsimp only at hz hc ⊢
  walk_at "k28 m"
  rename_i p
  refine m_forL (F := Let.d nm) ?_
  refine w_callg1 ?_
  walk_at "k28"
  refine ⟨_, ⟨nm, n, us, rfl, by omega, rfl⟩, okRes_dic (fun x hx => ?_), ?_⟩
  · obtain rfl : x = (p, .d [] []) := by simpa using hx
    exact ⟨_, _, rfl⟩
  have lf : ((abt nm n us).filter isRd).length ≤ 60 := by
    refine Nat.le_trans (List.length_filter_le _ _) ?_
    unfold abt
    split
    · exact hz
    · exact Nat.zero_le _
  refine ⟨_, rfl, fun i Γ' ρ' => Hid (∃ p ks kvs a b c d e f, Γ' = [(p, .d ks kvs)] ∧ ρ' = [some (.lst (us.map (Let.d nm))), some (.dat (.str n)), some (.raw (.ref p)), a, b, c, d, e, f] ∧ RecP ss kvs ∧ kvs.length ≤ i), hid ⟨_, _, _, _, _, _, _, _, _, rfl, rfl, ⟨List.nodup_nil, Nat.zero_le _, fun q hq => by cases hq⟩, Nat.le_refl _⟩, ?_, ?_⟩
  · intro i l Γ' ρ' hi hI
    obtain ⟨p, ks, kvs, a, b, c, d, e, f, rfl, rfl, R, le⟩ := hI.out
    obtain ⟨lm, lr⟩ := List.mem_filter.mp (List.mem_of_getElem? hi)
    have il := (List.getElem?_eq_some_iff.mp hi).1
    cases l with
    | close k st vs => cases lr
    | clock lo hi => cases lr
    | read s v st x =>
      obtain ⟨sl, s1, hs, e1, hv⟩ := hc s v st x lm
      walk_at "k28 m"
      cases e0 : lookD kvs (s : Int) with
      | none =>
        rw [if_pos (by simp), if_pos rfl]
        refine m_dput 0 ?_
        walk_at "k28"
        refine ⟨_, _, _, _, _, rfl, rfl, rfl, rfl, by omega, fun ks' => hid ⟨_, _, _, _, _, _, _, _, _, rfl, rfl, ⟨putD_nd R.nd, ?_, fun q hq => ?_⟩, ?_⟩⟩
        · exact Nat.le_trans (putD_len _ _ _) (by omega)
        · rcases putD_mem hq with h | h
          · refine ⟨s, v, x, sl, ?_, s1, hs, (List.getElem?_eq_some_iff.mp hv).1⟩
            rw [h, e1]
          · exact R.ok q h
        · exact Nat.le_trans (putD_len _ _ _) (by omega)
      | some d0 =>
        rw [if_neg (by simp)]
        obtain ⟨k, ver, y, sl', ek, e2, _⟩ := R.at (List.mem_map.mpr ⟨_, mem_lookD e0, rfl⟩)
        walk_at "k28 m"
        refine ⟨_, _, _, _, rfl, .of (.head _), rfl, e2, ?_⟩
        walk_at "k28 m"
        split
        · refine m_dput 0 ?_
          walk_at "k28"
          refine ⟨_, _, _, _, _, rfl, rfl, rfl, rfl, by omega, fun ks' => hid ⟨_, _, _, _, _, _, _, _, _, rfl, rfl, ⟨putD_nd R.nd, ?_, fun q hq => ?_⟩, ?_⟩⟩
          · exact Nat.le_trans (putD_len _ _ _) (by omega)
          · rcases putD_mem hq with h | h
            · refine ⟨s, v, x, sl, ?_, s1, hs, (List.getElem?_eq_some_iff.mp hv).1⟩
              rw [h, e1]
            · exact R.ok q h
          · exact Nat.le_trans (putD_len _ _ _) (by omega)
        · walk_at "k28 m"
          exact hid ⟨_, _, _, _, _, _, _, _, _, rfl, rfl, R, by omega⟩
  · intro Γ' ρ' hI
    obtain ⟨p, ks, kvs, a, b, c, d, e, f, rfl, rfl, R, le⟩ := hI.out
    walk_at "k28 m"
    exact ⟨_, .d (.head _), kvs, rfl, R⟩
theorem sc_closes_of : FnScope ["letters", "name", "found", "letter", "ceiling", "floor", "versions"] ["letters", "name"] (defScope s_closes_of) := ⟨rfl, rfl, rfl, by decide +kernel, rfl, by decide +kernel, by decide +kernel⟩
def AClo (g : GRec) (es : List En1) : Prop := es = [.lst (g.us.map (Let.d g.nm)), .dat (.str g.n)] ∧ g.us.length ≤ 60 ∧ ∀ (n : Nat) (st : Int) (vs : Nat), Let.close n st vs ∈ abt g.nm g.n g.us → Tr 0 g.ss (.close n st vs)
def SClo (g : GRec) (e : En1) : Prop := ∃ kvs, e = .dic kvs ∧ ClsP g.ss kvs ∧ ∀ (k : Nat) (st : Int) (vs : Nat), Let.close k st vs ∈ abt g.nm g.n g.us → ((k : Int) ∈ kvs.map (·.1)) ∧ cnt g.ss 0 k = vs
theorem ok_closes_of (T : Txt K mg) : Ok P w K mg base CX0 1 "closes_of" (He.ga K "closes_of") ["letters", "name"] (psq AClo SClo) := by
  obtain ⟨fd, F⟩ := T.F_closes_of
  refine ⟨⟨fd, ok_ownq F sc_closes_of (fun g es h => by rw [h.1]; rfl) (fun cdv A outer s H E hr => ⟨_, (pss_cons (ps_set (i := 2) sc_closes_of.nd rfl (Or.inl rfl) pe_dnewK) (pss_cons (ps_for PassesOwn.never rfl (kiList (K := K) rfl (pv 0)) (pg_name (i := 3) sc_closes_of.nd rfl (Or.inl rfl)) (pss_one (ps_if (PW.pt (pw_and (pt_cmpR op_eq (pe_ix (kIxT (K := K) rfl) (pv 3) pe_int (fun _ _ => rfl)) pe_str (nomark _)) (pw_and1 (pt_cmpR op_eq (pe_ix (kIxT (K := K) rfl) (pv 3) pe_int (fun _ _ => rfl)) (pv 1) (nomark _))))) (pss_cons (ps_asg (pe_dget2 (hu_of hr) (pv 2) (pe_ix (kIxT (K := K) rfl) (pv 3) pe_int (fun _ _ => rfl)) (pe_tup (pa_cons (pe_ix (kIxT (K := K) rfl) (pv 3) pe_int (fun _ _ => rfl)) (pa_cons (pe_ix (kIxT (K := K) rfl) (pv 3) pe_int (fun _ _ => rfl)) (pa_cons (pe_ix (kIxT (K := K) rfl) (pv 3) pe_int (fun _ _ => rfl)) pa_nil)))) ⟨rfl, rfl, rfl, rfl⟩) (kgTup (K := K) (n := 3) rfl rfl (pgs_cons (pg_name (i := 4) sc_closes_of.nd rfl (Or.inl rfl)) (pgs_cons (pg_name (i := 5) sc_closes_of.nd rfl (Or.inl rfl)) (pgs_cons (pg_name (i := 6) sc_closes_of.nd rfl (Or.inl rfl)) pgs_nil))))) (pss_one (ps_dput (hu_of hr) (pv 2) (pe_ix (kIxT (K := K) rfl) (pv 3) pe_int (fun _ _ => rfl)) (pe_tup (pa_cons (pe_callB (call_min2 rfl) (by rfl) T.f_min (by decide +kernel) (pa_cons (pv 4) (pa_cons (pe_ix (kIxT (K := K) rfl) (pv 3) pe_int (fun _ _ => rfl)) pa_nil))) (pa_cons (pe_callB (call_max2 rfl) (by rfl) T.f_max (by decide +kernel) (pa_cons (pv 5) (pa_cons (pe_ix (kIxT (K := K) rfl) (pv 3) pe_int (fun _ _ => rfl)) pa_nil))) (pa_cons (pv 6) pa_nil)))) rfl))) pss_nil))) (pss_one (ps_ret (pv 2))))), fun g es r => ?_⟩), (F.bindsN fun _ _ _ _ _ _ us hl => match us, hl with | [_, _], _ => rfl)⟩, T.g_closes_of, F.kp⟩
  obtain ⟨nm, n, us, ss⟩ := g
  obtain ⟨rfl, hz, hc⟩ := r
  dsimp only at hz hc ⊢
  walk_at "k28 m"
  rename_i p
  refine m_forL (F := Let.d nm) ?_
  walk_at "k28"
  refine ⟨fun i Γ' ρ' => Hid (∃ p ks kvs a b c d, Γ' = [(p, .d ks kvs)] ∧ ρ' = [some (.lst (us.map (Let.d nm))), some (.dat (.str n)), some (.raw (.ref p)), a, b, c, d] ∧ ClsP ss kvs ∧ kvs.length ≤ i ∧ ∀ (k : Nat) (st : Int) (vs : Nat), Let.close k st vs ∈ abt nm n (us.take i) → (k : Int) ∈ kvs.map (·.1)), hid ⟨_, _, _, _, _, _, _, rfl, rfl, ⟨List.nodup_nil, Nat.zero_le _, fun q hq => by cases hq⟩, Nat.le_refl _, fun k st vs h => by obtain ⟨_, h⟩ := mem_abt h; rw [List.take_zero] at h; cases h⟩, ?_, ?_⟩
  · intro i l Γ' ρ' hi hI
    obtain ⟨p, ks, kvs, a, b, c, d, rfl, rfl, R, le, hk⟩ := hI.out
    have il := (List.getElem?_eq_some_iff.mp hi).1
    have tk : us.take (i + 1) = us.take i ++ [l] := by rw [List.take_succ, hi]; rfl
    have skip : (∀ k st vs, l ≠ .close k st vs) ∨ nm ≠ n → ∀ (k : Nat) (st : Int) (vs : Nat), Let.close k st vs ∈ abt nm n (us.take (i + 1)) → (k : Int) ∈ kvs.map (·.1) := fun h k st vs hm => by
      obtain ⟨en, hm⟩ := mem_abt hm
      rw [tk] at hm
      rcases List.mem_append.mp hm with hm | hm
      · exact hk k st vs (abt_mem en hm)
      · rcases h with h | h
        · exact absurd (List.mem_singleton.mp hm).symm (h k st vs)
        · exact absurd en h
    cases l with
    | read s v st x =>
      walk_at "k28 m"
      rw [if_neg (by decide)]
      simp only [Bool.false_eq_true, if_false]
      walk_at "k28 m"
      exact hid ⟨_, _, _, _, _, _, _, rfl, rfl, R, by omega, skip (.inl fun _ _ _ e => by cases e)⟩
    | clock lo hi =>
      walk_at "k28 m"
      rw [if_neg (by decide)]
      simp only [Bool.false_eq_true, if_false]
      walk_at "k28 m"
      exact hid ⟨_, _, _, _, _, _, _, rfl, rfl, R, by omega, skip (.inl fun _ _ _ e => by cases e)⟩
    | close k st vs =>
      walk_at "k28 m"
      rw [if_pos (by decide)]
      walk_at "k28 m"
      by_cases c : nm = n
      · rw [if_pos (by simpa using c)]
        obtain ⟨q1, q2, q3⟩ := hc k st vs (abt_mem c (List.mem_of_getElem? hi))
        have q4 : cnt ss 0 k = vs := by rw [← q3]; unfold cnt; rw [List.drop_zero]
        walk_at "k28 m"
        have got : ∃ c0 f0 : Int, (lookD kvs (k : Int)).getD (PyData.tuple [.int st, .int st, .int (vs : Int)]) = .tuple [.int c0, .int f0, .int (cnt ss 0 k : Int)] ∧ (∀ (j : Nat) (sl : Slot), ss[j]? = some sl → j < k → sl.1 < c0) ∧ ∀ (j : Nat) (sl : Slot), ss[j]? = some sl → k ≤ j → f0 ≤ sl.1 := by
          cases e0 : lookD kvs (k : Int) with
          | none =>
            refine ⟨st, st, by rw [q4]; rfl, fun j sl hj hlt => (q2 j sl hj).mpr hlt, fun j sl hj hle => ?_⟩
            have q5 := q2 j sl hj
            have : ¬ sl.1 < st := fun z => by have := q5.mp z; omega
            omega
          | some d0 =>
            obtain ⟨k', c', f', e1, e2, _, g1, g2⟩ := R.at (List.mem_map.mpr ⟨_, mem_lookD e0, rfl⟩)
            obtain rfl : k = k' := by omega
            rw [e0] at e2
            obtain rfl := Option.some.inj e2
            exact ⟨c', f', rfl, g1, g2⟩
        obtain ⟨c0, f0, e0, g1, g2⟩ := got
        show Wg _ _ (En1.dat ((lookD kvs (k : Int)).getD (PyData.tuple [.int st, .int st, .int (vs : Int)]))) _ _
        rw [e0]
        walk_at "k28 m"
        refine m_dput 0 ?_
        walk_at "k28"
        refine ⟨_, _, _, _, _, rfl, rfl, rfl, rfl, by omega, fun ks' => hid ⟨_, _, _, _, _, _, _, rfl, rfl, ⟨putD_nd R.nd, ?_, fun q hq => ?_⟩, ?_, ?_⟩⟩
        · exact Nat.le_trans (putD_len _ _ _) (by omega)
        · rcases putD_mem hq with h | h
          · refine ⟨k, _, _, h, q1, fun j sl hj hlt => ?_, fun j sl hj hle => ?_⟩
            · have a1 := g1 j sl hj hlt
              have a2 := (q2 j sl hj).mpr hlt
              split <;> assumption
            · have a1 := g2 j sl hj hle
              have q5 := q2 j sl hj
              have a2 : ¬ sl.1 < st := fun z => by have := q5.mp z; omega
              split <;> omega
          · exact R.ok q h
        · exact Nat.le_trans (putD_len _ _ _) (by omega)
        · intro k' st' vs' hm
          obtain ⟨en, hm⟩ := mem_abt hm
          rw [tk] at hm
          rcases List.mem_append.mp hm with hm | hm
          · exact putD_old (hk k' st' vs' (abt_mem en hm))
          · obtain ⟨rfl, _, _⟩ := Let.close.inj (List.mem_singleton.mp hm)
            exact putD_key
      · rw [if_neg (by simpa using c)]
        simp only [Bool.false_eq_true, if_false]
        walk_at "k28 m"
        exact hid ⟨_, _, _, _, _, _, _, rfl, rfl, R, by omega, skip (.inr c)⟩
  · intro Γ' ρ' hI
    obtain ⟨p, ks, kvs, a, b, c, d, rfl, rfl, R, le, hk⟩ := hI.out
    rw [List.take_length] at hk
    walk_at "k28 m"
    exact ⟨_, .d (.head _), kvs, rfl, R, fun k st vs h => ⟨hk k st vs h, by have q := (hc k st vs h).2.2; rw [← q]; unfold cnt; rw [List.drop_zero]⟩⟩
theorem sc_limits_of : FnScope ["closes", "found", "before", "least", "told", "number", "ceiling", "floor", "versions"] ["closes"] (defScope s_limits_of) := ⟨rfl, rfl, rfl, by decide +kernel, rfl, by decide +kernel, by decide +kernel⟩
structure GLim where
  ss : List Slot
  kvs : List (Int × Dt)
def ALim (g : GLim) (es : List En1) : Prop := es = [.dic g.kvs] ∧ ClsP g.ss g.kvs
def SLim (g : GLim) (e : En1) : Prop := ∃ (segs : List Seg) (tl : Seg), e = .lst ((segs ++ [tl]).map Seg.d) ∧ segs.length ≤ 60 ∧ (∀ s ∈ segs, ∃ la, s.last = some la) ∧ ∀ s ∈ segs ++ [tl], SegOk g.ss s
theorem ok_limits_of (T : Txt K mg) : Ok P w K mg base CX0 1 "limits_of" (He.ga K "limits_of") ["closes"] (psq ALim SLim) := by
  obtain ⟨fd, F⟩ := T.F_limits_of
  refine ⟨⟨fd, ok_ownq F sc_limits_of (fun g es h => by rw [h.1]; rfl) (fun cdv A outer s H E hr => ⟨_, (pss_cons (ps_set (i := 1) sc_limits_of.nd rfl (Or.inl rfl) (pe_lst pa_nil)) (pss_cons (ps_set (i := 2) sc_limits_of.nd rfl (Or.inl rfl) pe_int) (pss_cons (ps_set (i := 3) sc_limits_of.nd rfl (Or.inl rfl) (pe_ifExp (pt_cmp (pc_din (hu_of hr) pe_int (pv 0))) (pe_ix (kIxT (K := K) rfl) (pe_dget (hu_of hr) (pv 0) pe_int (fun _ _ => rfl)) pe_int (fun _ _ => rfl)) pe_non)) (pss_cons (ps_set (i := 4) sc_limits_of.nd rfl (Or.inl rfl) pe_int) (pss_cons (ps_for PassesOwn.never rfl (kiList (K := K) rfl (pe_callB (call_sortedDI rfl) (by rfl) T.f_sorted (by decide +kernel) (pa_cons (pv 0) pa_nil))) (pg_name (i := 5) sc_limits_of.nd rfl (Or.inl rfl)) (pss_one (ps_if (pt_cmpR op_gt (pv 5) pe_int (nomark _)) (pss_cons (ps_asg (pe_dget (hu_of hr) (pv 0) (pv 5) (fun _ _ => rfl)) (kgTup (K := K) (n := 3) rfl rfl (pgs_cons (pg_name (i := 6) sc_limits_of.nd rfl (Or.inl rfl)) (pgs_cons (pg_name (i := 7) sc_limits_of.nd rfl (Or.inl rfl)) (pgs_cons (pg_name (i := 8) sc_limits_of.nd rfl (Or.inl rfl)) pgs_nil))))) (pss_cons (ps_expr (pe_bm PySem.F.plainAttrs_list PySem.F.slot_list_append PySem.F.type_list_append mt_append (pv 1) (pa_cons (pe_tup (pa_cons (pe_op op_add (pv 2) pe_int) (pa_cons (pv 5) (pa_cons (pv 3) (pa_cons (pe_op op_sub (pv 6) pe_int) (pa_cons (pe_op op_sub (pv 8) (pv 4)) pa_nil)))))) pa_nil))) (pss_cons (ps_set (i := 2) sc_limits_of.nd rfl (Or.inl rfl) (pv 5)) (pss_cons (ps_set (i := 3) sc_limits_of.nd rfl (Or.inl rfl) (pv 7)) (pss_one (ps_set (i := 4) sc_limits_of.nd rfl (Or.inl rfl) (pv 8))))))) pss_nil))) (pss_cons (ps_expr (pe_bm PySem.F.plainAttrs_list PySem.F.slot_list_append PySem.F.type_list_append mt_append (pv 1) (pa_cons (pe_tup (pa_cons (pe_op op_add (pv 2) pe_int) (pa_cons pe_non (pa_cons (pv 3) (pa_cons pe_non (pa_cons pe_non pa_nil)))))) pa_nil))) (pss_one (ps_ret (pv 1))))))))), fun g es r => ?_⟩), (F.bindsN fun _ _ _ _ _ _ us hl => match us, hl with | [_], _ => rfl)⟩, T.g_limits_of, F.kp⟩
  obtain ⟨ss, kvs⟩ := g
  obtain ⟨rfl, C⟩ := r
  dsimp only at C ⊢
  refine m_seq (m_asg (x_lst (a_nil ⟨_, rfl, by simp, fun p xs => ?_⟩)))
  walk_at "k28"
  refine m_seq (m_asgP ?_)
  walk_at "k28"
  refine m_seq (m_asgP ?_)
  refine We.imp (K := fun x => ∃ l0 : Option Int, x = .dat (optD l0) ∧ ∀ b, l0 = some b → ∀ (j : Nat) (sl : Slot), ss[j]? = some sl → b ≤ sl.1) ?_ ?_
  · walk_at "k28"
    cases e0 : lookD kvs 0 with
    | none =>
      rw [if_neg (by simp)]
      walk_at "k28"
      exact ⟨none, rfl, fun b h => by cases h⟩
    | some d0 =>
      rw [if_pos (by simp)]
      obtain ⟨k', c', f', e1, e2, _, _, g2⟩ := C.at (i := 0) (List.mem_map.mpr ⟨_, mem_lookD e0, rfl⟩)
      obtain rfl : k' = 0 := by omega
      walk_at "k28"
      refine ⟨_, _, _, rfl, rfl, e2, ?_⟩
      walk_at "k28"
      refine ⟨some f', rfl, fun b h j sl hj => ?_⟩
      obtain rfl := Option.some.inj h
      exact g2 j sl hj (Nat.zero_le _)
  rintro e ⟨l0, rfl, hl0⟩
  refine g_name ?_
  refine m_seq (m_asgP ?_)
  walk_at "k28"
  refine m_seq ?_
  refine m_forL (F := PyData.int) ?_
  walk_at "k28"
  refine ⟨show kvs.length < 64 by have := C.few; omega, fun ys pm pw => ?_⟩
  have yl : ys.length = kvs.length := by rw [pm.length_eq, List.length_map]
  have few := C.few
  refine ⟨ys, rfl, fun i Γ' ρ' => Hid (∃ (p : Addr) (xs : List V) (segs : List Seg) (before : Nat) (least : Option Int) (a b c d : Option En1), Γ' = [(p, .l xs (segs.map Seg.d))] ∧ ρ' = [some (.dic kvs), some (.raw (.ref p)), some (.dat (.int before)), some (.dat (optD least)), some (.dat (.int (cnt ss 0 before : Int))), a, b, c, d] ∧
    before ≤ ss.length ∧ (∀ b, least = some b → ∀ (j : Nat) (sl : Slot), ss[j]? = some sl → before ≤ j → b ≤ sl.1) ∧ segs.length ≤ i ∧ (∀ s ∈ segs, (∃ la, s.last = some la) ∧ SegOk ss s) ∧ ∀ y ∈ ys.drop i, (before : Int) ≤ y), hid ⟨p, xs, [], 0, l0, none, none, none, none, rfl, ?_, Nat.zero_le _, fun b h j sl hj _ => hl0 b h j sl hj, Nat.le_refl _, fun s hs => (by cases hs), fun y hy => ?_⟩, ?_, ?_⟩
  · rw [cnt_zero]
    rfl
  · obtain ⟨k, _, _, rfl, _⟩ := C.at (pm.mem_iff.mp (List.mem_of_mem_drop hy))
    omega
  · intro i y Γ' ρ' hi hI
    obtain ⟨p, xs, segs, before, least, a, b, c, d, rfl, rfl, hb, hl, le, so, mono⟩ := hI.out
    have il := (List.getElem?_eq_some_iff.mp hi).1
    have dr : ys.drop i = y :: ys.drop (i + 1) := by
      obtain ⟨_, e⟩ := List.getElem?_eq_some_iff.mp hi
      rw [← e]
      exact (List.getElem_cons_drop il).symm
    have hy := mono y (by rw [dr]; exact List.mem_cons_self)
    obtain ⟨k, c', f', rfl, e2, kl, g1, g2⟩ := C.at (pm.mem_iff.mp (List.mem_of_getElem? hi))
    have bk : before ≤ k := by omega
    walk_at "k28 m"
    split
    · walk_at "k28"
      refine m_seq (m_asgP ?_)
      walk_at "k28"
      refine ⟨_, _, _, rfl, rfl, e2, ?_⟩
      walk_at "k28"
      refine m_seq (m_drop (x_append 0 ?_))
      walk_at "k28"
      refine ⟨_, _, _, rfl, rfl, ?_⟩
      walk_at "k28"
      refine ⟨by rw [List.length_map]; omega, fun xs' => ?_⟩
      walk_at "k28 m"
      have sgo : SegOk ss ⟨before + 1, some k, least, some (c' - 1), some ((cnt ss 0 k : Int) - (cnt ss 0 before : Int))⟩ := by
        refine ⟨by simp, fun b0 hb0 j sl hj hle => hl b0 hb0 j sl hj (by simp only at hle; omega), fun g hg la j sl hla hj hlt => ?_, fun la hla => ?_, fun h => by cases h⟩
        · obtain rfl := Option.some.inj hg
          obtain rfl := Option.some.inj hla
          have := g1 j sl hj hlt
          omega
        · obtain rfl := Option.some.inj hla
          refine ⟨by simp only; omega, kl, ?_⟩
          have := cnt_split ss bk
          simp only [Nat.add_sub_cancel]
          congr 1
          omega
      refine hid ⟨p, xs', segs ++ [⟨before + 1, some k, least, some (c' - 1), some ((cnt ss 0 k : Int) - (cnt ss 0 before : Int))⟩], k, some f', _, _, _, _, ?_, rfl, kl, fun b0 hb0 j sl hj hle => ?_, ?_, fun s hs => ?_, fun y hy' => ?_⟩
      · rw [List.map_append]
        rfl
      · obtain rfl := Option.some.inj hb0
        exact g2 j sl hj hle
      · rw [List.length_append]
        simp only [List.length_cons, List.length_nil]
        omega
      · rcases List.mem_append.mp hs with hs | hs
        · exact so s hs
        · obtain rfl := List.mem_singleton.mp hs
          exact ⟨⟨_, rfl⟩, sgo⟩
      · obtain ⟨m, hm⟩ := List.mem_iff_getElem?.mp hy'
        rw [List.getElem?_drop] at hm
        obtain ⟨l2, e3⟩ := List.getElem?_eq_some_iff.mp hm
        obtain ⟨l1, e1⟩ := List.getElem?_eq_some_iff.mp hi
        have q := List.pairwise_iff_getElem.mp pw i (i + 1 + m) l1 l2 (by omega)
        rw [e3, e1] at q
        exact q
    · walk_at "k28 m"
      refine hid ⟨p, xs, segs, before, least, _, _, _, _, rfl, rfl, hb, hl, by omega, so, fun y hy' => mono y (by rw [dr]; exact List.mem_cons_of_mem _ hy')⟩
  · intro Γ' ρ' hI
    obtain ⟨p, xs, segs, before, least, a, b, c, d, rfl, rfl, hb, hl, le, so, mono⟩ := hI.out
    refine m_seq (m_drop (x_append 0 ?_))
    walk_at "k28"
    refine ⟨_, _, _, rfl, rfl, ?_⟩
    walk_at "k28"
    refine ⟨by rw [List.length_map]; omega, fun xs' => ?_⟩
    walk_at "k28 m"
    refine ⟨_, .l (.head _), segs, ⟨before + 1, none, least, none, none⟩, ?_, by omega, fun s hs => (so s hs).1, fun s hs => ?_⟩
    · rw [List.map_append]
      rfl
    · rcases List.mem_append.mp hs with hs | hs
      · exact (so s hs).2
      · obtain rfl := List.mem_singleton.mp hs
        exact ⟨by simp, fun b0 hb0 j sl hj hle => hl b0 hb0 j sl hj (by simp only at hle; omega), fun g hg => (by cases hg), fun la hla => (by cases hla), fun _ => rfl⟩
end
end TW
/-! K28D4 -/
/-! K28: setdefault, with keys that are ints and keys that are pairs; tests that write. -/
namespace TW
open PySem PySem.Spec PyProof.Rows L2
section
variable {X : Cx} {pins : List (Addr × Obj)} {σ : L2.St} {H : Hp} {s : Shared} {a b : Addr} {r : Value} {d : V} {k : List Key} {A : Around} {E : Value → Shared → Prop}
theorem d_setdT {kvs : List (List Key × V)} {Q : Value → Shared → Prop} (hu : A.units + 1 < cLine) (I : Inv X pins σ H s) (e : H a = some (.dT kvs)) (eb : H b = some (.tup (k.map kV))) (rd : RelV d r) (hl : kvs.length < sizeLine)
    (h1 : ∀ v, valV kvs k = some v → ∀ (w' : Value) (s' : Shared), Inv X pins σ H s' → RelV v w' → Q w' s') (h2 : valV kvs k = none → ∀ (w' : Value) (s' : Shared), Inv X pins σ (upd H a (.dT (putK kvs k d))) s' → RelV d w' → Q w' s') :
    wpAny (model X.prog X.w) A (call (.builtin "dict.setdefault") [.ref a, .ref b, r]) Q E s := by
  obtain ⟨z, hd, xs, rel, dd⟩ := dt_of I.hok e
  have hz : xs.length ≤ sizeLine := by rw [← Paired.length rel]; exact z
  refine call_setdefault_heap (hsz := hz) (tupleKind_room_in1 hu) (key_of I.hok eb) hd dd (fun p hp => ?_) fun hn h' dd' hs => ?_
  · have q := rel.val k
    rw [hp] at q
    cases q0 : valV kvs k with
    | none =>
      rw [q0] at q
      exact (show False from q).elim
    | some v0 =>
      rw [q0] at q
      exact h1 v0 q0 _ _ (I.tok _) q
  · have q := rel.val k
    rw [hn] at q
    cases q0 : valV kvs k with
    | some v0 =>
      rw [q0] at q
      exact (show False from q).elim
    | none =>
      have hl2 : (putK kvs k d).length ≤ sizeLine := by
        have := length_putK kvs k d
        omega
      obtain ⟨q, es, ep, hq, g2, g3, g4, _, g5⟩ := dd'
      refine h2 q0 _ _ (d_write I (by rw [e]; exact True.intro) hs ⟨q, hq⟩ ⟨hl2, hd, _, (rel.put k eb rd).keeps fun c ys ec => ?_, q, es, ep, hq, g2, g3, g4, g5⟩) rd
      rw [upd_ne (ne_of ec e (fun z => nomatch z))]
      exact ec
end
def tDSetdT (td ty tx : TE) : TE := fun σ H Q => td σ H fun x H1 => ∃ a, x = .ref a ∧ IsD H1 a ∧ ty σ H1 fun y H2 => tx σ H2 fun z H3 => ∃ (kvs : List (List Key × V)) (k : List Key) (b : Addr), H3 a = some (.dT kvs) ∧ y = .ref b ∧ H3 b = some (.tup (k.map kV)) ∧ kvs.length < sizeLine ∧
  (∀ v, valV kvs k = some v → Q v H3) ∧ (valV kvs k = none → Q z (upd H3 a (.dT (putK kvs k z))))
section
variable {X : Cx} {o e f : Expr} {td ty tx : TE} {apos cpos : Pos}
theorem pe_dsetdT (hu : X.A.units + 1 < cLine) (ho : PE X o td) (he : PE X e ty) (hf : PE X f tx) (m : M2 X o "setdefault" apos e f cpos) : PE X (.Call (.Attribute o "setdefault" apos) [e, f] [] cpos) (tDSetdT td ty tx) := by
  refine ⟨fun pins s σ H Q I h => ?_⟩
  refine wpAny_Call_method m.base m.few m.line PySem.F.plainAttrs_dict PySem.F.slot_dict_setdefault PySem.F.type_dict_setdefault (thn (ho.run pins s σ H _ I h) fun u s1 ⟨x, H1, I1, rx, a, ex, d, q1⟩ => ?_)
  subst ex
  obtain rfl : u = Value.ref a := rx
  obtain ⟨t1, t2, _⟩ := isD_at I1 d
  refine ⟨t1, t2, ?_⟩
  rw [m.trees]
  refine Calls.callWith_builtin rfl (Calls.evalArgs_plain (Calls.spliced_cons (thn (he.run pins s1 σ H1 _ I1 q1) fun iv s2 ⟨y, H2, I2, ry, q2⟩ =>
    Calls.spliced_cons (thn (hf.run pins s2 σ H2 _ I2 q2) fun fv s3 ⟨z, H3, I3, rz, kvs, k, b, e3, ey, eb, hl, g1, g2⟩ => Calls.spliced_nil ?_))))
  subst ey
  obtain rfl : iv = Value.ref b := ry
  exact d_setdT hu I3 e3 eb rz hl (fun v hv w' s4 I4 rw' => ⟨v, H3, I4, rw', g1 v hv⟩) fun hn w' s4 I4 rw' => ⟨z, _, I4, rw', g2 hn⟩
end
/-! ### over entries -/
def lookT (kvs : List (List Key × Dt)) (k : List Key) : Option Dt := (kvs.find? fun q => decide (q.1 = k)).map (·.2)
theorem lookT_at {H : Hp} : ∀ {ks : List (List Key × V)} {kvs : List (List Key × Dt)} (i : List Key), DitS H ks kvs → (∀ d, lookT kvs i = some d → ∃ v, valV ks i = some v ∧ At H v d) ∧ (lookT kvs i = none → valV ks i = none)
  | _, _, i, .nil => ⟨fun d e => (by cases e), fun _ => rfl⟩
  | (k, v) :: _, (k', d') :: _, i, .cons h r => by
    obtain ⟨h1, h2⟩ := h
    simp only at h1 h2
    subst h1
    obtain ⟨i1, i2⟩ := lookT_at i r
    by_cases c : k = i
    · subst c
      refine ⟨fun d e => ⟨v, by simp [valV], ?_⟩, fun e => ?_⟩
      · simp [lookT] at e
        subst e
        exact h2
      · simp [lookT] at e
    · have e1 : ∀ {l}, lookT ((k, d') :: l) i = lookT l i := fun {l} => by simp [lookT, c]
      have e2 : ∀ {l : List (List Key × V)}, valV ((k, v) :: l) i = valV l i := fun {l} => by simp [valV, c]
      rw [e1, e2]
      exact ⟨i1, i2⟩
theorem dic_snoc {H : Hp} {v : V} {d : Dt} (hv : At H v d) {k : Int} : ∀ {ks : List (Key × V)} {kvs : List (Int × Dt)}, DicS H ks kvs → DicS H (ks ++ [(.inl k, v)]) (kvs ++ [(k, d)])
  | _, _, .nil => .cons ⟨rfl, hv⟩ .nil
  | _, _, .cons a r => .cons a (dic_snoc hv r)
theorem dit_snoc {H : Hp} {v : V} {d : Dt} (hv : At H v d) {k : List Key} : ∀ {ks : List (List Key × V)} {kvs : List (List Key × Dt)}, DitS H ks kvs → DitS H (ks ++ [(k, v)]) (kvs ++ [(k, d)])
  | _, _, .nil => .cons ⟨rfl, hv⟩ .nil
  | _, _, .cons a r => .cons a (dit_snoc hv r)
theorem putK_none {κ : Type} [DecidableEq κ] {ks : List (κ × V)} {k : κ} {v : V} (h : valV ks k = none) : putK ks k v = ks ++ [(k, v)] := by
  unfold putK
  rw [valV_any, h]
  rfl
def Wtx (Γ : Gs) (t : TT) (ρ : Ro) (K : Gs → Bool → Prop) : Prop := ∀ σ H, JG Γ H → En (MG Γ) H σ ρ → ∀ Q : Bool → Hp → Prop, (∀ b H' Γ', Lg Γ Γ' H H' → K Γ' b → Q b H') → t σ H Q
section
variable {Γ : Gs} {ρ : Ro} {P : Pg} {ta tb tc te : TE} {KF : PySem.W.Frag} {t u : TS} {c c2 : TT} {K : Gs → En1 → Prop} {KB : Gs → Bool → Prop}
theorem tx_or (h : Wtx Γ c ρ fun Γ' a => if a = true then KB Γ' true else Wtx Γ' c2 ρ KB) : Wtx Γ (tOr c c2) ρ KB := fun σ H j n Q q =>
  h σ H j n _ fun b H1 Γ1 l1 k1 => by
    cases b with
    | false => exact iteF ((show Wtx Γ1 c2 ρ KB from by simpa using k1) σ H1 l1.j (n.lg j l1) Q fun b H2 Γ2 l2 k2 => q b H2 Γ2 (l1.trans l2) k2)
    | true => exact iteT (q true H1 Γ1 l1 (by simpa using k1))
theorem tx_test (h : Wx Γ ta ρ fun Γ' e => ∃ b, e = .dat (.bool b) ∧ KB Γ' b) : Wtx Γ (tTest ta) ρ KB := fun σ H j n Q q =>
  h σ H j n _ fun v H1 Γ1 x l1 i1 ⟨b, ex, k⟩ => by subst ex; exact ⟨b, At.of_bl i1, q b H1 Γ1 l1 k⟩
theorem x_ne (h : Wx Γ ta ρ fun Γ' x => We (MG Γ') tb ρ fun y => ∃ d d' v v', x = .dat d ∧ y = .dat d' ∧ sc d = some v ∧ sc d' = some v' ∧ scal v v' = true ∧ K Γ' (.dat (.bool (!decide (v = v'))))) : Wx Γ (tOp rNe ta tb) ρ K := fun σ H j n Q q =>
  h σ H j n _ fun v H1 Γ1 x l1 i1 k1 => k1 σ H1 l1.j (n.lg j l1) _ fun u H2 y l2 i2 ⟨d, d', w, w', ex, ey, sd, sd', cc, k⟩ => by
    subst ex ey
    have z1 : v = w := At.sc i1 sd
    have z2 : u = w' := At.sc i2 sd'
    subst z1 z2
    exact ⟨cc, q _ H2 Γ1 _ (l1.trans (.of l2)) (Is.d (At.bl _)) k⟩
theorem m_ifx (h : Wtx Γ c ρ fun Γ' b => if b = true then Wm Γ' t ρ P else Wm Γ' u ρ P) : Wm Γ (tIfS c t u) ρ P := fun D σ H j n a b c' d =>
  h σ H j n _ fun x H1 Γ1 l k => by
    have n1 := n.lg j l
    cases x with
    | true => exact iteT ((show Wm Γ1 t ρ P from by simpa using k) D σ H1 l.j n1 (HitG.lg a l) (HitE.lg b l) (HitG.lg c' l) (HitG.lg d l))
    | false => exact iteF ((show Wm Γ1 u ρ P from by simpa using k) D σ H1 l.j n1 (HitG.lg a l) (HitE.lg b l) (HitG.lg c' l) (HitG.lg d l))
theorem x_setd (i : Nat) (h : We (MG Γ) ta ρ fun x => ∃ a ks kvs, x = .raw (.ref a) ∧ Γ[i]? = some (a, .d ks kvs) ∧ We (MG Γ) tb ρ fun y => We (MG Γ) tc ρ fun z => ∃ k d, y = .dat (.int k) ∧ z = .dat d ∧ kvs.length < 1000000 ∧
    (∀ d', lookD kvs k = some d' → K Γ (.dat d')) ∧ (lookD kvs k = none → ∀ ks', K (Γ.set i (a, .d ks' (kvs ++ [(k, d)]))) (.dat d))) : Wx Γ (tDSetd ta tb tc) ρ K := fun σ H j n Q q =>
  h σ H j n _ fun v H1 x l1 i1 ⟨a, ks, kvs, ex, hi, k1⟩ => by
    subst ex
    obtain rfl : v = .ref a := i1
    have n1 := n.le j l1
    refine ⟨a, rfl, .inl ⟨ks, Rd.of (JG.at l1.2 hi).1⟩, k1 σ H1 l1.2 n1 _ fun u H2 y l2 i2 k2 => k2 σ H2 l2.2 (n1.le l1.2 l2) _ fun w H3 z l3 i3 ⟨k, d, ey, ez, hz, g1, g2⟩ => ?_⟩
    subst ey ez
    obtain ⟨c1, c2⟩ := JG.at l3.2 hi
    have lb := Lg.of ((l1.trans l2).trans l3)
    refine ⟨ks, .inl k, c1, At.of_int i2, by rw [Paired.length c2, sizeLine_eq]; omega, fun v hv => ?_, fun hn => ?_⟩
    · cases e : lookD kvs k with
      | none => rw [(lookD_at k c2).2 e] at hv; cases hv
      | some d' =>
        obtain ⟨v', hv', az⟩ := (lookD_at k c2).1 d' e
        rw [hv] at hv'
        obtain rfl := Option.some.inj hv'
        exact q _ H3 Γ _ lb (Is.d az) (g1 d' e)
    · have e : lookD kvs k = none := by
        cases e : lookD kvs k with
        | none => rfl
        | some d' =>
          obtain ⟨v', hv', _⟩ := (lookD_at k c2).1 d' e
          rw [hn] at hv'; cases hv'
      rw [putK_none hn]
      have kt : KT H3 (upd H3 a (.dK (ks ++ [(.inl k, w)]))) := fun b ys e => by rw [upd_ne (ne_of e c1 (by intro z; cases z))]; exact e
      have wr := lb.j.write (c' := .d (ks ++ [(.inl k, w)]) (kvs ++ [(k, d)])) (o := .dK (ks ++ [(.inl k, w)])) hi (fun _ e => by cases e) ⟨upd_same, (dic_snoc i3 c2).keep kt⟩
      exact q _ _ _ _ (lb.trans wr) (Is.d (At.keep kt i3)) (g2 e _)
theorem x_setdT (i : Nat) (h : We (MG Γ) ta ρ fun x => ∃ a ks kvs, x = .raw (.ref a) ∧ Γ[i]? = some (a, .t ks kvs) ∧ We (MG Γ) tb ρ fun y => We (MG Γ) tc ρ fun z => ∃ k k2 d, y = .dat (.tuple [.int k, .int k2]) ∧ z = .dat d ∧ kvs.length < 1000000 ∧
    (∀ d', lookT kvs [.inl k, .inl k2] = some d' → K Γ (.dat d')) ∧ (lookT kvs [.inl k, .inl k2] = none → ∀ ks', K (Γ.set i (a, .t ks' (kvs ++ [([.inl k, .inl k2], d)]))) (.dat d))) : Wx Γ (tDSetdT ta tb tc) ρ K := fun σ H j n Q q =>
  h σ H j n _ fun v H1 x l1 i1 ⟨a, ks, kvs, ex, hi, k1⟩ => by
    subst ex
    obtain rfl : v = .ref a := i1
    have n1 := n.le j l1
    refine ⟨a, rfl, .inr ⟨ks, Rd.of (JG.at l1.2 hi).1⟩, k1 σ H1 l1.2 n1 _ fun u H2 y l2 i2 k2 => k2 σ H2 l2.2 (n1.le l1.2 l2) _ fun w H3 z l3 i3 ⟨k, k', d, ey, ez, hz, g1, g2⟩ => ?_⟩
    subst ey ez
    obtain ⟨c1, c2⟩ := JG.at l3.2 hi
    have lb := Lg.of ((l1.trans l2).trans l3)
    obtain ⟨b, ys, rfl, hb, r⟩ := At.of_tup (At.keep (l3.kt l2.2) i2)
    obtain rfl : ys = [V.int k, V.int k'] := AtS.ints (ns := [k, k']) r
    refine ⟨ks, [.inl k, .inl k'], b, c1, rfl, hb, by rw [Paired.length c2, sizeLine_eq]; omega, fun v hv => ?_, fun hn => ?_⟩
    · cases e : lookT kvs [.inl k, .inl k'] with
      | none => rw [(lookT_at _ c2).2 e] at hv; cases hv
      | some d' =>
        obtain ⟨v', hv', az⟩ := (lookT_at _ c2).1 d' e
        rw [hv] at hv'
        obtain rfl := Option.some.inj hv'
        exact q _ H3 Γ _ lb (Is.d az) (g1 d' e)
    · have e : lookT kvs [.inl k, .inl k'] = none := by
        cases e : lookT kvs [.inl k, .inl k'] with
        | none => rfl
        | some d' =>
          obtain ⟨v', hv', _⟩ := (lookT_at _ c2).1 d' e
          rw [hn] at hv'; cases hv'
      rw [putK_none hn]
      have kt : KT H3 (upd H3 a (.dT (ks ++ [([.inl k, .inl k'], w)]))) := fun b ys e => by rw [upd_ne (ne_of e c1 (by intro z; cases z))]; exact e
      have wr := lb.j.write (c' := .t (ks ++ [([.inl k, .inl k'], w)]) (kvs ++ [([.inl k, .inl k'], d)])) (o := .dT (ks ++ [([.inl k, .inl k'], w)])) hi (fun _ e => by cases e) ⟨upd_same, (dit_snoc i3 c2).keep kt⟩
      exact q _ _ _ _ (lb.trans wr) (Is.d (At.keep kt i3)) (g2 e _)
end
end TW
/-! K28P6 -/
namespace TW
open PySem PySem.Spec PyProof.Rows L2
local macro_rules | `(tactic| walk_at "k28 d") => `(tactic| first
  | refine w_var rfl ?_ | with_reducible refine w_int ?_ | with_reducible refine w_str ?_ | with_reducible refine w_non ?_ | with_reducible refine w_bl ?_
  | with_reducible refine w_ixT ?_ | with_reducible refine w_ixL ?_ | with_reducible refine w_add ?_ | with_reducible refine w_sub ?_ | with_reducible refine w_eq ?_ | with_reducible refine w_ne ?_ | with_reducible refine w_lt ?_
  | with_reducible refine w_leq ?_ | with_reducible refine w_gt ?_ | with_reducible refine w_ge ?_ | with_reducible refine w_mul ?_ | with_reducible refine w_div ?_ | with_reducible refine w_mod ?_ | with_reducible refine w_pow ?_
  | with_reducible refine w_neg ?_ | with_reducible refine w_isN ?_ | with_reducible refine w_notN ?_ | with_reducible refine a_nil ?_ | with_reducible refine a_cons ?_ | with_reducible refine w_tup ?_ | with_reducible refine w_lst ?_
  | with_reducible refine w_call0 ?_ | with_reducible refine w_len ?_ | with_reducible refine w_sumM ?_ | with_reducible refine w_allM ?_ | with_reducible refine w_tuple ?_ | with_reducible refine w_abs ?_ | with_reducible refine w_toInt ?_ | with_reducible refine w_max2 ?_
  | with_reducible refine w_min2 ?_ | with_reducible refine t_test ?_ | with_reducible refine t_B ?_ | with_reducible refine t_and ?_ | with_reducible refine t_or ?_ | with_reducible refine t_not ?_ | with_reducible refine t_yes ?_
  | with_reducible refine w_andV ?_ | with_reducible refine w_orV ?_ | with_reducible refine w_notV ?_ | with_reducible refine w_if ?_ | with_reducible refine w_chain ?_ | with_reducible refine o_none ?_ | with_reducible refine o_some ?_
  | with_reducible refine w_slT ?_ | with_reducible refine w_slL ?_ | with_reducible refine w_catT ?_ | with_reducible refine w_catL ?_ | with_reducible refine w_dget ?_ | with_reducible refine w_din ?_ | with_reducible refine w_dnotin ?_ | with_reducible refine w_sortD ?_ | with_reducible refine w_sortI ?_ | with_reducible refine w_callq ?_ | with_reducible refine w_isB ?_
  | with_reducible refine w_notB ?_ | with_reducible refine g_name ?_ | refine gs_nil rfl ?_ | refine gs_cons rfl ?_ | with_reducible refine s_next ?_ | with_reducible refine s_seq ?_ | with_reducible refine s_asg ?_
  | with_reducible refine s_drop ?_ | with_reducible refine s_ret ?_ | with_reducible refine s_brk ?_ | with_reducible refine s_if ?_)
local macro_rules | `(tactic| walk_at "k28 x") => `(tactic| first
  | refine g_tup ⟨_, rfl, rfl, ?_⟩ | refine ⟨_, _, _, _, rfl, rfl, rfl, rfl, rfl, ?_⟩ | refine ⟨_, _, _, rfl, rfl, rfl, ?_⟩ | refine ⟨_, _, _, rfl, rfl, atI_nat (j := 0) rfl, ?_⟩ | refine ⟨_, _, _, rfl, ?_⟩ | refine ⟨_, _, rfl, rfl, by decide, ?_⟩ | refine ⟨_, _, rfl, rfl, ⟨by decide, by decide⟩, ?_⟩ | refine ⟨_, _, rfl, rfl, ⟨by decide, by decide, by decide⟩, ?_⟩ | refine ⟨_, _, rfl, rfl, .inl ⟨by decide, by decide⟩, ?_⟩ | refine ⟨_, _, rfl, rfl, .inr ⟨by decide, by decide⟩, ?_⟩ | refine ⟨_, _, rfl, rfl, ?_⟩ | refine ⟨_, _, rfl, ?_⟩ | refine ⟨_, (show undats _ = some _ from rfl), by simp, ?_⟩ | refine ⟨_, rfl, ?_⟩ | refine ⟨_, .inl rfl, ?_⟩ | refine ⟨_, .inr rfl, ?_⟩ | refine ⟨_, _, rfl, rfl, ?_, ?_⟩)
local macro_rules | `(tactic| walk_at "k28 t") => `(tactic| first | rw [if_pos (by decide)] | rw [if_neg (by decide)] | rw [if_pos (by simp)] | rw [if_neg (by simp)])
local macro_rules | `(tactic| walk_at "k28") => `(tactic| repeat (first | walk_at "k28 d" | walk_at "k28 x" | exact rfl))
local macro_rules | `(tactic| walk_at "k28 s") => `(tactic| repeat (first | (fail_if_success with_reducible refine s_if ?_); (first | walk_at "k28 d" | walk_at "k28 x" | exact rfl)))
local macro_rules | `(tactic| walk_at "k28 o") => `(tactic| first
  | with_reducible refine w_dnotinO ?_ | with_reducible refine w_dgetO ?_ | with_reducible refine w_dget2O ?_ | with_reducible refine w_lenO ?_ | with_reducible refine w_tupleO ?_ | with_reducible refine w_notInO ?_ | with_reducible refine w_ixO ?_ | with_reducible refine w_fld ?_
  | refine ⟨_, _, _, rfl, rfl, .of (.head _), ?_⟩ | refine ⟨_, _, _, rfl, rfl, .of (.tail _ (.head _)), ?_⟩ | refine ⟨_, _, rfl, .of (.head _), ?_⟩ | refine ⟨_, _, rfl, .of (.tail _ (.head _)), ?_⟩)
local macro_rules | `(tactic| walk_at "k28 w") => `(tactic| first | with_reducible refine m_next ?_ | with_reducible refine m_seq ?_ | with_reducible refine m_asg (x_dnew fun p => ?_) | with_reducible refine m_asg (x_dnewT fun p => ?_) | with_reducible refine m_asg (x_lst ?_) | with_reducible refine m_asgP ?_ | with_reducible refine m_if ?_ | with_reducible refine m_retP ?_)
local macro_rules | `(tactic| walk_at "k28 m") => `(tactic| repeat (first | walk_at "k28 w" | walk_at "k28 o" | walk_at "k28 d" | walk_at "k28 x" | exact rfl))
local macro_rules | `(tactic| walk_at "k28 g") => `(tactic| repeat (first | with_reducible refine w_take ?_ | with_reducible refine w_word ?_ | with_reducible refine w_calld ?_ | with_reducible refine w_callgq ?_ | with_reducible refine w_addS ?_ | with_reducible refine w_ixS ?_ | with_reducible refine w_catL ?_ | walk_at "k28 w" | walk_at "k28 d" | refine ⟨_, _, rfl, .head _, (by first | decide | omega | simp | (simp only [List.length_map]; omega)), fun (r : Int) (r1 : 0 ≤ r) (r2 : r < _) => ?_⟩ | refine ⟨_, rfl, fun (s : Str) (sw : Wdn 60 s) => ?_⟩ | walk_at "k28 x" | exact rfl))
local macro_rules | `(tactic| walk_at "k28 f") => `(tactic| first
  | refine wf (Txt.c_Source (by assumption)) (Txt.n_meter (by assumption)) rfl lk_meter ?_ | refine wf (Txt.c_Source (by assumption)) (Txt.n_offset (by assumption)) rfl lk_offset ?_ | refine wf (Txt.c_Source (by assumption)) (Txt.n_slots (by assumption)) rfl lk_slots ?_ | refine wf (Txt.c_Source (by assumption)) (Txt.n_closed_number (by assumption)) rfl lk_closed_number ?_ | refine wf (Txt.c_Source (by assumption)) (Txt.n_closed_stamp (by assumption)) rfl lk_closed_stamp ?_ | refine wf (Txt.c_Source (by assumption)) (Txt.n_due (by assumption)) rfl lk_due ?_)
local macro_rules | `(tactic| walk_at "k28 n") => `(tactic| repeat (first | walk_at "k28 w" | walk_at "k28 f" | walk_at "k28 d" | walk_at "k28 x" | exact rfl))
local macro_rules | `(tactic| walk_at "k28 p") => `(tactic| first
  | with_reducible refine w_lenO ?_ | with_reducible refine w_tupleO ?_ | with_reducible refine w_ixO ?_
  | refine ⟨_, _, rfl, .of (.tail _ (.head _)), ?_⟩ | refine ⟨_, _, rfl, .of (.tail _ (.tail _ (.head _))), ?_⟩)
local macro_rules | `(tactic| walk_at "k28 q") => `(tactic| repeat (first | walk_at "k28 w" | walk_at "k28 f" | walk_at "k28 p" | walk_at "k28 d" | walk_at "k28 x" | exact rfl))
section
variable {P : Program} {w : World} {K : PySem.W.Frag} {mg : Str → Option Value} {base : Heap}
theorem mem_lookT {kvs : List (List Key × Dt)} {i : List Key} {d : Dt} (h : lookT kvs i = some d) : (i, d) ∈ kvs := by
  unfold lookT at h
  obtain ⟨q, hq, rfl⟩ := Option.map_eq_some_iff.mp h
  have e : q.1 = i := by simpa using List.find?_some hq
  rw [← e]
  exact List.mem_of_find?_eq_some hq
theorem Wtx.imp {Γ : Gs} {c : TT} {ρ : Ro} {K K' : Gs → Bool → Prop} (h : Wtx Γ c ρ K) (k : ∀ Γ b, K Γ b → K' Γ b) : Wtx Γ c ρ K' := fun σ H j n Q q => h σ H j n Q fun b H2 Γ2 l x => q b H2 Γ2 l (k Γ2 b x)
theorem sc_reads_right : FnScope ["meter", "reads", "stamps", "values", "kind", "name", "slot", "version", "stamp", "value"] ["meter", "reads"] (defScope s_reads_right) := ⟨rfl, rfl, rfl, by decide +kernel, rfl, by decide +kernel, by decide +kernel⟩
structure GRr where
  nm : Str
  us : List Let
  m : Meter
  ss : List Slot
def ARr (g : GRr) (es : List En1) : Prop := es = [.dat g.m.d, .lst (g.us.map (Let.d g.nm))] ∧ g.us.length ≤ 60 ∧ SsOk g.m g.ss ∧ ∀ l ∈ g.us, isRd l = true ∧ Tr 0 g.ss l
theorem ok_reads_right (T : Txt K mg) : Ok P w K mg base CX0 1 "reads_right" (He.ga K "reads_right") ["meter", "reads"] (psq ARr STrue) := by
  obtain ⟨fd, F⟩ := T.F_reads_right
  refine ⟨⟨fd, ok_ownq F sc_reads_right (fun g es h => by rw [h.1]; rfl) (fun cdv A outer s H E hr => ⟨_, (pss_cons (ps_set (i := 2) sc_reads_right.nd rfl (Or.inl rfl) pe_dnewK) (pss_cons (ps_set (i := 3) sc_reads_right.nd rfl (Or.inl rfl) pe_dnewT) (pss_cons (ps_for PassesOwn.never rfl (kiList (K := K) rfl (pv 1)) (kgTup (K := K) (n := 6) rfl rfl (pgs_cons (pg_name (i := 4) sc_reads_right.nd rfl (Or.inl rfl)) (pgs_cons (pg_name (i := 5) sc_reads_right.nd rfl (Or.inl rfl)) (pgs_cons (pg_name (i := 6) sc_reads_right.nd rfl (Or.inl rfl)) (pgs_cons (pg_name (i := 7) sc_reads_right.nd rfl (Or.inl rfl)) (pgs_cons (pg_name (i := 8) sc_reads_right.nd rfl (Or.inl rfl)) (pgs_cons (pg_name (i := 9) sc_reads_right.nd rfl (Or.inl rfl)) pgs_nil))))))) (pss_cons (ps_if (PW.pt (pw_and (pt_cmpR op_isN (pv 9) pe_non (nomark _)) (pw_and1 (pt_cmpR op_eq (pv 7) pe_int (nomark _))))) (pss_one (ps_ret pe_bl)) pss_nil) (pss_cons (ps_if (PW.pt (pw_and (pt_cmpR op_notN (pv 9) pe_non (nomark _)) (pw_and1 (pt_not (pt_chain op_le op_le (pe_ix (kIxT (K := K) rfl) (pv 0) pe_int (fun _ _ => rfl)) (pv 9) (pe_ix (kIxT (K := K) rfl) (pv 0) pe_int (fun _ _ => rfl))))))) (pss_one (ps_ret pe_bl)) pss_nil) (pss_one (ps_if (PW.pt (pw_or (pt_cmpR op_ne (pe_dsetd (pv 2) (pv 6) (pv 8) ⟨rfl, rfl, rfl, rfl⟩) (pv 8) (nomark _)) (pw_or1 (pt_cmpR op_ne (pe_dsetdT (hu_of hr) (pv 3) (pe_tup (pa_cons (pv 6) (pa_cons (pv 7) pa_nil))) (pv 9) ⟨rfl, rfl, rfl, rfl⟩) (pv 9) (nomark _))))) (pss_one (ps_ret pe_bl)) pss_nil))))) (pss_one (ps_ret pe_bl))))), fun g es r => ?_⟩), (F.bindsN fun _ _ _ _ _ _ us hl => match us, hl with | [_, _], _ => rfl)⟩, T.g_reads_right, F.kp⟩
  obtain ⟨nm, us, m, ss⟩ := g
  obtain ⟨rfl, hz, S, ht⟩ := r
  dsimp only at hz S ht ⊢
  walk_at "k28 m"
  rename_i p p2
  refine m_forL (F := Let.d nm) ?_
  walk_at "k28"
  refine ⟨fun i Γ' ρ' => Hid (∃ (p p2 : Addr) (ks : List (Key × V)) (kvs : List (Int × Dt)) (ks2 : List (List Key × V)) (kvs2 : List (List Key × Dt)) (a b c d e f : Option En1), Γ' = [(p, .d ks kvs), (p2, .t ks2 kvs2)] ∧ ρ' = [some (.dat m.d), some (.lst (us.map (Let.d nm))), some (.raw (.ref p)), some (.raw (.ref p2)), a, b, c, d, e, f] ∧
    kvs.length ≤ i ∧ kvs2.length ≤ i ∧ (∀ q ∈ kvs, ∃ (s : Nat) (sl : Slot), 1 ≤ s ∧ ss[s - 1]? = some sl ∧ q = ((s : Int), .int sl.1)) ∧ ∀ q ∈ kvs2, ∃ (s v : Nat) (sl : Slot) (x : Option Int), 1 ≤ s ∧ ss[s - 1]? = some sl ∧ sl.2[v]? = some x ∧ q = ([.inl (s : Int), .inl (v : Int)], optD x)),
    hid ⟨_, _, _, _, _, _, none, none, none, none, none, none, rfl, rfl, Nat.le_refl _, Nat.le_refl _, fun q hq => (by cases hq), fun q hq => (by cases hq)⟩, ?_, ?_⟩
  · intro i l Γ' ρ' hi hI
    obtain ⟨p, p2, ks, kvs, ks2, kvs2, a, b, c, d, e, f, rfl, rfl, z1, z2, g1, g2⟩ := hI.out
    have il := (List.getElem?_eq_some_iff.mp hi).1
    obtain ⟨rd, tr⟩ := ht l (List.mem_of_getElem? hi)
    cases l with
    | close k st vs => cases rd
    | clock lo hi => cases rd
    | read s v st x =>
      obtain ⟨sl, s1, hs, e1, hv⟩ := tr
      subst e1
      have vo := S.vs _ (List.mem_of_getElem? hs)
      walk_at "k28"
      refine m_seq (m_if (t_is false ?_ ?_))
      · cases x with
        | some y => walk_at "k28"
        | none =>
          walk_at "k28"
          rw [if_pos (by simp [isN])]
          walk_at "k28"
          obtain ⟨y, r, er⟩ := vo.first
          rw [er] at hv
          cases v with
          | zero => cases hv
          | succ v => simp; omega
      rw [if_neg (by simp)]
      refine m_next (m_seq (m_if (t_is false ?_ ?_)))
      · cases x with
        | none => walk_at "k28"
        | some y =>
          walk_at "k28"
          rw [if_pos (by simp [isN])]
          obtain ⟨q1, q2⟩ := vo.inr _ (List.mem_of_getElem? hv)
          walk_at "k28"
          rw [if_pos (by simpa using q1)]
          walk_at "k28"
          simp [q2]
      rw [if_neg (by simp)]
      refine m_next ?_
      obtain ⟨xv, sx, sx2⟩ := scx x
      have ssl : ∀ d', lookD kvs (s : Int) = some d' → d' = .int sl.1 := fun d' e => by
        obtain ⟨s', sl', _, hs', eq⟩ := g1 _ (mem_lookD e)
        obtain ⟨e3, rfl⟩ := Prod.mk.inj eq
        obtain rfl : s = s' := by omega
        rw [hs] at hs'
        obtain rfl := Option.some.inj hs'
        rfl
      have fin : ∀ (ks : List (Key × V)) (kvs : List (Int × Dt)), kvs.length ≤ i + 1 → (∀ q ∈ kvs, ∃ (s : Nat) (sl : Slot), 1 ≤ s ∧ ss[s - 1]? = some sl ∧ q = ((s : Int), .int sl.1)) →
          Wtx [(p, .d ks kvs), (p2, .t ks2 kvs2)] (tTest (tOp rNe (tDSetdT (tVar 3) (tTup (tCons (tVar 6) (tCons (tVar 7) tNil))) (tVar 9)) (tVar 9))) [some (.dat m.d), some (.lst (us.map (Let.d nm))), some (.raw (.ref p)), some (.raw (.ref p2)), some (.dat (.str "read")), some (.dat (.str nm)), some (.dat (.int s)), some (.dat (.int v)), some (.dat (.int sl.1)), some (.dat (optD x))] fun Γ' b => b = false ∧
            ∃ (ks : List (Key × V)) (kvs : List (Int × Dt)) (ks2 : List (List Key × V)) (kvs2 : List (List Key × Dt)), Γ' = [(p, .d ks kvs), (p2, .t ks2 kvs2)] ∧ kvs.length ≤ i + 1 ∧ kvs2.length ≤ i + 1 ∧ (∀ q ∈ kvs, ∃ (s : Nat) (sl : Slot), 1 ≤ s ∧ ss[s - 1]? = some sl ∧ q = ((s : Int), .int sl.1)) ∧ ∀ q ∈ kvs2, ∃ (s v : Nat) (sl : Slot) (x : Option Int), 1 ≤ s ∧ ss[s - 1]? = some sl ∧ sl.2[v]? = some x ∧ q = ([.inl (s : Int), .inl (v : Int)], optD x) := by
        intro ks kvs z1 g1
        refine tx_test (x_ne (x_setdT 1 ?_))
        walk_at "k28"
        refine ⟨_, _, _, rfl, rfl, ?_⟩
        walk_at "k28"
        refine ⟨_, _, _, rfl, rfl, by omega, fun d' e => ?_, fun e ks' => ?_⟩
        · have q := mem_lookT e
          obtain ⟨s', v', sl', x', _, hs', hv', eq⟩ := g2 _ q
          obtain ⟨e3, rfl⟩ := Prod.mk.inj eq
          have e4 : (s : Int) = s' ∧ (v : Int) = v' := by simpa using e3
          obtain rfl : s = s' := by omega
          obtain rfl : v = v' := by omega
          rw [hs] at hs'
          obtain rfl := Option.some.inj hs'
          rw [hv] at hv'
          obtain rfl := Option.some.inj hv'
          walk_at "k28"
          refine ⟨_, _, _, _, rfl, rfl, sx, sx, sx2, _, rfl, by simp, ks, kvs, ks2, kvs2, rfl, z1, by omega, g1, g2⟩
        · walk_at "k28"
          refine ⟨_, _, _, _, rfl, rfl, sx, sx, sx2, _, rfl, by simp, ks, kvs, ks', _, rfl, z1, ?_, g1, fun q hq => ?_⟩
          · rw [List.length_append]
            simp only [List.length_cons, List.length_nil]
            omega
          · rcases List.mem_append.mp hq with hq | hq
            · exact g2 q hq
            · exact ⟨s, v, sl, x, s1, hs, hv, List.mem_singleton.mp hq⟩
      refine m_ifx (Wtx.imp (K := fun Γ' b => b = false ∧
            ∃ (ks : List (Key × V)) (kvs : List (Int × Dt)) (ks2 : List (List Key × V)) (kvs2 : List (List Key × Dt)), Γ' = [(p, .d ks kvs), (p2, .t ks2 kvs2)] ∧ kvs.length ≤ i + 1 ∧ kvs2.length ≤ i + 1 ∧ (∀ q ∈ kvs, ∃ (s : Nat) (sl : Slot), 1 ≤ s ∧ ss[s - 1]? = some sl ∧ q = ((s : Int), .int sl.1)) ∧ ∀ q ∈ kvs2, ∃ (s v : Nat) (sl : Slot) (x : Option Int), 1 ≤ s ∧ ss[s - 1]? = some sl ∧ sl.2[v]? = some x ∧ q = ([.inl (s : Int), .inl (v : Int)], optD x)) ?_ ?_)
      · refine tx_or (tx_test (x_ne (x_setd 0 ?_)))
        walk_at "k28"
        refine ⟨_, _, _, rfl, rfl, ?_⟩
        walk_at "k28"
        refine ⟨by omega, fun d' e => ?_, fun e ks' => ?_⟩
        · rw [ssl d' e]
          walk_at "k28"
          rw [if_neg (by simp)]
          exact fin ks kvs (by omega) g1
        · walk_at "k28"
          rw [if_neg (by simp)]
          refine fin _ _ ?_ fun q hq => ?_
          · rw [List.length_append]
            simp only [List.length_cons, List.length_nil]
            omega
          · rcases List.mem_append.mp hq with hq | hq
            · exact g1 q hq
            · exact ⟨s, sl, s1, hs, List.mem_singleton.mp hq⟩
      · rintro Γ' b ⟨rfl, ks, kvs, ks2, kvs2, rfl, z1, z2, g1, g2⟩
        rw [if_neg (by simp)]
        refine m_next (hid ⟨_, _, _, _, _, _, _, _, _, _, _, _, rfl, rfl, z1, z2, g1, g2⟩)
  · intro Γ' ρ' hI
    obtain ⟨p, p2, ks, kvs, ks2, kvs2, a, b, c, d, e, f, rfl, rfl, z1, z2, g1, g2⟩ := hI.out
    walk_at "k28 m"
    exact ⟨_, .same _, rfl⟩
end
end TW
/-! K28P7 -/
namespace TW
open PySem PySem.Spec PyProof.Rows L2
local macro_rules | `(tactic| walk_at "k28 d") => `(tactic| first
  | refine w_var rfl ?_ | with_reducible refine w_int ?_ | with_reducible refine w_str ?_ | with_reducible refine w_non ?_ | with_reducible refine w_bl ?_
  | with_reducible refine w_ixT ?_ | with_reducible refine w_ixL ?_ | with_reducible refine w_add ?_ | with_reducible refine w_sub ?_ | with_reducible refine w_eq ?_ | with_reducible refine w_ne ?_ | with_reducible refine w_lt ?_
  | with_reducible refine w_leq ?_ | with_reducible refine w_gt ?_ | with_reducible refine w_ge ?_ | with_reducible refine w_mul ?_ | with_reducible refine w_div ?_ | with_reducible refine w_mod ?_ | with_reducible refine w_pow ?_
  | with_reducible refine w_neg ?_ | with_reducible refine w_isN ?_ | with_reducible refine w_notN ?_ | with_reducible refine a_nil ?_ | with_reducible refine a_cons ?_ | with_reducible refine w_tup ?_ | with_reducible refine w_lst ?_
  | with_reducible refine w_call0 ?_ | with_reducible refine w_len ?_ | with_reducible refine w_sumM ?_ | with_reducible refine w_allM ?_ | with_reducible refine w_tuple ?_ | with_reducible refine w_abs ?_ | with_reducible refine w_toInt ?_ | with_reducible refine w_max2 ?_
  | with_reducible refine w_min2 ?_ | with_reducible refine t_test ?_ | with_reducible refine t_B ?_ | with_reducible refine t_and ?_ | with_reducible refine t_or ?_ | with_reducible refine t_not ?_ | with_reducible refine t_yes ?_
  | with_reducible refine w_andV ?_ | with_reducible refine w_orV ?_ | with_reducible refine w_notV ?_ | with_reducible refine w_if ?_ | with_reducible refine w_chain ?_ | with_reducible refine o_none ?_ | with_reducible refine o_some ?_
  | with_reducible refine w_slT ?_ | with_reducible refine w_slL ?_ | with_reducible refine w_catT ?_ | with_reducible refine w_catL ?_ | with_reducible refine w_dget ?_ | with_reducible refine w_din ?_ | with_reducible refine w_dnotin ?_ | with_reducible refine w_sortD ?_ | with_reducible refine w_sortI ?_ | with_reducible refine w_callq ?_ | with_reducible refine w_isB ?_
  | with_reducible refine w_notB ?_ | with_reducible refine g_name ?_ | refine gs_nil rfl ?_ | refine gs_cons rfl ?_ | with_reducible refine s_next ?_ | with_reducible refine s_seq ?_ | with_reducible refine s_asg ?_
  | with_reducible refine s_drop ?_ | with_reducible refine s_ret ?_ | with_reducible refine s_brk ?_ | with_reducible refine s_if ?_)
local macro_rules | `(tactic| walk_at "k28 x") => `(tactic| first
  | refine g_tup ⟨_, rfl, rfl, ?_⟩ | refine ⟨_, _, _, _, rfl, rfl, rfl, rfl, rfl, ?_⟩ | refine ⟨_, _, _, rfl, rfl, rfl, ?_⟩ | refine ⟨_, _, _, rfl, rfl, atI_nat (j := 0) rfl, ?_⟩ | refine ⟨_, _, _, rfl, ?_⟩ | refine ⟨_, _, rfl, rfl, by decide, ?_⟩ | refine ⟨_, _, rfl, rfl, ⟨by decide, by decide⟩, ?_⟩ | refine ⟨_, _, rfl, rfl, ⟨by decide, by decide, by decide⟩, ?_⟩ | refine ⟨_, _, rfl, rfl, .inl ⟨by decide, by decide⟩, ?_⟩ | refine ⟨_, _, rfl, rfl, .inr ⟨by decide, by decide⟩, ?_⟩ | refine ⟨_, _, rfl, rfl, ?_⟩ | refine ⟨_, _, rfl, ?_⟩ | refine ⟨_, (show undats _ = some _ from rfl), by simp, ?_⟩ | refine ⟨_, rfl, ?_⟩ | refine ⟨_, .inl rfl, ?_⟩ | refine ⟨_, .inr rfl, ?_⟩ | refine ⟨_, _, rfl, rfl, ?_, ?_⟩)
local macro_rules | `(tactic| walk_at "k28 t") => `(tactic| first | rw [if_pos (by decide)] | rw [if_neg (by decide)] | rw [if_pos (by simp)] | rw [if_neg (by simp)])
local macro_rules | `(tactic| walk_at "k28") => `(tactic| repeat (first | walk_at "k28 d" | walk_at "k28 x" | exact rfl))
local macro_rules | `(tactic| walk_at "k28 s") => `(tactic| repeat (first | (fail_if_success with_reducible refine s_if ?_); (first | walk_at "k28 d" | walk_at "k28 x" | exact rfl)))
local macro_rules | `(tactic| walk_at "k28 o") => `(tactic| first
  | with_reducible refine w_dnotinO ?_ | with_reducible refine w_dgetO ?_ | with_reducible refine w_dget2O ?_ | with_reducible refine w_lenO ?_ | with_reducible refine w_tupleO ?_ | with_reducible refine w_notInO ?_ | with_reducible refine w_ixO ?_ | with_reducible refine w_fld ?_
  | refine ⟨_, _, _, rfl, rfl, .of (.head _), ?_⟩ | refine ⟨_, _, _, rfl, rfl, .of (.tail _ (.head _)), ?_⟩ | refine ⟨_, _, rfl, .of (.head _), ?_⟩ | refine ⟨_, _, rfl, .of (.tail _ (.head _)), ?_⟩)
local macro_rules | `(tactic| walk_at "k28 w") => `(tactic| first | with_reducible refine m_next ?_ | with_reducible refine m_seq ?_ | with_reducible refine m_asg (x_dnew fun p => ?_) | with_reducible refine m_asg (x_dnewT fun p => ?_) | with_reducible refine m_asg (x_lst ?_) | with_reducible refine m_asgP ?_ | with_reducible refine m_if ?_ | with_reducible refine m_retP ?_)
local macro_rules | `(tactic| walk_at "k28 m") => `(tactic| repeat (first | walk_at "k28 w" | walk_at "k28 o" | walk_at "k28 d" | walk_at "k28 x" | exact rfl))
local macro_rules | `(tactic| walk_at "k28 g") => `(tactic| repeat (first | with_reducible refine w_take ?_ | with_reducible refine w_word ?_ | with_reducible refine w_calld ?_ | with_reducible refine w_callgq ?_ | with_reducible refine w_addS ?_ | with_reducible refine w_ixS ?_ | with_reducible refine w_catL ?_ | walk_at "k28 w" | walk_at "k28 d" | refine ⟨_, _, rfl, .head _, (by first | decide | omega | simp | (simp only [List.length_map]; omega)), fun (r : Int) (r1 : 0 ≤ r) (r2 : r < _) => ?_⟩ | refine ⟨_, rfl, fun (s : Str) (sw : Wdn 60 s) => ?_⟩ | walk_at "k28 x" | exact rfl))
local macro_rules | `(tactic| walk_at "k28 f") => `(tactic| first
  | refine wf (Txt.c_Source (by assumption)) (Txt.n_meter (by assumption)) rfl lk_meter ?_ | refine wf (Txt.c_Source (by assumption)) (Txt.n_offset (by assumption)) rfl lk_offset ?_ | refine wf (Txt.c_Source (by assumption)) (Txt.n_slots (by assumption)) rfl lk_slots ?_ | refine wf (Txt.c_Source (by assumption)) (Txt.n_closed_number (by assumption)) rfl lk_closed_number ?_ | refine wf (Txt.c_Source (by assumption)) (Txt.n_closed_stamp (by assumption)) rfl lk_closed_stamp ?_ | refine wf (Txt.c_Source (by assumption)) (Txt.n_due (by assumption)) rfl lk_due ?_)
local macro_rules | `(tactic| walk_at "k28 n") => `(tactic| repeat (first | walk_at "k28 w" | walk_at "k28 f" | walk_at "k28 d" | walk_at "k28 x" | exact rfl))
local macro_rules | `(tactic| walk_at "k28 p") => `(tactic| first
  | with_reducible refine w_lenO ?_ | with_reducible refine w_tupleO ?_ | with_reducible refine w_ixO ?_
  | refine ⟨_, _, rfl, .of (.tail _ (.head _)), ?_⟩ | refine ⟨_, _, rfl, .of (.tail _ (.tail _ (.head _))), ?_⟩)
local macro_rules | `(tactic| walk_at "k28 q") => `(tactic| repeat (first | walk_at "k28 w" | walk_at "k28 f" | walk_at "k28 p" | walk_at "k28 d" | walk_at "k28 x" | exact rfl))
section
variable {P : Program} {w : World} {K : PySem.W.Frag} {mg : Str → Option Value} {base : Heap}
theorem sc_meter_possible : FnScope ["plan", "meter", "letters", "name", "closes", "low", "high", "received", "limits", "part"] ["plan", "meter", "letters"] (defScope s_meter_possible) := ⟨rfl, rfl, rfl, by decide +kernel, rfl, by decide +kernel, by decide +kernel⟩
structure GMp where
  p : Plan
  o : Meter
  nm : Str
  us : List Let
  off : Int
  ss : List Slot
structure MpOk (g : GMp) : Prop where
  few : g.p.ms.length ≤ 1000
  fd : g.p.ms.find? (fun m => decide (m.name = g.o.name)) = some g.o
  off : -g.o.err ≤ g.off ∧ g.off ≤ g.o.err
  len : g.us.length ≤ 60
  ss : SsOk g.o g.ss
  tr : ∀ l ∈ abt g.nm g.o.name g.us, Tr g.off g.ss l
def AMp (g : GMp) (es : List En1) : Prop := es = [.dat g.p.d, .dat g.o.d, .lst (g.us.map (Let.d g.nm))] ∧ MpOk g
theorem ok_meter_possible (T : Txt K mg) : Ok P w K mg base CX0 3 "meter_possible" (He.ga K "meter_possible") ["plan", "meter", "letters"] (psq AMp STrue) := by
  obtain ⟨fd, F⟩ := T.F_meter_possible
  have o_closes_of := ok_closes_of (P := P) (w := w) (base := base) T
  have o_reads_right := ok_reads_right (P := P) (w := w) (base := base) T
  have o_reads_about := ok_reads_about (P := P) (w := w) (base := base) T
  have o_closes_right := ok_closes_right (P := P) (w := w) (base := base) T
  have o_offsets_of := ok_offsets_of (P := P) (w := w) (base := base) T
  have o_received_of := ok_received_of (P := P) (w := w) (base := base) T
  have o_limits_of := ok_limits_of (P := P) (w := w) (base := base) T
  have o_stamps_right := ok_stamps_right (P := P) (w := w) (base := base) T
  have o_hidden_in := ok_hidden_in (P := P) (w := w) (base := base) T
  refine ⟨⟨fd, ok_pureq F sc_meter_possible (fun g es h => by rw [h.1]; rfl) (fun cdv A outer s H E hr => ⟨_, (pss_cons (ps_set (i := 3) sc_meter_possible.nd rfl (Or.inl rfl) (pe_ix (kIxT (K := K) rfl) (pv 1) pe_int (fun _ _ => rfl))) (pss_cons (ps_set (i := 4) sc_meter_possible.nd rfl (Or.inl rfl) (pe_ok o_closes_of hr (by decide) (by rfl) (pa_cons (pv 2) (pa_cons (pv 3) pa_nil)))) (pss_cons (ps_if (PW.pt (pw_or (pt_not (pt_val (pe_ok o_reads_right hr (by decide) (by rfl) (pa_cons (pv 1) (pa_cons (pe_ok o_reads_about hr (by decide) (by rfl) (pa_cons (pv 2) (pa_cons (pv 3) pa_nil))) pa_nil))))) (pw_or1 (pt_not (pt_val (pe_ok o_closes_right hr (by decide) (by rfl) (pa_cons (pv 2) (pa_cons (pv 3) (pa_cons (pv 4) pa_nil))))))))) (pss_one (ps_ret pe_bl)) pss_nil) (pss_cons (ps_asg (pe_ok o_offsets_of hr (by decide) (by rfl) (pa_cons (pv 0) (pa_cons (pv 2) (pa_cons (pv 3) pa_nil)))) (kgTup (K := K) (n := 2) rfl rfl (pgs_cons (pg_name (i := 5) sc_meter_possible.nd rfl (Or.inl rfl)) (pgs_cons (pg_name (i := 6) sc_meter_possible.nd rfl (Or.inl rfl)) pgs_nil)))) (pss_cons (ps_set (i := 7) sc_meter_possible.nd rfl (Or.inr rfl) (pe_ok o_received_of hr (by decide) (by rfl) (pa_cons (pv 2) (pa_cons (pv 3) pa_nil)))) (pss_cons (ps_set (i := 8) sc_meter_possible.nd rfl (Or.inl rfl) (pe_ok o_limits_of hr (by decide) (by rfl) (pa_cons (pv 4) pa_nil))) (pss_cons (ps_if (PW.pt (pw_or (pt_cmpR op_gt (pv 5) (pv 6) (nomark _)) (pw_or1 (pt_not (pt_val (pe_ok o_stamps_right hr (by decide) (by rfl) (pa_cons (pv 7) (pa_cons (pv 8) pa_nil)))))))) (pss_one (ps_ret pe_bl)) pss_nil) (pss_one (ps_ret (pe_callB (kAll (K := K) rfl rfl) (by rfl) T.f_all (by decide +kernel) (pa_cons (pe_lc (own := [("part", 9)]) (by rfl) sc_meter_possible.nd (kiList (K := K) rfl (pe_slice (kSlL (K := K) rfl) (pv 8) po_none (po_some (pe_un un_neg pe_int)))) (blkOk_by (own := [("part", 9)]) (N := ["plan", "meter", "letters", "name", "closes", "low", "high", "received", "limits", "part"]) (sc := defScope s_meter_possible) (by decide +kernel)) (fun _ _ _ _ _ => (pg_name (i := 9) sc_meter_possible.nd rfl (Or.inl rfl))) (fun _ _ _ _ _ => pts_nil) (fun _ _ _ _ _ => (pe_cmpR op_ge (pe_ok o_hidden_in hr (by decide) (by rfl) (pa_cons (pv 7) (pa_cons (pv 9) pa_nil))) pe_int (nomark _)))) pa_nil))))))))))), fun g es r => ?_⟩), (F.bindsN fun _ _ _ _ _ _ us hl => match us, hl with | [_, _, _], _ => rfl)⟩, T.g_meter_possible, F.kp⟩
  obtain ⟨p, o, nm, us, off, ss⟩ := g
  obtain ⟨rfl, hf, hfd, ho, hz, S, tr⟩ := r
  dsimp only at hf hfd ho hz S tr ⊢
  walk_at "k28"
  refine ⟨⟨nm, o.name, us, ss⟩, ⟨rfl, hz, fun n st vs h => tr _ h⟩, ?_⟩
  rintro e ⟨kvs, rfl, C, ck⟩
  dsimp only at C ck
  walk_at "k28"
  refine ⟨_, ⟨nm, o.name, us, rfl, by omega, rfl⟩, ?_⟩
  walk_at "k28"
  refine ⟨⟨nm, (abt nm o.name us).filter isRd, o, ss⟩, ⟨rfl, ?_, S, fun l hl => ?_⟩, ?_⟩
  · refine Nat.le_trans (List.length_filter_le _ _) ?_
    unfold abt
    split
    · exact hz
    · exact Nat.zero_le _
  · obtain ⟨h1, h2⟩ := List.mem_filter.mp hl
    refine ⟨h2, ?_⟩
    have q := tr l h1
    cases l with
    | read s v st x => exact q
    | close k st vs => cases h2
    | clock lo hi => cases h2
  rintro e rfl
  walk_at "k28"
  rw [if_neg (by simp)]
  walk_at "k28"
  refine ⟨⟨nm, o.name, us, ss, kvs⟩, ⟨rfl, C, ck⟩, ?_⟩
  rintro e rfl
  walk_at "k28"
  rw [if_neg (by simp)]
  walk_at "k28"
  refine ⟨⟨p, nm, o.name, us, o, off⟩, ⟨rfl, hf, hfd, ho, fun lo hi h => tr _ h⟩, ?_⟩
  rintro e ⟨lo, hi, rfl, l1, l2⟩
  dsimp only at l1 l2
  walk_at "k28"
  refine ⟨⟨nm, o.name, us, ss⟩, ⟨rfl, hz, fun s v st x h => tr _ h⟩, ?_⟩
  rintro e ⟨rv, rfl, R⟩
  dsimp only at R
  walk_at "k28"
  refine ⟨⟨ss, kvs⟩, ⟨rfl, C⟩, ?_⟩
  rintro e ⟨segs, tl, rfl, sz, hl, so⟩
  dsimp only at so
  walk_at "k28"
  rw [if_neg (by simp; omega)]
  walk_at "k28"
  refine ⟨⟨o, ss, rv, segs ++ [tl]⟩, ⟨rfl, R, S, so⟩, ?_⟩
  rintro e rfl
  walk_at "k28"
  rw [if_neg (by simp)]
  walk_at "k28"
  refine w_lcL0 (F := Seg.d) ?_
  walk_at "k28"
  have ec : cutD ((segs ++ [tl]).map Seg.d) none (some (-1)) = segs.map Seg.d := by
    unfold cutD
    rw [HT.sIx_none]
    have e : HT.sIx ((segs ++ [tl]).map Seg.d).length ((segs ++ [tl]).map Seg.d).length (some (-1)) = segs.length := by
      unfold HT.sIx
      simp
      omega
    rw [e]
    simp
  refine ⟨segs, congrArg En1.lst ec, by omega, fun _ => .bool true, fun sg hs => ?_, ?_⟩
  · obtain ⟨la, hla⟩ := hl sg hs
    walk_at "k28"
    refine ⟨⟨o, ss, rv, sg, la⟩, ⟨rfl, R, S, so sg (List.mem_append.mpr (.inl hs)), hla⟩, ?_⟩
    rintro e ⟨z, rfl, hz⟩
    walk_at "k28"
    rw [decide_eq_true (by omega)]
  · walk_at "k28"
    show En1.dat _ = En1.dat _
    simp
theorem sc_is_possible : FnScope ["plan", "letters", "meter"] ["plan", "letters"] (defScope s_is_possible) := ⟨rfl, rfl, rfl, by decide +kernel, rfl, by decide +kernel, by decide +kernel⟩
structure GPos where
  p : Plan
  m : Meter
  us : List Let
  off : Int
  ss : List Slot
structure PosOk (g : GPos) : Prop where
  pl : PlOk g.p
  mem : g.m ∈ g.p.ms
  off : -g.m.err ≤ g.off ∧ g.off ≤ g.m.err
  len : g.us.length ≤ 60
  ss : SsOk g.m g.ss
  tr : ∀ l ∈ g.us, Tr g.off g.ss l
def APos (g : GPos) (es : List En1) : Prop := es = [.dat g.p.d, .lst (g.us.map (Let.d g.m.name))] ∧ PosOk g
theorem ok_is_possible (T : Txt K mg) : Ok P w K mg base CX0 4 "is_possible" (He.ga K "is_possible") ["plan", "letters"] (psq APos STrue) := by
  obtain ⟨fd, F⟩ := T.F_is_possible
  have o_meter_possible := ok_meter_possible (P := P) (w := w) (base := base) T
  refine ⟨⟨fd, ok_pureq F sc_is_possible (fun g es h => by rw [h.1]; rfl) (fun cdv A outer s H E hr => ⟨_, (pss_one (ps_ret (pe_callB (kAll (K := K) rfl rfl) (by rfl) T.f_all (by decide +kernel) (pa_cons (pe_lc (own := [("meter", 2)]) (by rfl) sc_is_possible.nd (kiTup (K := K) rfl (pe_ix (kIxT (K := K) rfl) (pv 0) pe_int (fun _ _ => rfl))) (blkOk_by (own := [("meter", 2)]) (N := ["plan", "letters", "meter"]) (sc := defScope s_is_possible) (by decide +kernel)) (fun _ _ _ _ _ => (pg_name (i := 2) sc_is_possible.nd rfl (Or.inl rfl))) (fun _ _ _ _ _ => pts_nil) (fun _ _ _ _ _ => (pe_ok o_meter_possible hr (by decide) (by rfl) (pa_cons (pv 0) (pa_cons (pv 2) (pa_cons (pv 1) pa_nil)))))) pa_nil)))), fun g es r => ?_⟩), (F.bindsN fun _ _ _ _ _ _ us hl => match us, hl with | [_, _], _ => rfl)⟩, T.g_is_possible, F.kp⟩
  obtain ⟨p, m, us, off, ss⟩ := g
  obtain ⟨rfl, pl, hm, ho, hz, S, tr⟩ := r
  dsimp only at pl hm ho hz S tr ⊢
  walk_at "k28"
  refine w_lcT0 (F := Meter.d) ?_
  walk_at "k28"
  have few := pl.few
  refine ⟨by omega, fun _ => .bool true, fun o hmo => ?_, ?_⟩
  · walk_at "k28"
    by_cases c : m.name = o.name
    · have e : o = m := by
        have f1 := find_name pl.nd hm
        have f2 := find_name pl.nd hmo
        rw [← c] at f2
        rw [f1] at f2
        exact (Option.some.inj f2).symm
      subst e
      refine ⟨⟨p, o, o.name, us, off, ss⟩, ⟨rfl, ⟨by simp only; omega, find_name pl.nd hmo, ho, hz, S, fun l hl => tr l (mem_abt hl).2⟩⟩, ?_⟩
      rintro e rfl
      rfl
    · have er := (pl.ok o hmo).2.2
      refine ⟨⟨p, o, m.name, us, o.err, []⟩, ⟨rfl, ⟨by simp only; omega, find_name pl.nd hmo, ⟨by simp only; omega, Int.le_refl _⟩, hz, ⟨Nat.zero_le _, fun s hs => (by cases hs), .nil⟩, fun l hl => absurd (mem_abt hl).1 c⟩⟩, ?_⟩
      rintro e rfl
      rfl
  · walk_at "k28"
    show En1.dat _ = En1.dat _
    simp
end
end TW
/-! K28G2 -/
/-! K28: enumerate while cells are written; defs that use up draws. -/
namespace TW
open PySem PySem.Spec PyProof.Rows L2
theorem m_forE {Γ : Gs} {ρ : Ro} {P : Pg} {α : Type} {F : α → Dt} {KF : PySem.W.Frag} {t : TS} {g : TG} {t' : TA} (h : Wa (MG Γ) t' ρ fun es => ∃ ds : List α, es = [.dat (.tuple (ds.map F))] ∧ ∃ I : Nat → Gs → Ro → Prop, I 0 Γ ρ ∧
      (∀ i d Γ' ρ', ds[i]? = some d → I i Γ' ρ' → Wg (MG Γ') g (.dat (.tuple [.int (i : Nat), F d])) ρ' fun ρ2 => Wm Γ' t ρ2 { nx := I (i + 1), ct := I (i + 1), bk := P.nx, rt := P.rt }) ∧ ∀ Γ' ρ', I ds.length Γ' ρ' → P.nx Γ' ρ') :
    Wm Γ (tFor (iEnumT KF t') g t) ρ P := fun D σ H j n a b c d =>
  h σ H j n _ fun vs H1 es l1 i1 ⟨ds, ex, I, h0, hs, hd⟩ => by
    subst ex
    have lb := Lg.of l1
    have j1 : JG Γ H1 := lb.j
    cases i1 with
    | cons a1 r1 =>
      cases r1
      obtain ⟨p, xs, rfl, hp, r⟩ := At.of_tup a1
      have hlen : xs.length = ds.length := by rw [r.len, List.length_map]
      refine ⟨p, xs, rfl, SqT.of hp, fun i m σ' H' => m = ds.length - i ∧ i ≤ ds.length ∧ ∃ Γ' ρ', Lg Γ Γ' H1 H' ∧ En (MG Γ') H' σ' ρ' ∧ I i Γ' ρ', ⟨ds.length, rfl, Nat.zero_le _, Γ, ρ, .refl j1, n.lg j lb, h0⟩, ?_⟩
      rintro i m σ' H' ⟨rfl, hi, Γ', ρ', l2, n2, k2⟩
      have hq : SqT KF H' p xs := SqT.of (j1.kt l2.k _ _ hp)
      by_cases hlt : i < ds.length
      · refine .inr ⟨⟨xs, xs[i]'(by omega), hq, by simp [hlen, hlt]⟩, fun σ2 H2 => i + 1 ≤ ds.length ∧ ∃ Γ' ρ', Lg Γ Γ' H1 H2 ∧ En (MG Γ') H2 σ2 ρ' ∧ I (i + 1) Γ' ρ', fun σ2 H2 ⟨a1, a2⟩ => ⟨ds.length - (i + 1), by omega, rfl, a1, a2⟩, fun v H2 y => ?_⟩
        obtain ⟨T, x, rfl, hT, rfl, hx⟩ := y
        have hx := hx xs hq
        obtain ⟨d', hd', az⟩ := r.get' hx
        rw [List.getElem?_map] at hd'
        obtain ⟨d0, hd0, rfl⟩ := Option.map_eq_some_iff.mp hd'
        have l3 := Md.new (M := MG Γ') (o := .tup [.int (i : Nat), x]) l2.j hT
        have az3 : At (upd H' T (.tup [.int (i : Nat), x])) x (F d0) := (az.keep (j1.kt l2.k)).keep (l3.kt l2.j)
        refine hs i d0 Γ' ρ' hd0 k2 _ σ' _ l3.2 (Is.d (At.tup upd_same (.cons (.int _) (.cons az3 .nil)))) (n2.le l2.j l3) _ fun σ4 H4 ρ4 l4 n4 k4 => ?_
        have l5 := l2.trans (.of (l3.trans l4))
        exact k4 _ σ4 H4 l4.2 n4 (fun σ6 H6 Γ6 ρ6 l6 n6 k6 => ⟨hlt, Γ6, ρ6, l5.trans l6, n6, k6⟩) (HitE.lg b (lb.trans l5)) (HitG.lg a (lb.trans l5)) (fun σ6 H6 Γ6 ρ6 l6 n6 k6 => ⟨hlt, Γ6, ρ6, l5.trans l6, n6, k6⟩)
      · have e : i = ds.length := by omega
        subst e
        exact .inl ⟨⟨xs, hq, hlen⟩, a σ' H' Γ' ρ' (lb.trans l2) n2 (hd Γ' ρ' k2)⟩
/-! ### draws -/
def psd {ι : Type} (A : ι → Addr → List En1 → Prop) (S : ι → En1 → Prop) : Sp := fun vs H Q _ => ∃ i dr es, JG [(dr, .rnd)] H ∧ IsS (MG [(dr, .rnd)]).B H vs es ∧ A i dr es ∧ ∀ v H' d, Lg [(dr, .rnd)] [(dr, .rnd)] H H' → At H' v d → S i (.dat d) → Q v H'
section
variable {Γ : Gs} {ρ : Ro} {K : En1 → Prop} {ι : Type} {A : ι → Addr → List En1 → Prop} {S : ι → En1 → Prop} {t : TA} {E : XK}
theorem dm_one {dr a : Addr} {c : Cell} : a ∈ dm [(dr, c)] ↔ a = dr := by simp [dm]
theorem jg_one {dr : Addr} {c : Cell} {H : Hp} (h : Holds H dr c) : JG [(dr, c)] H := ⟨by simp [dm], fun x hx => by obtain rfl := List.mem_singleton.mp hx; exact h⟩
theorem is_sub {Γ' : Gs} (s : ∀ a, a ∈ dm Γ' → a ∈ dm Γ) {H : Hp} {v : V} {e : En1} (h : Is (MG Γ).B H v e) : Is (MG Γ').B H v e := by
  cases e with
  | dat d => exact h
  | raw u => exact h
  | lst ds => obtain ⟨a, xs, e, n, ha, r⟩ := h; exact ⟨a, xs, e, fun m => n (s a m), ha, r⟩
  | dic ds => obtain ⟨a, xs, e, n, ha, r⟩ := h; exact ⟨a, xs, e, fun m => n (s a m), ha, r⟩
theorem lg_one {dr : Addr} {H H' : Hp} (j : JG Γ H) (m : (dr, Cell.rnd) ∈ Γ) (l : Lg [(dr, .rnd)] [(dr, .rnd)] H H') : (MG Γ).le H H' := by
  have j0 : JG [(dr, .rnd)] H := jg_one (j.2 _ m)
  have kt := j0.kt l.k
  refine ⟨fun a o n h => l.k a o (fun z => n (by rw [dm_one.mp z]; exact mem_dm m)) h, j.1, fun x hx => ?_⟩
  by_cases c : x.1 = dr
  · have e : x = (dr, .rnd) := by
      obtain ⟨p, hp⟩ := List.mem_iff_getElem?.mp hx
      obtain ⟨q, hq⟩ := List.mem_iff_getElem?.mp m
      have h1 : (dm Γ)[p]? = some dr := by unfold dm; rw [List.getElem?_map, hp, ← c]; rfl
      have h2 : (dm Γ)[q]? = some dr := by unfold dm; rw [List.getElem?_map, hq]; rfl
      have e : p = q := (List.getElem?_inj (List.getElem?_eq_some_iff.mp h1).1 j.1).mp (h1.trans h2.symm)
      rw [← e] at hq
      rw [hp] at hq
      exact Option.some.inj hq
    rw [e]
    exact l.j.2 _ (.head _)
  · exact (j.2 x hx).keep kt fun o h => l.k _ o (fun z => c (dm_one.mp z)) h
theorem w_calld (h : Wa (MG Γ) t ρ fun es => ∃ i dr, (dr, Cell.rnd) ∈ Γ ∧ A i dr es ∧ ∀ d, S i (.dat d) → K (.dat d)) : We (MG Γ) (tCall (psd A S) [] E t) ρ K := fun σ H j n Q q =>
  h σ H j n _ fun vs H1 es l1 i1 ⟨i, dr, m, a, k⟩ => by
    show psd A S (vs ++ []) H1 Q E
    rw [List.append_nil]
    have j1 : JG Γ H1 := l1.2
    refine ⟨i, dr, es, jg_one (j1.2 _ m), Paired.mapP i1 fun _ _ x => is_sub (fun a z => by rw [dm_one.mp z]; exact mem_dm m) x, a, fun v H' d l iv sd => ?_⟩
    exact q v H' (.dat d) (l1.trans (lg_one j1 m l)) iv (k d sd)
variable {P : Program} {w : World} {KF : PySem.W.Frag} {mg : Str → Option Value} {base : Heap}
/-- what is left of the draws -/
inductive IsRnd : Cell → Prop
  | r : IsRnd .rnd
  | l (xs : List V) (ns : List Int) : IsRnd (.l xs (ns.map .int))
theorem IsRnd.holds {H : Hp} {a : Addr} {c : Cell} (r : IsRnd c) (h : Holds H a c) : Holds H a .rnd := by
  cases r with
  | r => exact h
  | l xs ns => exact ⟨ns, by rw [h.1, h.2.ints]⟩
theorem ok_drawL {x qual : Str} {st : Stmt} {f : Addr} {fd : FuncData} {N ps : List Str} {k : Nat} (F : FnQ KF x qual st f fd) (Sc : FnScope N ps (defScope st)) (len : ∀ i dr es, A i dr es → es.length = ps.length)
    (body : ∀ (cdv : Value) (Ar : Around) (outer : List Env) (s : Shared) (H : Hp) (E : XK), Room k (Ar.deeper (envOfC qual (defScope st) s.heap.objs.size f cdv)) →
      ∃ t, PSs (cxOf CX0 P w KF mg base N qual (defScope st) f cdv Ar outer s H E).nox (defBody st) t ∧ ∀ i dr es, A i dr es → ∀ ns : List Int, Wm [(dr, .l (ns.map V.int) (ns.map .int))] t (startR N es) { nx := fun Γ' _ => (∃ c, (dr, c) ∈ Γ' ∧ IsRnd c) ∧ S i (.dat .none), rt := fun Γ' e => (∃ c, (dr, c) ∈ Γ' ∧ IsRnd c) ∧ ∃ d, e = .dat d ∧ S i (.dat d) }) :
    FnOk P w KF mg base CX0 (k + 1) f fd ps (psd A S) := by
  refine F.ok Sc (fun vs H Q E ⟨i, dr, es, j, is, r, q⟩ => (Paired.length is).trans (len i dr es r)) (fun cdv Ar outer s H vs Q E hr ⟨i, dr, es, j, is, r, q⟩ => ?_)
  obtain ⟨t, h, b⟩ := body cdv Ar outer s H E hr
  obtain ⟨ns, hn⟩ := j.2 _ (.head _)
  have j1 : JG [(dr, .l (ns.map V.int) (ns.map .int))] H := jg_one ⟨hn, atS_ints ns⟩
  have is1 : IsS (MG [(dr, .l (ns.map V.int) (ns.map .int))]).B H vs es := Paired.mapP is fun _ _ x => is_sub (fun a z => by rw [dm_one] at z ⊢; exact z) x
  have lg : ∀ {Γ' : Gs} {H' : Hp}, Lg [(dr, .l (ns.map V.int) (ns.map .int))] Γ' H H' → (∃ c, (dr, c) ∈ Γ' ∧ IsRnd c) → Lg [(dr, .rnd)] [(dr, .rnd)] H H' := fun l ⟨c, m, ir⟩ =>
    ⟨fun a o n e => l.k a o (fun z => n (by rw [dm_one] at z ⊢; exact z)) e, fun a m => .inl m, jg_one (ir.holds (l.j.2 _ m))⟩
  refine ⟨t, h.nox, b i dr es r ns _ _ H j1 (en_start is1) (fun σ' H' Γ' ρ' l n k => ?_) (fun v H' Γ' e' l iv ⟨k1, d, k2, k3⟩ => ?_) (fun σ' H' Γ' ρ' l n k => k.elim) (fun σ' H' Γ' ρ' l n k => k.elim)⟩
  · exact q .non H' .none (lg l k.1) At.non k.2
  · subst k2
    exact q v H' d (lg l k1) iv k3
theorem ok_draw {x qual : Str} {st : Stmt} {f : Addr} {fd : FuncData} {N ps : List Str} {k : Nat} (F : FnQ KF x qual st f fd) (Sc : FnScope N ps (defScope st)) (len : ∀ i dr es, A i dr es → es.length = ps.length)
    (body : ∀ (cdv : Value) (Ar : Around) (outer : List Env) (s : Shared) (H : Hp) (E : XK), Room k (Ar.deeper (envOfC qual (defScope st) s.heap.objs.size f cdv)) →
      ∃ t, PSs (cxOf CX0 P w KF mg base N qual (defScope st) f cdv Ar outer s H E).nox (defBody st) t ∧ ∀ i dr es, A i dr es → Wm [(dr, .rnd)] t (startR N es) { nx := fun Γ' _ => (∃ c, (dr, c) ∈ Γ' ∧ IsRnd c) ∧ S i (.dat .none), rt := fun Γ' e => (∃ c, (dr, c) ∈ Γ' ∧ IsRnd c) ∧ ∃ d, e = .dat d ∧ S i (.dat d) }) :
    FnOk P w KF mg base CX0 (k + 1) f fd ps (psd A S) := by
  refine F.ok Sc (fun vs H Q E ⟨i, dr, es, j, is, r, q⟩ => (Paired.length is).trans (len i dr es r)) (fun cdv Ar outer s H vs Q E hr ⟨i, dr, es, j, is, r, q⟩ => ?_)
  obtain ⟨t, h, b⟩ := body cdv Ar outer s H E hr
  have lg : ∀ {Γ' : Gs} {H' : Hp}, Lg [(dr, .rnd)] Γ' H H' → (∃ c, (dr, c) ∈ Γ' ∧ IsRnd c) → Lg [(dr, .rnd)] [(dr, .rnd)] H H' := fun l ⟨c, m, ir⟩ =>
    ⟨l.k, fun a m => .inl m, jg_one (ir.holds (l.j.2 _ m))⟩
  refine ⟨t, h.nox, b i dr es r _ _ H j (en_start is) (fun σ' H' Γ' ρ' l n k => ?_) (fun v H' Γ' e' l iv ⟨k1, d, k2, k3⟩ => ?_) (fun σ' H' Γ' ρ' l n k => k.elim) (fun σ' H' Γ' ρ' l n k => k.elim)⟩
  · exact q .non H' .none (lg l k.1) At.non k.2
  · subst k2
    exact q v H' d (lg l k1) iv k3
/-- int(l.pop()) % many, of a list of ints -/
theorem x_popmod (i : Nat) {ta : TE} {KG : Gs → En1 → Prop} (h : We (MG Γ) ta ρ fun x => ∃ a xs ns, x = .raw (.ref a) ∧ Γ[i]? = some (a, .l xs (ns.map .int)) ∧ ns ≠ [] ∧ ∃ m, ρ[1]? = some (some (.dat (.int m))) ∧ 0 < m ∧ ∀ (xs' : List V) (ns' : List Int) (z : Int), 0 ≤ z → z < m → KG (Γ.set i (a, .l xs' (ns'.map .int))) (.dat (.int z))) :
    Wx Γ (tOp (rI (fun _ j => 0 < j) fun i j => .int (i % j)) (tCB rInt1 (tCons (tBM0 KF "list" rPop ta) tNil)) (tVar 1)) ρ KG := fun σ H j n Q q =>
  h σ H j n _ fun v H1 x l1 i1 ⟨a, xs, ns, ex, hi, ne, m, hm, mp, k⟩ => by
    subst ex
    obtain rfl : v = .ref a := i1
    have lb := Lg.of l1
    obtain ⟨c1, c2⟩ := lb.j.at hi
    have exs : xs = ns.map V.int := c2.ints
    subst exs
    obtain ⟨y, hy⟩ : ∃ y, ns[ns.length - 1]? = some y := by
      have := List.length_pos_iff.mpr ne
      exact ⟨ns[ns.length - 1], List.getElem?_eq_getElem (by omega)⟩
    have w := lb.j.write (c' := .l (ns.dropLast.map V.int) (ns.dropLast.map .int)) (o := .lst (ns.map V.int).dropLast) hi (fun _ e => by cases e) ⟨by rw [upd_same, List.map_dropLast], atS_ints _⟩
    have lw := lb.trans w
    obtain ⟨u, hu, iu⟩ := (n.lg j lw).get hm
    obtain rfl := At.of_int iu
    refine ⟨ty_list c1, a, ns.map V.int, .int y, rfl, rfl, c1, by rw [List.length_map, List.getElem?_map, hy]; rfl, .inl ⟨y, rfl, .int m, hu, y, m, rfl, rfl, mp, ?_⟩⟩
    exact q _ _ _ _ lw (Is.d (At.int _)) (k _ _ _ (Int.emod_nonneg _ (by omega)) (Int.emod_lt_of_pos _ mp))
end
end TW
/-! K28P8 -/
namespace TW
open PySem PySem.Spec PyProof.Rows L2
local macro_rules | `(tactic| walk_at "k28 d") => `(tactic| first
  | refine w_var rfl ?_ | with_reducible refine w_int ?_ | with_reducible refine w_str ?_ | with_reducible refine w_non ?_ | with_reducible refine w_bl ?_
  | with_reducible refine w_ixT ?_ | with_reducible refine w_ixL ?_ | with_reducible refine w_add ?_ | with_reducible refine w_sub ?_ | with_reducible refine w_eq ?_ | with_reducible refine w_ne ?_ | with_reducible refine w_lt ?_
  | with_reducible refine w_leq ?_ | with_reducible refine w_gt ?_ | with_reducible refine w_ge ?_ | with_reducible refine w_mul ?_ | with_reducible refine w_div ?_ | with_reducible refine w_mod ?_ | with_reducible refine w_pow ?_
  | with_reducible refine w_neg ?_ | with_reducible refine w_isN ?_ | with_reducible refine w_notN ?_ | with_reducible refine a_nil ?_ | with_reducible refine a_cons ?_ | with_reducible refine w_tup ?_ | with_reducible refine w_lst ?_
  | with_reducible refine w_call0 ?_ | with_reducible refine w_len ?_ | with_reducible refine w_sumM ?_ | with_reducible refine w_allM ?_ | with_reducible refine w_tuple ?_ | with_reducible refine w_abs ?_ | with_reducible refine w_toInt ?_ | with_reducible refine w_max2 ?_
  | with_reducible refine w_min2 ?_ | with_reducible refine t_test ?_ | with_reducible refine t_B ?_ | with_reducible refine t_and ?_ | with_reducible refine t_or ?_ | with_reducible refine t_not ?_ | with_reducible refine t_yes ?_
  | with_reducible refine w_andV ?_ | with_reducible refine w_orV ?_ | with_reducible refine w_notV ?_ | with_reducible refine w_if ?_ | with_reducible refine w_chain ?_ | with_reducible refine o_none ?_ | with_reducible refine o_some ?_
  | with_reducible refine w_slT ?_ | with_reducible refine w_slL ?_ | with_reducible refine w_catT ?_ | with_reducible refine w_catL ?_ | with_reducible refine w_dget ?_ | with_reducible refine w_din ?_ | with_reducible refine w_dnotin ?_ | with_reducible refine w_sortD ?_ | with_reducible refine w_sortI ?_ | with_reducible refine w_callq ?_ | with_reducible refine w_isB ?_
  | with_reducible refine w_notB ?_ | with_reducible refine g_name ?_ | refine gs_nil rfl ?_ | refine gs_cons rfl ?_ | with_reducible refine s_next ?_ | with_reducible refine s_seq ?_ | with_reducible refine s_asg ?_
  | with_reducible refine s_drop ?_ | with_reducible refine s_ret ?_ | with_reducible refine s_brk ?_ | with_reducible refine s_if ?_)
local macro_rules | `(tactic| walk_at "k28 x") => `(tactic| first
  | refine g_tup ⟨_, rfl, rfl, ?_⟩ | refine ⟨_, _, _, _, rfl, rfl, rfl, rfl, rfl, ?_⟩ | refine ⟨_, _, _, rfl, rfl, rfl, ?_⟩ | refine ⟨_, _, _, rfl, rfl, atI_nat (j := 0) rfl, ?_⟩ | refine ⟨_, _, _, rfl, ?_⟩ | refine ⟨_, _, rfl, rfl, by decide, ?_⟩ | refine ⟨_, _, rfl, rfl, ⟨by decide, by decide⟩, ?_⟩ | refine ⟨_, _, rfl, rfl, ⟨by decide, by decide, by decide⟩, ?_⟩ | refine ⟨_, _, rfl, rfl, .inl ⟨by decide, by decide⟩, ?_⟩ | refine ⟨_, _, rfl, rfl, .inr ⟨by decide, by decide⟩, ?_⟩ | refine ⟨_, _, rfl, rfl, ?_⟩ | refine ⟨_, _, rfl, ?_⟩ | refine ⟨_, (show undats _ = some _ from rfl), by simp, ?_⟩ | refine ⟨_, rfl, ?_⟩ | refine ⟨_, .inl rfl, ?_⟩ | refine ⟨_, .inr rfl, ?_⟩ | refine ⟨_, _, rfl, rfl, ?_, ?_⟩)
local macro_rules | `(tactic| walk_at "k28 t") => `(tactic| first | rw [if_pos (by decide)] | rw [if_neg (by decide)] | rw [if_pos (by simp)] | rw [if_neg (by simp)])
local macro_rules | `(tactic| walk_at "k28") => `(tactic| repeat (first | walk_at "k28 d" | walk_at "k28 x" | exact rfl))
local macro_rules | `(tactic| walk_at "k28 s") => `(tactic| repeat (first | (fail_if_success with_reducible refine s_if ?_); (first | walk_at "k28 d" | walk_at "k28 x" | exact rfl)))
local macro_rules | `(tactic| walk_at "k28 o") => `(tactic| first
  | with_reducible refine w_dnotinO ?_ | with_reducible refine w_dgetO ?_ | with_reducible refine w_dget2O ?_ | with_reducible refine w_lenO ?_ | with_reducible refine w_tupleO ?_ | with_reducible refine w_notInO ?_ | with_reducible refine w_ixO ?_ | with_reducible refine w_fld ?_
  | refine ⟨_, _, _, rfl, rfl, .of (.head _), ?_⟩ | refine ⟨_, _, _, rfl, rfl, .of (.tail _ (.head _)), ?_⟩ | refine ⟨_, _, rfl, .of (.head _), ?_⟩ | refine ⟨_, _, rfl, .of (.tail _ (.head _)), ?_⟩)
local macro_rules | `(tactic| walk_at "k28 w") => `(tactic| first | with_reducible refine m_next ?_ | with_reducible refine m_seq ?_ | with_reducible refine m_asg (x_dnew fun p => ?_) | with_reducible refine m_asg (x_dnewT fun p => ?_) | with_reducible refine m_asg (x_lst ?_) | with_reducible refine m_asgP ?_ | with_reducible refine m_if ?_ | with_reducible refine m_retP ?_)
local macro_rules | `(tactic| walk_at "k28 m") => `(tactic| repeat (first | walk_at "k28 w" | walk_at "k28 o" | walk_at "k28 d" | walk_at "k28 x" | exact rfl))
local macro_rules | `(tactic| walk_at "k28 g") => `(tactic| repeat (first | with_reducible refine w_take ?_ | with_reducible refine w_word ?_ | with_reducible refine w_calld ?_ | with_reducible refine w_callgq ?_ | with_reducible refine w_addS ?_ | with_reducible refine w_ixS ?_ | with_reducible refine w_catL ?_ | walk_at "k28 w" | walk_at "k28 d" | refine ⟨_, _, rfl, .head _, (by first | decide | omega | simp | (simp only [List.length_map]; omega)), fun (r : Int) (r1 : 0 ≤ r) (r2 : r < _) => ?_⟩ | refine ⟨_, rfl, fun (s : Str) (sw : Wdn 60 s) => ?_⟩ | walk_at "k28 x" | exact rfl))
local macro_rules | `(tactic| walk_at "k28 f") => `(tactic| first
  | refine wf (Txt.c_Source (by assumption)) (Txt.n_meter (by assumption)) rfl lk_meter ?_ | refine wf (Txt.c_Source (by assumption)) (Txt.n_offset (by assumption)) rfl lk_offset ?_ | refine wf (Txt.c_Source (by assumption)) (Txt.n_slots (by assumption)) rfl lk_slots ?_ | refine wf (Txt.c_Source (by assumption)) (Txt.n_closed_number (by assumption)) rfl lk_closed_number ?_ | refine wf (Txt.c_Source (by assumption)) (Txt.n_closed_stamp (by assumption)) rfl lk_closed_stamp ?_ | refine wf (Txt.c_Source (by assumption)) (Txt.n_due (by assumption)) rfl lk_due ?_)
local macro_rules | `(tactic| walk_at "k28 n") => `(tactic| repeat (first | walk_at "k28 w" | walk_at "k28 f" | walk_at "k28 d" | walk_at "k28 x" | exact rfl))
local macro_rules | `(tactic| walk_at "k28 p") => `(tactic| first
  | with_reducible refine w_lenO ?_ | with_reducible refine w_tupleO ?_ | with_reducible refine w_ixO ?_
  | refine ⟨_, _, rfl, .of (.tail _ (.head _)), ?_⟩ | refine ⟨_, _, rfl, .of (.tail _ (.tail _ (.head _))), ?_⟩)
local macro_rules | `(tactic| walk_at "k28 q") => `(tactic| repeat (first | walk_at "k28 w" | walk_at "k28 f" | walk_at "k28 p" | walk_at "k28 d" | walk_at "k28 x" | exact rfl))
section
variable {P : Program} {w : World} {K : PySem.W.Frag} {mg : Str → Option Value} {base : Heap}
theorem sc_reads_of : FnScope ["history", "found", "name", "offset", "slots", "index", "slot", "version", "value"] ["history"] (defScope s_reads_of) := ⟨rfl, rfl, rfl, by decide +kernel, rfl, by decide +kernel, by decide +kernel⟩
def rdsV (name : Str) (i : Nat) (sl : Slot) : List Dt := sl.2.zipIdx.map fun q => Let.d name (.read (i + 1) q.2 sl.1 q.1)
def rdsS (name : Str) (ss : List Slot) : List Dt := ss.zipIdx.flatMap fun q => rdsV name q.2 q.1
def rdsH (hs : List Log) : List Dt := hs.flatMap fun l => rdsS l.name l.ss
def ARds (hs : List Log) (es : List En1) : Prop := es = [.dat (.tuple (hs.map Log.d))] ∧ hs.length ≤ 60 ∧ ∀ l ∈ hs, l.ss.length ≤ 60 ∧ ∀ s ∈ l.ss, s.2.length ≤ 60
def SRds (hs : List Log) (e : En1) : Prop := e = .dat (.tuple (rdsH hs))
theorem zip_take {α : Type} {l : List α} {i : Nat} {x : α} (h : l[i]? = some x) : l.zipIdx.take (i + 1) = l.zipIdx.take i ++ [(x, i)] := by
  rw [List.take_succ]
  have e : l.zipIdx[i]? = some (x, i) := by rw [List.getElem?_zipIdx, h]; simp
  rw [e]
  rfl
theorem fm_snoc {α β : Type} (f : α → List β) {l : List α} {i : Nat} {x : α} (h : l[i]? = some x) : (l.take (i + 1)).flatMap f = (l.take i).flatMap f ++ f x := by
  rw [List.take_succ, h, List.flatMap_append]
  simp
theorem ok_reads_of (T : Txt K mg) : Ok P w K mg base CX0 1 "reads_of" (He.ga K "reads_of") ["history"] (psq ARds SRds) := by
  obtain ⟨fd, F⟩ := T.F_reads_of
  refine ⟨⟨fd, ok_ownq F sc_reads_of (fun g es h => by rw [h.1]; rfl) (fun cdv A outer s H E hr => ⟨_, (pss_cons (ps_set (i := 1) sc_reads_of.nd rfl (Or.inl rfl) (pe_lst pa_nil)) (pss_cons (ps_for PassesOwn.never rfl (kiTup (K := K) rfl (pv 0)) (kgTup (K := K) (n := 3) rfl rfl (pgs_cons (pg_name (i := 2) sc_reads_of.nd rfl (Or.inl rfl)) (pgs_cons (pg_name (i := 3) sc_reads_of.nd rfl (Or.inl rfl)) (pgs_cons (pg_name (i := 4) sc_reads_of.nd rfl (Or.inl rfl)) pgs_nil)))) (pss_one (ps_for PassesOwn.never rfl (pi_enumT (K := K) rfl (by rfl) T.f_enumerate (pa_cons (pv 4) pa_nil)) (kgTup (K := K) (n := 2) rfl rfl (pgs_cons (pg_name (i := 5) sc_reads_of.nd rfl (Or.inl rfl)) (pgs_cons (pg_name (i := 6) sc_reads_of.nd rfl (Or.inl rfl)) pgs_nil))) (pss_one (ps_for PassesOwn.never rfl (pi_enumT (K := K) rfl (by rfl) T.f_enumerate (pa_cons (pe_ix (kIxT (K := K) rfl) (pv 6) pe_int (fun _ _ => rfl)) pa_nil)) (kgTup (K := K) (n := 2) rfl rfl (pgs_cons (pg_name (i := 7) sc_reads_of.nd rfl (Or.inl rfl)) (pgs_cons (pg_name (i := 8) sc_reads_of.nd rfl (Or.inl rfl)) pgs_nil))) (pss_one (ps_expr (pe_bm PySem.F.plainAttrs_list PySem.F.slot_list_append PySem.F.type_list_append mt_append (pv 1) (pa_cons (pe_tup (pa_cons pe_str (pa_cons (pv 2) (pa_cons (pe_op op_add (pv 5) pe_int) (pa_cons (pv 7) (pa_cons (pe_ix (kIxT (K := K) rfl) (pv 6) pe_int (fun _ _ => rfl)) (pa_cons (pv 8) pa_nil))))))) pa_nil))))))))) (pss_one (ps_ret (pe_callTy (kTuple (K := K) rfl) (by rfl) T.f_tuple (by decide +kernel) (pa_cons (pv 1) pa_nil)))))), fun g es r => ?_⟩), (F.bindsN fun _ _ _ _ _ _ us hl => match us, hl with | [_], _ => rfl)⟩, T.g_reads_of, F.kp⟩
  obtain ⟨rfl, hz, hs⟩ := r
  refine m_seq (m_asg (x_lst (a_nil ⟨_, rfl, by simp, fun p xs => g_name ?_⟩)))
  refine m_seq (m_forT (F := Log.d) ?_)
  walk_at "k28"
  refine ⟨fun i Γ' ρ' => Hid (∃ (p : Addr) (xs : List V) (ds : List Dt) (a b c d e f h : Option En1), Γ' = [(p, .l xs ds)] ∧ ρ' = [some (.dat (.tuple (g.map Log.d))), some (.raw (.ref p)), a, b, c, d, e, f, h] ∧ ds = (g.take i).flatMap (fun l => rdsS l.name l.ss) ∧ ds.length ≤ 3600 * i),
    hid ⟨_, _, _, none, none, none, none, none, none, none, rfl, rfl, by simp, by simp⟩, ?_, ?_⟩
  · intro i lg Γ' ρ' hi hI
    obtain ⟨p, xs, ds, a, b, c, d, e, f, h, rfl, rfl, ed, ld⟩ := hI.out
    have il := (List.getElem?_eq_some_iff.mp hi).1
    obtain ⟨sl, vl⟩ := hs lg (List.mem_of_getElem? hi)
    walk_at "k28"
    refine m_forE (F := slotD) ?_
    walk_at "k28"
    refine ⟨fun j Γ' ρ' => Hid (∃ (xs : List V) (ds2 : List Dt) (d e f h : Option En1), Γ' = [(p, .l xs ds2)] ∧ ρ' = [some (.dat (.tuple (g.map Log.d))), some (.raw (.ref p)), some (.dat (.str lg.name)), some (.dat (.int lg.off)), some (.dat (.tuple (lg.ss.map slotD))), d, e, f, h] ∧ ds2 = ds ++ (lg.ss.zipIdx.take j).flatMap (fun q => rdsV lg.name q.2 q.1) ∧ ds2.length ≤ 3600 * i + 60 * j),
      hid ⟨xs, ds, _, _, _, _, rfl, rfl, by simp, by omega⟩, ?_, ?_⟩
    · intro j s Γ' ρ' hj hI
      obtain ⟨xs, ds2, d, e, f, h, rfl, rfl, ed2, ld2⟩ := hI.out
      have jl := (List.getElem?_eq_some_iff.mp hj).1
      have vv := vl s (List.mem_of_getElem? hj)
      walk_at "k28"
      refine m_forE (F := optD) ?_
      walk_at "k28"
      refine ⟨fun k Γ' ρ' => Hid (∃ (xs : List V) (ds3 : List Dt) (f h : Option En1), Γ' = [(p, .l xs ds3)] ∧ ρ' = [some (.dat (.tuple (g.map Log.d))), some (.raw (.ref p)), some (.dat (.str lg.name)), some (.dat (.int lg.off)), some (.dat (.tuple (lg.ss.map slotD))), some (.dat (.int (j : Int))), some (.dat (slotD s)), f, h] ∧ ds3 = ds2 ++ (s.2.zipIdx.take k).map (fun q => Let.d lg.name (.read (j + 1) q.2 s.1 q.1)) ∧ ds3.length ≤ 3600 * i + 60 * j + k),
        hid ⟨xs, ds2, _, _, rfl, rfl, by simp, by omega⟩, ?_, ?_⟩
      · intro k v Γ' ρ' hk hI
        obtain ⟨xs, ds3, f, h, rfl, rfl, ed3, ld3⟩ := hI.out
        have kl := (List.getElem?_eq_some_iff.mp hk).1
        walk_at "k28"
        refine m_drop (x_append 0 ?_)
        walk_at "k28"
        refine ⟨_, _, _, rfl, rfl, ?_⟩
        walk_at "k28"
        refine ⟨by omega, fun xs' => hid ⟨xs', _, _, _, rfl, rfl, ?_, ?_⟩⟩
        · rw [zip_take hk, List.map_append, ← List.append_assoc, ← ed3]
          rfl
        · rw [List.length_append]
          simp only [List.length_cons, List.length_nil]
          omega
      · intro Γ' ρ' hI
        obtain ⟨xs, ds3, f, h, rfl, rfl, ed3, ld3⟩ := hI.out
        refine hid ⟨xs, ds3, _, _, _, _, rfl, rfl, ?_, by omega⟩
        have e1 : (s.2.zipIdx.take s.2.length) = s.2.zipIdx := List.take_of_length_le (by simp)
        rw [zip_take hj, List.flatMap_append, ← List.append_assoc, ← ed2, ed3, e1]
        simp [rdsV]
    · intro Γ' ρ' hI
      obtain ⟨xs, ds2, d, e, f, h, rfl, rfl, ed2, ld2⟩ := hI.out
      refine hid ⟨p, xs, ds2, _, _, _, _, _, _, _, rfl, rfl, ?_, by omega⟩
      have e1 : (lg.ss.zipIdx.take lg.ss.length) = lg.ss.zipIdx := List.take_of_length_le (by simp)
      rw [fm_snoc _ hi, ← ed, ed2, e1]
      rfl
  · intro Γ' ρ' hI
    obtain ⟨p, xs, ds, a, b, c, d, e, f, h, rfl, rfl, ed, ld⟩ := hI.out
    walk_at "k28 m"
    refine ⟨_, .same _, ?_⟩
    rw [List.take_length] at ed
    rw [ed]
    rfl
end
end TW
/-! K28P9 -/
namespace TW
open PySem PySem.Spec PyProof.Rows L2
local macro_rules | `(tactic| walk_at "k28 d") => `(tactic| first
  | refine w_var rfl ?_ | with_reducible refine w_int ?_ | with_reducible refine w_str ?_ | with_reducible refine w_non ?_ | with_reducible refine w_bl ?_
  | with_reducible refine w_ixT ?_ | with_reducible refine w_ixL ?_ | with_reducible refine w_add ?_ | with_reducible refine w_sub ?_ | with_reducible refine w_eq ?_ | with_reducible refine w_ne ?_ | with_reducible refine w_lt ?_
  | with_reducible refine w_leq ?_ | with_reducible refine w_gt ?_ | with_reducible refine w_ge ?_ | with_reducible refine w_mul ?_ | with_reducible refine w_div ?_ | with_reducible refine w_mod ?_ | with_reducible refine w_pow ?_
  | with_reducible refine w_neg ?_ | with_reducible refine w_isN ?_ | with_reducible refine w_notN ?_ | with_reducible refine a_nil ?_ | with_reducible refine a_cons ?_ | with_reducible refine w_tup ?_ | with_reducible refine w_lst ?_
  | with_reducible refine w_call0 ?_ | with_reducible refine w_len ?_ | with_reducible refine w_sumM ?_ | with_reducible refine w_allM ?_ | with_reducible refine w_tuple ?_ | with_reducible refine w_abs ?_ | with_reducible refine w_toInt ?_ | with_reducible refine w_max2 ?_
  | with_reducible refine w_min2 ?_ | with_reducible refine t_test ?_ | with_reducible refine t_B ?_ | with_reducible refine t_and ?_ | with_reducible refine t_or ?_ | with_reducible refine t_not ?_ | with_reducible refine t_yes ?_
  | with_reducible refine w_andV ?_ | with_reducible refine w_orV ?_ | with_reducible refine w_notV ?_ | with_reducible refine w_if ?_ | with_reducible refine w_chain ?_ | with_reducible refine o_none ?_ | with_reducible refine o_some ?_
  | with_reducible refine w_slT ?_ | with_reducible refine w_slL ?_ | with_reducible refine w_catT ?_ | with_reducible refine w_catL ?_ | with_reducible refine w_dget ?_ | with_reducible refine w_din ?_ | with_reducible refine w_dnotin ?_ | with_reducible refine w_sortD ?_ | with_reducible refine w_sortI ?_ | with_reducible refine w_callq ?_ | with_reducible refine w_isB ?_
  | with_reducible refine w_notB ?_ | with_reducible refine g_name ?_ | refine gs_nil rfl ?_ | refine gs_cons rfl ?_ | with_reducible refine s_next ?_ | with_reducible refine s_seq ?_ | with_reducible refine s_asg ?_
  | with_reducible refine s_drop ?_ | with_reducible refine s_ret ?_ | with_reducible refine s_brk ?_ | with_reducible refine s_if ?_)
local macro_rules | `(tactic| walk_at "k28 x") => `(tactic| first
  | refine g_tup ⟨_, rfl, rfl, ?_⟩ | refine ⟨_, _, _, _, rfl, rfl, rfl, rfl, rfl, ?_⟩ | refine ⟨_, _, _, rfl, rfl, rfl, ?_⟩ | refine ⟨_, _, _, rfl, rfl, atI_nat (j := 0) rfl, ?_⟩ | refine ⟨_, _, _, rfl, ?_⟩ | refine ⟨_, _, rfl, rfl, by decide, ?_⟩ | refine ⟨_, _, rfl, rfl, ⟨by decide, by decide⟩, ?_⟩ | refine ⟨_, _, rfl, rfl, ⟨by decide, by decide, by decide⟩, ?_⟩ | refine ⟨_, _, rfl, rfl, .inl ⟨by decide, by decide⟩, ?_⟩ | refine ⟨_, _, rfl, rfl, .inr ⟨by decide, by decide⟩, ?_⟩ | refine ⟨_, _, rfl, rfl, ?_⟩ | refine ⟨_, _, rfl, ?_⟩ | refine ⟨_, (show undats _ = some _ from rfl), by simp, ?_⟩ | refine ⟨_, rfl, ?_⟩ | refine ⟨_, .inl rfl, ?_⟩ | refine ⟨_, .inr rfl, ?_⟩ | refine ⟨_, _, rfl, rfl, ?_, ?_⟩)
local macro_rules | `(tactic| walk_at "k28 t") => `(tactic| first | rw [if_pos (by decide)] | rw [if_neg (by decide)] | rw [if_pos (by simp)] | rw [if_neg (by simp)])
local macro_rules | `(tactic| walk_at "k28") => `(tactic| repeat (first | walk_at "k28 d" | walk_at "k28 x" | exact rfl))
local macro_rules | `(tactic| walk_at "k28 s") => `(tactic| repeat (first | (fail_if_success with_reducible refine s_if ?_); (first | walk_at "k28 d" | walk_at "k28 x" | exact rfl)))
local macro_rules | `(tactic| walk_at "k28 o") => `(tactic| first
  | with_reducible refine w_dnotinO ?_ | with_reducible refine w_dgetO ?_ | with_reducible refine w_dget2O ?_ | with_reducible refine w_lenO ?_ | with_reducible refine w_tupleO ?_ | with_reducible refine w_notInO ?_ | with_reducible refine w_ixO ?_ | with_reducible refine w_fld ?_
  | refine ⟨_, _, _, rfl, rfl, .of (.head _), ?_⟩ | refine ⟨_, _, _, rfl, rfl, .of (.tail _ (.head _)), ?_⟩ | refine ⟨_, _, rfl, .of (.head _), ?_⟩ | refine ⟨_, _, rfl, .of (.tail _ (.head _)), ?_⟩)
local macro_rules | `(tactic| walk_at "k28 w") => `(tactic| first | with_reducible refine m_next ?_ | with_reducible refine m_seq ?_ | with_reducible refine m_asg (x_dnew fun p => ?_) | with_reducible refine m_asg (x_dnewT fun p => ?_) | with_reducible refine m_asg (x_lst ?_) | with_reducible refine m_asgP ?_ | with_reducible refine m_if ?_ | with_reducible refine m_retP ?_)
local macro_rules | `(tactic| walk_at "k28 m") => `(tactic| repeat (first | walk_at "k28 w" | walk_at "k28 o" | walk_at "k28 d" | walk_at "k28 x" | exact rfl))
local macro_rules | `(tactic| walk_at "k28 g") => `(tactic| repeat (first | with_reducible refine w_take ?_ | with_reducible refine w_word ?_ | with_reducible refine w_calld ?_ | with_reducible refine w_callgq ?_ | with_reducible refine w_addS ?_ | with_reducible refine w_ixS ?_ | with_reducible refine w_catL ?_ | walk_at "k28 w" | walk_at "k28 d" | refine ⟨_, _, rfl, .head _, (by first | decide | omega | simp | (simp only [List.length_map]; omega)), fun (r : Int) (r1 : 0 ≤ r) (r2 : r < _) => ?_⟩ | refine ⟨_, rfl, fun (s : Str) (sw : Wdn 60 s) => ?_⟩ | walk_at "k28 x" | exact rfl))
local macro_rules | `(tactic| walk_at "k28 f") => `(tactic| first
  | refine wf (Txt.c_Source (by assumption)) (Txt.n_meter (by assumption)) rfl lk_meter ?_ | refine wf (Txt.c_Source (by assumption)) (Txt.n_offset (by assumption)) rfl lk_offset ?_ | refine wf (Txt.c_Source (by assumption)) (Txt.n_slots (by assumption)) rfl lk_slots ?_ | refine wf (Txt.c_Source (by assumption)) (Txt.n_closed_number (by assumption)) rfl lk_closed_number ?_ | refine wf (Txt.c_Source (by assumption)) (Txt.n_closed_stamp (by assumption)) rfl lk_closed_stamp ?_ | refine wf (Txt.c_Source (by assumption)) (Txt.n_due (by assumption)) rfl lk_due ?_)
local macro_rules | `(tactic| walk_at "k28 n") => `(tactic| repeat (first | walk_at "k28 w" | walk_at "k28 f" | walk_at "k28 d" | walk_at "k28 x" | exact rfl))
local macro_rules | `(tactic| walk_at "k28 p") => `(tactic| first
  | with_reducible refine w_lenO ?_ | with_reducible refine w_tupleO ?_ | with_reducible refine w_ixO ?_
  | refine ⟨_, _, rfl, .of (.tail _ (.head _)), ?_⟩ | refine ⟨_, _, rfl, .of (.tail _ (.tail _ (.head _))), ?_⟩)
local macro_rules | `(tactic| walk_at "k28 q") => `(tactic| repeat (first | walk_at "k28 w" | walk_at "k28 f" | walk_at "k28 p" | walk_at "k28 d" | walk_at "k28 x" | exact rfl))
section
variable {P : Program} {w : World} {K : PySem.W.Frag} {mg : Str → Option Value} {base : Heap}
theorem sc__law_take : FnScope ["_law_draws_here", "_law_many"] ["_law_draws_here", "_law_many"] (defScope s__law_take) := ⟨rfl, rfl, rfl, by decide +kernel, rfl, by decide +kernel, by decide +kernel⟩
def ATk (m : Int) (dr : Addr) (es : List En1) : Prop := es = [.raw (.ref dr), .dat (.int m)] ∧ 0 < m
def STk (m : Int) (e : En1) : Prop := ∃ r : Int, e = .dat (.int r) ∧ 0 ≤ r ∧ r < m
theorem ok__law_take (T : Txt K mg) : Ok P w K mg base CX0 1 "_law_take" (He.ga K "_law_take") ["_law_draws_here", "_law_many"] (psd ATk STk) := by
  obtain ⟨fd, F⟩ := T.F__law_take
  refine ⟨⟨fd, ok_drawL F sc__law_take (fun m dr es h => by rw [h.1]; rfl) (fun cdv A outer s H E hr => ⟨_, (pss_cons (ps_if (pt_cmpR op_eq (pe_callB (kLen (K := K) rfl) (by rfl) T.f_len (by decide +kernel) (pa_cons (pv 0) pa_nil)) pe_int (nomark _)) (pss_one (ps_ret pe_int)) pss_nil) (pss_one (ps_ret (pe_op op_mod (pe_callTy call_int1 (by rfl) T.f_int (by decide +kernel) (pa_cons (pe_bm0 PySem.F.plainAttrs_list PySem.F.slot_list_pop PySem.F.type_list_pop mt_pop (pv 0)) pa_nil)) (pv 1))))), fun m dr es r ns => ?_⟩), (F.bindsN fun _ _ _ _ _ _ us hl => match us, hl with | [_, _], _ => rfl)⟩, T.g__law_take, F.kp⟩
  obtain ⟨rfl, mp⟩ := r
  walk_at "k28 m"
  split
  · walk_at "k28 m"
    exact ⟨⟨_, .head _, .l _ ns⟩, _, rfl, 0, rfl, Int.le_refl _, mp⟩
  · rename_i c
    walk_at "k28 w"
    refine m_ret (x_popmod 0 ?_)
    walk_at "k28"
    refine ⟨_, _, ns, rfl, rfl, fun e => c (by rw [e]; simp), m, rfl, mp, fun xs' ns' z h1 h2 => ⟨⟨_, .head _, .l _ _⟩, _, rfl, z, rfl, h1, h2⟩⟩
end
end TW
/-! K28P10 -/
namespace TW
open PySem PySem.Spec PyProof.Rows L2
section
variable {M : Md} {ρ : Ro} {K : En1 → Prop} {ta tb : TE}
theorem w_addS (h : We M ta ρ fun x => We M tb ρ fun y => ∃ i j : Str, x = .dat (.str i) ∧ y = .dat (.str j) ∧ i.length + j.length ≤ 1000000 ∧ K (.dat (.str (i ++ j)))) : We M (tOp (fun x y H Q => ∃ i j, x = .str i ∧ y = .str j ∧ i.length + j.length ≤ sizeLine ∧ Q (.str (i ++ j)) H) ta tb) ρ K :=
  w_op (h.imp fun x a => a.imp fun y ⟨i, j, ex, ey, c, k⟩ => by
    subst ex ey
    intro u u' H jj a b Q q
    exact ⟨i, j, At.of_str a, At.of_str b, by rw [sizeLine_eq]; omega, q _ H _ (Md.refl jj) (Is.d (At.str _)) k⟩)
theorem w_ixS (h : We M ta ρ fun x => We M tb ρ fun y => ∃ (z : Str) (i : Int) (c : Nat), x = .dat (.str z) ∧ y = .dat (.int i) ∧ z.length ≤ 1000000 ∧ atI z.cps.toList i = some c ∧ K (.dat (.str ⟨#[c]⟩))) : We M (tOp rIxS ta tb) ρ K :=
  w_op (h.imp fun x a => a.imp fun y ⟨z, i, c, ex, ey, l, e, k⟩ => by
    subst ex ey
    intro u u' H jj a b Q q
    exact ⟨z, i, c, At.of_str a, At.of_int b, by rw [sizeLine_eq]; omega, e, q _ H _ (Md.refl jj) (Is.d (At.str _)) k⟩)
theorem pick {α : Type} {ds : List α} {i : Int} (h0 : 0 ≤ i) (h1 : i < ds.length) : ∃ d, atI ds i = some d ∧ d ∈ ds := by
  obtain ⟨k, rfl⟩ := Int.eq_ofNat_of_zero_le h0
  have hk : k < ds.length := by omega
  exact ⟨ds[k], atI_nat (List.getElem?_eq_getElem hk), List.getElem_mem hk⟩
theorem w_take {Γ : Gs} {t : TA} {E : XK} (h : Wa (MG Γ) t ρ fun es => ∃ m dr, es = [.raw (.ref dr), .dat (.int m)] ∧ (dr, Cell.rnd) ∈ Γ ∧ 0 < m ∧ ∀ r : Int, 0 ≤ r → r < m → K (.dat (.int r))) : We (MG Γ) (tCall (psd ATk STk) [] E t) ρ K :=
  w_calld fun σ H j n Q q => h σ H j n Q fun vs H2 es l i ⟨m, dr, e, hm, mp, k⟩ => q vs H2 es l i ⟨m, dr, hm, ⟨e, mp⟩, fun d ⟨r, e, h1, h2⟩ => by rw [e]; exact k r h1 h2⟩
end
/-- a word of the law: letters, not many -/
def Wd (s : Str) : Prop := PyData.strOk s = true ∧ s.length ≤ 100
def Wdn (n : Nat) (s : Str) : Prop := PyData.strOk s = true ∧ s.length ≤ n
def AWd (n : Int) (es : List En1) : Prop := es = [.dat (.int n)]
def SWd (_ : Int) (e : En1) : Prop := ∃ s : Str, e = .dat (.str s) ∧ Wdn 60 s
theorem w_word {Γ : Gs} {ρ : Ro} {K : En1 → Prop} {t : TA} {E : XK} (h : Wa (MG Γ) t ρ fun es => ∃ n, es = [.dat (.int n)] ∧ ∀ s, Wdn 60 s → K (.dat (.str s))) : We (MG Γ) (tCall (psq AWd SWd) [] E t) ρ K :=
  w_callgq fun σ H j n Q q => h σ H j n Q fun vs H2 es l i ⟨n, e, k⟩ => q vs H2 es l i ⟨n, es, by rw [e]; exact .cons (.same _) .nil, e, fun e ⟨s, es, w⟩ => by rw [es]; exact ⟨trivial, k s w⟩⟩
local macro_rules | `(tactic| walk_at "k28 d") => `(tactic| first
  | refine w_var rfl ?_ | with_reducible refine w_int ?_ | with_reducible refine w_str ?_ | with_reducible refine w_non ?_ | with_reducible refine w_bl ?_
  | with_reducible refine w_ixT ?_ | with_reducible refine w_ixL ?_ | with_reducible refine w_add ?_ | with_reducible refine w_sub ?_ | with_reducible refine w_eq ?_ | with_reducible refine w_ne ?_ | with_reducible refine w_lt ?_
  | with_reducible refine w_leq ?_ | with_reducible refine w_gt ?_ | with_reducible refine w_ge ?_ | with_reducible refine w_mul ?_ | with_reducible refine w_div ?_ | with_reducible refine w_mod ?_ | with_reducible refine w_pow ?_
  | with_reducible refine w_neg ?_ | with_reducible refine w_isN ?_ | with_reducible refine w_notN ?_ | with_reducible refine a_nil ?_ | with_reducible refine a_cons ?_ | with_reducible refine w_tup ?_ | with_reducible refine w_lst ?_
  | with_reducible refine w_call0 ?_ | with_reducible refine w_len ?_ | with_reducible refine w_sumM ?_ | with_reducible refine w_allM ?_ | with_reducible refine w_tuple ?_ | with_reducible refine w_abs ?_ | with_reducible refine w_toInt ?_ | with_reducible refine w_max2 ?_
  | with_reducible refine w_min2 ?_ | with_reducible refine t_test ?_ | with_reducible refine t_B ?_ | with_reducible refine t_and ?_ | with_reducible refine t_or ?_ | with_reducible refine t_not ?_ | with_reducible refine t_yes ?_
  | with_reducible refine w_andV ?_ | with_reducible refine w_orV ?_ | with_reducible refine w_notV ?_ | with_reducible refine w_if ?_ | with_reducible refine w_chain ?_ | with_reducible refine o_none ?_ | with_reducible refine o_some ?_
  | with_reducible refine w_slT ?_ | with_reducible refine w_slL ?_ | with_reducible refine w_catT ?_ | with_reducible refine w_catL ?_ | with_reducible refine w_dget ?_ | with_reducible refine w_din ?_ | with_reducible refine w_dnotin ?_ | with_reducible refine w_sortD ?_ | with_reducible refine w_sortI ?_ | with_reducible refine w_callq ?_ | with_reducible refine w_isB ?_
  | with_reducible refine w_notB ?_ | with_reducible refine g_name ?_ | refine gs_nil rfl ?_ | refine gs_cons rfl ?_ | with_reducible refine s_next ?_ | with_reducible refine s_seq ?_ | with_reducible refine s_asg ?_
  | with_reducible refine s_drop ?_ | with_reducible refine s_ret ?_ | with_reducible refine s_brk ?_ | with_reducible refine s_if ?_)
local macro_rules | `(tactic| walk_at "k28 x") => `(tactic| first
  | refine g_tup ⟨_, rfl, rfl, ?_⟩ | refine ⟨_, _, _, _, rfl, rfl, rfl, rfl, rfl, ?_⟩ | refine ⟨_, _, _, rfl, rfl, rfl, ?_⟩ | refine ⟨_, _, _, rfl, rfl, atI_nat (j := 0) rfl, ?_⟩ | refine ⟨_, _, _, rfl, ?_⟩ | refine ⟨_, _, rfl, rfl, by decide, ?_⟩ | refine ⟨_, _, rfl, rfl, ⟨by decide, by decide⟩, ?_⟩ | refine ⟨_, _, rfl, rfl, ⟨by decide, by decide, by decide⟩, ?_⟩ | refine ⟨_, _, rfl, rfl, .inl ⟨by decide, by decide⟩, ?_⟩ | refine ⟨_, _, rfl, rfl, .inr ⟨by decide, by decide⟩, ?_⟩ | refine ⟨_, _, rfl, rfl, ?_⟩ | refine ⟨_, _, rfl, ?_⟩ | refine ⟨_, (show undats _ = some _ from rfl), by simp, ?_⟩ | refine ⟨_, rfl, ?_⟩ | refine ⟨_, .inl rfl, ?_⟩ | refine ⟨_, .inr rfl, ?_⟩ | refine ⟨_, _, rfl, rfl, ?_, ?_⟩)
local macro_rules | `(tactic| walk_at "k28 t") => `(tactic| first | rw [if_pos (by decide)] | rw [if_neg (by decide)] | rw [if_pos (by simp)] | rw [if_neg (by simp)])
local macro_rules | `(tactic| walk_at "k28") => `(tactic| repeat (first | walk_at "k28 d" | walk_at "k28 x" | exact rfl))
local macro_rules | `(tactic| walk_at "k28 s") => `(tactic| repeat (first | (fail_if_success with_reducible refine s_if ?_); (first | walk_at "k28 d" | walk_at "k28 x" | exact rfl)))
local macro_rules | `(tactic| walk_at "k28 o") => `(tactic| first
  | with_reducible refine w_dnotinO ?_ | with_reducible refine w_dgetO ?_ | with_reducible refine w_dget2O ?_ | with_reducible refine w_lenO ?_ | with_reducible refine w_tupleO ?_ | with_reducible refine w_notInO ?_ | with_reducible refine w_ixO ?_ | with_reducible refine w_fld ?_
  | refine ⟨_, _, _, rfl, rfl, .of (.head _), ?_⟩ | refine ⟨_, _, _, rfl, rfl, .of (.tail _ (.head _)), ?_⟩ | refine ⟨_, _, rfl, .of (.head _), ?_⟩ | refine ⟨_, _, rfl, .of (.tail _ (.head _)), ?_⟩)
local macro_rules | `(tactic| walk_at "k28 w") => `(tactic| first | with_reducible refine m_next ?_ | with_reducible refine m_seq ?_ | with_reducible refine m_asg (x_dnew fun p => ?_) | with_reducible refine m_asg (x_dnewT fun p => ?_) | with_reducible refine m_asg (x_lst ?_) | with_reducible refine m_asgP ?_ | with_reducible refine m_if ?_ | with_reducible refine m_retP ?_)
local macro_rules | `(tactic| walk_at "k28 m") => `(tactic| repeat (first | walk_at "k28 w" | walk_at "k28 o" | walk_at "k28 d" | walk_at "k28 x" | exact rfl))
local macro_rules | `(tactic| walk_at "k28 g") => `(tactic| repeat (first | with_reducible refine w_take ?_ | with_reducible refine w_word ?_ | with_reducible refine w_calld ?_ | with_reducible refine w_callgq ?_ | with_reducible refine w_addS ?_ | with_reducible refine w_ixS ?_ | with_reducible refine w_catL ?_ | walk_at "k28 w" | walk_at "k28 d" | refine ⟨_, _, rfl, .head _, (by first | decide | omega | simp | (simp only [List.length_map]; omega)), fun (r : Int) (r1 : 0 ≤ r) (r2 : r < _) => ?_⟩ | refine ⟨_, rfl, fun (s : Str) (sw : Wdn 60 s) => ?_⟩ | walk_at "k28 x" | exact rfl))
local macro_rules | `(tactic| walk_at "k28 f") => `(tactic| first
  | refine wf (Txt.c_Source (by assumption)) (Txt.n_meter (by assumption)) rfl lk_meter ?_ | refine wf (Txt.c_Source (by assumption)) (Txt.n_offset (by assumption)) rfl lk_offset ?_ | refine wf (Txt.c_Source (by assumption)) (Txt.n_slots (by assumption)) rfl lk_slots ?_ | refine wf (Txt.c_Source (by assumption)) (Txt.n_closed_number (by assumption)) rfl lk_closed_number ?_ | refine wf (Txt.c_Source (by assumption)) (Txt.n_closed_stamp (by assumption)) rfl lk_closed_stamp ?_ | refine wf (Txt.c_Source (by assumption)) (Txt.n_due (by assumption)) rfl lk_due ?_)
local macro_rules | `(tactic| walk_at "k28 n") => `(tactic| repeat (first | walk_at "k28 w" | walk_at "k28 f" | walk_at "k28 d" | walk_at "k28 x" | exact rfl))
local macro_rules | `(tactic| walk_at "k28 p") => `(tactic| first
  | with_reducible refine w_lenO ?_ | with_reducible refine w_tupleO ?_ | with_reducible refine w_ixO ?_
  | refine ⟨_, _, rfl, .of (.tail _ (.head _)), ?_⟩ | refine ⟨_, _, rfl, .of (.tail _ (.tail _ (.head _))), ?_⟩)
local macro_rules | `(tactic| walk_at "k28 q") => `(tactic| repeat (first | walk_at "k28 w" | walk_at "k28 f" | walk_at "k28 p" | walk_at "k28 d" | walk_at "k28 x" | exact rfl))
section
variable {P : Program} {w : World} {K : PySem.W.Frag} {mg : Str → Option Value} {base : Heap}
theorem wd_app {a b : Str} (h1 : PyData.strOk a = true) (h2 : PyData.strOk b = true) : PyData.strOk (a ++ b) = true := by
  have e : (a ++ b).cps = a.cps ++ b.cps := rfl
  unfold PyData.strOk at *
  rw [e, Array.all_append, h1, h2]
  rfl
theorem len_app (a b : Str) : (a ++ b).length = a.length + b.length := by
  show (a.cps ++ b.cps).size = a.cps.size + b.cps.size
  simp
def abc : Str := "abcdefghijklmnopqrstuvwxyz"
theorem abc_ok : ∀ c ∈ abc.cps.toList, c < 0x110000 := by decide +kernel
theorem abc_len : abc.cps.toList.length = 26 := by decide +kernel
theorem sc__law_word : FnScope ["_law_number", "_law_word_here", "_law_k"] ["_law_number"] (defScope s__law_word) := ⟨rfl, rfl, rfl, by decide +kernel, rfl, by decide +kernel, by decide +kernel⟩
theorem ok__law_word (T : Txt K mg) : Ok P w K mg base CX0 1 "_law_word" (He.ga K "_law_word") ["_law_number"] (psq AWd SWd) := by
  obtain ⟨fd, F⟩ := T.F__law_word
  refine ⟨⟨fd, ok_pureq F sc__law_word (fun g es h => by rw [h]; rfl) (fun cdv A outer s H E hr => ⟨_, (pss_cons (ps_set (i := 1) sc__law_word.nd rfl (Or.inl rfl) pe_str) (pss_cons (ps_for PassesOwn.never rfl (pi_range1 (by rfl) T.f_range (pa_cons pe_int pa_nil)) (pg_name (i := 2) sc__law_word.nd rfl (Or.inl rfl)) (pss_cons (ps_if (pt_cmpR op_lt (pv 0) pe_int (nomark _)) (pss_one ps_break) pss_nil) (pss_cons (ps_set (i := 1) sc__law_word.nd rfl (Or.inl rfl) (pe_op op_add_str (pe_ix ix_str pe_str (pe_op op_mod (pe_callTy call_int1 (by rfl) T.f_int (by decide +kernel) (pa_cons (pe_op op_sub (pv 0) pe_int) pa_nil)) pe_int) (fun _ _ => rfl)) (pv 1))) (pss_one (ps_set (i := 0) sc__law_word.nd rfl (Or.inl rfl) (pe_op op_fdiv (pe_op op_sub (pv 0) pe_int) pe_int)))))) (pss_one (ps_ret (pv 1))))), fun n es r => ?_⟩), (F.bindsN fun _ _ _ _ _ _ us hl => match us, hl with | [_], _ => rfl)⟩, T.g__law_word, F.kp⟩
  obtain rfl := r
  walk_at "k28"
  refine s_forR ?_
  walk_at "k28"
  refine ⟨by decide, by decide, fun i ρ' => Hid (∃ (n : Int) (s : Str) (a : Option En1), ρ' = [some (.dat (.int n)), some (.dat (.str s)), a] ∧ Wdn i s), hid ⟨_, _, none, rfl, by decide +kernel, by decide +kernel⟩, ?_, ?_⟩
  · intro i ρ' hi hI
    obtain ⟨n, s, a, rfl, w1, w2⟩ := hI.out
    walk_at "k28"
    split
    · walk_at "k28"
      exact ⟨w1, by omega⟩
    · walk_at "k28"
      refine w_addS ?_
      refine w_ixS ?_
      walk_at "k28"
      obtain ⟨c, hc, mc⟩ := pick (ds := abc.cps.toList) (i := (n - 1) % 26) (Int.emod_nonneg _ (by decide)) (by rw [abc_len]; exact Int.emod_lt_of_pos _ (by decide))
      refine ⟨abc, _, c, rfl, rfl, by decide +kernel, hc, ?_⟩
      have co : PyData.strOk ⟨#[c]⟩ = true := by
        have := abc_ok c mc
        simpa [PyData.strOk] using this
      have cl : (⟨#[c]⟩ : Str).length = 1 := rfl
      walk_at "k28"
      refine ⟨by rw [cl]; omega, ?_⟩
      walk_at "k28"
      refine hid ⟨_, _, _, rfl, wd_app co w1, ?_⟩
      rw [len_app, cl]
      omega
  · intro ρ' hI
    obtain ⟨n, s, a, rfl, w1, w2⟩ := hI.out
    walk_at "k28"
    exact ⟨w1, w2⟩
theorem sc__law_some_word : FnScope ["_law_draws_here", "_law_number", "_law_great"] ["_law_draws_here"] (defScope s__law_some_word) := ⟨rfl, rfl, rfl, by decide +kernel, rfl, by decide +kernel, by decide +kernel⟩
def ADr (_ : Unit) (dr : Addr) (es : List En1) : Prop := es = [.raw (.ref dr)]
def SWd2 (_ : Unit) (e : En1) : Prop := ∃ s : Str, e = .dat (.str s) ∧ Wdn 80 s
theorem ok__law_some_word (T : Txt K mg) : Ok P w K mg base CX0 2 "_law_some_word" (He.ga K "_law_some_word") ["_law_draws_here"] (psd ADr SWd2) := by
  obtain ⟨fd, F⟩ := T.F__law_some_word
  have o__law_take := ok__law_take (P := P) (w := w) (base := base) T
  have o__law_word := ok__law_word (P := P) (w := w) (base := base) T
  refine ⟨⟨fd, ok_draw F sc__law_some_word (fun m dr es h => by rw [h]; rfl) (fun cdv A outer s H E hr => ⟨_, (pss_cons (ps_set (i := 1) sc__law_some_word.nd rfl (Or.inl rfl) (pe_ok o__law_take hr (by decide) (by rfl) (pa_cons (pv 0) (pa_cons pe_int pa_nil)))) (pss_cons (ps_if (pt_cmpR op_lt (pv 1) pe_int (nomark _)) (pss_one (ps_ret (pe_ok o__law_word hr (by decide) (by rfl) (pa_cons (pe_op op_add (pe_op op_add pe_int (pe_op op_mod (pv 1) pe_int)) (pe_op op_mul pe_int (pe_op op_mod (pe_op op_fdiv (pv 1) pe_int) pe_int))) pa_nil)))) pss_nil) (pss_cons (ps_if (pt_cmpR op_lt (pv 1) pe_int (nomark _)) (pss_one (ps_ret (pe_ok o__law_word hr (by decide) (by rfl) (pa_cons (pe_op op_add pe_int (pe_ok o__law_take hr (by decide) (by rfl) (pa_cons (pv 0) (pa_cons pe_int pa_nil)))) pa_nil)))) pss_nil) (pss_cons (ps_if (pt_cmpR op_lt (pv 1) pe_int (nomark _)) (pss_one (ps_ret (pe_op op_add_str pe_str (pe_ok o__law_word hr (by decide) (by rfl) (pa_cons (pe_op op_add pe_int (pe_ok o__law_take hr (by decide) (by rfl) (pa_cons (pv 0) (pa_cons pe_int pa_nil)))) pa_nil))))) pss_nil) (pss_cons (ps_set (i := 2) sc__law_some_word.nd rfl (Or.inl rfl) (pe_op op_add (pe_op op_mul pe_int (pe_ok o__law_take hr (by decide) (by rfl) (pa_cons (pv 0) (pa_cons pe_int pa_nil)))) (pe_op op_mul pe_int (pe_ok o__law_take hr (by decide) (by rfl) (pa_cons (pv 0) (pa_cons pe_int pa_nil)))))) (pss_cons (ps_if (pt_cmpR op_ge (pv 1) pe_int (nomark _)) (pss_one (ps_set (i := 2) sc__law_some_word.nd rfl (Or.inl rfl) (pe_op op_mul (pv 2) (pe_op op_pow pe_int pe_int)))) pss_nil) (pss_one (ps_ret (pe_ok o__law_word hr (by decide) (by rfl) (pa_cons (pe_op op_add (pe_op op_add pe_int (pv 2)) (pe_ok o__law_take hr (by decide) (by rfl) (pa_cons (pv 0) (pa_cons pe_int pa_nil)))) pa_nil)))))))))), fun m dr es r => ?_⟩), (F.bindsN fun _ _ _ _ _ _ us hl => match us, hl with | [_], _ => rfl)⟩, T.g__law_some_word, F.kp⟩
  obtain rfl := r
  have fin : ∀ {s : Str}, Wdn 80 s → ((∃ c, (dr, c) ∈ [(dr, Cell.rnd)] ∧ IsRnd c) ∧ ∃ d, En1.dat (.str s) = .dat d ∧ SWd2 () (.dat d)) := fun {s} w => ⟨⟨_, .head _, .r⟩, _, rfl, s, rfl, w⟩
  have up : ∀ {s : Str}, Wdn 60 s → Wdn 80 s := fun w => ⟨w.1, Nat.le_trans w.2 (by decide)⟩
  walk_at "k28 g"
  split
  · walk_at "k28 g"
    exact fin (up (by assumption))
  walk_at "k28 g"
  split
  · walk_at "k28 g"
    exact fin (up (by assumption))
  walk_at "k28 g"
  split
  · walk_at "k28 g"
    rename_i s sw
    refine ⟨by have := sw.2; show 12 + s.length ≤ 1000000; omega, ?_⟩
    walk_at "k28 g"
    refine fin ⟨wd_app (by decide +kernel) sw.1, ?_⟩
    rw [len_app]
    have := sw.2
    show 12 + s.length ≤ 80
    omega
  walk_at "k28 g"
  split
  · walk_at "k28 g"
    exact fin (up (by assumption))
  · walk_at "k28 g"
    exact fin (up (by assumption))
end
end TW
/-! K28P11 -/
namespace TW
open PySem PySem.Spec PyProof.Rows L2
structure Sta where
  ss : List Slot
  cn : Nat
  cs : Option Int
  due : List Let
inductive Deed where
  | record (st v : Int) | correct (s v : Int) | back (s : Int) | close (st : Int) | check (lo hi : Int) | ack (l : Let)
abbrev Sta.d (nm : Str) (z : Sta) : Dt := .tuple [.tuple (z.ss.map slotD), .int z.cn, optD z.cs, .tuple (z.due.map (Let.d nm))]
abbrev Deed.d (nm : Str) : Deed → Dt
  | .record st v => .tuple [.str "record", .int st, .int v]
  | .correct s v => .tuple [.str "correct", .int s, .int v]
  | .back s => .tuple [.str "take_back", .int s]
  | .close st => .tuple [.str "close", .int st]
  | .check lo hi => .tuple [.str "check", .int lo, .int hi]
  | .ack l => .tuple [.str "acknowledge", Let.d nm l]
theorem atI_last {α : Type} (l : List α) (x : α) : atI (l ++ [x]) (-1) = some x := by
  unfold atI
  have e : ixN (l ++ [x]).length (-1) = some l.length := by
    unfold ixN
    simp
    omega
  rw [e]
  simp
def AMt (m : Meter) (dr : Addr) (es : List En1) : Prop := es = [.raw (.ref dr), .dat m.d] ∧ m.lo ≤ m.hi
def SInt {ι : Type} (_ : ι) (e : En1) : Prop := ∃ v : Int, e = .dat (.int v)
local macro_rules | `(tactic| walk_at "k28 d") => `(tactic| first
  | refine w_var rfl ?_ | with_reducible refine w_int ?_ | with_reducible refine w_str ?_ | with_reducible refine w_non ?_ | with_reducible refine w_bl ?_
  | with_reducible refine w_ixT ?_ | with_reducible refine w_ixL ?_ | with_reducible refine w_add ?_ | with_reducible refine w_sub ?_ | with_reducible refine w_eq ?_ | with_reducible refine w_ne ?_ | with_reducible refine w_lt ?_
  | with_reducible refine w_leq ?_ | with_reducible refine w_gt ?_ | with_reducible refine w_ge ?_ | with_reducible refine w_mul ?_ | with_reducible refine w_div ?_ | with_reducible refine w_mod ?_ | with_reducible refine w_pow ?_
  | with_reducible refine w_neg ?_ | with_reducible refine w_isN ?_ | with_reducible refine w_notN ?_ | with_reducible refine a_nil ?_ | with_reducible refine a_cons ?_ | with_reducible refine w_tup ?_ | with_reducible refine w_lst ?_
  | with_reducible refine w_call0 ?_ | with_reducible refine w_len ?_ | with_reducible refine w_sumM ?_ | with_reducible refine w_allM ?_ | with_reducible refine w_tuple ?_ | with_reducible refine w_abs ?_ | with_reducible refine w_toInt ?_ | with_reducible refine w_max2 ?_
  | with_reducible refine w_min2 ?_ | with_reducible refine t_test ?_ | with_reducible refine t_B ?_ | with_reducible refine t_and ?_ | with_reducible refine t_or ?_ | with_reducible refine t_not ?_ | with_reducible refine t_yes ?_
  | with_reducible refine w_andV ?_ | with_reducible refine w_orV ?_ | with_reducible refine w_notV ?_ | with_reducible refine w_if ?_ | with_reducible refine w_chain ?_ | with_reducible refine o_none ?_ | with_reducible refine o_some ?_
  | with_reducible refine w_slT ?_ | with_reducible refine w_slL ?_ | with_reducible refine w_catT ?_ | with_reducible refine w_catL ?_ | with_reducible refine w_dget ?_ | with_reducible refine w_din ?_ | with_reducible refine w_dnotin ?_ | with_reducible refine w_sortD ?_ | with_reducible refine w_sortI ?_ | with_reducible refine w_callq ?_ | with_reducible refine w_isB ?_
  | with_reducible refine w_notB ?_ | with_reducible refine g_name ?_ | refine gs_nil rfl ?_ | refine gs_cons rfl ?_ | with_reducible refine s_next ?_ | with_reducible refine s_seq ?_ | with_reducible refine s_asg ?_
  | with_reducible refine s_drop ?_ | with_reducible refine s_ret ?_ | with_reducible refine s_brk ?_ | with_reducible refine s_if ?_)
local macro_rules | `(tactic| walk_at "k28 x") => `(tactic| first
  | refine g_tup ⟨_, rfl, rfl, ?_⟩ | refine ⟨_, _, _, _, rfl, rfl, rfl, rfl, rfl, ?_⟩ | refine ⟨_, _, _, rfl, rfl, rfl, ?_⟩ | refine ⟨_, _, _, rfl, rfl, atI_nat (j := 0) rfl, ?_⟩ | refine ⟨_, _, _, rfl, ?_⟩ | refine ⟨_, _, rfl, rfl, by decide, ?_⟩ | refine ⟨_, _, rfl, rfl, ⟨by decide, by decide⟩, ?_⟩ | refine ⟨_, _, rfl, rfl, ⟨by decide, by decide, by decide⟩, ?_⟩ | refine ⟨_, _, rfl, rfl, .inl ⟨by decide, by decide⟩, ?_⟩ | refine ⟨_, _, rfl, rfl, .inr ⟨by decide, by decide⟩, ?_⟩ | refine ⟨_, _, rfl, rfl, ?_⟩ | refine ⟨_, _, rfl, ?_⟩ | refine ⟨_, (show undats _ = some _ from rfl), by simp, ?_⟩ | refine ⟨_, rfl, ?_⟩ | refine ⟨_, .inl rfl, ?_⟩ | refine ⟨_, .inr rfl, ?_⟩ | refine ⟨_, _, rfl, rfl, ?_, ?_⟩)
local macro_rules | `(tactic| walk_at "k28 t") => `(tactic| first | rw [if_pos (by decide)] | rw [if_neg (by decide)] | rw [if_pos (by simp)] | rw [if_neg (by simp)])
local macro_rules | `(tactic| walk_at "k28") => `(tactic| repeat (first | walk_at "k28 d" | walk_at "k28 x" | exact rfl))
local macro_rules | `(tactic| walk_at "k28 s") => `(tactic| repeat (first | (fail_if_success with_reducible refine s_if ?_); (first | walk_at "k28 d" | walk_at "k28 x" | exact rfl)))
local macro_rules | `(tactic| walk_at "k28 o") => `(tactic| first
  | with_reducible refine w_dnotinO ?_ | with_reducible refine w_dgetO ?_ | with_reducible refine w_dget2O ?_ | with_reducible refine w_lenO ?_ | with_reducible refine w_tupleO ?_ | with_reducible refine w_notInO ?_ | with_reducible refine w_ixO ?_ | with_reducible refine w_fld ?_
  | refine ⟨_, _, _, rfl, rfl, .of (.head _), ?_⟩ | refine ⟨_, _, _, rfl, rfl, .of (.tail _ (.head _)), ?_⟩ | refine ⟨_, _, rfl, .of (.head _), ?_⟩ | refine ⟨_, _, rfl, .of (.tail _ (.head _)), ?_⟩)
local macro_rules | `(tactic| walk_at "k28 w") => `(tactic| first | with_reducible refine m_next ?_ | with_reducible refine m_seq ?_ | with_reducible refine m_asg (x_dnew fun p => ?_) | with_reducible refine m_asg (x_dnewT fun p => ?_) | with_reducible refine m_asg (x_lst ?_) | with_reducible refine m_asgP ?_ | with_reducible refine m_if ?_ | with_reducible refine m_retP ?_)
local macro_rules | `(tactic| walk_at "k28 m") => `(tactic| repeat (first | walk_at "k28 w" | walk_at "k28 o" | walk_at "k28 d" | walk_at "k28 x" | exact rfl))
local macro_rules | `(tactic| walk_at "k28 g") => `(tactic| repeat (first | with_reducible refine w_take ?_ | with_reducible refine w_word ?_ | with_reducible refine w_calld ?_ | with_reducible refine w_callgq ?_ | with_reducible refine w_addS ?_ | with_reducible refine w_ixS ?_ | with_reducible refine w_catL ?_ | walk_at "k28 w" | walk_at "k28 d" | refine ⟨_, _, rfl, .head _, (by first | decide | omega | simp | (simp only [List.length_map]; omega)), fun (r : Int) (r1 : 0 ≤ r) (r2 : r < _) => ?_⟩ | refine ⟨_, rfl, fun (s : Str) (sw : Wdn 60 s) => ?_⟩ | walk_at "k28 x" | exact rfl))
local macro_rules | `(tactic| walk_at "k28 f") => `(tactic| first
  | refine wf (Txt.c_Source (by assumption)) (Txt.n_meter (by assumption)) rfl lk_meter ?_ | refine wf (Txt.c_Source (by assumption)) (Txt.n_offset (by assumption)) rfl lk_offset ?_ | refine wf (Txt.c_Source (by assumption)) (Txt.n_slots (by assumption)) rfl lk_slots ?_ | refine wf (Txt.c_Source (by assumption)) (Txt.n_closed_number (by assumption)) rfl lk_closed_number ?_ | refine wf (Txt.c_Source (by assumption)) (Txt.n_closed_stamp (by assumption)) rfl lk_closed_stamp ?_ | refine wf (Txt.c_Source (by assumption)) (Txt.n_due (by assumption)) rfl lk_due ?_)
local macro_rules | `(tactic| walk_at "k28 n") => `(tactic| repeat (first | walk_at "k28 w" | walk_at "k28 f" | walk_at "k28 d" | walk_at "k28 x" | exact rfl))
local macro_rules | `(tactic| walk_at "k28 p") => `(tactic| first
  | with_reducible refine w_lenO ?_ | with_reducible refine w_tupleO ?_ | with_reducible refine w_ixO ?_
  | refine ⟨_, _, rfl, .of (.tail _ (.head _)), ?_⟩ | refine ⟨_, _, rfl, .of (.tail _ (.tail _ (.head _))), ?_⟩)
local macro_rules | `(tactic| walk_at "k28 q") => `(tactic| repeat (first | walk_at "k28 w" | walk_at "k28 f" | walk_at "k28 p" | walk_at "k28 d" | walk_at "k28 x" | exact rfl))
section
variable {P : Program} {w : World} {K : PySem.W.Frag} {mg : Str → Option Value} {base : Heap}
theorem sc__law_reading : FnScope ["_law_draws_here", "_law_meter", "_law_number"] ["_law_draws_here", "_law_meter"] (defScope s__law_reading) := ⟨rfl, rfl, rfl, by decide +kernel, rfl, by decide +kernel, by decide +kernel⟩
theorem ok__law_reading (T : Txt K mg) : Ok P w K mg base CX0 2 "_law_reading" (He.ga K "_law_reading") ["_law_draws_here", "_law_meter"] (psd AMt SInt) := by
  obtain ⟨fd, F⟩ := T.F__law_reading
  have o__law_take := ok__law_take (P := P) (w := w) (base := base) T
  refine ⟨⟨fd, ok_draw F sc__law_reading (fun m dr es h => by rw [h.1]; rfl) (fun cdv A outer s H E hr => ⟨_, (pss_cons (ps_set (i := 2) sc__law_reading.nd rfl (Or.inl rfl) (pe_ok o__law_take hr (by decide) (by rfl) (pa_cons (pv 0) (pa_cons pe_int pa_nil)))) (pss_cons (ps_if (pt_cmpR op_eq (pe_op op_mod (pv 2) pe_int) pe_int (nomark _)) (pss_one (ps_ret (pe_ix (kIxT (K := K) rfl) (pv 1) pe_int (fun _ _ => rfl)))) pss_nil) (pss_cons (ps_if (pt_cmpR op_eq (pe_op op_mod (pv 2) pe_int) pe_int (nomark _)) (pss_one (ps_ret (pe_ix (kIxT (K := K) rfl) (pv 1) pe_int (fun _ _ => rfl)))) pss_nil) (pss_cons (ps_if (pt_cmpR op_eq (pe_op op_mod (pv 2) pe_int) pe_int (nomark _)) (pss_one (ps_ret (pe_op op_fdiv (pe_op op_add (pe_ix (kIxT (K := K) rfl) (pv 1) pe_int (fun _ _ => rfl)) (pe_ix (kIxT (K := K) rfl) (pv 1) pe_int (fun _ _ => rfl))) pe_int))) pss_nil) (pss_one (ps_ret (pe_op op_add (pe_ix (kIxT (K := K) rfl) (pv 1) pe_int (fun _ _ => rfl)) (pe_op op_mod (pe_op op_fdiv (pv 2) pe_int) (pe_op op_add (pe_op op_sub (pe_ix (kIxT (K := K) rfl) (pv 1) pe_int (fun _ _ => rfl)) (pe_ix (kIxT (K := K) rfl) (pv 1) pe_int (fun _ _ => rfl))) pe_int))))))))), fun m dr es r => ?_⟩), (F.bindsN fun _ _ _ _ _ _ us hl => match us, hl with | [_, _], _ => rfl)⟩, T.g__law_reading, F.kp⟩
  obtain ⟨rfl, lh⟩ := r
  have fin : ∀ {v : Int}, ((∃ c, (dr, c) ∈ [(dr, Cell.rnd)] ∧ IsRnd c) ∧ ∃ d, En1.dat (.int v) = .dat d ∧ SInt m (.dat d)) := fun {v} => ⟨⟨_, .head _, .r⟩, _, rfl, v, rfl⟩
  walk_at "k28 g"
  split
  · walk_at "k28 g"
    exact fin
  walk_at "k28 g"
  split
  · walk_at "k28 g"
    exact fin
  walk_at "k28 g"
  split
  · walk_at "k28 g"
    exact fin
  walk_at "k28 g"
  refine ⟨by omega, ?_⟩
  walk_at "k28 g"
  exact fin
theorem sc__law_stamp : FnScope ["_law_draws_here", "_law_model", "_law_cell_here", "_law_found", "_law_last"] ["_law_draws_here", "_law_model", "_law_cell_here"] (defScope s__law_stamp) := ⟨rfl, rfl, rfl, by decide +kernel, rfl, by decide +kernel, by decide +kernel⟩
structure GSt where
  nm : Str
  z : Sta
  cell : Int
def ASt (g : GSt) (dr : Addr) (es : List En1) : Prop := es = [.raw (.ref dr), .dat (g.z.d g.nm), .dat (.int g.cell)]
theorem ok__law_stamp (T : Txt K mg) : Ok P w K mg base CX0 2 "_law_stamp" (He.ga K "_law_stamp") ["_law_draws_here", "_law_model", "_law_cell_here"] (psd ASt SInt) := by
  obtain ⟨fd, F⟩ := T.F__law_stamp
  have o__law_take := ok__law_take (P := P) (w := w) (base := base) T
  refine ⟨⟨fd, ok_draw F sc__law_stamp (fun m dr es h => by rw [h]; rfl) (fun cdv A outer s H E hr => ⟨_, (pss_cons (ps_set (i := 3) sc__law_stamp.nd rfl (Or.inl rfl) (pe_lst (pa_cons (pe_op op_sub (pe_ok o__law_take hr (by decide) (by rfl) (pa_cons (pv 0) (pa_cons pe_int pa_nil))) pe_int) (pa_cons (pv 2) pa_nil)))) (pss_cons (ps_if (pt_cmpR op_gt (pe_callB (kLen (K := K) rfl) (by rfl) T.f_len (by decide +kernel) (pa_cons (pe_ix (kIxT (K := K) rfl) (pv 1) pe_int (fun _ _ => rfl)) pa_nil)) pe_int (nomark _)) (pss_cons (ps_set (i := 4) sc__law_stamp.nd rfl (Or.inl rfl) (pe_ix (kIxT (K := K) rfl) (pe_ix (kIxT (K := K) rfl) (pe_ix (kIxT (K := K) rfl) (pv 1) pe_int (fun _ _ => rfl)) (pe_un un_neg pe_int) (fun _ _ => rfl)) pe_int (fun _ _ => rfl))) (pss_one (ps_set (i := 3) sc__law_stamp.nd rfl (Or.inl rfl) (pe_lst (pa_cons (pv 4) (pa_cons (pv 4) (pa_cons (pe_op op_add (pv 4) pe_int) (pa_cons (pe_op op_add (pv 4) pe_int) (pa_cons (pe_op op_add (pv 4) pe_int) (pa_cons (pe_op op_sub (pv 4) pe_int) (pa_cons (pe_op op_add (pe_ix (kIxT (K := K) rfl) (pe_ix (kIxT (K := K) rfl) (pe_ix (kIxT (K := K) rfl) (pv 1) pe_int (fun _ _ => rfl)) pe_int (fun _ _ => rfl)) pe_int (fun _ _ => rfl)) pe_int) pa_nil))))))))))) pss_nil) (pss_cons (ps_if (pt_cmpR op_notN (pe_ix (kIxT (K := K) rfl) (pv 1) pe_int (fun _ _ => rfl)) pe_non (nomark _)) (pss_one (ps_set (i := 3) sc__law_stamp.nd rfl (Or.inl rfl) (pe_op op_cat (pv 3) (pe_lst (pa_cons (pe_ix (kIxT (K := K) rfl) (pv 1) pe_int (fun _ _ => rfl)) (pa_cons (pe_op op_add (pe_ix (kIxT (K := K) rfl) (pv 1) pe_int (fun _ _ => rfl)) pe_int) (pa_cons (pe_op op_sub (pe_ix (kIxT (K := K) rfl) (pv 1) pe_int (fun _ _ => rfl)) pe_int) pa_nil))))))) pss_nil) (pss_one (ps_ret (pe_ix (kIxL (K := K) rfl) (pv 3) (pe_ok o__law_take hr (by decide) (by rfl) (pa_cons (pv 0) (pa_cons (pe_callB (kLen (K := K) rfl) (by rfl) T.f_len (by decide +kernel) (pa_cons (pv 3) pa_nil)) pa_nil))) (fun _ _ => rfl))))))), fun m dr es r => ?_⟩), (F.bindsN fun _ _ _ _ _ _ us hl => match us, hl with | [_, _, _], _ => rfl)⟩, T.g__law_stamp, F.kp⟩
  obtain ⟨nm, ⟨ss, cn, cs, due⟩, cell⟩ := m
  have r' : es = [.raw (.ref dr), .dat (.tuple [.tuple (ss.map slotD), .int (cn : Int), optD cs, .tuple (due.map (Let.d nm))]), .dat (.int cell)] := r
  subst r'
  refine m_pure ?_
  have fin : ∀ {v : Int}, ((∃ c, (dr, c) ∈ [(dr, Cell.rnd)] ∧ IsRnd c) ∧ ∃ d, En1.dat (.int v) = .dat d ∧ SInt (⟨nm, ⟨ss, cn, cs, due⟩, cell⟩ : GSt) (.dat d)) := fun {v} => ⟨⟨_, .head _, .r⟩, _, rfl, v, rfl⟩
  have last : ∀ (ds : List Dt), (∀ d ∈ ds, ∃ v, d = PyData.int v) → ∀ r : Int, 0 ≤ r → r < ds.length → ∃ v, atI ds r = some (.int v) := fun ds h r h0 h1 => by
    obtain ⟨d, hd, md⟩ := pick h0 h1
    obtain ⟨v, rfl⟩ := h d md
    exact ⟨v, hd⟩
  walk_at "k28 g"
  rcases List.eq_nil_or_concat ss with rfl | ⟨ss', sl, rfl⟩
  · rw [if_neg (by simp)]
    walk_at "k28 g"
    cases cs with
    | none =>
      rw [if_neg (by simp [isN])]
      walk_at "k28 g"
      rename_i r r1 r2
      obtain ⟨v, hv⟩ := last _ (by simp) r r1 r2
      exact ⟨_, _, _, rfl, rfl, hv, fin⟩
    | some c =>
      rw [if_pos (by simp [isN])]
      walk_at "k28 g"
      refine ⟨by rw [sizeLine_eq]; simp, ?_⟩
      walk_at "k28 g"
      rename_i r r1 r2
      obtain ⟨v, hv⟩ := last _ (by simp [optD]) r r1 r2
      exact ⟨_, _, _, rfl, rfl, hv, fin⟩
  · rw [if_pos (by simp)]
    have e1 : atI ((ss'.concat sl).map slotD) (-1) = some (slotD sl) := by
      rw [List.concat_eq_append, List.map_append]
      exact atI_last _ _
    obtain ⟨s0, e0⟩ : ∃ s0, atI ((ss'.concat sl).map slotD) 0 = some (slotD s0) := by
      cases ss' with
      | nil => exact ⟨sl, rfl⟩
      | cons a r => exact ⟨a, atI_nat (j := 0) rfl⟩
    walk_at "k28 g"
    refine ⟨_, _, _, rfl, rfl, e1, ?_⟩
    walk_at "k28 g"
    refine ⟨_, _, _, rfl, rfl, e0, ?_⟩
    walk_at "k28 g"
    cases cs with
    | none =>
      rw [if_neg (by simp [isN])]
      walk_at "k28 g"
      rename_i r r1 r2
      obtain ⟨v, hv⟩ := last _ (by simp) r r1 r2
      exact ⟨_, _, _, rfl, rfl, hv, fin⟩
    | some c =>
      rw [if_pos (by simp [isN])]
      walk_at "k28 g"
      refine ⟨by rw [sizeLine_eq]; simp, ?_⟩
      walk_at "k28 g"
      rename_i r r1 r2
      obtain ⟨v, hv⟩ := last _ (by simp [optD]) r r1 r2
      exact ⟨_, _, _, rfl, rfl, hv, fin⟩
theorem sc__law_entry : FnScope ["_law_draws_here", "_law_meter"] ["_law_draws_here", "_law_meter"] (defScope s__law_entry) := ⟨rfl, rfl, rfl, by decide +kernel, rfl, by decide +kernel, by decide +kernel⟩
theorem ok__law_entry (T : Txt K mg) : Ok P w K mg base CX0 3 "_law_entry" (He.ga K "_law_entry") ["_law_draws_here", "_law_meter"] (psd AMt SInt) := by
  obtain ⟨fd, F⟩ := T.F__law_entry
  have o__law_take := ok__law_take (P := P) (w := w) (base := base) T
  have o__law_reading := ok__law_reading (P := P) (w := w) (base := base) T
  refine ⟨⟨fd, ok_draw F sc__law_entry (fun m dr es h => by rw [h.1]; rfl) (fun cdv A outer s H E hr => ⟨_, (pss_one (ps_ret (pe_ix (kIxL (K := K) rfl) (pe_lst (pa_cons (pe_ok o__law_reading hr (by decide) (by rfl) (pa_cons (pv 0) (pa_cons (pv 1) pa_nil))) (pa_cons (pe_ix (kIxT (K := K) rfl) (pv 1) pe_int (fun _ _ => rfl)) (pa_cons (pe_ix (kIxT (K := K) rfl) (pv 1) pe_int (fun _ _ => rfl)) (pa_cons (pe_op op_sub (pe_ix (kIxT (K := K) rfl) (pv 1) pe_int (fun _ _ => rfl)) pe_int) (pa_cons (pe_op op_add (pe_ix (kIxT (K := K) rfl) (pv 1) pe_int (fun _ _ => rfl)) pe_int) pa_nil)))))) (pe_op op_fdiv (pe_ok o__law_take hr (by decide) (by rfl) (pa_cons (pv 0) (pa_cons pe_int pa_nil))) pe_int) (fun _ _ => rfl)))), fun m dr es r => ?_⟩), (F.bindsN fun _ _ _ _ _ _ us hl => match us, hl with | [_, _], _ => rfl)⟩, T.g__law_entry, F.kp⟩
  obtain ⟨rfl, lh⟩ := r
  refine m_pure ?_
  walk_at "k28 g"
  refine ⟨m, dr, .head _, ⟨rfl, lh⟩, ?_⟩
  rintro d ⟨v, ⟨⟩⟩
  walk_at "k28 g"
  rename_i r r1 r2
  obtain ⟨d, hd, md⟩ := pick (ds := [PyData.int v, .int m.lo, .int m.hi, .int (m.lo - 1), .int (m.hi + 1)]) (i := r / 3) (by omega) (by simp; omega)
  refine ⟨_, _, _, rfl, rfl, hd, ⟨_, .head _, .r⟩, _, rfl, ?_⟩
  simp at md
  rcases md with rfl | rfl | rfl | rfl | rfl <;> exact ⟨_, rfl⟩
theorem sc__law_offset : FnScope ["_law_draws_here", "_law_meter"] ["_law_draws_here", "_law_meter"] (defScope s__law_offset) := ⟨rfl, rfl, rfl, by decide +kernel, rfl, by decide +kernel, by decide +kernel⟩
def AOf (m : Meter) (dr : Addr) (es : List En1) : Prop := es = [.raw (.ref dr), .dat m.d] ∧ 0 ≤ m.err
def SOf (m : Meter) (e : En1) : Prop := ∃ v : Int, e = .dat (.int v) ∧ -m.err ≤ v ∧ v ≤ m.err
theorem ok__law_offset (T : Txt K mg) : Ok P w K mg base CX0 2 "_law_offset" (He.ga K "_law_offset") ["_law_draws_here", "_law_meter"] (psd AOf SOf) := by
  obtain ⟨fd, F⟩ := T.F__law_offset
  have o__law_take := ok__law_take (P := P) (w := w) (base := base) T
  refine ⟨⟨fd, ok_draw F sc__law_offset (fun m dr es h => by rw [h.1]; rfl) (fun cdv A outer s H E hr => ⟨_, (pss_one (ps_ret (pe_ix (kIxL (K := K) rfl) (pe_lst (pa_cons (pe_op op_sub (pe_ok o__law_take hr (by decide) (by rfl) (pa_cons (pv 0) (pa_cons (pe_op op_add (pe_op op_mul pe_int (pe_ix (kIxT (K := K) rfl) (pv 1) pe_int (fun _ _ => rfl))) pe_int) pa_nil))) (pe_ix (kIxT (K := K) rfl) (pv 1) pe_int (fun _ _ => rfl))) (pa_cons (pe_ix (kIxT (K := K) rfl) (pv 1) pe_int (fun _ _ => rfl)) (pa_cons (pe_un un_neg (pe_ix (kIxT (K := K) rfl) (pv 1) pe_int (fun _ _ => rfl))) pa_nil)))) (pe_ok o__law_take hr (by decide) (by rfl) (pa_cons (pv 0) (pa_cons pe_int pa_nil))) (fun _ _ => rfl)))), fun m dr es r => ?_⟩), (F.bindsN fun _ _ _ _ _ _ us hl => match us, hl with | [_, _], _ => rfl)⟩, T.g__law_offset, F.kp⟩
  obtain ⟨rfl, le⟩ := r
  refine m_pure ?_
  walk_at "k28 g"
  rename_i q q1 q2 r r1 r2
  obtain ⟨d, hd, md⟩ := pick (ds := [PyData.int (q - m.err), .int m.err, .int (-m.err)]) (i := r) (by omega) (by simp; omega)
  refine ⟨_, _, _, rfl, rfl, hd, ⟨_, .head _, .r⟩, _, rfl, ?_⟩
  simp at md
  rcases md with rfl | rfl | rfl <;> refine ⟨_, rfl, ?_, ?_⟩ <;> omega
end
end TW
/-! K28P12 -/
namespace TW
open PySem PySem.Spec PyProof.Rows L2
local macro_rules | `(tactic| walk_at "k28 d") => `(tactic| first
  | refine w_var rfl ?_ | with_reducible refine w_int ?_ | with_reducible refine w_str ?_ | with_reducible refine w_non ?_ | with_reducible refine w_bl ?_
  | with_reducible refine w_ixT ?_ | with_reducible refine w_ixL ?_ | with_reducible refine w_add ?_ | with_reducible refine w_sub ?_ | with_reducible refine w_eq ?_ | with_reducible refine w_ne ?_ | with_reducible refine w_lt ?_
  | with_reducible refine w_leq ?_ | with_reducible refine w_gt ?_ | with_reducible refine w_ge ?_ | with_reducible refine w_mul ?_ | with_reducible refine w_div ?_ | with_reducible refine w_mod ?_ | with_reducible refine w_pow ?_
  | with_reducible refine w_neg ?_ | with_reducible refine w_isN ?_ | with_reducible refine w_notN ?_ | with_reducible refine a_nil ?_ | with_reducible refine a_cons ?_ | with_reducible refine w_tup ?_ | with_reducible refine w_lst ?_
  | with_reducible refine w_call0 ?_ | with_reducible refine w_len ?_ | with_reducible refine w_sumM ?_ | with_reducible refine w_allM ?_ | with_reducible refine w_tuple ?_ | with_reducible refine w_abs ?_ | with_reducible refine w_toInt ?_ | with_reducible refine w_max2 ?_
  | with_reducible refine w_min2 ?_ | with_reducible refine t_test ?_ | with_reducible refine t_B ?_ | with_reducible refine t_and ?_ | with_reducible refine t_or ?_ | with_reducible refine t_not ?_ | with_reducible refine t_yes ?_
  | with_reducible refine w_andV ?_ | with_reducible refine w_orV ?_ | with_reducible refine w_notV ?_ | with_reducible refine w_if ?_ | with_reducible refine w_chain ?_ | with_reducible refine o_none ?_ | with_reducible refine o_some ?_
  | with_reducible refine w_slT ?_ | with_reducible refine w_slL ?_ | with_reducible refine w_catT ?_ | with_reducible refine w_catL ?_ | with_reducible refine w_dget ?_ | with_reducible refine w_din ?_ | with_reducible refine w_dnotin ?_ | with_reducible refine w_sortD ?_ | with_reducible refine w_sortI ?_ | with_reducible refine w_callq ?_ | with_reducible refine w_isB ?_
  | with_reducible refine w_notB ?_ | with_reducible refine g_name ?_ | refine gs_nil rfl ?_ | refine gs_cons rfl ?_ | with_reducible refine s_next ?_ | with_reducible refine s_seq ?_ | with_reducible refine s_asg ?_
  | with_reducible refine s_drop ?_ | with_reducible refine s_ret ?_ | with_reducible refine s_brk ?_ | with_reducible refine s_if ?_)
local macro_rules | `(tactic| walk_at "k28 x") => `(tactic| first
  | refine g_tup ⟨_, rfl, rfl, ?_⟩ | refine ⟨_, _, _, _, rfl, rfl, rfl, rfl, rfl, ?_⟩ | refine ⟨_, _, _, rfl, rfl, rfl, ?_⟩ | refine ⟨_, _, _, rfl, rfl, atI_nat (j := 0) rfl, ?_⟩ | refine ⟨_, _, _, rfl, ?_⟩ | refine ⟨_, _, rfl, rfl, by decide, ?_⟩ | refine ⟨_, _, rfl, rfl, ⟨by decide, by decide⟩, ?_⟩ | refine ⟨_, _, rfl, rfl, ⟨by decide, by decide, by decide⟩, ?_⟩ | refine ⟨_, _, rfl, rfl, .inl ⟨by decide, by decide⟩, ?_⟩ | refine ⟨_, _, rfl, rfl, .inr ⟨by decide, by decide⟩, ?_⟩ | refine ⟨_, _, rfl, rfl, ?_⟩ | refine ⟨_, _, rfl, ?_⟩ | refine ⟨_, (show undats _ = some _ from rfl), by simp, ?_⟩ | refine ⟨_, rfl, ?_⟩ | refine ⟨_, .inl rfl, ?_⟩ | refine ⟨_, .inr rfl, ?_⟩ | refine ⟨_, _, rfl, rfl, ?_, ?_⟩)
local macro_rules | `(tactic| walk_at "k28 t") => `(tactic| first | rw [if_pos (by decide)] | rw [if_neg (by decide)] | rw [if_pos (by simp)] | rw [if_neg (by simp)])
local macro_rules | `(tactic| walk_at "k28") => `(tactic| repeat (first | walk_at "k28 d" | walk_at "k28 x" | exact rfl))
local macro_rules | `(tactic| walk_at "k28 s") => `(tactic| repeat (first | (fail_if_success with_reducible refine s_if ?_); (first | walk_at "k28 d" | walk_at "k28 x" | exact rfl)))
local macro_rules | `(tactic| walk_at "k28 o") => `(tactic| first
  | with_reducible refine w_dnotinO ?_ | with_reducible refine w_dgetO ?_ | with_reducible refine w_dget2O ?_ | with_reducible refine w_lenO ?_ | with_reducible refine w_tupleO ?_ | with_reducible refine w_notInO ?_ | with_reducible refine w_ixO ?_ | with_reducible refine w_fld ?_
  | refine ⟨_, _, _, rfl, rfl, .of (.head _), ?_⟩ | refine ⟨_, _, _, rfl, rfl, .of (.tail _ (.head _)), ?_⟩ | refine ⟨_, _, rfl, .of (.head _), ?_⟩ | refine ⟨_, _, rfl, .of (.tail _ (.head _)), ?_⟩)
local macro_rules | `(tactic| walk_at "k28 w") => `(tactic| first | with_reducible refine m_next ?_ | with_reducible refine m_seq ?_ | with_reducible refine m_asg (x_dnew fun p => ?_) | with_reducible refine m_asg (x_dnewT fun p => ?_) | with_reducible refine m_asg (x_lst ?_) | with_reducible refine m_asgP ?_ | with_reducible refine m_if ?_ | with_reducible refine m_retP ?_)
local macro_rules | `(tactic| walk_at "k28 m") => `(tactic| repeat (first | walk_at "k28 w" | walk_at "k28 o" | walk_at "k28 d" | walk_at "k28 x" | exact rfl))
local macro_rules | `(tactic| walk_at "k28 g") => `(tactic| repeat (first | with_reducible refine w_take ?_ | with_reducible refine w_word ?_ | with_reducible refine w_calld ?_ | with_reducible refine w_callgq ?_ | with_reducible refine w_addS ?_ | with_reducible refine w_ixS ?_ | with_reducible refine w_catL ?_ | walk_at "k28 w" | walk_at "k28 d" | refine ⟨_, _, rfl, .head _, (by first | decide | omega | simp | (simp only [List.length_map]; omega)), fun (r : Int) (r1 : 0 ≤ r) (r2 : r < _) => ?_⟩ | refine ⟨_, rfl, fun (s : Str) (sw : Wdn 60 s) => ?_⟩ | walk_at "k28 x" | exact rfl))
local macro_rules | `(tactic| walk_at "k28 f") => `(tactic| first
  | refine wf (Txt.c_Source (by assumption)) (Txt.n_meter (by assumption)) rfl lk_meter ?_ | refine wf (Txt.c_Source (by assumption)) (Txt.n_offset (by assumption)) rfl lk_offset ?_ | refine wf (Txt.c_Source (by assumption)) (Txt.n_slots (by assumption)) rfl lk_slots ?_ | refine wf (Txt.c_Source (by assumption)) (Txt.n_closed_number (by assumption)) rfl lk_closed_number ?_ | refine wf (Txt.c_Source (by assumption)) (Txt.n_closed_stamp (by assumption)) rfl lk_closed_stamp ?_ | refine wf (Txt.c_Source (by assumption)) (Txt.n_due (by assumption)) rfl lk_due ?_)
local macro_rules | `(tactic| walk_at "k28 n") => `(tactic| repeat (first | walk_at "k28 w" | walk_at "k28 f" | walk_at "k28 d" | walk_at "k28 x" | exact rfl))
local macro_rules | `(tactic| walk_at "k28 p") => `(tactic| first
  | with_reducible refine w_lenO ?_ | with_reducible refine w_tupleO ?_ | with_reducible refine w_ixO ?_
  | refine ⟨_, _, rfl, .of (.tail _ (.head _)), ?_⟩ | refine ⟨_, _, rfl, .of (.tail _ (.tail _ (.head _))), ?_⟩)
local macro_rules | `(tactic| walk_at "k28 q") => `(tactic| repeat (first | walk_at "k28 w" | walk_at "k28 f" | walk_at "k28 p" | walk_at "k28 d" | walk_at "k28 x" | exact rfl))
section
variable {P : Program} {w : World} {K : PySem.W.Frag} {mg : Str → Option Value} {base : Heap}
theorem sc__law_deed : FnScope ["_law_draws_here", "_law_model", "_law_meter", "_law_offset_here", "_law_cell_here", "_law_kind", "_law_slot"] ["_law_draws_here", "_law_model", "_law_meter", "_law_offset_here", "_law_cell_here"] (defScope s__law_deed) := ⟨rfl, rfl, rfl, by decide +kernel, rfl, by decide +kernel, by decide +kernel⟩
structure GDe where
  nm : Str
  z : Sta
  m : Meter
  off : Int
  cell : Int
def ADe (g : GDe) (dr : Addr) (es : List En1) : Prop := es = [.raw (.ref dr), .dat (g.z.d g.nm), .dat g.m.d, .dat (.int g.off), .dat (.int g.cell)] ∧ g.m.lo ≤ g.m.hi ∧ g.m.name = g.nm
def SDe (g : GDe) (e : En1) : Prop := ∃ dd : Deed, e = .dat (dd.d g.nm)
theorem ok__law_deed (T : Txt K mg) : Ok P w K mg base CX0 4 "_law_deed" (He.ga K "_law_deed") ["_law_draws_here", "_law_model", "_law_meter", "_law_offset_here", "_law_cell_here"] (psd ADe SDe) := by
  obtain ⟨fd, F⟩ := T.F__law_deed
  have o__law_take := ok__law_take (P := P) (w := w) (base := base) T
  have o__law_entry := ok__law_entry (P := P) (w := w) (base := base) T
  have o__law_stamp := ok__law_stamp (P := P) (w := w) (base := base) T
  refine ⟨⟨fd, ok_draw F sc__law_deed (fun m dr es h => by rw [h.1]; rfl) (fun cdv A outer s H E hr => ⟨_, (pss_cons (ps_set (i := 5) sc__law_deed.nd rfl (Or.inl rfl) (pe_ok o__law_take hr (by decide) (by rfl) (pa_cons (pv 0) (pa_cons pe_int pa_nil)))) (pss_cons (ps_if (pt_cmpR op_lt (pv 5) pe_int (nomark _)) (pss_one (ps_ret (pe_tup (pa_cons pe_str (pa_cons (pe_ok o__law_stamp hr (by decide) (by rfl) (pa_cons (pv 0) (pa_cons (pv 1) (pa_cons (pv 4) pa_nil)))) (pa_cons (pe_ok o__law_entry hr (by decide) (by rfl) (pa_cons (pv 0) (pa_cons (pv 2) pa_nil))) pa_nil)))))) pss_nil) (pss_cons (ps_if (pt_cmpR op_lt (pv 5) pe_int (nomark _)) (pss_cons (ps_set (i := 6) sc__law_deed.nd rfl (Or.inl rfl) (pe_ix (kIxL (K := K) rfl) (pe_lst (pa_cons (pe_callB (kLen (K := K) rfl) (by rfl) T.f_len (by decide +kernel) (pa_cons (pe_ix (kIxT (K := K) rfl) (pv 1) pe_int (fun _ _ => rfl)) pa_nil)) (pa_cons (pe_op op_add (pe_ix (kIxT (K := K) rfl) (pv 1) pe_int (fun _ _ => rfl)) pe_int) (pa_cons (pe_ok o__law_take hr (by decide) (by rfl) (pa_cons (pv 0) (pa_cons (pe_op op_add (pe_callB (kLen (K := K) rfl) (by rfl) T.f_len (by decide +kernel) (pa_cons (pe_ix (kIxT (K := K) rfl) (pv 1) pe_int (fun _ _ => rfl)) pa_nil)) pe_int) pa_nil))) pa_nil)))) (pe_ok o__law_take hr (by decide) (by rfl) (pa_cons (pv 0) (pa_cons pe_int pa_nil))) (fun _ _ => rfl))) (pss_cons (ps_if (pt_cmpR op_eq (pv 5) pe_int (nomark _)) (pss_one (ps_ret (pe_tup (pa_cons pe_str (pa_cons (pv 6) pa_nil))))) pss_nil) (pss_one (ps_ret (pe_tup (pa_cons pe_str (pa_cons (pv 6) (pa_cons (pe_ok o__law_entry hr (by decide) (by rfl) (pa_cons (pv 0) (pa_cons (pv 2) pa_nil))) pa_nil)))))))) pss_nil) (pss_cons (ps_if (pt_cmpR op_lt (pv 5) pe_int (nomark _)) (pss_one (ps_ret (pe_tup (pa_cons pe_str (pa_cons (pe_ok o__law_stamp hr (by decide) (by rfl) (pa_cons (pv 0) (pa_cons (pv 1) (pa_cons (pv 4) pa_nil)))) pa_nil))))) pss_nil) (pss_cons (ps_if (pt_cmpR op_eq (pv 5) pe_int (nomark _)) (pss_one (ps_ret (pe_tup (pa_cons pe_str (pa_cons (pe_op op_add (pe_op op_sub (pv 3) (pe_ok o__law_take hr (by decide) (by rfl) (pa_cons (pv 0) (pa_cons pe_int pa_nil)))) pe_int) (pa_cons (pe_op op_sub (pe_op op_add (pv 3) (pe_ok o__law_take hr (by decide) (by rfl) (pa_cons (pv 0) (pa_cons pe_int pa_nil)))) pe_int) pa_nil)))))) pss_nil) (pss_cons (ps_if (PW.pt (pw_and (pt_cmpR op_gt (pe_callB (kLen (K := K) rfl) (by rfl) T.f_len (by decide +kernel) (pa_cons (pe_ix (kIxT (K := K) rfl) (pv 1) pe_int (fun _ _ => rfl)) pa_nil)) pe_int (nomark _)) (pw_and1 (pt_cmpR op_gt (pe_ok o__law_take hr (by decide) (by rfl) (pa_cons (pv 0) (pa_cons pe_int pa_nil))) pe_int (nomark _))))) (pss_one (ps_ret (pe_tup (pa_cons pe_str (pa_cons (pe_ix (kIxT (K := K) rfl) (pe_ix (kIxT (K := K) rfl) (pv 1) pe_int (fun _ _ => rfl)) (pe_ok o__law_take hr (by decide) (by rfl) (pa_cons (pv 0) (pa_cons (pe_callB (kLen (K := K) rfl) (by rfl) T.f_len (by decide +kernel) (pa_cons (pe_ix (kIxT (K := K) rfl) (pv 1) pe_int (fun _ _ => rfl)) pa_nil)) pa_nil))) (fun _ _ => rfl)) pa_nil))))) pss_nil) (pss_one (ps_ret (pe_tup (pa_cons pe_str (pa_cons (pe_tup (pa_cons pe_str (pa_cons (pe_ix (kIxT (K := K) rfl) (pv 2) pe_int (fun _ _ => rfl)) (pa_cons (pv 3) (pa_cons (pe_op op_add (pv 3) pe_int) pa_nil))))) pa_nil))))))))))), fun m dr es r => ?_⟩), (F.bindsN fun _ _ _ _ _ _ us hl => match us, hl with | [_, _, _, _, _], _ => rfl)⟩, T.g__law_deed, F.kp⟩
  obtain ⟨nm, ⟨ss, cn, cs, due⟩, m, off, cell⟩ := m
  obtain ⟨r', lh, en⟩ := r
  have r' : es = [.raw (.ref dr), .dat (.tuple [.tuple (ss.map slotD), .int (cn : Int), optD cs, .tuple (due.map (Let.d nm))]), .dat m.d, .dat (.int off), .dat (.int cell)] := r'
  subst r'
  dsimp only at lh en
  refine m_pure ?_
  have fin : ∀ (d : Dt) (dd : Deed), d = dd.d nm → ((∃ c, (dr, c) ∈ [(dr, Cell.rnd)] ∧ IsRnd c) ∧ ∃ d', En1.dat d = .dat d' ∧ SDe (⟨nm, ⟨ss, cn, cs, due⟩, m, off, cell⟩ : GDe) (.dat d')) := fun d dd e => ⟨⟨_, .head _, .r⟩, _, rfl, dd, by rw [e]⟩
  walk_at "k28 g"
  split
  · walk_at "k28 g"
    refine ⟨⟨nm, ⟨ss, cn, cs, due⟩, cell⟩, dr, .head _, rfl, ?_⟩
    rintro d ⟨v, ⟨⟩⟩
    walk_at "k28 g"
    refine ⟨m, dr, .head _, ⟨rfl, lh⟩, ?_⟩
    rintro d ⟨u, ⟨⟩⟩
    walk_at "k28 g"
    exact fin _ (.record v u) rfl
  walk_at "k28 g"
  split
  · walk_at "k28 g"
    rename_i q q1 q2 r r1 r2
    obtain ⟨d, hd, md⟩ := pick (ds := [PyData.int (ss.map slotD).length, .int ((cn : Int) + 1), .int q]) (i := r) (by omega) (by simp; omega)
    refine ⟨_, _, _, rfl, rfl, hd, ?_⟩
    obtain ⟨s, rfl⟩ : ∃ s, d = PyData.int s := by
      simp at md
      rcases md with rfl | rfl | rfl <;> exact ⟨_, rfl⟩
    walk_at "k28 g"
    split
    · walk_at "k28 g"
      exact fin _ (.back s) rfl
    · walk_at "k28 g"
      refine ⟨m, dr, .head _, ⟨rfl, lh⟩, ?_⟩
      rintro d ⟨u, ⟨⟩⟩
      walk_at "k28 g"
      exact fin _ (.correct s u) rfl
  walk_at "k28 g"
  split
  · walk_at "k28 g"
    refine ⟨⟨nm, ⟨ss, cn, cs, due⟩, cell⟩, dr, .head _, rfl, ?_⟩
    rintro d ⟨v, ⟨⟩⟩
    walk_at "k28 g"
    exact fin _ (.close v) rfl
  walk_at "k28 g"
  split
  · walk_at "k28 g"
    exact fin _ (.check _ _) rfl
  walk_at "k28 g"
  cases due with
  | nil =>
    rw [if_neg (by simp)]
    simp only [Bool.false_eq_true, if_false]
    walk_at "k28 g"
    exact fin _ (.ack (.clock off (off + 9))) (by rw [en])
  | cons l0 due =>
    rw [if_pos (by simp)]
    walk_at "k28 g"
    split
    · walk_at "k28 g"
      rename_i r r1 r2
      obtain ⟨d, hd, md⟩ := pick (ds := (l0 :: due).map (Let.d nm)) (i := r) r1 r2
      obtain ⟨l, _, rfl⟩ := List.mem_map.mp md
      refine ⟨_, _, _, rfl, rfl, hd, ?_⟩
      walk_at "k28 g"
      exact fin _ (.ack l) rfl
    · walk_at "k28 g"
      exact fin _ (.ack (.clock off (off + 9))) (by rw [en])
end
end TW
/-! K28SS -/
/-! K28: a set of texts of any length, made of a list, then in order. -/
namespace TW
open PySem PySem.Spec PyProof.Rows L2 PySem.Froz
/-- a set as it is made -/
abbrev nset (w : World) : Obj := { cls := .type "set", dict := none, data := .set #[] 0 (.fresh 0 0 (!w.params.followText "set-order")) }
def sOf : Value → Str
  | .str x _ => x
  | _ => Str.empty
/-- the set at a holds the texts l -/
structure TxR (P : Program) (w : World) (h : Heap) (a : Addr) (l : List Str) : Prop where
  ex : ∃ es ep t, h.get? a = some (sObj "set" (es, ep, t)) ∧ TxOk P w (es, ep, t) l ∧ Ris t.place.toList ∧ (w.params.followText "set-order" = true ∨ t.led = true) ∧ l.Nodup ∧
    (∀ e ∈ es.toList, ∃ u, e.2 = .str (sOf e.2) u) ∧ (es.toList.map fun e => sOf e.2).Perm l
section
variable {P : Program} {w : World} {A : Around} {E : Value → Shared → Prop} {s : Shared}
theorem TxR.keep {h h' : Heap} {a : Addr} {l : List Str} (R : TxR P w h a l) (k : ∀ o, h.get? a = some o → h'.get? a = some o) : TxR P w h' a l := by
  obtain ⟨es, ep, t, ho, r⟩ := R.ex
  exact ⟨es, ep, t, k _ ho, r⟩
theorem TxR.fresh {h : Heap} {a : Addr} (ho : h.get? a = some (nset w)) : TxR P w h a [] := by
  refine ⟨#[], 0, .fresh 0 0 (!w.params.followText "set-order"), ho, TxOk.nil rfl, List.Pairwise.nil, ?_, List.nodup_nil, fun e he => (by simp at he), by simp⟩
  show _ ∨ (!w.params.followText "set-order") = true
  cases w.params.followText "set-order"
  · exact .inr rfl
  · exact .inl rfl
theorem TxR.tail {h : Heap} {a : Addr} {l : List Str} {es1 : Array (Int × Value)} {ep : Nat} {t2 : SetTable} {wasDummy : Bool} (F : TxOk P w (es1, ep, t2) l) (r : Ris t2.place.toList) (ld : w.params.followText "set-order" = true ∨ t2.led = true) (nd : l.Nodup)
    (al : ∀ e ∈ es1.toList, ∃ u, e.2 = .str (sOf e.2) u) (pm : (es1.toList.map fun e => sOf e.2).Perm l) (ho : h.get? a = some (sObj "set" (tailTx ep es1 t2 wasDummy))) : TxR P w h a l := by
  have F2 := tail_ok (wasDummy := wasDummy) F
  unfold tailTx at F2 ho
  split at ho
  · rename_i c
    rw [if_pos c] at F2
    have p2 := relayAll_perm t2 es1 (SetTable.grown es1.size)
    exact ⟨_, _, _, ho, F2, relayAll_ris _ _ _, ld.imp id fun z => by rw [relayAll_led]; exact z, nd, fun e he => al e (p2.mem_iff.mp he), (p2.map _).trans pm⟩
  · rename_i c
    rw [if_neg c] at F2
    exact ⟨_, _, _, ho, F2, r, ld, nd, al, pm⟩
theorem txr_add {a : Addr} {l : List Str} {k : Str} {u : Tok} {Q : Bool → Shared → Prop} (R : TxR P w s.heap a l) (hb : l.length + 1 < scanBound)
    (h : ∀ b h', Heap.SameBut a s.heap h' → TxR P w h' a (if k ∈ l then l else k :: l) → Q b { s with heap := h' }) : wpAny (model P w) A (setAddHashed a (.str k u) (hashStr w k)) Q E s := by
  obtain ⟨es, ep, t, ho, F, ri, ld, nd, al, pm⟩ := R.ex
  by_cases c : k ∈ l
  · rw [if_pos c] at h
    have hd : (sObj "set" (es, ep, t)).data = .set es ep t := rfl
    have hf : t.fits es.size = true := F.fit
    have hel : ElemsOf (strKind P w) es.toList := F.el
    have hsz : es.size = l.length := F.sz
    have hb0 : es.size < scanBound := by omega
    have hkey : (strKind P w).is k (.str k u) = true := is_str k u
    unfold setAddHashed setAddHashedIn
    refine wpAny_holding (wpAny_bind (wpAny_setState_of ho hd hf ?_))
    dsimp only
    rw [byScan_of rfl hb0 hel]
    simp only [↓reduceIte]
    unfold setAddByScan
    refine wpAny_bind ?_
    refine wpAny_bind (wpAny_rule ?_)
    refine wpAny_bind (wpAny_setScan_of (knd := strKind P w) (k := k) hkey ho hd hf hel ?_)
    cases hfi : List.findIdx? (fun e => (strKind P w).is k e.2) es.toList with
    | some j =>
      dsimp only
      exact wpAny_pure (wpAny_pure (h _ s.heap (Heap.SameBut.refl a s.heap) R))
    | none =>
      exfalso
      obtain ⟨e, he, q⟩ := (F.mem k).mp c
      have z := List.findIdx?_eq_none_iff.mp hfi e he
      rw [q] at z
      cases z
  · rw [if_neg c] at h
    refine add_x ho F c hb (h true _ (Heap.SameBut.update _ _ _) ?_)
    have hp := layNew_perm t es (hashStr w k) (.str k u)
    have hf := layNew_fits t es (hashStr w k) (.str k u)
    have hr := layNew_ris t es (hashStr w k) (.str k u) ri
    have hl := layNew_led t es (hashStr w k) (.str k u)
    have hp2 := hp
    rw [Array.toList_push] at hp2
    have al1 : ∀ e ∈ (layNew t es (hashStr w k) (.str k u)).1.toList, ∃ u, e.2 = .str (sOf e.2) u := fun e he => by
      rcases List.mem_append.mp (hp2.mem_iff.mp he) with z | z
      · exact al e z
      · rw [List.mem_singleton.mp z]
        exact ⟨u, rfl⟩
    have pm1 : ((layNew t es (hashStr w k) (.str k u)).1.toList.map fun e => sOf e.2).Perm (k :: l) := by
      refine (hp2.map _).trans ?_
      rw [List.map_append]
      refine (List.perm_append_comm).trans ?_
      exact List.Perm.cons k pm
    have ld1 : w.params.followText "set-order" = true ∨ (layNew t es (hashStr w k) (.str k u)).2.1.led = true := ld.imp id fun z => by rw [hl]; exact z
    have nd1 : (k :: l).Nodup := List.nodup_cons.mpr ⟨c, nd⟩
    refine TxR.tail (ep := ep) (es1 := (layNew t es (hashStr w k) (.str k u)).1) (t2 := if (layNew t es (hashStr w k) (.str k u)).2.1.plain = true then { (layNew t es (hashStr w k) (.str k u)).2.1 with plain := false } else (layNew t es (hashStr w k) (.str k u)).2.1) (wasDummy := (layNew t es (hashStr w k) (.str k u)).2.2.1) (F.push hp ?_) ?_ ?_ nd1 al1 pm1 (get_upd _ ho rfl)
    · by_cases c : (layNew t es (hashStr w k) (.str k u)).2.1.plain = true
      · rw [if_pos c]
        exact SetTable.fits_plain_off hf
      · rw [if_neg c]
        exact hf
    · split
      · exact hr
      · exact hr
    · split
      · exact ld1
      · exact ld1
/-- set.update's loop -/
theorem set_update_strs {I : Addr} {fp wr : List Addr} {G : Array GenState → Array GenState → Prop} {n : Nat} {Pv : Nat → Value → Prop} {St : Nat → Shared → Prop} {R : Result → Shared → Prop}
    (W : WalksS P w A.in1 I fp wr G n Pv St) (S : Addr) (nf : S ∉ fp) (few : n < 64) (val : ∀ i v, Pv i v → ∃ x u, v = .str x u) (In : Str → Prop) (isIn : ∀ i x u, Pv i (.str x u) → In x) :
    ∀ (k i : Nat) (s : Shared), n - i = k → i ≤ n → St i s → (∃ l, TxR P w s.heap S l ∧ l.length ≤ i ∧ (∀ x ∈ l, In x) ∧ (0 < i → l ≠ [])) →
      (∀ s' l, Moved (S :: wr) G s s' → TxR P w s'.heap S l → l.length ≤ n → (∀ x ∈ l, In x) → (0 < n → l ≠ []) → R (.ok (.ret .none)) s') →
      codeAny (model P w) A (.builtin "set.update.loop" ⟨[.ref S, .ref I], []⟩) R s := by
  have nw : S ∉ wr := fun h => nf (W.sub _ h)
  have sup : ∀ b ∈ wr, b ∈ S :: wr := fun b hb => List.mem_cons_of_mem _ hb
  intro k
  induction k with
  | zero =>
    intro i s ek ile at0 ⟨l, ob, g1, g2, g3⟩ fin
    have isIn : i = n := by omega
    subst isIn
    refine codeAny_builtin F.entry_set_update_loop ?_
    rw [Around.under_plainId F.plain_set_update_loop _]
    show wpAny _ A.in1 (pyNext (.ref I) >>= _) _ _ s
    refine wpAny_bind (W.done s _ _ at0 fun s' mv => ?_)
    show wpAny _ A.in1 (ret Value.none) _ _ s'
    exact wpAny_pure (fin s' l (mv.mono sup) (ob.keep (fun o e => mv.heap S o nw e)) g1 g2 g3)
  | succ k ih =>
    intro i s ek ile at0 ⟨l, ob, g1, g2, g3⟩ fin
    have il : i < n := by omega
    refine codeAny_builtin F.entry_set_update_loop ?_
    rw [Around.under_plainId F.plain_set_update_loop _]
    show wpAny _ A.in1 (pyNext (.ref I) >>= _) _ _ s
    refine wpAny_bind (W.item i s _ _ il at0 fun v s' pv at1 mv => ?_)
    obtain ⟨x, u, rfl⟩ := val i v pv
    have hx := isIn i x u pv
    have R1 : TxR P w s'.heap S l := ob.keep (fun o e => mv.heap S o nw e)
    show wpAny _ A.in1 (holding [Value.str x u] (setAdd S (.str x u)) >>= _) _ _ s'
    refine wpAny_bind (wpAny_holding ?_)
    unfold setAdd
    refine wpAny_holding ?_
    refine wpAny_bind ((PySem.strKind P w).pyHash (k := x) (strKind_is _ _ _ _) ?_)
    refine txr_add (s := { s' with toks := s'.toks + 1 }) R1 (by unfold scanBound; omega) fun b h' bt R2 => ?_
    refine wpAny_pure ⟨plainId_quiet F.plain_set_update_loop _, ih (i + 1) _ (by omega) il (W.frame _ s' _ _ at1 (Nat.le_add_right _ _) fun b hb o e => ?_) ⟨_, R2, ?_, fun y hy => ?_, fun _ => ?_⟩ fun s'' l2 mv2 R3 a1 a2 a3 => ?_⟩
    · rw [bt.2 b (fun h : b = S => nf (by rw [← h]; exact hb))]; exact e
    · split
      · omega
      · simp only [List.length_cons]; omega
    · split at hy
      · exact g2 y hy
      · rcases List.mem_cons.mp hy with z | z
        · rw [z]; exact hx
        · exact g2 y z
    · split
      · rename_i c
        exact fun z => by rw [z] at c; cases c
      · exact fun z => by cases z
    · refine fin s'' l2 (Moved.trans W.gtrans ((mv.mono sup).then_heap (Nat.le_add_right _ _) fun b o hb e => ?_) mv2) R3 a1 a2 a3
      rw [bt.2 b (fun h : b = S => hb (by rw [h]; exact List.mem_cons_self))]; exact e
set_option maxHeartbeats 3200000 in
/-- set(xs) of texts -/
theorem call_set_strs {l : Addr} {items : Array Value} (xs : List Str) {Q : Value → Shared → Prop} (hh : A.handled = none) (hl : s.heap.IsList l items) (sit : StrsAre items.toList xs) (few : xs.length < 64)
    (h : ∀ (h' : Heap) (tk : Nat) (L : List Str), TxR P w h' s.heap.objs.size L → L.length ≤ xs.length → (∀ x ∈ L, x ∈ xs) → (xs ≠ [] → L ≠ []) → (∀ b o, s.heap.get? b = some o → h'.get? b = some o) → Q (.ref s.heap.objs.size) { s with heap := h', toks := tk }) :
    wpAny (model P w) A (call (.type "set") [.ref l]) Q E s := by
  have isz : items.size = xs.length := by
    have q := StrsAre.length sit
    rw [Array.length_toList] at q
    exact q
  obtain ⟨c, tl, mro⟩ := F.called_set.mro
  have hmade := F.called_set.made
  have hsub := F.called_set.sub
  refine wpAny_call (codeAny_of_tree ?_)
  show wpAny _ _ (callAny (.type "set") _) _ _ _
  refine wpAny_pure ⟨Code.quiet_builtin _ (by decide +kernel), codeAny_builtin F.entry_type_call ?_⟩
  rw [Around.under_plain (weight_type_call_type "set" [.ref l] []) rfl]
  have h1 := F.called_set.notType
  have h2 := F.called_set.canCreate
  have hct := F.typeCall_set_1 (.ref l)
  repeat (any_goals (first | assumption | wp_step))

  refine codeAny_mono (code_set_led1 (.ref l) (E := E) (Q₁ := fun obj s₁ => obj = .ref s.heap.objs.size ∧ s₁ = { s with heap := s.heap.push (nset w) }) ⟨rfl, rfl⟩) fun r s₁ hr => ?_
  cases r with
  | error e => exact hr
  | ok fl =>
    cases fl with
    | ret obj =>
      obtain ⟨rfl, rfl⟩ := hr
      have ob : (s.heap.push (nset w)).get? s.heap.objs.size = some (nset w) := Heap.get?_push_size _ rfl
      have ty : Shared.TypeIs { s with heap := s.heap.push (nset w) } (.ref s.heap.objs.size) "set" := ⟨_, ob, rfl⟩
      have hli := F.called_set.init.lookup
      have hbi := F.called_set.init.bind (.ref s.heap.objs.size)
      repeat (any_goals (first | assumption | wp_step))

      refine codeAny_mono (codeAny_call_builtin (R := wants (fun r s₂ => r = .none ∧ ∃ h' tk L, s₂ = { s with heap := h', toks := tk } ∧ TxR P w h' s.heap.objs.size L ∧ (L.length ≤ xs.length ∧ (∀ x ∈ L, x ∈ xs) ∧ (xs ≠ [] → L ≠ [])) ∧
          (∀ b o, s.heap.get? b = some o → h'.get? b = some o)) E) F.called_set.init.plain F.entry_set_init (check_set_init_1 ty ?_)) fun r₂ s₂ k₂ => ?_
      · obtain ⟨ol, ol0, cl, nl, dl⟩ := hl
        obtain ⟨ocls, odict, odata, oslots⟩ := ol
        simp only at cl dl
        subst cl; subst dl
        have ol1 : (s.heap.push (nset w)).get? l = some { cls := .type "list", dict := odict, data := .seq items nl, slots := oslots } := Heap.get?_push_of_some _ ol0
        have hsls := F.sub_list_set
        have hslf := F.sub_list_frozenset
        have hne : (Value.type "list" == Value.type "dict") = false := by decide
        have li1 : (s.heap.push (nset w)).IsList l items := ⟨_, ol1, rfl, nl, rfl⟩
        unfold Builtin.«set.__init__» noKeywords Builtin.Frozenset.updateFrom
        generalize ePI : pyIter = PI
        wp_walk
        subst ePI

        refine wpAny_pyIter_list li1 ?_
        refine wpAny_bind (wpAny_runValue ?_)
        have lS : l < s.heap.objs.size := Heap.lt_size ol0
        have calm3 : A.in1.in1.in1.handled = none := by simp [hh]
        have hz1 : (s.heap.push (nset w)).objs.size = s.heap.objs.size + 1 := Heap.size_push ..
        have neI : l ≠ (s.heap.push (nset w)).objs.size := by
          rw [Heap.size_push]; exact Nat.ne_of_lt (Nat.lt_succ_of_lt lS)
        have nf : s.heap.objs.size ∉ [(s.heap.push (nset w)).objs.size, l] := by
          rw [Heap.size_push]; simp only [List.mem_cons, List.mem_singleton, List.not_mem_nil, or_false, not_or]
          exact ⟨Nat.ne_of_lt (Nat.lt_succ_self _), Nat.ne_of_gt lS⟩
        have val0 : ∀ (i : Nat) (v : Value), items[i]? = some v → ∃ t, v = .str (xs.getD i Str.empty) t := fun i v hv => SS.strs_at sit i v (by rw [Array.getElem?_toList]; exact hv)
        have val : ∀ (i : Nat) (v : Value), items[i]? = some v → ∃ x u, v = .str x u := fun i v hv => let ⟨t, e⟩ := val0 i v hv; ⟨_, t, e⟩
        have isIn : ∀ (i : Nat) (x : Str) (u : Tok), items[i]? = some (.str x u) → x ∈ xs := fun i x u hv => by
          obtain ⟨t, e⟩ := val0 i _ hv
          obtain ⟨rfl, _⟩ := Value.str.inj e
          have il : i < xs.length := by
            have q := (Array.getElem?_eq_some_iff.mp hv).1
            omega
          rw [List.getD_eq_getElem?_getD, List.getElem?_eq_getElem il]
          exact List.getElem_mem il
        have kp0 : ∀ b o, s.heap.get? b = some o → ((s.heap.push (nset w)).push { cls := .type "list_iterator", data := .fields #[.ref l, .int 0 0] }).get? b = some o := fun b o e => Heap.get?_push_of_some _ (Heap.get?_push_of_some _ e)
        refine set_update_strs (P := P) (w := w) (A := A.in1.in1) ((Walks.list calm3 _ l neI items).toS) s.heap.objs.size
          nf (by rw [isz]; exact few) val (fun x => x ∈ xs) isIn (items.size - 0) 0 _ (by omega) (Nat.zero_le _)
          ⟨⟨_, Heap.get?_push_size _ rfl, rfl, rfl⟩, (li1.push _)⟩ ?hS0 ?fin
        case hS0 =>
          have got : ((s.heap.push (nset w)).push { cls := .type "list_iterator", data := .fields #[.ref l, .int 0 0] }).get? s.heap.objs.size
              = some (nset w) := Heap.get?_push_of_some _ ob
          exact ⟨[], TxR.fresh got, Nat.le_refl _, fun x hx => (by cases hx), fun z => absurd z (Nat.lt_irrefl _)⟩
        case fin =>
          intro s' L mv R1 a1 a2 a3
          have kp1 : ∀ b o, s.heap.get? b = some o → s'.heap.get? b = some o := fun b o e => mv.heap b o (fun hb => by
            have il := Heap.lt_size e
            rcases List.mem_cons.mp hb with z | z
            · rw [z] at il; exact Nat.lt_irrefl _ il
            · rw [List.mem_singleton.mp z, Heap.size_push] at il
              exact absurd il (Nat.not_lt_of_le (Nat.le_succ _))) (kp0 b o e)
          obtain ⟨h', g2, d', tk', os'⟩ := s'
          have eg : g2 = s.gens := mv.gens
          have ed : d' = s.drawn := mv.drawn
          have eo : os' = s.os := mv.os
          subst eg; subst ed; subst eo
          show wpAny _ _ _ _ _ _
          refine wpAny_pure ?_
          show wpAny _ _ (ret Value.none) _ _ _
          rw [isz] at a1 a3
          exact wpAny_pure ⟨rfl, h', tk', L, rfl, R1, ⟨a1, a2, fun z => a3 (List.length_pos_iff.mpr z)⟩, kp1⟩

      · cases r₂ with
        | error e => exact k₂
        | ok fl₂ =>
          cases fl₂ with
          | ret r =>
            obtain ⟨rfl, h', tk, L, rfl, R1, ⟨a1, a2, a3⟩, ek⟩ := k₂
            repeat (any_goals (first | assumption | wp_step))
            exact h _ _ _ R1 a1 a2 a3 ek
          | _ => exact k₂.elim
    | _ => exact hr.elim

theorem strs_map : ∀ vs : List Value, (∀ v ∈ vs, ∃ u, v = .str (sOf v) u) → StrsAre vs (vs.map sOf)
  | [], _ => .nil
  | v :: vs, h => by
    obtain ⟨u, e⟩ := h v List.mem_cons_self
    have q := strs_map vs fun x hx => h x (List.mem_cons_of_mem _ hx)
    rw [List.map_cons]
    generalize sOf v = z at e
    subst e
    exact .cons z u q
/-- sorted of a set of texts: the texts in some order -/
theorem sorted_setS {a : Addr} {l : List Str} {Q : Value → Shared → Prop} (R : TxR P w s.heap a l) (hh : A.handled = none) (few : l.length < 64)
    (hQ : ∀ s' p (out : Array Value) (c : Nat) (ys : List Str), (∀ b o, s.heap.get? b = some o → s'.heap.get? b = some o) → s'.gens = s.gens → s'.os = s.os → s.heap.objs.size ≤ p →
      s'.heap.get? p = some (seqObj "list" out c) → StrsAre out.toList ys → ys.Perm l → Q (.ref p) s') : wpAny (model P w) A (call (.builtin "sorted") [.ref a]) Q E s := by
  obtain ⟨es, ep, t, ho, F, ri, ld, nd, al, pm⟩ := R.ex
  have sz : es.size = l.length := F.sz
  have fit : t.fits es.size = true := F.fit
  refine Calls.call_function_entry kind_sorted plain_sorted entry_sorted (args_sorted1 _) ?_
  unfold Builtin.«sorted»
  refine wpAny_bind (m := checkCount "sorted" 1 1 _) (wpAny_pure (wpAny_bind (collect_set (es := es) (ep := ep) (t := t) (A := A.in1) hh ⟨_, ho, rfl, rfl⟩ fit (by unfold scanBound; omega) ri ld fun s1 vs k1 hz g1 o1 pv => ?_)))
  have few2 : vs.length < 64 := by rw [pv.length_eq, List.length_map, Array.length_toList]; omega
  have sv : StrsAre vs (vs.map sOf) := strs_map vs fun v hv => by
    obtain ⟨e, he, q⟩ := List.mem_map.mp (pv.mem_iff.mp hv)
    rw [← q]
    exact al e he
  have pl : (vs.map sOf).Perm l := by
    refine (pv.map sOf).trans ?_
    rw [List.map_map]
    exact pm
  refine wpAny_bind (wpAny_newList ?_ (by rw [sizeLine_eq]; omega))
  have at1 : (s1.heap.push (seqObj "list" vs.toArray 0)).get? s1.heap.objs.size = some (seqObj "list" vs.toArray 0) := Heap.get?_push_size _ rfl
  refine wpAny_bind (wpAny_holding (wpAny_call_entry slot_list_sort ⟨_, at1, rfl⟩ entry_list_sort (list_sort_treeK strKind_oneLt at1 sv.keysOf (fun v₁ v₂ r e => keyKind_strs (by rw [← e]; exact sv)) few2 fun st hp hs => ⟨_, rfl, ?_⟩) (args_list_sort _)))
  obtain ⟨ys, z1, z2, _⟩ := sorted_out_str sv hp hs
  obtain ⟨c, hc⟩ := sortedHeap_at (vs := vs) (out := (arrOf st).map (·.2)) at1
  refine wpAny_pure ⟨_, rfl, hQ _ s1.heap.objs.size _ c ys (fun b u e => ?_) g1 o1 hz hc z1 (z2.trans pl)⟩
  have q := k1 b u e
  have lt := Heap.lt_size q
  exact (sortedHeap_old (Nat.ne_of_lt lt) (by rw [size_push']; exact Nat.lt_succ_of_lt lt)).trans (Heap.get?_push_of_some _ q)
end
def SetS (P : Program) (w : World) (a : Addr) (l : List Str) : HO := .ext fun h => TxR P w h a l
theorem setS_new {P : Program} {w : World} {H : Hp} {h : Heap} {a : Addr} {l : List Str} (R : TxR P w h a l) : ObjOk P w H h a (SetS P w a l) := by
  have ⟨es, ep, t, ho, r⟩ := R.ex
  exact ⟨R, ⟨_, ho⟩, fun h1 h2 p k => TxR.keep p fun o e => k o e⟩
section
variable {X : Cx}
/-- set(xs) of texts -/
def rSetS (K : PySem.W.Frag) (P : Program) (w : World) : List V → Hp → VK → Prop := fun xs H Q => ∃ (p : Addr) (ss : List Str), xs = [V.ref p] ∧ SqL K H p (ss.map V.str) ∧ ss.length < 64 ∧
  ∀ a l, H a = none → l.length ≤ ss.length → l.Nodup → (∀ x ∈ l, x ∈ ss) → (ss ≠ [] → l ≠ []) → Q (.ref a) (upd H a (SetS P w a l))
theorem cr_setS (hc : X.calm = true) : CallR X (.type "set") (rSetS X.K X.prog X.w) := by
  intro pins s σ H xs us Q I r h
  obtain ⟨p, ss, rfl, hp, few, q⟩ := h
  rw [Vals.ref1 r]
  obtain ⟨its, rv, pl, hz⟩ := I.list hp
  refine call_set_strs ss (I.ok.hd hc) pl.isList (by simpa using rv.strs) few fun h' tk L R a1 a2 a3 k => ?_
  have nd : L.Nodup := by obtain ⟨_, _, _, _, _, _, _, nd, _⟩ := R.ex; exact nd
  exact ⟨.ref s.heap.objs.size, _, I.laid (t' := tk) k (Nat.le_refl _) (setS_new R), rfl, q _ L (I.hok.fresh (Nat.le_refl _)) a1 nd a2 a3⟩
def rSortedSS (P : Program) (w : World) : List V → Hp → VK → Prop := fun vs H Q => ∃ (a : Addr) (l : List Str), vs = [V.ref a] ∧ H a = some (SetS P w a l) ∧ l.length < 64 ∧ ∀ (ys : List Str) (p : Addr), ys.Perm l → H p = none → Q (.ref p) (upd H p (.lst (ys.map V.str)))
theorem cr_sortedSS (hc : X.calm = true) : CallR X (.builtin "sorted") (rSortedSS X.prog X.w) := by
  intro pins s σ H vs us Q I r h
  obtain ⟨a, l, rfl, ha, few, q⟩ := h
  have R : TxR X.prog X.w s.heap a l := (I.hok a _ ha).1
  rw [Vals.ref1 r]
  refine sorted_setS R (I.ok.hd hc) few fun s' p out c ys k g o hp hg sv pm => ?_
  have len : (ys.map V.str).length ≤ sizeLine := by rw [List.length_map, pm.length_eq, sizeLine_eq]; omega
  have hn : H p = none := I.hok.fresh hp
  have J : Inv X pins σ (upd H p (.lst (ys.map V.str))) { s with heap := s'.heap, gens := s'.gens, drawn := s'.drawn, toks := s'.toks } :=
    I.call (ch := []) (Un.laid k hp hn) (I.hok.laid k hp ⟨len, out.toList, c, vals_of_strs sv, hg⟩) (by rw [g]; exact I.bare) (fun _ z => nomatch z)
  have e : s' = { s with heap := s'.heap, gens := s'.gens, drawn := s'.drawn, toks := s'.toks } := by
    cases s'
    cases s
    cases o
    rfl
  rw [e]
  exact ⟨.ref p, _, J, rfl, q ys p pm hn⟩
end
/-- sorted(set(texts)), over the entries -/
theorem w_sortSetS {M : Md} {ρ : Ro} {K : En1 → Prop} {KF : PySem.W.Frag} {P : Program} {w : World} {t : TA} (h : Wa M t ρ fun es => ∃ ss : List Str, es = [.lst (ss.map .str)] ∧ ss.length < 64 ∧ ∀ ys : List Str, ys.Nodup → ys.length ≤ ss.length → (∀ x ∈ ys, x ∈ ss) → (ss ≠ [] → ys ≠ []) → K (.lst (ys.map .str))) :
    We M (tCB (rSortedSS P w) (tCons (tCB (rSetS KF P w) t) tNil)) ρ K := fun σ H j n Q q => h σ H j n _ fun vs H1 es l1 i1 ⟨ss, ee, few, k⟩ => by
  subst ee
  cases i1 with
  | cons a1 r1 =>
  cases r1
  obtain ⟨p, xs, rfl, nb, hp, r⟩ := a1
  refine ⟨p, ss, rfl, SqL.of (by rw [hp, r.strs]), few, fun a l ha z1 z2 z3 z4 => ⟨a, l, rfl, upd_same, by omega, fun ys p2 pm hp2 => ?_⟩⟩
  have l2 := Md.new (M := M) (o := SetS P w a l) l1.2 ha
  have l3 := Md.new (M := M) (o := .lst (ys.map V.str)) l2.2 hp2
  have as : ∀ ys : List Str, AtS (upd (upd H1 a (SetS P w a l)) p2 (.lst (ys.map V.str))) (ys.map V.str) (ys.map .str) := fun ys => by
    generalize (upd (upd H1 a (SetS P w a l)) p2 (.lst (ys.map V.str))) = H5
    induction ys with
    | nil => exact .nil
    | cons y ys ih => exact .cons (.str y) ih
  refine q _ _ _ ((l1.trans l2).trans l3) (Is.l (Md.fresh l2.2 hp2) upd_same (as ys)) (k ys (pm.nodup_iff.mpr z2) (by rw [pm.length_eq]; exact z1) (fun x hx => z3 x (pm.mem_iff.mp hx)) fun z e => z4 z (by subst e; exact List.eq_nil_of_length_eq_zero pm.length_eq.symm))
end TW
/-! K28D6 -/
namespace TW
open PySem PySem.Spec PyProof.Rows L2
section
variable {X : Cx} {K : PySem.W.Frag} {P : Program} {w : World}
theorem kSetS (h : X.K = K) (hp : X.prog = P) (hw : X.w = w) (hc : X.calm = true) : CallR X (.type "set") (rSetS K P w) := by subst h hp hw; exact cr_setS hc
theorem kSortedSS (hp : X.prog = P) (hw : X.w = w) (hc : X.calm = true) : CallR X (.builtin "sorted") (rSortedSS P w) := by subst hp hw; exact cr_sortedSS hc
end
/-- over a range, the items told by what holds of them -/
theorem w_lcRP {M : Md} {ρ : Ro} {K : En1 → Prop} {te : TE} {j : Nat} {t : TA} (Pr : Dt → Prop) (h : Wa M t ρ fun es => ∃ m : Int, es = [.dat (.int m)] ∧ 0 ≤ m ∧ m ≤ 1000000 ∧ (∀ i : Int, We M te (ρ.set j (some (.dat (.int i)))) fun e => ∃ d, e = .dat d ∧ Pr d) ∧
    ∀ ds : List Dt, ds.length = m.toNat → (∀ d ∈ ds, Pr d) → K (.lst ds)) : We M (tLc (iRng1 t) (gName j) tYes te [j]) ρ K := fun σ H jj n Q q =>
  h σ H jj n _ fun vs H1 es l1 i1 ⟨m, ex, m0, m1, he, k⟩ => by
    subst ex
    cases i1 with
    | cons a1 r1 =>
    cases r1
    refine ⟨m, by rw [At.of_int a1], by omega, by omega, fun D hD => ?_⟩
    have nb := Md.fresh l1.2 hD
    refine lc_range (lo := 0) (n := m.toNat) (fun i H' => M.le H1 H' ∧ ∃ acc ds, H' D = some (.lst acc) ∧ AtS H' acc ds ∧ ds.length = i ∧ ∀ d ∈ ds, Pr d) ⟨Md.new l1.2 hD, [], [], upd_same, .nil, rfl, fun d hd => (by cases hd)⟩ ?_ ?_
    · rintro i H2 hi ⟨l2, acc, ds, ha, ra, dl, dp⟩
      refine ⟨wipe1 σ j _, ?_⟩
      refine yes_if ?_
      have n1 : En M H2 ((L2.wipe σ [j]).set j (some (.int ((0 : Int) + i)))) (ρ.set j (some (.dat (.int ((0 : Int) + i))))) := by
        have q := (((n.le jj l1).le l1.2 l2).wipe [j]).set j (Is.d (B := M.B) (At.int ((0 : Int) + i)))
        have e : (wipeR ρ [j]).set j (some (En1.dat (.int ((0 : Int) + i)))) = ρ.set j (some (.dat (.int ((0 : Int) + i)))) := by
          show (ρ.set j none).set j _ = _
          rw [List.set_set]
        rw [e] at q
        exact q
      refine he _ _ H2 l2.2 n1 _ fun y H4 ey l4 i4 ⟨d, ke, pd⟩ => ?_
      subst ke
      have hD4 : H4 D = some (.lst acc) := l4.1 D _ nb ha
      have kd : KT H4 (upd H4 D (.lst (acc ++ [y]))) := fun a ys h => by rw [upd_ne (ne_of h hD4 (by intro z; cases z))]; exact h
      refine ⟨acc, hD4, by rw [ra.len, sizeLine_eq]; omega, ⟨fun a o na h => ?_, ?_⟩, _, ds ++ [d], upd_same, ((ra.keep (l4.kt l2.2)).keep kd).app (.cons (At.keep kd i4) .nil), by simp [dl], fun d' hd => ?_⟩
      · rw [upd_ne (ne_of_none h hD)]
        exact (l2.trans l4).1 a o na h
      · exact M.he (l2.trans l4).2 kd fun a o ba h => by rw [upd_ne (show a ≠ D from fun e => nb (by rw [← e]; exact ba))]; exact h
      · rcases List.mem_append.mp hd with z | z
        · exact dp d' z
        · rw [List.mem_singleton.mp z]; exact pd
    · rintro H' ⟨l, acc, ds, ha, ra, dl, dp⟩
      exact q _ H' _ (l1.trans l) (Is.l nb ha ra) (k ds dl dp)
end TW
/-! K28P13 -/
namespace TW
open PySem PySem.Spec PyProof.Rows L2
local macro_rules | `(tactic| walk_at "k28 d") => `(tactic| first
  | refine w_var rfl ?_ | with_reducible refine w_int ?_ | with_reducible refine w_str ?_ | with_reducible refine w_non ?_ | with_reducible refine w_bl ?_
  | with_reducible refine w_ixT ?_ | with_reducible refine w_ixL ?_ | with_reducible refine w_add ?_ | with_reducible refine w_sub ?_ | with_reducible refine w_eq ?_ | with_reducible refine w_ne ?_ | with_reducible refine w_lt ?_
  | with_reducible refine w_leq ?_ | with_reducible refine w_gt ?_ | with_reducible refine w_ge ?_ | with_reducible refine w_mul ?_ | with_reducible refine w_div ?_ | with_reducible refine w_mod ?_ | with_reducible refine w_pow ?_
  | with_reducible refine w_neg ?_ | with_reducible refine w_isN ?_ | with_reducible refine w_notN ?_ | with_reducible refine a_nil ?_ | with_reducible refine a_cons ?_ | with_reducible refine w_tup ?_ | with_reducible refine w_lst ?_
  | with_reducible refine w_call0 ?_ | with_reducible refine w_len ?_ | with_reducible refine w_sumM ?_ | with_reducible refine w_allM ?_ | with_reducible refine w_tuple ?_ | with_reducible refine w_abs ?_ | with_reducible refine w_toInt ?_ | with_reducible refine w_max2 ?_
  | with_reducible refine w_min2 ?_ | with_reducible refine t_test ?_ | with_reducible refine t_B ?_ | with_reducible refine t_and ?_ | with_reducible refine t_or ?_ | with_reducible refine t_not ?_ | with_reducible refine t_yes ?_
  | with_reducible refine w_andV ?_ | with_reducible refine w_orV ?_ | with_reducible refine w_notV ?_ | with_reducible refine w_if ?_ | with_reducible refine w_chain ?_ | with_reducible refine o_none ?_ | with_reducible refine o_some ?_
  | with_reducible refine w_slT ?_ | with_reducible refine w_slL ?_ | with_reducible refine w_catT ?_ | with_reducible refine w_catL ?_ | with_reducible refine w_dget ?_ | with_reducible refine w_din ?_ | with_reducible refine w_dnotin ?_ | with_reducible refine w_sortD ?_ | with_reducible refine w_sortI ?_ | with_reducible refine w_callq ?_ | with_reducible refine w_isB ?_
  | with_reducible refine w_notB ?_ | with_reducible refine g_name ?_ | refine gs_nil rfl ?_ | refine gs_cons rfl ?_ | with_reducible refine s_next ?_ | with_reducible refine s_seq ?_ | with_reducible refine s_asg ?_
  | with_reducible refine s_drop ?_ | with_reducible refine s_ret ?_ | with_reducible refine s_brk ?_ | with_reducible refine s_if ?_)
local macro_rules | `(tactic| walk_at "k28 x") => `(tactic| first
  | refine g_tup ⟨_, rfl, rfl, ?_⟩ | refine ⟨_, _, _, _, rfl, rfl, rfl, rfl, rfl, ?_⟩ | refine ⟨_, _, _, rfl, rfl, rfl, ?_⟩ | refine ⟨_, _, _, rfl, rfl, atI_nat (j := 0) rfl, ?_⟩ | refine ⟨_, _, _, rfl, ?_⟩ | refine ⟨_, _, rfl, rfl, by decide, ?_⟩ | refine ⟨_, _, rfl, rfl, ⟨by decide, by decide⟩, ?_⟩ | refine ⟨_, _, rfl, rfl, ⟨by decide, by decide, by decide⟩, ?_⟩ | refine ⟨_, _, rfl, rfl, .inl ⟨by decide, by decide⟩, ?_⟩ | refine ⟨_, _, rfl, rfl, .inr ⟨by decide, by decide⟩, ?_⟩ | refine ⟨_, _, rfl, rfl, ?_⟩ | refine ⟨_, _, rfl, ?_⟩ | refine ⟨_, (show undats _ = some _ from rfl), by simp, ?_⟩ | refine ⟨_, rfl, ?_⟩ | refine ⟨_, .inl rfl, ?_⟩ | refine ⟨_, .inr rfl, ?_⟩ | refine ⟨_, _, rfl, rfl, ?_, ?_⟩)
local macro_rules | `(tactic| walk_at "k28 t") => `(tactic| first | rw [if_pos (by decide)] | rw [if_neg (by decide)] | rw [if_pos (by simp)] | rw [if_neg (by simp)])
local macro_rules | `(tactic| walk_at "k28") => `(tactic| repeat (first | walk_at "k28 d" | walk_at "k28 x" | exact rfl))
local macro_rules | `(tactic| walk_at "k28 s") => `(tactic| repeat (first | (fail_if_success with_reducible refine s_if ?_); (first | walk_at "k28 d" | walk_at "k28 x" | exact rfl)))
local macro_rules | `(tactic| walk_at "k28 o") => `(tactic| first
  | with_reducible refine w_dnotinO ?_ | with_reducible refine w_dgetO ?_ | with_reducible refine w_dget2O ?_ | with_reducible refine w_lenO ?_ | with_reducible refine w_tupleO ?_ | with_reducible refine w_notInO ?_ | with_reducible refine w_ixO ?_ | with_reducible refine w_fld ?_
  | refine ⟨_, _, _, rfl, rfl, .of (.head _), ?_⟩ | refine ⟨_, _, _, rfl, rfl, .of (.tail _ (.head _)), ?_⟩ | refine ⟨_, _, rfl, .of (.head _), ?_⟩ | refine ⟨_, _, rfl, .of (.tail _ (.head _)), ?_⟩)
local macro_rules | `(tactic| walk_at "k28 w") => `(tactic| first | with_reducible refine m_next ?_ | with_reducible refine m_seq ?_ | with_reducible refine m_asg (x_dnew fun p => ?_) | with_reducible refine m_asg (x_dnewT fun p => ?_) | with_reducible refine m_asg (x_lst ?_) | with_reducible refine m_asgP ?_ | with_reducible refine m_if ?_ | with_reducible refine m_retP ?_)
local macro_rules | `(tactic| walk_at "k28 m") => `(tactic| repeat (first | walk_at "k28 w" | walk_at "k28 o" | walk_at "k28 d" | walk_at "k28 x" | exact rfl))
local macro_rules | `(tactic| walk_at "k28 g") => `(tactic| repeat (first | with_reducible refine w_take ?_ | with_reducible refine w_word ?_ | with_reducible refine w_calld ?_ | with_reducible refine w_callgq ?_ | with_reducible refine w_addS ?_ | with_reducible refine w_ixS ?_ | with_reducible refine w_catL ?_ | walk_at "k28 w" | walk_at "k28 d" | refine ⟨_, _, rfl, .head _, (by first | decide | omega | simp | (simp only [List.length_map]; omega)), fun (r : Int) (r1 : 0 ≤ r) (r2 : r < _) => ?_⟩ | refine ⟨_, rfl, fun (s : Str) (sw : Wdn 60 s) => ?_⟩ | walk_at "k28 x" | exact rfl))
local macro_rules | `(tactic| walk_at "k28 f") => `(tactic| first
  | refine wf (Txt.c_Source (by assumption)) (Txt.n_meter (by assumption)) rfl lk_meter ?_ | refine wf (Txt.c_Source (by assumption)) (Txt.n_offset (by assumption)) rfl lk_offset ?_ | refine wf (Txt.c_Source (by assumption)) (Txt.n_slots (by assumption)) rfl lk_slots ?_ | refine wf (Txt.c_Source (by assumption)) (Txt.n_closed_number (by assumption)) rfl lk_closed_number ?_ | refine wf (Txt.c_Source (by assumption)) (Txt.n_closed_stamp (by assumption)) rfl lk_closed_stamp ?_ | refine wf (Txt.c_Source (by assumption)) (Txt.n_due (by assumption)) rfl lk_due ?_)
local macro_rules | `(tactic| walk_at "k28 n") => `(tactic| repeat (first | walk_at "k28 w" | walk_at "k28 f" | walk_at "k28 d" | walk_at "k28 x" | exact rfl))
local macro_rules | `(tactic| walk_at "k28 p") => `(tactic| first
  | with_reducible refine w_lenO ?_ | with_reducible refine w_tupleO ?_ | with_reducible refine w_ixO ?_
  | refine ⟨_, _, rfl, .of (.tail _ (.head _)), ?_⟩ | refine ⟨_, _, rfl, .of (.tail _ (.tail _ (.head _))), ?_⟩)
local macro_rules | `(tactic| walk_at "k28 q") => `(tactic| repeat (first | walk_at "k28 w" | walk_at "k28 f" | walk_at "k28 p" | walk_at "k28 d" | walk_at "k28 x" | exact rfl))
section
variable {P : Program} {w : World} {K : PySem.W.Frag} {mg : Str → Option Value} {base : Heap}
theorem sc__law_plan : FnScope ["_law_draws_here", "_law_cell_here", "_law_many", "_law_meters", "_law_name", "_law_low", "_law_wide", "_law_length", "_law_k"] ["_law_draws_here", "_law_cell_here"] (defScope s__law_plan) := ⟨rfl, rfl, rfl, by decide +kernel, rfl, by decide +kernel, by decide +kernel⟩
def APl (cell : Int) (dr : Addr) (es : List En1) : Prop := es = [.raw (.ref dr), .dat (.int cell)]
def SPl (_ : Int) (e : En1) : Prop := ∃ p : Plan, e = .dat p.d ∧ PlOk p ∧ p.ms ≠ []
theorem strs_of : ∀ ds : List Dt, (∀ d ∈ ds, ∃ s : Str, d = .str s ∧ Wdn 80 s) → ∃ ss : List Str, ds = ss.map .str ∧ ∀ s ∈ ss, Wdn 80 s
  | [], _ => ⟨[], rfl, fun s hs => (by cases hs)⟩
  | d :: ds, h => by
    obtain ⟨s, rfl, w⟩ := h d List.mem_cons_self
    obtain ⟨ss, rfl, ws⟩ := strs_of ds fun x hx => h x (List.mem_cons_of_mem _ hx)
    exact ⟨s :: ss, rfl, fun x hx => by
      rcases List.mem_cons.mp hx with e | e
      · rw [e]; exact w
      · exact ws x e⟩
theorem ok__law_plan (T : Txt K mg) : Ok P w K mg base CX0 3 "_law_plan" (He.ga K "_law_plan") ["_law_draws_here", "_law_cell_here"] (psd APl SPl) := by
  obtain ⟨fd, F⟩ := T.F__law_plan
  have o__law_take := ok__law_take (P := P) (w := w) (base := base) T
  have o__law_some_word := ok__law_some_word (P := P) (w := w) (base := base) T
  refine ⟨⟨fd, ok_draw F sc__law_plan (fun m dr es h => by rw [h]; rfl) (fun cdv A outer s H E hr => ⟨_, (pss_cons (ps_set (i := 2) sc__law_plan.nd rfl (Or.inl rfl) (pe_op op_add pe_int (pe_ok o__law_take hr (by decide) (by rfl) (pa_cons (pv 0) (pa_cons pe_int pa_nil))))) (pss_cons (ps_if (pt_cmpR op_eq (pe_ok o__law_take hr (by decide) (by rfl) (pa_cons (pv 0) (pa_cons pe_int pa_nil))) pe_int (nomark _)) (pss_one (ps_set (i := 2) sc__law_plan.nd rfl (Or.inl rfl) (pe_op op_add (pv 2) pe_int))) pss_nil) (pss_cons (ps_set (i := 3) sc__law_plan.nd rfl (Or.inl rfl) (pe_lst pa_nil)) (pss_cons (ps_for PassesOwn.never rfl (kiList (K := K) rfl (pe_callB (kSortedSS (P := P) (w := w) rfl rfl rfl) (by rfl) T.f_sorted (by decide +kernel) (pa_cons (pe_callTy (kSetS (K := K) (P := P) (w := w) rfl rfl rfl rfl) (by rfl) T.f_set (by decide +kernel) (pa_cons (pe_lc (own := [("_law_k", 8)]) (by rfl) sc__law_plan.nd (pi_range1 (by rfl) T.f_range (pa_cons (pv 2) pa_nil)) (blkOk_by (own := [("_law_k", 8)]) (N := ["_law_draws_here", "_law_cell_here", "_law_many", "_law_meters", "_law_name", "_law_low", "_law_wide", "_law_length", "_law_k"]) (sc := defScope s__law_plan) (by decide +kernel)) (fun _ _ _ _ _ => (pg_name (i := 8) sc__law_plan.nd rfl (Or.inl rfl))) (fun _ _ _ _ _ => pts_nil) (fun _ _ _ _ _ => (pe_ok o__law_some_word hr (by decide) (by rfl) (pa_cons (pv 0) pa_nil)))) pa_nil)) pa_nil))) (pg_name (i := 4) sc__law_plan.nd rfl (Or.inl rfl)) (pss_cons (ps_set (i := 5) sc__law_plan.nd rfl (Or.inl rfl) (pe_ix (kIxL (K := K) rfl) (pe_lst (pa_cons (pe_op op_sub (pe_ok o__law_take hr (by decide) (by rfl) (pa_cons (pv 0) (pa_cons pe_int pa_nil))) pe_int) (pa_cons (pv 1) pa_nil))) (pe_op op_fdiv (pe_ok o__law_take hr (by decide) (by rfl) (pa_cons (pv 0) (pa_cons pe_int pa_nil))) pe_int) (fun _ _ => rfl))) (pss_cons (ps_set (i := 6) sc__law_plan.nd rfl (Or.inl rfl) (pe_ix (kIxL (K := K) rfl) (pe_lst (pa_cons pe_int (pa_cons pe_int (pa_cons pe_int (pa_cons pe_int (pa_cons pe_int (pa_cons pe_int (pa_cons (pe_op op_pow pe_int pe_int) (pa_cons (pe_callB call_abs (by rfl) T.f_abs (by decide +kernel) (pa_cons (pv 1) pa_nil)) pa_nil))))))))) (pe_ok o__law_take hr (by decide) (by rfl) (pa_cons (pv 0) (pa_cons pe_int pa_nil))) (fun _ _ => rfl))) (pss_one (ps_expr (pe_bm PySem.F.plainAttrs_list PySem.F.slot_list_append PySem.F.type_list_append mt_append (pv 3) (pa_cons (pe_tup (pa_cons (pv 4) (pa_cons (pv 5) (pa_cons (pe_op op_add (pv 5) (pv 6)) (pa_cons (pe_ix (kIxL (K := K) rfl) (pe_lst (pa_cons pe_int (pa_cons pe_int (pa_cons pe_int (pa_cons pe_int (pa_cons pe_int (pa_cons pe_int pa_nil))))))) (pe_ok o__law_take hr (by decide) (by rfl) (pa_cons (pv 0) (pa_cons pe_int pa_nil))) (fun _ _ => rfl)) pa_nil))))) pa_nil))))))) (pss_cons (ps_set (i := 7) sc__law_plan.nd rfl (Or.inl rfl) (pe_ix (kIxL (K := K) rfl) (pe_lst (pa_cons pe_int (pa_cons pe_int (pa_cons pe_int (pa_cons pe_int (pa_cons pe_int (pa_cons (pe_op op_add pe_int (pe_callB call_abs (by rfl) T.f_abs (by decide +kernel) (pa_cons (pv 1) pa_nil))) pa_nil))))))) (pe_ok o__law_take hr (by decide) (by rfl) (pa_cons (pv 0) (pa_cons pe_int pa_nil))) (fun _ _ => rfl))) (pss_one (ps_ret (pe_tup (pa_cons (pv 7) (pa_cons (pe_callTy (kTuple (K := K) rfl) (by rfl) T.f_tuple (by decide +kernel) (pa_cons (pv 3) pa_nil)) pa_nil)))))))))), fun cell dr es r => ?_⟩), (F.bindsN fun _ _ _ _ _ _ us hl => match us, hl with | [_, _], _ => rfl)⟩, T.g__law_plan, F.kp⟩
  obtain rfl := r
  walk_at "k28 g"
  rename_i q q1 q2 r r1 r2
  split
  all_goals walk_at "k28 g"
  all_goals refine fun p xs => g_name ?_
  all_goals refine m_seq ?_
  · refine m_forL (F := PyData.str) ?_
    refine w_sortSetS ?_
    refine a_cons ?_
    refine w_lcRP (fun d => ∃ s : Str, d = .str s ∧ Wdn 80 s) ?_
    walk_at "k28"
    refine ⟨by omega, by omega, fun i => ?_, fun ds dl dp => ?_⟩
    · refine w_calld ?_
      walk_at "k28"
      refine ⟨(), dr, .head _, rfl, ?_⟩
      rintro d ⟨s, ⟨⟩, ws⟩
      exact ⟨_, rfl, s, rfl, ws⟩
    obtain ⟨ss, rfl, ws⟩ := strs_of ds dp
    rw [List.length_map] at dl
    walk_at "k28"
    refine ⟨by omega, fun ys nd yl ysub yne => ⟨ys, rfl, fun i Γ' ρ' => Hid (∃ (p : Addr) (xs : List V) (ms : List Meter) (many : Int) (a b c d e : Option En1), Γ' = [(dr, .rnd), (p, .l xs (ms.map Meter.d))] ∧ ρ' = [some (.raw (.ref dr)), some (.dat (.int cell)), some (.dat (.int many)), some (.raw (.ref p)), a, b, c, d, e] ∧ ms.map Meter.name = ys.take i ∧ ∀ m ∈ ms, PyData.strOk m.name = true ∧ m.lo ≤ m.hi ∧ 0 ≤ m.err), hid ⟨_, _, [], _, none, none, none, none, none, rfl, rfl, rfl, fun m hm => (by cases hm)⟩, ?_, ?_⟩⟩
    · intro i nm Γ' ρ' hi hI
      obtain ⟨p, xs, ms, many, a, b, c, d, e, rfl, rfl, en, mo⟩ := hI.out
      have il := (List.getElem?_eq_some_iff.mp hi).1
      have wn := ws _ (ysub _ (List.mem_of_getElem? hi))
      walk_at "k28"
      refine m_seq (m_asgP ?_)
      walk_at "k28 g"
      rename_i c1 c11 c12 c2 c21 c22
      obtain ⟨d, hd, md⟩ := pick (ds := [PyData.int (c1 - 3), .int cell]) (i := c2 / 8) (by omega) (by simp; omega)
      refine ⟨_, _, _, rfl, rfl, hd, ?_⟩
      obtain ⟨low, rfl⟩ : ∃ low, d = PyData.int low := by
        simp at md
        rcases md with rfl | rfl <;> exact ⟨_, rfl⟩
      refine g_name ?_
      refine m_seq (m_asgP ?_)
      walk_at "k28 g"
      rename_i c3 c31 c32
      obtain ⟨d, hd, md⟩ := pick (ds := [PyData.int 0, .int 1, .int 1, .int 2, .int 5, .int 40, .int (10 ^ (20 : Int).toNat), .int (if cell < 0 then -cell else cell)]) (i := c3) (by omega) (by simp; omega)
      refine ⟨_, _, _, rfl, rfl, hd, ?_⟩
      obtain ⟨wide, rfl, wp⟩ : ∃ wide, d = PyData.int wide ∧ 0 ≤ wide := by
        simp at md
        rcases md with rfl | rfl | rfl | rfl | rfl | rfl | rfl <;> refine ⟨_, rfl, ?_⟩ <;> first | decide | (split <;> omega)
      refine g_name ?_
      refine m_drop (x_append 1 ?_)
      walk_at "k28 g"
      refine ⟨_, _, _, rfl, rfl, ?_⟩
      walk_at "k28 g"
      rename_i c4 c41 c42
      obtain ⟨d, hd, md⟩ := pick (ds := [PyData.int 0, .int 0, .int 1, .int 2, .int 7, .int 60]) (i := c4) (by omega) (by simp; omega)
      refine ⟨_, _, _, rfl, rfl, hd, ?_⟩
      obtain ⟨err, rfl, ep⟩ : ∃ err, d = PyData.int err ∧ 0 ≤ err := by
        simp at md
        rcases md with rfl | rfl | rfl | rfl | rfl <;> refine ⟨_, rfl, ?_⟩ <;> decide
      walk_at "k28 g"
      have ml : ms.length = i := by
        have q := congrArg List.length en
        rw [List.length_map, List.length_take] at q
        omega
      refine ⟨by rw [List.length_map]; omega, fun xs' => hid ⟨p, xs', ms ++ [⟨nm, low, low + wide, err⟩], many, _, _, _, _, _, ?_, rfl, ?_, fun m hm => ?_⟩⟩
      · rw [List.map_append]
        rfl
      · rw [List.map_append, en, List.take_succ, hi]
        rfl
      · rcases List.mem_append.mp hm with z | z
        · exact mo m z
        · obtain rfl := List.mem_singleton.mp z
          exact ⟨wn.1, by simp only; omega, ep⟩
    · intro Γ' ρ' hI
      obtain ⟨p, xs, ms, many, a, b, c, d, e, rfl, rfl, en, mo⟩ := hI.out
      rw [List.take_length] at en
      refine m_seq (m_asgP ?_)
      walk_at "k28 g"
      rename_i c5 c51 c52
      obtain ⟨d, hd, md⟩ := pick (ds := [PyData.int 1, .int 2, .int 5, .int 10, .int 60, .int (1 + if cell < 0 then -cell else cell)]) (i := c5) (by omega) (by simp; omega)
      refine ⟨_, _, _, rfl, rfl, hd, ?_⟩
      obtain ⟨len, rfl⟩ : ∃ len, d = PyData.int len := by
        simp at md
        rcases md with rfl | rfl | rfl | rfl | rfl | rfl <;> exact ⟨_, rfl⟩
      refine g_name ?_
      refine m_retP ?_
      refine w_tup ?_
      refine a_cons (w_var rfl ?_)
      refine a_cons (w_tupleO ?_)
      walk_at "k28"
      refine ⟨_, _, rfl, .of (.tail _ (.head _)), ?_⟩
      refine a_nil ⟨_, rfl, by simp, ⟨_, .head _, .r⟩, _, rfl, ⟨len, ms⟩, rfl, ⟨?_, by rw [en]; exact nd, mo⟩, fun z => ?_⟩
      · have q := congrArg List.length en
        rw [List.length_map] at q
        simp only
        omega
      · simp only at z
        subst z
        refine yne (fun z => ?_) en.symm
        subst z
        simp at dl
        omega
  · refine m_forL (F := PyData.str) ?_
    refine w_sortSetS ?_
    refine a_cons ?_
    refine w_lcRP (fun d => ∃ s : Str, d = .str s ∧ Wdn 80 s) ?_
    walk_at "k28"
    refine ⟨by omega, by omega, fun i => ?_, fun ds dl dp => ?_⟩
    · refine w_calld ?_
      walk_at "k28"
      refine ⟨(), dr, .head _, rfl, ?_⟩
      rintro d ⟨s, ⟨⟩, ws⟩
      exact ⟨_, rfl, s, rfl, ws⟩
    obtain ⟨ss, rfl, ws⟩ := strs_of ds dp
    rw [List.length_map] at dl
    walk_at "k28"
    refine ⟨by omega, fun ys nd yl ysub yne => ⟨ys, rfl, fun i Γ' ρ' => Hid (∃ (p : Addr) (xs : List V) (ms : List Meter) (many : Int) (a b c d e : Option En1), Γ' = [(dr, .rnd), (p, .l xs (ms.map Meter.d))] ∧ ρ' = [some (.raw (.ref dr)), some (.dat (.int cell)), some (.dat (.int many)), some (.raw (.ref p)), a, b, c, d, e] ∧ ms.map Meter.name = ys.take i ∧ ∀ m ∈ ms, PyData.strOk m.name = true ∧ m.lo ≤ m.hi ∧ 0 ≤ m.err), hid ⟨_, _, [], _, none, none, none, none, none, rfl, rfl, rfl, fun m hm => (by cases hm)⟩, ?_, ?_⟩⟩
    · intro i nm Γ' ρ' hi hI
      obtain ⟨p, xs, ms, many, a, b, c, d, e, rfl, rfl, en, mo⟩ := hI.out
      have il := (List.getElem?_eq_some_iff.mp hi).1
      have wn := ws _ (ysub _ (List.mem_of_getElem? hi))
      walk_at "k28"
      refine m_seq (m_asgP ?_)
      walk_at "k28 g"
      rename_i c1 c11 c12 c2 c21 c22
      obtain ⟨d, hd, md⟩ := pick (ds := [PyData.int (c1 - 3), .int cell]) (i := c2 / 8) (by omega) (by simp; omega)
      refine ⟨_, _, _, rfl, rfl, hd, ?_⟩
      obtain ⟨low, rfl⟩ : ∃ low, d = PyData.int low := by
        simp at md
        rcases md with rfl | rfl <;> exact ⟨_, rfl⟩
      refine g_name ?_
      refine m_seq (m_asgP ?_)
      walk_at "k28 g"
      rename_i c3 c31 c32
      obtain ⟨d, hd, md⟩ := pick (ds := [PyData.int 0, .int 1, .int 1, .int 2, .int 5, .int 40, .int (10 ^ (20 : Int).toNat), .int (if cell < 0 then -cell else cell)]) (i := c3) (by omega) (by simp; omega)
      refine ⟨_, _, _, rfl, rfl, hd, ?_⟩
      obtain ⟨wide, rfl, wp⟩ : ∃ wide, d = PyData.int wide ∧ 0 ≤ wide := by
        simp at md
        rcases md with rfl | rfl | rfl | rfl | rfl | rfl | rfl <;> refine ⟨_, rfl, ?_⟩ <;> first | decide | (split <;> omega)
      refine g_name ?_
      refine m_drop (x_append 1 ?_)
      walk_at "k28 g"
      refine ⟨_, _, _, rfl, rfl, ?_⟩
      walk_at "k28 g"
      rename_i c4 c41 c42
      obtain ⟨d, hd, md⟩ := pick (ds := [PyData.int 0, .int 0, .int 1, .int 2, .int 7, .int 60]) (i := c4) (by omega) (by simp; omega)
      refine ⟨_, _, _, rfl, rfl, hd, ?_⟩
      obtain ⟨err, rfl, ep⟩ : ∃ err, d = PyData.int err ∧ 0 ≤ err := by
        simp at md
        rcases md with rfl | rfl | rfl | rfl | rfl <;> refine ⟨_, rfl, ?_⟩ <;> decide
      walk_at "k28 g"
      have ml : ms.length = i := by
        have q := congrArg List.length en
        rw [List.length_map, List.length_take] at q
        omega
      refine ⟨by rw [List.length_map]; omega, fun xs' => hid ⟨p, xs', ms ++ [⟨nm, low, low + wide, err⟩], many, _, _, _, _, _, ?_, rfl, ?_, fun m hm => ?_⟩⟩
      · rw [List.map_append]
        rfl
      · rw [List.map_append, en, List.take_succ, hi]
        rfl
      · rcases List.mem_append.mp hm with z | z
        · exact mo m z
        · obtain rfl := List.mem_singleton.mp z
          exact ⟨wn.1, by simp only; omega, ep⟩
    · intro Γ' ρ' hI
      obtain ⟨p, xs, ms, many, a, b, c, d, e, rfl, rfl, en, mo⟩ := hI.out
      rw [List.take_length] at en
      refine m_seq (m_asgP ?_)
      walk_at "k28 g"
      rename_i c5 c51 c52
      obtain ⟨d, hd, md⟩ := pick (ds := [PyData.int 1, .int 2, .int 5, .int 10, .int 60, .int (1 + if cell < 0 then -cell else cell)]) (i := c5) (by omega) (by simp; omega)
      refine ⟨_, _, _, rfl, rfl, hd, ?_⟩
      obtain ⟨len, rfl⟩ : ∃ len, d = PyData.int len := by
        simp at md
        rcases md with rfl | rfl | rfl | rfl | rfl | rfl <;> exact ⟨_, rfl⟩
      refine g_name ?_
      refine m_retP ?_
      refine w_tup ?_
      refine a_cons (w_var rfl ?_)
      refine a_cons (w_tupleO ?_)
      walk_at "k28"
      refine ⟨_, _, rfl, .of (.tail _ (.head _)), ?_⟩
      refine a_nil ⟨_, rfl, by simp, ⟨_, .head _, .r⟩, _, rfl, ⟨len, ms⟩, rfl, ⟨?_, by rw [en]; exact nd, mo⟩, fun z => ?_⟩
      · have q := congrArg List.length en
        rw [List.length_map] at q
        simp only
        omega
      · simp only at z
        subst z
        refine yne (fun z => ?_) en.symm
        subst z
        simp at dl
        omega
end
end TW
/-! K28L -/
/-! K28: letters as data: equal, in a row of letters; what a deed does to the model. -/
namespace TW
open PySem PySem.Spec PyProof.Rows L2
theorem beqI (a b : Int) : (a == b) = decide (a = b) := rfl
theorem castI (a b : Nat) : ((a : Int) = (b : Int)) = (a = b) := propext ⟨fun h => by omega, fun h => by rw [h]⟩
theorem eqv_opt (a b : Option Int) : PyData.eqv (optD a) (optD b) = decide (a = b) := by
  cases a <;> cases b <;> simp [PyData.eqv, beqI]
theorem eqv_let (nm : Str) (a b : Let) : PyData.eqv (Let.d nm a) (Let.d nm b) = decide (a = b) := by
  have s1 : ((Str.ofString "read") == (Str.ofString "close")) = false := by decide
  have s2 : ((Str.ofString "read") == (Str.ofString "clock")) = false := by decide
  have s3 : ((Str.ofString "close") == (Str.ofString "clock")) = false := by decide
  have s4 : ((Str.ofString "close") == (Str.ofString "read")) = false := by decide
  have s5 : ((Str.ofString "clock") == (Str.ofString "read")) = false := by decide
  have s6 : ((Str.ofString "clock") == (Str.ofString "close")) = false := by decide
  cases a <;> cases b <;> simp [PyData.eqv, PyData.eqvAll, eqv_opt, s1, s2, s3, s4, s5, s6, beqI, castI]
theorem any_let (nm : Str) (l : Let) (us : List Let) : ((us.map (Let.d nm)).any fun z => PyData.eqv z (Let.d nm l)) = decide (l ∈ us) := by
  induction us with
  | nil => rfl
  | cons a r ih =>
    rw [List.map_cons, List.any_cons, ih, eqv_let]
    by_cases c : a = l
    · subst c; simp
    · have c' : ¬ l = a := fun e => c e.symm
      simp [c, c']
theorem lay_let {nm : Str} (h : PyData.strOk nm = true) (l : Let) : PyData.canLay0 (Let.d nm l) = true ∧ PyData.depth (Let.d nm l) ≤ 3 := by
  have s1 : PyData.strOk (Str.ofString "read") = true := by decide +kernel
  have s2 : PyData.strOk (Str.ofString "close") = true := by decide +kernel
  have s3 : PyData.strOk (Str.ofString "clock") = true := by decide +kernel
  cases l with
  | read s v st x => cases x <;> simp [PyData.canLay0, PyData.canLayAll0, PyData.depth, PyData.depthAll, h, s1]
  | close n st vs => simp [PyData.canLay0, PyData.canLayAll0, PyData.depth, PyData.depthAll, h, s2]
  | clock lo hi => simp [PyData.canLay0, PyData.canLayAll0, PyData.depth, PyData.depthAll, h, s3]
theorem lay_lets {nm : Str} (h : PyData.strOk nm = true) : ∀ us : List Let, PyData.canLayAll0 (us.map (Let.d nm)) = true ∧ PyData.depthAll (us.map (Let.d nm)) ≤ 4
  | [] => by simp [PyData.canLayAll0, PyData.depthAll]
  | l :: us => by
    obtain ⟨a1, a2⟩ := lay_let h l
    obtain ⟨b1, b2⟩ := lay_lets h us
    simp only [List.map_cons, PyData.canLayAll0, PyData.depthAll, a1, b1, Bool.and_self, true_and]
    omega
theorem shaped_let {nm : Str} (h : PyData.strOk nm = true) (l : Let) : SeqAt.shaped (Let.d nm l) = true := by
  obtain ⟨a, b⟩ := lay_let h l
  show (PyData.canLay0 _ && decide (PyData.depth _ ≤ 64)) = true
  rw [a, decide_eq_true (by omega)]
  rfl
theorem shaped_lets {nm : Str} (h : PyData.strOk nm = true) (us : List Let) : SeqAt.shaped (.tuple (us.map (Let.d nm))) = true ∧ SeqAt.shaped (.list (us.map (Let.d nm))) = true := by
  obtain ⟨a, b⟩ := lay_lets h us
  constructor
  · show (PyData.canLay0 (.tuple _) && decide (PyData.depth (.tuple _) ≤ 64)) = true
    rw [show PyData.canLay0 (.tuple (us.map (Let.d nm))) = PyData.canLayAll0 (us.map (Let.d nm)) from by simp only [PyData.canLay0], a, decide_eq_true (by simp only [PyData.depth]; omega)]
    rfl
  · show (PyData.canLay0 (.list _) && decide (PyData.depth (.list _) ≤ 64)) = true
    rw [show PyData.canLay0 (.list (us.map (Let.d nm))) = PyData.canLayAll0 (us.map (Let.d nm)) from by simp only [PyData.canLay0], a, decide_eq_true (by simp only [PyData.depth]; omega)]
    rfl
theorem hu65 {k : Nat} {A : Around} (hr : Room k A) : A.units + 65 < cLine := by have := hr.un; omega
/-- x in a tuple, x not in a list, of data -/
def rInTD (K : PySem.W.Frag) : R2 := fun x y H Q => ∃ d ds, Dp K H x d ∧ Dp K H y (.tuple ds) ∧ SeqAt.shaped d = true ∧ SeqAt.shaped (.tuple ds) = true ∧ Q (.bl (ds.any fun z => PyData.eqv z d)) H
theorem kInTD {X : Cx} {K : PySem.W.Frag} (hK : X.K = K) (hu : X.A.units + 65 < cLine) : OpR X (compareOp .In) (rInTD K) := by
  subst hK
  intro pins s σ H x y v u Q I rx ry ⟨d, ds, hd, he, sd, se, q⟩
  obtain ⟨as, z1⟩ := Dp.reads I d x v hd rx
  obtain ⟨bs, z2⟩ := Dp.reads I (.tuple ds) y u he ry
  exact SeqAt.in_tuple_reads z2 z1 (SeqAt.canLay_of_shaped se) (SeqAt.canLay_of_shaped sd) (room_in_shaped sd hu) ⟨.bl _, H, I, rfl, q⟩
theorem kNotInD {X : Cx} {K : PySem.W.Frag} (hK : X.K = K) (hu : X.A.units + 65 < cLine) : OpR X (compareOp .NotIn) (rNotInD K) := by subst hK; exact op_notInD hu
theorem w_inTD {M : Md} {ρ : Ro} {K : En1 → Prop} {KF : PySem.W.Frag} {ta tb : TE} (h : We M ta ρ fun x => We M tb ρ fun y => ∃ d ds, x = .dat d ∧ y = .dat (.tuple ds) ∧ SeqAt.shaped d = true ∧ SeqAt.shaped (.tuple ds) = true ∧ K (.dat (.bool (ds.any fun z => PyData.eqv z d)))) : We M (tOp (rInTD KF) ta tb) ρ K :=
  w_op (h.imp fun x a => a.imp fun y ⟨d, ds, ex, ey, s1, s2, k⟩ => by
    subst ex ey
    intro u u' H j a b Q q
    exact ⟨d, ds, At.dp a, At.dp b, s1, s2, q _ H _ (Md.refl j) (Is.d (At.bl _)) k⟩)
/-! ### the model -/
def addDue (due : List Let) (l : Let) : List Let := if l ∈ due then due else due ++ [l]
def lastBad (z : Sta) (st : Int) : Bool := match z.ss.getLast? with
  | none => false
  | some s => decide (st < s.1)
def lateFor (z : Sta) (st : Int) : Bool := match z.cs with
  | none => false
  | some c => decide (st < c)
def recOk (m : Meter) (z : Sta) (st v : Int) : Bool := decide (m.lo ≤ v) && decide (v ≤ m.hi) && !(lastBad z st || lateFor z st)
def putVer (ss : List Slot) (i : Nat) (x : Option Int) : List Slot := match ss[i]? with
  | some sl => ss.set i (sl.1, sl.2 ++ [x])
  | none => ss
/-- a new version of slot s -/
def newVer (z : Sta) (s : Int) (x : Option Int) : Sta := match z.ss[(s - 1).toNat]? with
  | some sl => ⟨putVer z.ss (s - 1).toNat x, z.cn, z.cs, addDue z.due (.read s.toNat sl.2.length sl.1 x)⟩
  | none => z
def closedOf (z : Sta) (st : Int) : List Slot := z.ss.filter fun s => decide (s.1 < st)
/-- what a deed does: the name of the error or nothing, the state behind it -/
def aft (m : Meter) (off : Int) (z : Sta) : Deed → Str × Sta
  | .record st v => if recOk m z st v = true then ("", ⟨z.ss ++ [(st, [some v])], z.cn, z.cs, addDue z.due (.read (z.ss.length + 1) 0 st (some v))⟩) else ("InvalidEntry", z)
  | .correct s v => if s < 1 ∨ (z.ss.length : Int) < s then ("NoSlot", z) else if s ≤ z.cn then ("Closed", z) else if v < m.lo ∨ m.hi < v then ("InvalidEntry", z) else ("", newVer z s (some v))
  | .back s => if s < 1 ∨ (z.ss.length : Int) < s then ("NoSlot", z) else if s ≤ z.cn then ("Closed", z) else ("", newVer z s none)
  | .close st => if lateFor z st = true then ("InvalidEntry", z) else
      ("", ⟨z.ss, (closedOf z st).length, some st, addDue z.due (.close (closedOf z st).length st ((closedOf z st).map fun s => s.2.length).sum)⟩)
  | .check lo hi => if off < lo ∨ hi < off then ("InvalidEntry", z) else ("", ⟨z.ss, z.cn, z.cs, addDue z.due (.clock lo hi)⟩)
  | .ack l => ("", ⟨z.ss, z.cn, z.cs, z.due.filter fun o => decide (o ≠ l)⟩)
end TW
/-! K28P14 -/
namespace TW
open PySem PySem.Spec PyProof.Rows L2
local macro_rules | `(tactic| walk_at "k28 d") => `(tactic| first
  | refine w_var rfl ?_ | with_reducible refine w_int ?_ | with_reducible refine w_str ?_ | with_reducible refine w_non ?_ | with_reducible refine w_bl ?_
  | with_reducible refine w_ixT ?_ | with_reducible refine w_ixL ?_ | with_reducible refine w_add ?_ | with_reducible refine w_sub ?_ | with_reducible refine w_eq ?_ | with_reducible refine w_ne ?_ | with_reducible refine w_lt ?_
  | with_reducible refine w_leq ?_ | with_reducible refine w_gt ?_ | with_reducible refine w_ge ?_ | with_reducible refine w_mul ?_ | with_reducible refine w_div ?_ | with_reducible refine w_mod ?_ | with_reducible refine w_pow ?_
  | with_reducible refine w_neg ?_ | with_reducible refine w_isN ?_ | with_reducible refine w_notN ?_ | with_reducible refine a_nil ?_ | with_reducible refine a_cons ?_ | with_reducible refine w_tup ?_ | with_reducible refine w_lst ?_
  | with_reducible refine w_call0 ?_ | with_reducible refine w_len ?_ | with_reducible refine w_sumM ?_ | with_reducible refine w_allM ?_ | with_reducible refine w_tuple ?_ | with_reducible refine w_abs ?_ | with_reducible refine w_toInt ?_ | with_reducible refine w_max2 ?_
  | with_reducible refine w_min2 ?_ | with_reducible refine t_test ?_ | with_reducible refine t_B ?_ | with_reducible refine t_and ?_ | with_reducible refine t_or ?_ | with_reducible refine t_not ?_ | with_reducible refine t_yes ?_
  | with_reducible refine w_andV ?_ | with_reducible refine w_orV ?_ | with_reducible refine w_notV ?_ | with_reducible refine w_if ?_ | with_reducible refine w_chain ?_ | with_reducible refine o_none ?_ | with_reducible refine o_some ?_
  | with_reducible refine w_slT ?_ | with_reducible refine w_slL ?_ | with_reducible refine w_catT ?_ | with_reducible refine w_catL ?_ | with_reducible refine w_dget ?_ | with_reducible refine w_din ?_ | with_reducible refine w_dnotin ?_ | with_reducible refine w_sortD ?_ | with_reducible refine w_sortI ?_ | with_reducible refine w_callq ?_ | with_reducible refine w_isB ?_
  | with_reducible refine w_notB ?_ | with_reducible refine g_name ?_ | refine gs_nil rfl ?_ | refine gs_cons rfl ?_ | with_reducible refine s_next ?_ | with_reducible refine s_seq ?_ | with_reducible refine s_asg ?_
  | with_reducible refine s_drop ?_ | with_reducible refine s_ret ?_ | with_reducible refine s_brk ?_ | with_reducible refine s_if ?_)
local macro_rules | `(tactic| walk_at "k28 x") => `(tactic| first
  | refine g_tup ⟨_, rfl, rfl, ?_⟩ | refine ⟨_, _, _, _, rfl, rfl, rfl, rfl, rfl, ?_⟩ | refine ⟨_, _, _, rfl, rfl, rfl, ?_⟩ | refine ⟨_, _, _, rfl, rfl, atI_nat (j := 0) rfl, ?_⟩ | refine ⟨_, _, _, rfl, ?_⟩ | refine ⟨_, _, rfl, rfl, by decide, ?_⟩ | refine ⟨_, _, rfl, rfl, ⟨by decide, by decide⟩, ?_⟩ | refine ⟨_, _, rfl, rfl, ⟨by decide, by decide, by decide⟩, ?_⟩ | refine ⟨_, _, rfl, rfl, .inl ⟨by decide, by decide⟩, ?_⟩ | refine ⟨_, _, rfl, rfl, .inr ⟨by decide, by decide⟩, ?_⟩ | refine ⟨_, _, rfl, rfl, ?_⟩ | refine ⟨_, _, rfl, ?_⟩ | refine ⟨_, (show undats _ = some _ from rfl), by simp, ?_⟩ | refine ⟨_, rfl, ?_⟩ | refine ⟨_, .inl rfl, ?_⟩ | refine ⟨_, .inr rfl, ?_⟩ | refine ⟨_, _, rfl, rfl, ?_, ?_⟩)
local macro_rules | `(tactic| walk_at "k28 t") => `(tactic| first | rw [if_pos (by decide)] | rw [if_neg (by decide)] | rw [if_pos (by simp)] | rw [if_neg (by simp)])
local macro_rules | `(tactic| walk_at "k28") => `(tactic| repeat (first | walk_at "k28 d" | walk_at "k28 x" | exact rfl))
local macro_rules | `(tactic| walk_at "k28 s") => `(tactic| repeat (first | (fail_if_success with_reducible refine s_if ?_); (first | walk_at "k28 d" | walk_at "k28 x" | exact rfl)))
local macro_rules | `(tactic| walk_at "k28 o") => `(tactic| first
  | with_reducible refine w_dnotinO ?_ | with_reducible refine w_dgetO ?_ | with_reducible refine w_dget2O ?_ | with_reducible refine w_lenO ?_ | with_reducible refine w_tupleO ?_ | with_reducible refine w_notInO ?_ | with_reducible refine w_ixO ?_ | with_reducible refine w_fld ?_
  | refine ⟨_, _, _, rfl, rfl, .of (.head _), ?_⟩ | refine ⟨_, _, _, rfl, rfl, .of (.tail _ (.head _)), ?_⟩ | refine ⟨_, _, rfl, .of (.head _), ?_⟩ | refine ⟨_, _, rfl, .of (.tail _ (.head _)), ?_⟩)
local macro_rules | `(tactic| walk_at "k28 w") => `(tactic| first | with_reducible refine m_next ?_ | with_reducible refine m_seq ?_ | with_reducible refine m_asg (x_dnew fun p => ?_) | with_reducible refine m_asg (x_dnewT fun p => ?_) | with_reducible refine m_asg (x_lst ?_) | with_reducible refine m_asgP ?_ | with_reducible refine m_if ?_ | with_reducible refine m_retP ?_)
local macro_rules | `(tactic| walk_at "k28 m") => `(tactic| repeat (first | walk_at "k28 w" | walk_at "k28 o" | walk_at "k28 d" | walk_at "k28 x" | exact rfl))
local macro_rules | `(tactic| walk_at "k28 g") => `(tactic| repeat (first | with_reducible refine w_take ?_ | with_reducible refine w_word ?_ | with_reducible refine w_calld ?_ | with_reducible refine w_callgq ?_ | with_reducible refine w_addS ?_ | with_reducible refine w_ixS ?_ | with_reducible refine w_catL ?_ | walk_at "k28 w" | walk_at "k28 d" | refine ⟨_, _, rfl, .head _, (by first | decide | omega | simp | (simp only [List.length_map]; omega)), fun (r : Int) (r1 : 0 ≤ r) (r2 : r < _) => ?_⟩ | refine ⟨_, rfl, fun (s : Str) (sw : Wdn 60 s) => ?_⟩ | walk_at "k28 x" | exact rfl))
local macro_rules | `(tactic| walk_at "k28 f") => `(tactic| first
  | refine wf (Txt.c_Source (by assumption)) (Txt.n_meter (by assumption)) rfl lk_meter ?_ | refine wf (Txt.c_Source (by assumption)) (Txt.n_offset (by assumption)) rfl lk_offset ?_ | refine wf (Txt.c_Source (by assumption)) (Txt.n_slots (by assumption)) rfl lk_slots ?_ | refine wf (Txt.c_Source (by assumption)) (Txt.n_closed_number (by assumption)) rfl lk_closed_number ?_ | refine wf (Txt.c_Source (by assumption)) (Txt.n_closed_stamp (by assumption)) rfl lk_closed_stamp ?_ | refine wf (Txt.c_Source (by assumption)) (Txt.n_due (by assumption)) rfl lk_due ?_)
local macro_rules | `(tactic| walk_at "k28 n") => `(tactic| repeat (first | walk_at "k28 w" | walk_at "k28 f" | walk_at "k28 d" | walk_at "k28 x" | exact rfl))
local macro_rules | `(tactic| walk_at "k28 p") => `(tactic| first
  | with_reducible refine w_lenO ?_ | with_reducible refine w_tupleO ?_ | with_reducible refine w_ixO ?_
  | refine ⟨_, _, rfl, .of (.tail _ (.head _)), ?_⟩ | refine ⟨_, _, rfl, .of (.tail _ (.tail _ (.head _))), ?_⟩)
local macro_rules | `(tactic| walk_at "k28 q") => `(tactic| repeat (first | walk_at "k28 w" | walk_at "k28 f" | walk_at "k28 p" | walk_at "k28 d" | walk_at "k28 x" | exact rfl))
section
variable {P : Program} {w : World} {K : PySem.W.Frag} {mg : Str → Option Value} {base : Heap}
theorem sc__law_with : FnScope ["_law_due", "_law_letter"] ["_law_due", "_law_letter"] (defScope s__law_with) := ⟨rfl, rfl, rfl, by decide +kernel, rfl, by decide +kernel, by decide +kernel⟩
structure GWi where
  nm : Str
  due : List Let
  l : Let
def AWi (g : GWi) (es : List En1) : Prop := es = [.dat (.tuple (g.due.map (Let.d g.nm))), .dat (Let.d g.nm g.l)] ∧ PyData.strOk g.nm = true ∧ g.due.length ≤ 1000
def SWi (g : GWi) (e : En1) : Prop := e = .dat (.tuple ((addDue g.due g.l).map (Let.d g.nm)))
theorem ok__law_with (T : Txt K mg) : Ok P w K mg base CX0 1 "_law_with" (He.ga K "_law_with") ["_law_due", "_law_letter"] (psq AWi SWi) := by
  obtain ⟨fd, F⟩ := T.F__law_with
  refine ⟨⟨fd, ok_pureq F sc__law_with (fun g es h => by rw [h.1]; rfl) (fun cdv A outer s H E hr => ⟨_, (pss_cons (ps_if (pt_cmpR (kInTD (K := K) rfl (hu65 hr)) (pv 1) (pv 0) (by rfl)) (pss_one (ps_ret (pv 0))) pss_nil) (pss_one (ps_ret (pe_op (kCatT (K := K) rfl) (pv 0) (pe_tup (pa_cons (pv 1) pa_nil)))))), fun g es r => ?_⟩), (F.bindsN fun _ _ _ _ _ _ us hl => match us, hl with | [_, _], _ => rfl)⟩, T.g__law_with, F.kp⟩
  obtain ⟨nm, due, l⟩ := g
  obtain ⟨rfl, so, hz⟩ := r
  dsimp only at so hz ⊢
  refine s_seq (s_if (t_test (w_inTD ?_)))
  walk_at "k28"
  refine ⟨shaped_let so l, (shaped_lets so due).1, ?_⟩
  rw [any_let]
  by_cases c : l ∈ due
  · rw [decide_eq_true c]
    walk_at "k28"
    rw [if_pos rfl]
    walk_at "k28"
    unfold SWi addDue
    rw [if_pos c]
  · rw [decide_eq_false c]
    walk_at "k28"
    rw [if_neg (by simp)]
    walk_at "k28"
    refine ⟨by rw [List.length_map, sizeLine_eq]; simp; omega, ?_⟩
    show SWi _ _
    unfold SWi addDue
    rw [if_neg c, List.map_append]
    rfl
structure SmSta (z : Sta) : Prop where
  ss : z.ss.length ≤ 1000
  vs : ∀ s ∈ z.ss, s.2.length ≤ 1000
  due : z.due.length ≤ 1000
structure GAf where
  m : Meter
  off : Int
  z : Sta
  dd : Deed
def SAf (g : GAf) (e : En1) : Prop := ∃ ans : Dt, e = .dat (.tuple [.str (aft g.m g.off g.z g.dd).1, (aft g.m g.off g.z g.dd).2.d g.m.name, ans])
def ARc (g : GAf) (es : List En1) : Prop := es = [.dat (g.z.d g.m.name), .dat g.m.d, .dat (g.dd.d g.m.name)] ∧ PyData.strOk g.m.name = true ∧ SmSta g.z ∧ ∃ st v, g.dd = .record st v
theorem sc__law_recorded : FnScope ["_law_model", "_law_meter", "_law_deed_here", "_law_slots", "_law_right", "_law_letter"] ["_law_model", "_law_meter", "_law_deed_here"] (defScope s__law_recorded) := ⟨rfl, rfl, rfl, by decide +kernel, rfl, by decide +kernel, by decide +kernel⟩
theorem ok__law_recorded (T : Txt K mg) : Ok P w K mg base CX0 2 "_law_recorded" (He.ga K "_law_recorded") ["_law_model", "_law_meter", "_law_deed_here"] (psq ARc SAf) := by
  obtain ⟨fd, F⟩ := T.F__law_recorded
  have o__law_with := ok__law_with (P := P) (w := w) (base := base) T
  refine ⟨⟨fd, ok_pureq F sc__law_recorded (fun g es h => by rw [h.1]; rfl) (fun cdv A outer s H E hr => ⟨_, (pss_cons (ps_set (i := 3) sc__law_recorded.nd rfl (Or.inl rfl) (pe_ix (kIxT (K := K) rfl) (pv 0) pe_int (fun _ _ => rfl))) (pss_cons (ps_set (i := 4) sc__law_recorded.nd rfl (Or.inl rfl) (pe_and (pe_cmpR op_le (pe_ix (kIxT (K := K) rfl) (pv 1) pe_int (fun _ _ => rfl)) (pe_ix (kIxT (K := K) rfl) (pv 2) pe_int (fun _ _ => rfl)) (nomark _)) (pe_one (pe_cmpR op_le (pe_ix (kIxT (K := K) rfl) (pv 2) pe_int (fun _ _ => rfl)) (pe_ix (kIxT (K := K) rfl) (pv 1) pe_int (fun _ _ => rfl)) (nomark _))))) (pss_cons (ps_if (PW.pt (pw_or (PW.pt (pw_and (pt_cmpR op_gt (pe_callB (kLen (K := K) rfl) (by rfl) T.f_len (by decide +kernel) (pa_cons (pv 3) pa_nil)) pe_int (nomark _)) (pw_and1 (pt_cmpR op_lt (pe_ix (kIxT (K := K) rfl) (pv 2) pe_int (fun _ _ => rfl)) (pe_ix (kIxT (K := K) rfl) (pe_ix (kIxT (K := K) rfl) (pv 3) (pe_un un_neg pe_int) (fun _ _ => rfl)) pe_int (fun _ _ => rfl)) (nomark _))))) (pw_or1 (PW.pt (pw_and (pt_cmpR op_notN (pe_ix (kIxT (K := K) rfl) (pv 0) pe_int (fun _ _ => rfl)) pe_non (nomark _)) (pw_and1 (pt_cmpR op_lt (pe_ix (kIxT (K := K) rfl) (pv 2) pe_int (fun _ _ => rfl)) (pe_ix (kIxT (K := K) rfl) (pv 0) pe_int (fun _ _ => rfl)) (nomark _)))))))) (pss_one (ps_set (i := 4) sc__law_recorded.nd rfl (Or.inl rfl) pe_bl)) pss_nil) (pss_cons (ps_if (pt_not (pt_val (pv 4))) (pss_one (ps_ret (pe_tup (pa_cons pe_str (pa_cons (pv 0) (pa_cons pe_non pa_nil)))))) pss_nil) (pss_cons (ps_set (i := 5) sc__law_recorded.nd rfl (Or.inl rfl) (pe_tup (pa_cons pe_str (pa_cons (pe_ix (kIxT (K := K) rfl) (pv 1) pe_int (fun _ _ => rfl)) (pa_cons (pe_op op_add (pe_callB (kLen (K := K) rfl) (by rfl) T.f_len (by decide +kernel) (pa_cons (pv 3) pa_nil)) pe_int) (pa_cons pe_int (pa_cons (pe_ix (kIxT (K := K) rfl) (pv 2) pe_int (fun _ _ => rfl)) (pa_cons (pe_ix (kIxT (K := K) rfl) (pv 2) pe_int (fun _ _ => rfl)) pa_nil)))))))) (pss_cons (ps_set (i := 3) sc__law_recorded.nd rfl (Or.inl rfl) (pe_op (kCatT (K := K) rfl) (pv 3) (pe_tup (pa_cons (pe_tup (pa_cons (pe_ix (kIxT (K := K) rfl) (pv 2) pe_int (fun _ _ => rfl)) (pa_cons (pe_tup (pa_cons (pe_ix (kIxT (K := K) rfl) (pv 2) pe_int (fun _ _ => rfl)) pa_nil)) pa_nil))) pa_nil)))) (pss_one (ps_ret (pe_tup (pa_cons pe_str (pa_cons (pe_tup (pa_cons (pv 3) (pa_cons (pe_ix (kIxT (K := K) rfl) (pv 0) pe_int (fun _ _ => rfl)) (pa_cons (pe_ix (kIxT (K := K) rfl) (pv 0) pe_int (fun _ _ => rfl)) (pa_cons (pe_ok o__law_with hr (by decide) (by rfl) (pa_cons (pe_ix (kIxT (K := K) rfl) (pv 0) pe_int (fun _ _ => rfl)) (pa_cons (pv 5) pa_nil))) pa_nil))))) (pa_cons (pe_callB (kLen (K := K) rfl) (by rfl) T.f_len (by decide +kernel) (pa_cons (pv 3) pa_nil)) pa_nil)))))))))))), fun g es r => ?_⟩), (F.bindsN fun _ _ _ _ _ _ us hl => match us, hl with | [_, _, _], _ => rfl)⟩, T.g__law_recorded, F.kp⟩
  obtain ⟨m, off, ⟨ss, cn, cs, due⟩, dd⟩ := g
  obtain ⟨r', so, sm, st, v, ed⟩ := r
  simp only at ed so sm
  subst ed
  have r' : es = [.dat (.tuple [.tuple (ss.map slotD), .int (cn : Int), optD cs, .tuple (due.map (Let.d m.name))]), .dat m.d, .dat (.tuple [.str "record", .int st, .int v])] := r'
  subst r'
  have z1 := sm.ss
  have z2 := sm.due
  dsimp only at z1 z2
  refine s_seq (s_asg (w_ixT (w_var rfl (w_int ⟨_, _, _, rfl, rfl, atI_nat (j := 0) rfl, g_name ?_⟩))))
  refine s_seq (s_asg (w_is (.dat (.bool (decide (m.lo ≤ v) && decide (v ≤ m.hi)))) ?_ ?_))
  · walk_at "k28"
    by_cases c : m.lo ≤ v
    · rw [if_pos (by simpa using c)]
      walk_at "k28"
      simp [c]
    · rw [if_neg (by simpa using c)]
      simp [c]
  refine g_name (s_seq (s_if (t_is (lastBad ⟨ss, cn, cs, due⟩ st || lateFor ⟨ss, cn, cs, due⟩ st) ?_ ?_)))
  · have late : Wt M0 (tAnd (tTest (tOp (fun x y H Q => y = V.non ∧ Q (V.bl !decide (x = V.non)) H) (tOp (rIxT K) (tVar 0) (tC (V.int 2))) (tC V.non)))
        (tTest (tOp (rI0 fun i j => V.bl (decide (i < j))) (tOp (rIxT K) (tVar 2) (tC (V.int 1))) (tOp (rIxT K) (tVar 0) (tC (V.int 2))))))
        [some (.dat (.tuple [.tuple (ss.map slotD), .int (cn : Int), optD cs, .tuple (due.map (Let.d m.name))])), some (.dat m.d), some (.dat (.tuple [.str "record", .int st, .int v])), some (.dat (.tuple (ss.map slotD))), some (.dat (.bool (decide (m.lo ≤ v) && decide (v ≤ m.hi)))), none]
        fun b => b = lateFor ⟨ss, cn, cs, due⟩ st := by
      cases cs with
      | none => walk_at "k28"
      | some c => walk_at "k28"; rw [if_pos (by simp [isN])]; walk_at "k28"
    rcases List.eq_nil_or_concat ss with rfl | ⟨ss', sl, rfl⟩
    · walk_at "k28 s"
      rw [if_neg (by simp)]
      simp only [Bool.false_eq_true, if_false]
      refine late.imp fun b e => ?_
      rw [e]
      rfl
    · walk_at "k28 s"
      rw [if_pos (by simp)]
      walk_at "k28"
      have e1 : atI ((ss'.concat sl).map slotD) (-1) = some (slotD sl) := by
        rw [List.concat_eq_append, List.map_append]
        exact atI_last _ _
      refine ⟨_, _, _, rfl, rfl, e1, ?_⟩
      walk_at "k28"
      have lb : lastBad ⟨ss'.concat sl, cn, cs, due⟩ st = decide (st < sl.1) := by simp [lastBad]
      rw [lb]
      by_cases c : st < sl.1
      · rw [if_pos (by simpa using c)]
        simp [c]
      · rw [if_neg (by simpa using c)]
        refine late.imp fun b e => ?_
        rw [e]
        simp [c]
  by_cases bad : (lastBad ⟨ss, cn, cs, due⟩ st || lateFor ⟨ss, cn, cs, due⟩ st) = true
  · rw [if_pos bad]
    walk_at "k28"
    rw [if_pos (by simp)]
    walk_at "k28"
    have e : aft m off ⟨ss, cn, cs, due⟩ (.record st v) = ((Str.ofString "InvalidEntry", ⟨ss, cn, cs, due⟩) : Str × Sta) := by
      show (if recOk m ⟨ss, cn, cs, due⟩ st v = true then _ else _) = _
      unfold recOk
      rw [bad, if_neg (by simp)]
    exact ⟨_, by rw [e]⟩
  · rw [if_neg bad]
    have nb : (lastBad ⟨ss, cn, cs, due⟩ st || lateFor ⟨ss, cn, cs, due⟩ st) = false := by simpa using bad
    walk_at "k28"
    by_cases c : (decide (m.lo ≤ v) && decide (v ≤ m.hi)) = true
    · have e : aft m off ⟨ss, cn, cs, due⟩ (.record st v) = ((Str.ofString "", ⟨ss ++ [(st, [some v])], cn, cs, addDue due (.read (ss.length + 1) 0 st (some v))⟩) : Str × Sta) := by
        show (if recOk m ⟨ss, cn, cs, due⟩ st v = true then _ else _) = _
        unfold recOk
        rw [nb, c, if_pos (by simp)]
      rw [c]
      walk_at "k28"
      rw [if_neg (by simp)]
      walk_at "k28"
      refine ⟨by rw [List.length_map, sizeLine_eq]; simp; omega, ?_⟩
      walk_at "k28"
      refine ⟨⟨m.name, due, .read (ss.length + 1) 0 st (some v)⟩, ⟨by rw [List.length_map]; rfl, so, z2⟩, ?_⟩
      rintro e' rfl
      walk_at "k28"
      have e3 : (ss ++ [(st, [some v])]).map slotD = ss.map slotD ++ [slotD (st, [some v])] := by rw [List.map_append]; rfl
      apply Exists.intro
      rw [e]
      simp only [Sta.d]
      rw [e3]
      rfl
    · have e : aft m off ⟨ss, cn, cs, due⟩ (.record st v) = ((Str.ofString "InvalidEntry", ⟨ss, cn, cs, due⟩) : Str × Sta) := by
        show (if recOk m ⟨ss, cn, cs, due⟩ st v = true then _ else _) = _
        unfold recOk
        have c' : (decide (m.lo ≤ v) && decide (v ≤ m.hi)) = false := by simpa using c
        rw [c', if_neg (by simp)]
      have c' : (decide (m.lo ≤ v) && decide (v ≤ m.hi)) = false := by simpa using c
      rw [c']
      walk_at "k28"
      rw [if_pos (by simp)]
      walk_at "k28"
      exact ⟨_, by rw [e]⟩
def ACr (g : GAf) (es : List En1) : Prop := es = [.dat (g.z.d g.m.name), .dat g.m.d, .dat (g.dd.d g.m.name)] ∧ PyData.strOk g.m.name = true ∧ SmSta g.z ∧ ((∃ s v, g.dd = .correct s v) ∨ ∃ s, g.dd = .back s)
theorem cut_to_nat (ds : List Dt) {n : Nat} (h : n ≤ ds.length) : cutD ds none (some (n : Int)) = ds.take n := by
  unfold cutD
  rw [HT.sIx_none, HT.sIx_nat, Nat.min_eq_left h]
  simp
theorem cut_from_nat (ds : List Dt) (n : Nat) : cutD ds (some (n : Int)) none = ds.drop n := by
  unfold cutD
  rw [HT.sIx_none, HT.sIx_nat]
  by_cases c : n ≤ ds.length
  · rw [Nat.min_eq_left c, List.take_of_length_le (by rw [List.length_drop]; exact Nat.le_refl _)]
  · rw [Nat.min_eq_right (by omega), List.drop_eq_nil_of_le (by omega), List.drop_eq_nil_of_le (by omega)]
    simp
theorem sc__law_corrected : FnScope ["_law_model", "_law_meter", "_law_deed_here", "_law_slots", "_law_at", "_law_value", "_law_versions", "_law_letter"] ["_law_model", "_law_meter", "_law_deed_here"] (defScope s__law_corrected) := ⟨rfl, rfl, rfl, by decide +kernel, rfl, by decide +kernel, by decide +kernel⟩
theorem ok__law_corrected (T : Txt K mg) : Ok P w K mg base CX0 2 "_law_corrected" (He.ga K "_law_corrected") ["_law_model", "_law_meter", "_law_deed_here"] (psq ACr SAf) := by
  obtain ⟨fd, F⟩ := T.F__law_corrected
  have o__law_with := ok__law_with (P := P) (w := w) (base := base) T
  refine ⟨⟨fd, ok_pureq F sc__law_corrected (fun g es h => by rw [h.1]; rfl) (fun cdv A outer s H E hr => ⟨_, (pss_cons (ps_set (i := 3) sc__law_corrected.nd rfl (Or.inl rfl) (pe_ix (kIxT (K := K) rfl) (pv 0) pe_int (fun _ _ => rfl))) (pss_cons (ps_set (i := 4) sc__law_corrected.nd rfl (Or.inl rfl) (pe_op op_sub (pe_ix (kIxT (K := K) rfl) (pv 2) pe_int (fun _ _ => rfl)) pe_int)) (pss_cons (ps_if (PW.pt (pw_or (pt_cmpR op_lt (pv 4) pe_int (nomark _)) (pw_or1 (pt_cmpR op_ge (pv 4) (pe_callB (kLen (K := K) rfl) (by rfl) T.f_len (by decide +kernel) (pa_cons (pv 3) pa_nil)) (nomark _))))) (pss_one (ps_ret (pe_tup (pa_cons pe_str (pa_cons (pv 0) (pa_cons pe_non pa_nil)))))) pss_nil) (pss_cons (ps_if (pt_cmpR op_le (pe_ix (kIxT (K := K) rfl) (pv 2) pe_int (fun _ _ => rfl)) (pe_ix (kIxT (K := K) rfl) (pv 0) pe_int (fun _ _ => rfl)) (nomark _)) (pss_one (ps_ret (pe_tup (pa_cons pe_str (pa_cons (pv 0) (pa_cons pe_non pa_nil)))))) pss_nil) (pss_cons (ps_set (i := 5) sc__law_corrected.nd rfl (Or.inl rfl) pe_non) (pss_cons (ps_if (pt_cmpR op_eq (pe_ix (kIxT (K := K) rfl) (pv 2) pe_int (fun _ _ => rfl)) pe_str (nomark _)) (pss_cons (ps_set (i := 5) sc__law_corrected.nd rfl (Or.inl rfl) (pe_ix (kIxT (K := K) rfl) (pv 2) pe_int (fun _ _ => rfl))) (pss_one (ps_if (PW.pt (pw_or (pt_cmpR op_lt (pv 5) (pe_ix (kIxT (K := K) rfl) (pv 1) pe_int (fun _ _ => rfl)) (nomark _)) (pw_or1 (pt_cmpR op_gt (pv 5) (pe_ix (kIxT (K := K) rfl) (pv 1) pe_int (fun _ _ => rfl)) (nomark _))))) (pss_one (ps_ret (pe_tup (pa_cons pe_str (pa_cons (pv 0) (pa_cons pe_non pa_nil)))))) pss_nil))) pss_nil) (pss_cons (ps_set (i := 6) sc__law_corrected.nd rfl (Or.inl rfl) (pe_ix (kIxT (K := K) rfl) (pe_ix (kIxT (K := K) rfl) (pv 3) (pv 4) (fun _ _ => rfl)) pe_int (fun _ _ => rfl))) (pss_cons (ps_set (i := 7) sc__law_corrected.nd rfl (Or.inl rfl) (pe_tup (pa_cons pe_str (pa_cons (pe_ix (kIxT (K := K) rfl) (pv 1) pe_int (fun _ _ => rfl)) (pa_cons (pe_ix (kIxT (K := K) rfl) (pv 2) pe_int (fun _ _ => rfl)) (pa_cons (pe_callB (kLen (K := K) rfl) (by rfl) T.f_len (by decide +kernel) (pa_cons (pv 6) pa_nil)) (pa_cons (pe_ix (kIxT (K := K) rfl) (pe_ix (kIxT (K := K) rfl) (pv 3) (pv 4) (fun _ _ => rfl)) pe_int (fun _ _ => rfl)) (pa_cons (pv 5) pa_nil)))))))) (pss_cons (ps_set (i := 3) sc__law_corrected.nd rfl (Or.inl rfl) (pe_op (kCatT (K := K) rfl) (pe_op (kCatT (K := K) rfl) (pe_slice (kSlT (K := K) rfl) (pv 3) po_none (po_some (pv 4))) (pe_tup (pa_cons (pe_tup (pa_cons (pe_ix (kIxT (K := K) rfl) (pe_ix (kIxT (K := K) rfl) (pv 3) (pv 4) (fun _ _ => rfl)) pe_int (fun _ _ => rfl)) (pa_cons (pe_op (kCatT (K := K) rfl) (pv 6) (pe_tup (pa_cons (pv 5) pa_nil))) pa_nil))) pa_nil))) (pe_slice (kSlT (K := K) rfl) (pv 3) (po_some (pe_op op_add (pv 4) pe_int)) po_none))) (pss_one (ps_ret (pe_tup (pa_cons pe_str (pa_cons (pe_tup (pa_cons (pv 3) (pa_cons (pe_ix (kIxT (K := K) rfl) (pv 0) pe_int (fun _ _ => rfl)) (pa_cons (pe_ix (kIxT (K := K) rfl) (pv 0) pe_int (fun _ _ => rfl)) (pa_cons (pe_ok o__law_with hr (by decide) (by rfl) (pa_cons (pe_ix (kIxT (K := K) rfl) (pv 0) pe_int (fun _ _ => rfl)) (pa_cons (pv 7) pa_nil))) pa_nil))))) (pa_cons pe_non pa_nil))))))))))))))), fun g es r => ?_⟩), (F.bindsN fun _ _ _ _ _ _ us hl => match us, hl with | [_, _, _], _ => rfl)⟩, T.g__law_corrected, F.kp⟩
  obtain ⟨m, off, ⟨ss, cn, cs, due⟩, dd⟩ := g
  obtain ⟨r', so, sm, hd⟩ := r
  simp only at hd so sm
  have z1 := sm.ss
  have z2 := sm.due
  dsimp only at z1 z2
  have key : ∀ (s : Int) (kd : Str) (rest : List Dt) (x : Option Int), (∀ bad : Bool, True) → True := fun _ _ _ _ _ => trivial
  rcases hd with ⟨s, v, ed⟩ | ⟨s, ed⟩
  · subst ed
    have r' : es = [.dat (.tuple [.tuple (ss.map slotD), .int (cn : Int), optD cs, .tuple (due.map (Let.d m.name))]), .dat m.d, .dat (.tuple [.str "correct", .int s, .int v])] := r'
    subst r'
    walk_at "k28 s"
    refine s_if (t_is (decide (s < 1 ∨ (ss.length : Int) < s)) ?_ ?_)
    · walk_at "k28"
      by_cases c : s - 1 < 0
      · rw [if_pos (by simpa using c)]
        simp
        omega
      · rw [if_neg (by simpa using c)]
        walk_at "k28"
        rw [List.length_map]
        exact decide_eq_decide.mpr (by omega)
    by_cases c : s < 1 ∨ (ss.length : Int) < s
    · rw [decide_eq_true c, if_pos rfl]
      walk_at "k28"
      apply Exists.intro
      simp only [aft]
      rw [if_pos c]
    · rw [decide_eq_false c, if_neg (by simp)]
      walk_at "k28"
      by_cases c2 : s ≤ cn
      · rw [if_pos (by simpa using c2)]
        walk_at "k28"
        apply Exists.intro
        simp only [aft]
        rw [if_neg c, if_pos c2]
      · rw [if_neg (by simpa using c2)]
        obtain ⟨i, hi⟩ : ∃ i : Nat, s - 1 = i := ⟨(s - 1).toNat, by omega⟩
        have il : i < ss.length := by omega
        obtain ⟨sl, hs⟩ : ∃ sl, ss[i]? = some sl := ⟨ss[i], List.getElem?_eq_getElem il⟩
        have hsd : (ss.map slotD)[i]? = some (slotD sl) := by rw [List.getElem?_map, hs]; rfl
        have at1 : atI (ss.map slotD) (s - 1) = some (slotD sl) := atI_of hi hsd
        walk_at "k28"
        rw [if_pos (by decide)]
        walk_at "k28 s"
        refine s_if (t_is (decide (v < m.lo ∨ m.hi < v)) ?_ ?_)
        · walk_at "k28"
          by_cases c3 : v < m.lo
          · rw [if_pos (by simpa using c3)]
            simp [c3]
          · rw [if_neg (by simpa using c3)]
            walk_at "k28"
            exact decide_eq_decide.mpr (by omega)
        by_cases c3 : v < m.lo ∨ m.hi < v
        · rw [decide_eq_true c3, if_pos rfl]
          walk_at "k28"
          apply Exists.intro
          simp only [aft]
          rw [if_neg c, if_neg c2, if_pos c3]
        rw [decide_eq_false c3, if_neg (by simp)]
        walk_at "k28"
        refine ⟨_, _, slotD sl, rfl, rfl, at1, ?_⟩
        walk_at "k28"
        refine ⟨_, _, slotD sl, rfl, rfl, at1, ?_⟩
        walk_at "k28"
        refine ⟨_, _, slotD sl, rfl, rfl, at1, ?_⟩
        walk_at "k28"
        have sv := sm.vs sl (List.mem_of_getElem? hs)
        refine ⟨by rw [List.length_map, sizeLine_eq]; simp; omega, ?_⟩
        have ct : cutD (ss.map slotD) none (some (s - 1)) = (ss.map slotD).take i := by
          rw [hi]
          exact cut_to_nat _ (by rw [List.length_map]; omega)
        have cf : cutD (ss.map slotD) (some (s - 1 + 1)) none = (ss.map slotD).drop (i + 1) := by
          rw [hi]
          exact cut_from_nat _ (i + 1)
        walk_at "k28"
        rw [ct]
        refine ⟨by rw [List.length_take, List.length_map, sizeLine_eq]; simp; omega, ?_⟩
        walk_at "k28"
        rw [cf]
        refine ⟨by rw [List.length_append, List.length_take, List.length_drop, List.length_map, sizeLine_eq]; simp; omega, ?_⟩
        walk_at "k28"
        refine ⟨⟨m.name, due, .read s.toNat sl.2.length sl.1 (some v)⟩, ⟨by simp only [Let.d]; rw [show ((s.toNat : Nat) : Int) = s from by omega, List.length_map], so, z2⟩, ?_⟩
        rintro e' rfl
        have nv : newVer ⟨ss, cn, cs, due⟩ s (some v) = ⟨ss.set i (sl.1, sl.2 ++ [some v]), cn, cs, addDue due (.read s.toNat sl.2.length sl.1 (some v))⟩ := by
          have ei : (s - 1).toNat = i := by omega
          unfold newVer putVer
          simp only [ei, hs]
        have sp : (ss.set i (sl.1, sl.2 ++ [some v])).map slotD = (ss.map slotD).take i ++ [.tuple [.int sl.1, .tuple (sl.2.map optD ++ [.int v])]] ++ (ss.map slotD).drop (i + 1) := by
          rw [List.set_eq_take_append_cons_drop, if_pos il, List.map_append, List.map_cons, List.map_take, List.map_drop, List.append_assoc]
          simp only [slotD, List.map_append, List.map_cons, List.map_nil, List.singleton_append]
        walk_at "k28"
        apply Exists.intro
        simp only [aft]
        rw [if_neg c, if_neg c2, if_neg c3, nv]
        simp only [Sta.d]
        rw [sp]
  · subst ed
    have r' : es = [.dat (.tuple [.tuple (ss.map slotD), .int (cn : Int), optD cs, .tuple (due.map (Let.d m.name))]), .dat m.d, .dat (.tuple [.str "take_back", .int s])] := r'
    subst r'
    walk_at "k28 s"
    refine s_if (t_is (decide (s < 1 ∨ (ss.length : Int) < s)) ?_ ?_)
    · walk_at "k28"
      by_cases c : s - 1 < 0
      · rw [if_pos (by simpa using c)]
        simp
        omega
      · rw [if_neg (by simpa using c)]
        walk_at "k28"
        rw [List.length_map]
        exact decide_eq_decide.mpr (by omega)
    by_cases c : s < 1 ∨ (ss.length : Int) < s
    · rw [decide_eq_true c, if_pos rfl]
      walk_at "k28"
      apply Exists.intro
      simp only [aft]
      rw [if_pos c]
    · rw [decide_eq_false c, if_neg (by simp)]
      walk_at "k28"
      by_cases c2 : s ≤ cn
      · rw [if_pos (by simpa using c2)]
        walk_at "k28"
        apply Exists.intro
        simp only [aft]
        rw [if_neg c, if_pos c2]
      · rw [if_neg (by simpa using c2)]
        obtain ⟨i, hi⟩ : ∃ i : Nat, s - 1 = i := ⟨(s - 1).toNat, by omega⟩
        have il : i < ss.length := by omega
        obtain ⟨sl, hs⟩ : ∃ sl, ss[i]? = some sl := ⟨ss[i], List.getElem?_eq_getElem il⟩
        have hsd : (ss.map slotD)[i]? = some (slotD sl) := by rw [List.getElem?_map, hs]; rfl
        have at1 : atI (ss.map slotD) (s - 1) = some (slotD sl) := atI_of hi hsd
        walk_at "k28"
        rw [if_neg (by decide)]
        walk_at "k28"
        refine ⟨_, _, slotD sl, rfl, rfl, at1, ?_⟩
        walk_at "k28"
        refine ⟨_, _, slotD sl, rfl, rfl, at1, ?_⟩
        walk_at "k28"
        refine ⟨_, _, slotD sl, rfl, rfl, at1, ?_⟩
        walk_at "k28"
        have sv := sm.vs sl (List.mem_of_getElem? hs)
        refine ⟨by rw [List.length_map, sizeLine_eq]; simp; omega, ?_⟩
        have ct : cutD (ss.map slotD) none (some (s - 1)) = (ss.map slotD).take i := by
          rw [hi]
          exact cut_to_nat _ (by rw [List.length_map]; omega)
        have cf : cutD (ss.map slotD) (some (s - 1 + 1)) none = (ss.map slotD).drop (i + 1) := by
          rw [hi]
          exact cut_from_nat _ (i + 1)
        walk_at "k28"
        rw [ct]
        refine ⟨by rw [List.length_take, List.length_map, sizeLine_eq]; simp; omega, ?_⟩
        walk_at "k28"
        rw [cf]
        refine ⟨by rw [List.length_append, List.length_take, List.length_drop, List.length_map, sizeLine_eq]; simp; omega, ?_⟩
        walk_at "k28"
        refine ⟨⟨m.name, due, .read s.toNat sl.2.length sl.1 (none)⟩, ⟨by simp only [Let.d]; rw [show ((s.toNat : Nat) : Int) = s from by omega, List.length_map], so, z2⟩, ?_⟩
        rintro e' rfl
        have nv : newVer ⟨ss, cn, cs, due⟩ s (none) = ⟨ss.set i (sl.1, sl.2 ++ [none]), cn, cs, addDue due (.read s.toNat sl.2.length sl.1 (none))⟩ := by
          have ei : (s - 1).toNat = i := by omega
          unfold newVer putVer
          simp only [ei, hs]
        have sp : (ss.set i (sl.1, sl.2 ++ [none])).map slotD = (ss.map slotD).take i ++ [.tuple [.int sl.1, .tuple (sl.2.map optD ++ [.none])]] ++ (ss.map slotD).drop (i + 1) := by
          rw [List.set_eq_take_append_cons_drop, if_pos il, List.map_append, List.map_cons, List.map_take, List.map_drop, List.append_assoc]
          simp only [slotD, List.map_append, List.map_cons, List.map_nil, List.singleton_append]
        walk_at "k28"
        apply Exists.intro
        simp only [aft]
        rw [if_neg c, if_neg c2, nv]
        simp only [Sta.d]
        rw [sp]
end
end TW
/-! K28P15 -/
namespace TW
open PySem PySem.Spec PyProof.Rows L2
local macro_rules | `(tactic| walk_at "k28 d") => `(tactic| first
  | refine w_var rfl ?_ | with_reducible refine w_int ?_ | with_reducible refine w_str ?_ | with_reducible refine w_non ?_ | with_reducible refine w_bl ?_
  | with_reducible refine w_ixT ?_ | with_reducible refine w_ixL ?_ | with_reducible refine w_add ?_ | with_reducible refine w_sub ?_ | with_reducible refine w_eq ?_ | with_reducible refine w_ne ?_ | with_reducible refine w_lt ?_
  | with_reducible refine w_leq ?_ | with_reducible refine w_gt ?_ | with_reducible refine w_ge ?_ | with_reducible refine w_mul ?_ | with_reducible refine w_div ?_ | with_reducible refine w_mod ?_ | with_reducible refine w_pow ?_
  | with_reducible refine w_neg ?_ | with_reducible refine w_isN ?_ | with_reducible refine w_notN ?_ | with_reducible refine a_nil ?_ | with_reducible refine a_cons ?_ | with_reducible refine w_tup ?_ | with_reducible refine w_lst ?_
  | with_reducible refine w_call0 ?_ | with_reducible refine w_len ?_ | with_reducible refine w_sumM ?_ | with_reducible refine w_allM ?_ | with_reducible refine w_tuple ?_ | with_reducible refine w_abs ?_ | with_reducible refine w_toInt ?_ | with_reducible refine w_max2 ?_
  | with_reducible refine w_min2 ?_ | with_reducible refine t_test ?_ | with_reducible refine t_B ?_ | with_reducible refine t_and ?_ | with_reducible refine t_or ?_ | with_reducible refine t_not ?_ | with_reducible refine t_yes ?_
  | with_reducible refine w_andV ?_ | with_reducible refine w_orV ?_ | with_reducible refine w_notV ?_ | with_reducible refine w_if ?_ | with_reducible refine w_chain ?_ | with_reducible refine o_none ?_ | with_reducible refine o_some ?_
  | with_reducible refine w_slT ?_ | with_reducible refine w_slL ?_ | with_reducible refine w_catT ?_ | with_reducible refine w_catL ?_ | with_reducible refine w_dget ?_ | with_reducible refine w_din ?_ | with_reducible refine w_dnotin ?_ | with_reducible refine w_sortD ?_ | with_reducible refine w_sortI ?_ | with_reducible refine w_callq ?_ | with_reducible refine w_isB ?_
  | with_reducible refine w_notB ?_ | with_reducible refine g_name ?_ | refine gs_nil rfl ?_ | refine gs_cons rfl ?_ | with_reducible refine s_next ?_ | with_reducible refine s_seq ?_ | with_reducible refine s_asg ?_
  | with_reducible refine s_drop ?_ | with_reducible refine s_ret ?_ | with_reducible refine s_brk ?_ | with_reducible refine s_if ?_)
local macro_rules | `(tactic| walk_at "k28 x") => `(tactic| first
  | refine g_tup ⟨_, rfl, rfl, ?_⟩ | refine ⟨_, _, _, _, rfl, rfl, rfl, rfl, rfl, ?_⟩ | refine ⟨_, _, _, rfl, rfl, rfl, ?_⟩ | refine ⟨_, _, _, rfl, rfl, atI_nat (j := 0) rfl, ?_⟩ | refine ⟨_, _, _, rfl, ?_⟩ | refine ⟨_, _, rfl, rfl, by decide, ?_⟩ | refine ⟨_, _, rfl, rfl, ⟨by decide, by decide⟩, ?_⟩ | refine ⟨_, _, rfl, rfl, ⟨by decide, by decide, by decide⟩, ?_⟩ | refine ⟨_, _, rfl, rfl, .inl ⟨by decide, by decide⟩, ?_⟩ | refine ⟨_, _, rfl, rfl, .inr ⟨by decide, by decide⟩, ?_⟩ | refine ⟨_, _, rfl, rfl, ?_⟩ | refine ⟨_, _, rfl, ?_⟩ | refine ⟨_, (show undats _ = some _ from rfl), by simp, ?_⟩ | refine ⟨_, rfl, ?_⟩ | refine ⟨_, .inl rfl, ?_⟩ | refine ⟨_, .inr rfl, ?_⟩ | refine ⟨_, _, rfl, rfl, ?_, ?_⟩)
local macro_rules | `(tactic| walk_at "k28 t") => `(tactic| first | rw [if_pos (by decide)] | rw [if_neg (by decide)] | rw [if_pos (by simp)] | rw [if_neg (by simp)])
local macro_rules | `(tactic| walk_at "k28") => `(tactic| repeat (first | walk_at "k28 d" | walk_at "k28 x" | exact rfl))
local macro_rules | `(tactic| walk_at "k28 s") => `(tactic| repeat (first | (fail_if_success with_reducible refine s_if ?_); (first | walk_at "k28 d" | walk_at "k28 x" | exact rfl)))
local macro_rules | `(tactic| walk_at "k28 o") => `(tactic| first
  | with_reducible refine w_dnotinO ?_ | with_reducible refine w_dgetO ?_ | with_reducible refine w_dget2O ?_ | with_reducible refine w_lenO ?_ | with_reducible refine w_tupleO ?_ | with_reducible refine w_notInO ?_ | with_reducible refine w_ixO ?_ | with_reducible refine w_fld ?_
  | refine ⟨_, _, _, rfl, rfl, .of (.head _), ?_⟩ | refine ⟨_, _, _, rfl, rfl, .of (.tail _ (.head _)), ?_⟩ | refine ⟨_, _, rfl, .of (.head _), ?_⟩ | refine ⟨_, _, rfl, .of (.tail _ (.head _)), ?_⟩)
local macro_rules | `(tactic| walk_at "k28 w") => `(tactic| first | with_reducible refine m_next ?_ | with_reducible refine m_seq ?_ | with_reducible refine m_asg (x_dnew fun p => ?_) | with_reducible refine m_asg (x_dnewT fun p => ?_) | with_reducible refine m_asg (x_lst ?_) | with_reducible refine m_asgP ?_ | with_reducible refine m_if ?_ | with_reducible refine m_retP ?_)
local macro_rules | `(tactic| walk_at "k28 m") => `(tactic| repeat (first | walk_at "k28 w" | walk_at "k28 o" | walk_at "k28 d" | walk_at "k28 x" | exact rfl))
local macro_rules | `(tactic| walk_at "k28 g") => `(tactic| repeat (first | with_reducible refine w_take ?_ | with_reducible refine w_word ?_ | with_reducible refine w_calld ?_ | with_reducible refine w_callgq ?_ | with_reducible refine w_addS ?_ | with_reducible refine w_ixS ?_ | with_reducible refine w_catL ?_ | walk_at "k28 w" | walk_at "k28 d" | refine ⟨_, _, rfl, .head _, (by first | decide | omega | simp | (simp only [List.length_map]; omega)), fun (r : Int) (r1 : 0 ≤ r) (r2 : r < _) => ?_⟩ | refine ⟨_, rfl, fun (s : Str) (sw : Wdn 60 s) => ?_⟩ | walk_at "k28 x" | exact rfl))
local macro_rules | `(tactic| walk_at "k28 f") => `(tactic| first
  | refine wf (Txt.c_Source (by assumption)) (Txt.n_meter (by assumption)) rfl lk_meter ?_ | refine wf (Txt.c_Source (by assumption)) (Txt.n_offset (by assumption)) rfl lk_offset ?_ | refine wf (Txt.c_Source (by assumption)) (Txt.n_slots (by assumption)) rfl lk_slots ?_ | refine wf (Txt.c_Source (by assumption)) (Txt.n_closed_number (by assumption)) rfl lk_closed_number ?_ | refine wf (Txt.c_Source (by assumption)) (Txt.n_closed_stamp (by assumption)) rfl lk_closed_stamp ?_ | refine wf (Txt.c_Source (by assumption)) (Txt.n_due (by assumption)) rfl lk_due ?_)
local macro_rules | `(tactic| walk_at "k28 n") => `(tactic| repeat (first | walk_at "k28 w" | walk_at "k28 f" | walk_at "k28 d" | walk_at "k28 x" | exact rfl))
local macro_rules | `(tactic| walk_at "k28 p") => `(tactic| first
  | with_reducible refine w_lenO ?_ | with_reducible refine w_tupleO ?_ | with_reducible refine w_ixO ?_
  | refine ⟨_, _, rfl, .of (.tail _ (.head _)), ?_⟩ | refine ⟨_, _, rfl, .of (.tail _ (.tail _ (.head _))), ?_⟩)
local macro_rules | `(tactic| walk_at "k28 q") => `(tactic| repeat (first | walk_at "k28 w" | walk_at "k28 f" | walk_at "k28 p" | walk_at "k28 d" | walk_at "k28 x" | exact rfl))
section
variable {P : Program} {w : World} {K : PySem.W.Frag} {mg : Str → Option Value} {base : Heap}
theorem sc__law_after : FnScope ["_law_model", "_law_meter", "_law_offset_here", "_law_deed_here", "_law_closed", "_law_letter", "_law_slot"] ["_law_model", "_law_meter", "_law_offset_here", "_law_deed_here"] (defScope s__law_after) := ⟨rfl, rfl, rfl, by decide +kernel, rfl, by decide +kernel, by decide +kernel⟩
def AAf (g : GAf) (es : List En1) : Prop := es = [.dat (g.z.d g.m.name), .dat g.m.d, .dat (.int g.off), .dat (g.dd.d g.m.name)] ∧ PyData.strOk g.m.name = true ∧ SmSta g.z
theorem ok__law_after (T : Txt K mg) : Ok P w K mg base CX0 3 "_law_after" (He.ga K "_law_after") ["_law_model", "_law_meter", "_law_offset_here", "_law_deed_here"] (psq AAf SAf) := by
  obtain ⟨fd, F⟩ := T.F__law_after
  have o__law_with := ok__law_with (P := P) (w := w) (base := base) T
  have o__law_recorded := ok__law_recorded (P := P) (w := w) (base := base) T
  have o__law_corrected := ok__law_corrected (P := P) (w := w) (base := base) T
  refine ⟨⟨fd, ok_pureq F sc__law_after (fun g es h => by rw [h.1]; rfl) (fun cdv A outer s H E hr => ⟨_, (pss_cons (ps_if (pt_cmpR op_eq (pe_ix (kIxT (K := K) rfl) (pv 3) pe_int (fun _ _ => rfl)) pe_str (nomark _)) (pss_one (ps_ret (pe_ok o__law_recorded hr (by decide) (by rfl) (pa_cons (pv 0) (pa_cons (pv 1) (pa_cons (pv 3) pa_nil)))))) pss_nil) (pss_cons (ps_if (PW.pt (pw_or (pt_cmpR op_eq (pe_ix (kIxT (K := K) rfl) (pv 3) pe_int (fun _ _ => rfl)) pe_str (nomark _)) (pw_or1 (pt_cmpR op_eq (pe_ix (kIxT (K := K) rfl) (pv 3) pe_int (fun _ _ => rfl)) pe_str (nomark _))))) (pss_one (ps_ret (pe_ok o__law_corrected hr (by decide) (by rfl) (pa_cons (pv 0) (pa_cons (pv 1) (pa_cons (pv 3) pa_nil)))))) pss_nil) (pss_cons (ps_if (pt_cmpR op_eq (pe_ix (kIxT (K := K) rfl) (pv 3) pe_int (fun _ _ => rfl)) pe_str (nomark _)) (pss_cons (ps_if (PW.pt (pw_and (pt_cmpR op_notN (pe_ix (kIxT (K := K) rfl) (pv 0) pe_int (fun _ _ => rfl)) pe_non (nomark _)) (pw_and1 (pt_cmpR op_lt (pe_ix (kIxT (K := K) rfl) (pv 3) pe_int (fun _ _ => rfl)) (pe_ix (kIxT (K := K) rfl) (pv 0) pe_int (fun _ _ => rfl)) (nomark _))))) (pss_one (ps_ret (pe_tup (pa_cons pe_str (pa_cons (pv 0) (pa_cons pe_non pa_nil)))))) pss_nil) (pss_cons (ps_setLc (i := 4) (own := [("_law_slot", 6)]) (by rfl) sc__law_after.nd rfl rfl (sw_true rfl rfl rfl (by decide +kernel)) (kiTup (K := K) rfl (pe_ix (kIxT (K := K) rfl) (pv 0) pe_int (fun _ _ => rfl))) (blkOk_by (own := [("_law_slot", 6)]) (N := ["_law_model", "_law_meter", "_law_offset_here", "_law_deed_here", "_law_closed", "_law_letter", "_law_slot"]) (sc := defScope s__law_after) (by decide +kernel)) (fun _ _ _ _ _ => (pg_name (i := 6) sc__law_after.nd rfl (Or.inl rfl))) (fun _ _ _ _ _ => (pts_one (pt_cmpR op_lt (pe_ix (kIxT (K := K) rfl) (pv 6) pe_int (fun _ _ => rfl)) (pe_ix (kIxT (K := K) rfl) (pv 3) pe_int (fun _ _ => rfl)) (nomark _)))) (fun _ _ _ _ _ => (pv 6))) (pss_cons (ps_set (i := 5) sc__law_after.nd rfl (Or.inl rfl) (pe_tup (pa_cons pe_str (pa_cons (pe_ix (kIxT (K := K) rfl) (pv 1) pe_int (fun _ _ => rfl)) (pa_cons (pe_callB (kLen (K := K) rfl) (by rfl) T.f_len (by decide +kernel) (pa_cons (pv 4) pa_nil)) (pa_cons (pe_ix (kIxT (K := K) rfl) (pv 3) pe_int (fun _ _ => rfl)) (pa_cons (pe_callB (kSum (K := K) rfl rfl) (by rfl) T.f_sum (by decide +kernel) (pa_cons (pe_lc (own := [("_law_slot", 6)]) (by rfl) sc__law_after.nd (kiList (K := K) rfl (pv 4)) (blkOk_by (own := [("_law_slot", 6)]) (N := ["_law_model", "_law_meter", "_law_offset_here", "_law_deed_here", "_law_closed", "_law_letter", "_law_slot"]) (sc := defScope s__law_after) (by decide +kernel)) (fun _ _ _ _ _ => (pg_name (i := 6) sc__law_after.nd rfl (Or.inl rfl))) (fun _ _ _ _ _ => pts_nil) (fun _ _ _ _ _ => (pe_callB (kLen (K := K) rfl) (by rfl) T.f_len (by decide +kernel) (pa_cons (pe_ix (kIxT (K := K) rfl) (pv 6) pe_int (fun _ _ => rfl)) pa_nil)))) pa_nil)) pa_nil))))))) (pss_one (ps_ret (pe_tup (pa_cons pe_str (pa_cons (pe_tup (pa_cons (pe_ix (kIxT (K := K) rfl) (pv 0) pe_int (fun _ _ => rfl)) (pa_cons (pe_callB (kLen (K := K) rfl) (by rfl) T.f_len (by decide +kernel) (pa_cons (pv 4) pa_nil)) (pa_cons (pe_ix (kIxT (K := K) rfl) (pv 3) pe_int (fun _ _ => rfl)) (pa_cons (pe_ok o__law_with hr (by decide) (by rfl) (pa_cons (pe_ix (kIxT (K := K) rfl) (pv 0) pe_int (fun _ _ => rfl)) (pa_cons (pv 5) pa_nil))) pa_nil))))) (pa_cons pe_non pa_nil))))))))) pss_nil) (pss_cons (ps_if (pt_cmpR op_eq (pe_ix (kIxT (K := K) rfl) (pv 3) pe_int (fun _ _ => rfl)) pe_str (nomark _)) (pss_cons (ps_if (PW.pt (pw_or (pt_cmpR op_lt (pv 2) (pe_ix (kIxT (K := K) rfl) (pv 3) pe_int (fun _ _ => rfl)) (nomark _)) (pw_or1 (pt_cmpR op_gt (pv 2) (pe_ix (kIxT (K := K) rfl) (pv 3) pe_int (fun _ _ => rfl)) (nomark _))))) (pss_one (ps_ret (pe_tup (pa_cons pe_str (pa_cons (pv 0) (pa_cons pe_non pa_nil)))))) pss_nil) (pss_one (ps_ret (pe_tup (pa_cons pe_str (pa_cons (pe_op (kCatT (K := K) rfl) (pe_slice (kSlT (K := K) rfl) (pv 0) po_none (po_some pe_int)) (pe_tup (pa_cons (pe_ok o__law_with hr (by decide) (by rfl) (pa_cons (pe_ix (kIxT (K := K) rfl) (pv 0) pe_int (fun _ _ => rfl)) (pa_cons (pe_tup (pa_cons pe_str (pa_cons (pe_ix (kIxT (K := K) rfl) (pv 1) pe_int (fun _ _ => rfl)) (pa_cons (pe_ix (kIxT (K := K) rfl) (pv 3) pe_int (fun _ _ => rfl)) (pa_cons (pe_ix (kIxT (K := K) rfl) (pv 3) pe_int (fun _ _ => rfl)) pa_nil))))) pa_nil))) pa_nil))) (pa_cons pe_non pa_nil))))))) pss_nil) (pss_one (ps_ret (pe_tup (pa_cons pe_str (pa_cons (pe_op (kCatT (K := K) rfl) (pe_slice (kSlT (K := K) rfl) (pv 0) po_none (po_some pe_int)) (pe_tup (pa_cons (pe_callTy (kTuple (K := K) rfl) (by rfl) T.f_tuple (by decide +kernel) (pa_cons (pe_lc (own := [("_law_letter", 5)]) (by rfl) sc__law_after.nd (kiTup (K := K) rfl (pe_ix (kIxT (K := K) rfl) (pv 0) pe_int (fun _ _ => rfl))) (blkOk_by (own := [("_law_letter", 5)]) (N := ["_law_model", "_law_meter", "_law_offset_here", "_law_deed_here", "_law_closed", "_law_letter", "_law_slot"]) (sc := defScope s__law_after) (by decide +kernel)) (fun _ _ _ _ _ => (pg_name (i := 5) sc__law_after.nd rfl (Or.inl rfl))) (fun _ _ _ _ _ => (pts_one (pt_cmpR (kNeD (K := K) rfl hr.units) (pv 5) (pe_ix (kIxT (K := K) rfl) (pv 3) pe_int (fun _ _ => rfl)) (nomark _)))) (fun _ _ _ _ _ => (pv 5))) pa_nil)) pa_nil))) (pa_cons pe_non pa_nil)))))))))), fun g es r => ?_⟩), (F.bindsN fun _ _ _ _ _ _ us hl => match us, hl with | [_, _, _, _], _ => rfl)⟩, T.g__law_after, F.kp⟩
  obtain ⟨m, off, ⟨ss, cn, cs, due⟩, dd⟩ := g
  obtain ⟨r', so, sm⟩ := r
  simp only at so sm
  have z1 := sm.ss
  have z2 := sm.due
  dsimp only at z1 z2
  have r' : es = [.dat (.tuple [.tuple (ss.map slotD), .int (cn : Int), optD cs, .tuple (due.map (Let.d m.name))]), .dat m.d, .dat (.int off), .dat (dd.d m.name)] := r'
  subst r'
  have cut3 : ∀ a b c d : Dt, cutD [a, b, c, d] none (some 3) = [a, b, c] := fun a b c d => cut_to_nat (n := 3) [a, b, c, d] (by simp)
  cases dd with
  | record st v =>
    walk_at "k28"
    rw [if_pos (by decide)]
    walk_at "k28"
    refine ⟨⟨m, off, ⟨ss, cn, cs, due⟩, .record st v⟩, ⟨rfl, so, sm, st, v, rfl⟩, ?_⟩
    rintro e h
    exact h
  | correct s v =>
    walk_at "k28"
    rw [if_neg (by decide)]
    walk_at "k28"
    rw [if_pos (by decide)]
    walk_at "k28"
    rw [if_pos rfl]
    walk_at "k28"
    refine ⟨⟨m, off, ⟨ss, cn, cs, due⟩, .correct s v⟩, ⟨rfl, so, sm, .inl ⟨s, v, rfl⟩⟩, ?_⟩
    rintro e h
    exact h
  | back s =>
    walk_at "k28"
    rw [if_neg (by decide)]
    walk_at "k28"
    rw [if_neg (by decide)]
    walk_at "k28"
    rw [if_pos (by decide)]
    walk_at "k28"
    refine ⟨⟨m, off, ⟨ss, cn, cs, due⟩, .back s⟩, ⟨rfl, so, sm, .inr ⟨s, rfl⟩⟩, ?_⟩
    rintro e h
    exact h
  | close st =>
    walk_at "k28"
    rw [if_neg (by decide)]
    walk_at "k28"
    rw [if_neg (by decide)]
    walk_at "k28"
    rw [if_neg (by decide)]
    walk_at "k28"
    rw [if_pos (by decide)]
    walk_at "k28 s"
    refine s_if (t_is (lateFor ⟨ss, cn, cs, due⟩ st) ?_ ?_)
    · cases cs with
      | none => walk_at "k28"
      | some c => walk_at "k28"; rw [if_pos (by simp [isN])]; walk_at "k28"
    by_cases c : lateFor ⟨ss, cn, cs, due⟩ st = true
    · rw [c, if_pos rfl]
      walk_at "k28"
      apply Exists.intro
      simp only [aft]
      rw [if_pos c]
    · rw [if_neg c]
      walk_at "k28"
      refine w_lcT (F := slotD) ?_
      walk_at "k28"
      refine ⟨by omega, fun s => decide (s.1 < st), slotD, fun s _ => ?_, fun s _ _ => ?_, ?_⟩
      · walk_at "k28"
      · walk_at "k28"
      walk_at "k28"
      refine w_lcL0 (F := slotD) ?_
      walk_at "k28"
      have fl : (ss.filter fun s => decide (s.1 < st)).length ≤ 1000 := Nat.le_trans (List.length_filter_le _ _) z1
      refine ⟨by omega, fun s => .int s.2.length, fun s _ => ?_, ?_⟩
      · walk_at "k28"
        rw [List.length_map]
      walk_at "k28"
      have sc : ((ss.filter fun s => decide (s.1 < st)).map fun a => ((a.2.length : Nat) : Int)).sum = ((((ss.filter fun s => decide (s.1 < st)).map fun s => s.2.length).sum : Nat) : Int) := by
        generalize (ss.filter fun s => decide (s.1 < st)) = l
        induction l with
        | nil => rfl
        | cons a r ih => simp only [List.map_cons, List.sum_cons, ih]; omega
      rw [sc]
      refine ⟨⟨m.name, due, .close (closedOf ⟨ss, cn, cs, due⟩ st).length st ((closedOf ⟨ss, cn, cs, due⟩ st).map fun s => s.2.length).sum⟩, ⟨by rw [List.length_map]; rfl, so, z2⟩, ?_⟩
      rintro e' rfl
      walk_at "k28"
      apply Exists.intro
      simp only [aft]
      rw [if_neg c]
      simp only [Sta.d, optD]
      rw [List.length_map]
      rfl
  | check lo hi =>
    walk_at "k28"
    rw [if_neg (by decide)]
    walk_at "k28"
    rw [if_neg (by decide)]
    walk_at "k28"
    rw [if_neg (by decide)]
    walk_at "k28"
    rw [if_neg (by decide)]
    walk_at "k28"
    rw [if_pos (by decide)]
    walk_at "k28 s"
    refine s_if (t_is (decide (off < lo ∨ hi < off)) ?_ ?_)
    · walk_at "k28"
      by_cases c3 : off < lo
      · rw [if_pos (by simpa using c3)]
        simp [c3]
      · rw [if_neg (by simpa using c3)]
        walk_at "k28"
        exact decide_eq_decide.mpr (by omega)
    by_cases c : off < lo ∨ hi < off
    · rw [decide_eq_true c, if_pos rfl]
      walk_at "k28"
      apply Exists.intro
      simp only [aft]
      rw [if_pos c]
    · rw [decide_eq_false c, if_neg (by simp)]
      walk_at "k28"
      refine ⟨⟨m.name, due, .clock lo hi⟩, ⟨rfl, so, z2⟩, ?_⟩
      rintro e' rfl
      walk_at "k28"
      rw [cut3]
      refine ⟨by rw [sizeLine_eq]; simp, ?_⟩
      walk_at "k28"
      apply Exists.intro
      simp only [aft]
      rw [if_neg c]
      simp only [Sta.d]
      rfl
  | ack l =>
    walk_at "k28"
    rw [if_neg (by decide)]
    walk_at "k28"
    rw [if_neg (by decide)]
    walk_at "k28"
    rw [if_neg (by decide)]
    walk_at "k28"
    rw [if_neg (by decide)]
    walk_at "k28"
    rw [if_neg (by decide)]
    walk_at "k28"
    refine w_lcT (F := Let.d m.name) ?_
    walk_at "k28"
    refine ⟨by omega, fun o => decide (o ≠ l), Let.d m.name, fun o _ => ?_, fun o _ _ => ?_, ?_⟩
    · refine t_test (w_neD ?_)
      walk_at "k28"
      refine ⟨_, _, ⟨.inl rfl, .inl rfl⟩, shaped_let so o, shaped_let so l, ?_⟩
      rw [eqv_let]
      walk_at "k28"
      by_cases c : o = l <;> simp [c]
    · walk_at "k28"
    walk_at "k28"
    rw [cut3]
    refine ⟨by rw [sizeLine_eq]; simp, ?_⟩
    walk_at "k28"
    apply Exists.intro
    simp only [aft, Sta.d]
    rfl
end
end TW
/-! K28P16 -/
namespace TW
open PySem PySem.Spec PyProof.Rows L2
local macro_rules | `(tactic| walk_at "k28 d") => `(tactic| first
  | refine w_var rfl ?_ | with_reducible refine w_int ?_ | with_reducible refine w_str ?_ | with_reducible refine w_non ?_ | with_reducible refine w_bl ?_
  | with_reducible refine w_ixT ?_ | with_reducible refine w_ixL ?_ | with_reducible refine w_add ?_ | with_reducible refine w_sub ?_ | with_reducible refine w_eq ?_ | with_reducible refine w_ne ?_ | with_reducible refine w_lt ?_
  | with_reducible refine w_leq ?_ | with_reducible refine w_gt ?_ | with_reducible refine w_ge ?_ | with_reducible refine w_mul ?_ | with_reducible refine w_div ?_ | with_reducible refine w_mod ?_ | with_reducible refine w_pow ?_
  | with_reducible refine w_neg ?_ | with_reducible refine w_isN ?_ | with_reducible refine w_notN ?_ | with_reducible refine a_nil ?_ | with_reducible refine a_cons ?_ | with_reducible refine w_tup ?_ | with_reducible refine w_lst ?_
  | with_reducible refine w_call0 ?_ | with_reducible refine w_len ?_ | with_reducible refine w_sumM ?_ | with_reducible refine w_allM ?_ | with_reducible refine w_tuple ?_ | with_reducible refine w_abs ?_ | with_reducible refine w_toInt ?_ | with_reducible refine w_max2 ?_
  | with_reducible refine w_min2 ?_ | with_reducible refine t_test ?_ | with_reducible refine t_B ?_ | with_reducible refine t_and ?_ | with_reducible refine t_or ?_ | with_reducible refine t_not ?_ | with_reducible refine t_yes ?_
  | with_reducible refine w_andV ?_ | with_reducible refine w_orV ?_ | with_reducible refine w_notV ?_ | with_reducible refine w_if ?_ | with_reducible refine w_chain ?_ | with_reducible refine o_none ?_ | with_reducible refine o_some ?_
  | with_reducible refine w_slT ?_ | with_reducible refine w_slL ?_ | with_reducible refine w_catT ?_ | with_reducible refine w_catL ?_ | with_reducible refine w_dget ?_ | with_reducible refine w_din ?_ | with_reducible refine w_dnotin ?_ | with_reducible refine w_sortD ?_ | with_reducible refine w_sortI ?_ | with_reducible refine w_callq ?_ | with_reducible refine w_isB ?_
  | with_reducible refine w_notB ?_ | with_reducible refine g_name ?_ | refine gs_nil rfl ?_ | refine gs_cons rfl ?_ | with_reducible refine s_next ?_ | with_reducible refine s_seq ?_ | with_reducible refine s_asg ?_
  | with_reducible refine s_drop ?_ | with_reducible refine s_ret ?_ | with_reducible refine s_brk ?_ | with_reducible refine s_if ?_)
local macro_rules | `(tactic| walk_at "k28 x") => `(tactic| first
  | refine g_tup ⟨_, rfl, rfl, ?_⟩ | refine ⟨_, _, _, _, rfl, rfl, rfl, rfl, rfl, ?_⟩ | refine ⟨_, _, _, rfl, rfl, rfl, ?_⟩ | refine ⟨_, _, _, rfl, rfl, atI_nat (j := 0) rfl, ?_⟩ | refine ⟨_, _, _, rfl, ?_⟩ | refine ⟨_, _, rfl, rfl, by decide, ?_⟩ | refine ⟨_, _, rfl, rfl, ⟨by decide, by decide⟩, ?_⟩ | refine ⟨_, _, rfl, rfl, ⟨by decide, by decide, by decide⟩, ?_⟩ | refine ⟨_, _, rfl, rfl, .inl ⟨by decide, by decide⟩, ?_⟩ | refine ⟨_, _, rfl, rfl, .inr ⟨by decide, by decide⟩, ?_⟩ | refine ⟨_, _, rfl, rfl, ?_⟩ | refine ⟨_, _, rfl, ?_⟩ | refine ⟨_, (show undats _ = some _ from rfl), by simp, ?_⟩ | refine ⟨_, rfl, ?_⟩ | refine ⟨_, .inl rfl, ?_⟩ | refine ⟨_, .inr rfl, ?_⟩ | refine ⟨_, _, rfl, rfl, ?_, ?_⟩)
local macro_rules | `(tactic| walk_at "k28 t") => `(tactic| first | rw [if_pos (by decide)] | rw [if_neg (by decide)] | rw [if_pos (by simp)] | rw [if_neg (by simp)])
local macro_rules | `(tactic| walk_at "k28") => `(tactic| repeat (first | walk_at "k28 d" | walk_at "k28 x" | exact rfl))
local macro_rules | `(tactic| walk_at "k28 s") => `(tactic| repeat (first | (fail_if_success with_reducible refine s_if ?_); (first | walk_at "k28 d" | walk_at "k28 x" | exact rfl)))
local macro_rules | `(tactic| walk_at "k28 o") => `(tactic| first
  | with_reducible refine w_dnotinO ?_ | with_reducible refine w_dgetO ?_ | with_reducible refine w_dget2O ?_ | with_reducible refine w_lenO ?_ | with_reducible refine w_tupleO ?_ | with_reducible refine w_notInO ?_ | with_reducible refine w_ixO ?_ | with_reducible refine w_fld ?_
  | refine ⟨_, _, _, rfl, rfl, .of (.head _), ?_⟩ | refine ⟨_, _, _, rfl, rfl, .of (.tail _ (.head _)), ?_⟩ | refine ⟨_, _, rfl, .of (.head _), ?_⟩ | refine ⟨_, _, rfl, .of (.tail _ (.head _)), ?_⟩)
local macro_rules | `(tactic| walk_at "k28 w") => `(tactic| first | with_reducible refine m_next ?_ | with_reducible refine m_seq ?_ | with_reducible refine m_asg (x_dnew fun p => ?_) | with_reducible refine m_asg (x_dnewT fun p => ?_) | with_reducible refine m_asg (x_lst ?_) | with_reducible refine m_asgP ?_ | with_reducible refine m_if ?_ | with_reducible refine m_retP ?_)
local macro_rules | `(tactic| walk_at "k28 m") => `(tactic| repeat (first | walk_at "k28 w" | walk_at "k28 o" | walk_at "k28 d" | walk_at "k28 x" | exact rfl))
local macro_rules | `(tactic| walk_at "k28 g") => `(tactic| repeat (first | with_reducible refine w_take ?_ | with_reducible refine w_word ?_ | with_reducible refine w_calld ?_ | with_reducible refine w_callgq ?_ | with_reducible refine w_addS ?_ | with_reducible refine w_ixS ?_ | with_reducible refine w_catL ?_ | walk_at "k28 w" | walk_at "k28 d" | refine ⟨_, _, rfl, .head _, (by first | decide | omega | simp | (simp only [List.length_map]; omega)), fun (r : Int) (r1 : 0 ≤ r) (r2 : r < _) => ?_⟩ | refine ⟨_, rfl, fun (s : Str) (sw : Wdn 60 s) => ?_⟩ | walk_at "k28 x" | exact rfl))
local macro_rules | `(tactic| walk_at "k28 f") => `(tactic| first
  | refine wf (Txt.c_Source (by assumption)) (Txt.n_meter (by assumption)) rfl lk_meter ?_ | refine wf (Txt.c_Source (by assumption)) (Txt.n_offset (by assumption)) rfl lk_offset ?_ | refine wf (Txt.c_Source (by assumption)) (Txt.n_slots (by assumption)) rfl lk_slots ?_ | refine wf (Txt.c_Source (by assumption)) (Txt.n_closed_number (by assumption)) rfl lk_closed_number ?_ | refine wf (Txt.c_Source (by assumption)) (Txt.n_closed_stamp (by assumption)) rfl lk_closed_stamp ?_ | refine wf (Txt.c_Source (by assumption)) (Txt.n_due (by assumption)) rfl lk_due ?_)
local macro_rules | `(tactic| walk_at "k28 n") => `(tactic| repeat (first | walk_at "k28 w" | walk_at "k28 f" | walk_at "k28 d" | walk_at "k28 x" | exact rfl))
local macro_rules | `(tactic| walk_at "k28 p") => `(tactic| first
  | with_reducible refine w_lenO ?_ | with_reducible refine w_tupleO ?_ | with_reducible refine w_ixO ?_
  | refine ⟨_, _, rfl, .of (.tail _ (.head _)), ?_⟩ | refine ⟨_, _, rfl, .of (.tail _ (.tail _ (.head _))), ?_⟩)
local macro_rules | `(tactic| walk_at "k28 q") => `(tactic| repeat (first | walk_at "k28 w" | walk_at "k28 f" | walk_at "k28 p" | walk_at "k28 d" | walk_at "k28 x" | exact rfl))
section
variable {P : Program} {w : World} {K : PySem.W.Frag} {mg : Str → Option Value} {base : Heap}
theorem sc__law_log : FnScope ["_law_history", "_law_name", "_law_log_here"] ["_law_history", "_law_name"] (defScope s__law_log) := ⟨rfl, rfl, rfl, by decide +kernel, rfl, by decide +kernel, by decide +kernel⟩
def RLg (es : List En1) (e : En1) : Prop := ∃ (nm : Str) (ls : List Log) (lg : Log), es = [.dat (.tuple (ls.map Log.d)), .dat (.str nm)] ∧ ls.length ≤ 1000 ∧ ls.find? (fun l => decide (l.name = nm)) = some lg ∧ e = .dat lg.d
theorem ok__law_log (T : Txt K mg) : Ok P w K mg base CX0 1 "_law_log" (He.ga K "_law_log") ["_law_history", "_law_name"] (psp RLg) := by
  obtain ⟨fd, F⟩ := T.F__law_log
  refine ⟨⟨fd, ok_pure F sc__law_log (fun es e ⟨nm, ls, lg, h, _⟩ => by rw [h]; rfl) (fun cdv A outer s H E hr => ⟨_, (pss_one (ps_ret (pe_ix (kIxL (K := K) rfl) (pe_lc (own := [("_law_log_here", 2)]) (by rfl) sc__law_log.nd (kiTup (K := K) rfl (pv 0)) (blkOk_by (own := [("_law_log_here", 2)]) (N := ["_law_history", "_law_name", "_law_log_here"]) (sc := defScope s__law_log) (by decide +kernel)) (fun _ _ _ _ _ => (pg_name (i := 2) sc__law_log.nd rfl (Or.inl rfl))) (fun _ _ _ _ _ => (pts_one (pt_cmpR op_eq (pe_ix (kIxT (K := K) rfl) (pv 2) pe_int (fun _ _ => rfl)) (pv 1) (nomark _)))) (fun _ _ _ _ _ => (pv 2))) pe_int (fun _ _ => rfl)))), fun es e r => ?_⟩), (F.bindsN fun _ _ _ _ _ _ us hl => match us, hl with | [_, _], _ => rfl)⟩, T.g__law_log, F.kp⟩
  obtain ⟨nm, ls, lg, rfl, few, hf, rfl⟩ := r
  walk_at "k28"
  refine w_lcT (F := Log.d) ?_
  walk_at "k28"
  refine ⟨by omega, fun g => decide (g.name = nm), Log.d, fun g _ => ?_, fun g _ _ => ?_, ?_⟩
  · walk_at "k28"
    simp
  · walk_at "k28"
  rw [← List.head?_filter] at hf
  obtain ⟨r, e⟩ := List.head?_eq_some_iff.mp hf
  rw [e]
  walk_at "k28"
theorem sc__law_is_true : FnScope ["_law_letter", "_law_history", "_law_log_here", "_law_slots", "_law_slot", "_law_k"] ["_law_letter", "_law_history"] (defScope s__law_is_true) := ⟨rfl, rfl, rfl, by decide +kernel, rfl, by decide +kernel, by decide +kernel⟩
theorem ok__law_is_true (T : Txt K mg) : Ok P w K mg base CX0 2 "_law_is_true" (He.ga K "_law_is_true") ["_law_letter", "_law_history"] (psp RIsTrue) := by
  obtain ⟨fd, F⟩ := T.F__law_is_true
  have o__law_log := ok__law_log (P := P) (w := w) (base := base) T
  refine ⟨⟨fd, ok_pure F sc__law_is_true (fun es e ⟨nm, l, ls, lg, h, _⟩ => by rw [h]; rfl) (fun cdv A outer s H E hr => ⟨_, (pss_cons (ps_set (i := 2) sc__law_is_true.nd rfl (Or.inl rfl) (pe_ok o__law_log hr (by decide) (by rfl) (pa_cons (pv 1) (pa_cons (pe_ix (kIxT (K := K) rfl) (pv 0) pe_int (fun _ _ => rfl)) pa_nil)))) (pss_cons (ps_set (i := 3) sc__law_is_true.nd rfl (Or.inl rfl) (pe_ix (kIxT (K := K) rfl) (pv 2) pe_int (fun _ _ => rfl))) (pss_cons (ps_if (pt_cmpR op_eq (pe_ix (kIxT (K := K) rfl) (pv 0) pe_int (fun _ _ => rfl)) pe_str (nomark _)) (pss_one (ps_ret (pe_and (pe_cmpR op_le (pe_ix (kIxT (K := K) rfl) (pv 0) pe_int (fun _ _ => rfl)) (pe_ix (kIxT (K := K) rfl) (pv 2) pe_int (fun _ _ => rfl)) (nomark _)) (pe_one (pe_cmpR op_le (pe_ix (kIxT (K := K) rfl) (pv 2) pe_int (fun _ _ => rfl)) (pe_ix (kIxT (K := K) rfl) (pv 0) pe_int (fun _ _ => rfl)) (nomark _)))))) pss_nil) (pss_cons (ps_if (pt_cmpR op_gt (pe_ix (kIxT (K := K) rfl) (pv 0) pe_int (fun _ _ => rfl)) (pe_callB (kLen (K := K) rfl) (by rfl) T.f_len (by decide +kernel) (pa_cons (pv 3) pa_nil)) (nomark _)) (pss_one (ps_ret pe_bl)) pss_nil) (pss_cons (ps_if (pt_cmpR op_eq (pe_ix (kIxT (K := K) rfl) (pv 0) pe_int (fun _ _ => rfl)) pe_str (nomark _)) (pss_cons (ps_set (i := 4) sc__law_is_true.nd rfl (Or.inl rfl) (pe_ix (kIxT (K := K) rfl) (pv 3) (pe_op op_sub (pe_ix (kIxT (K := K) rfl) (pv 0) pe_int (fun _ _ => rfl)) pe_int) (fun _ _ => rfl))) (pss_one (ps_ret (pe_and (pe_cmpR op_eq (pe_ix (kIxT (K := K) rfl) (pv 4) pe_int (fun _ _ => rfl)) (pe_ix (kIxT (K := K) rfl) (pv 0) pe_int (fun _ _ => rfl)) (nomark _)) (pe_and (pe_cmpR op_lt (pe_ix (kIxT (K := K) rfl) (pv 0) pe_int (fun _ _ => rfl)) (pe_callB (kLen (K := K) rfl) (by rfl) T.f_len (by decide +kernel) (pa_cons (pe_ix (kIxT (K := K) rfl) (pv 4) pe_int (fun _ _ => rfl)) pa_nil)) (nomark _)) (pe_one (pe_cmpR op_eq (pe_ix (kIxT (K := K) rfl) (pe_ix (kIxT (K := K) rfl) (pv 4) pe_int (fun _ _ => rfl)) (pe_ix (kIxT (K := K) rfl) (pv 0) pe_int (fun _ _ => rfl)) (fun _ _ => rfl)) (pe_ix (kIxT (K := K) rfl) (pv 0) pe_int (fun _ _ => rfl)) (nomark _)))))))) pss_nil) (pss_cons (ps_for PassesOwn.never rfl (pi_range1 (by rfl) T.f_range (pa_cons (pe_callB (kLen (K := K) rfl) (by rfl) T.f_len (by decide +kernel) (pa_cons (pv 3) pa_nil)) pa_nil)) (pg_name (i := 5) sc__law_is_true.nd rfl (Or.inl rfl)) (pss_one (ps_if (pt_cmpR op_ne (pe_cmpR op_lt (pe_ix (kIxT (K := K) rfl) (pe_ix (kIxT (K := K) rfl) (pv 3) (pv 5) (fun _ _ => rfl)) pe_int (fun _ _ => rfl)) (pe_ix (kIxT (K := K) rfl) (pv 0) pe_int (fun _ _ => rfl)) (nomark _)) (pe_cmpR op_lt (pv 5) (pe_ix (kIxT (K := K) rfl) (pv 0) pe_int (fun _ _ => rfl)) (nomark _)) (nomark _)) (pss_one (ps_ret pe_bl)) pss_nil))) (pss_one (ps_ret (pe_cmpR op_eq (pe_callB (kSum (K := K) rfl rfl) (by rfl) T.f_sum (by decide +kernel) (pa_cons (pe_lc (own := [("_law_slot", 4)]) (by rfl) sc__law_is_true.nd (kiTup (K := K) rfl (pe_slice (kSlT (K := K) rfl) (pv 3) po_none (po_some (pe_ix (kIxT (K := K) rfl) (pv 0) pe_int (fun _ _ => rfl))))) (blkOk_by (own := [("_law_slot", 4)]) (N := ["_law_letter", "_law_history", "_law_log_here", "_law_slots", "_law_slot", "_law_k"]) (sc := defScope s__law_is_true) (by decide +kernel)) (fun _ _ _ _ _ => (pg_name (i := 4) sc__law_is_true.nd rfl (Or.inl rfl))) (fun _ _ _ _ _ => pts_nil) (fun _ _ _ _ _ => (pe_callB (kLen (K := K) rfl) (by rfl) T.f_len (by decide +kernel) (pa_cons (pe_ix (kIxT (K := K) rfl) (pv 4) pe_int (fun _ _ => rfl)) pa_nil)))) pa_nil)) (pe_ix (kIxT (K := K) rfl) (pv 0) pe_int (fun _ _ => rfl)) (nomark _)))))))))), fun es e r => ?_⟩), (F.bindsN fun _ _ _ _ _ _ us hl => match us, hl with | [_, _], _ => rfl)⟩, T.g__law_is_true, F.kp⟩
  obtain ⟨nm, l, ls, lg, rfl, few, hf, few2, tr, rfl⟩ := r
  refine s_seq (s_asg (w_call0 ?_))
  refine a_cons (w_var rfl (a_cons (w_ixT (w_var rfl (w_int ?_)))))
  have e1 : ∃ ds i d, En1.dat (l.d nm) = .dat (.tuple ds) ∧ En1.dat (PyData.int 1) = .dat (.int i) ∧ atI ds i = some d ∧ d = .str nm := by
    cases l <;> exact ⟨_, _, _, rfl, rfl, atI_nat (j := 1) rfl, rfl⟩
  obtain ⟨ds, i, d, q1, q2, q3, rfl⟩ := e1
  refine ⟨ds, i, _, q1, q2, q3, a_nil ⟨_, ⟨nm, ls, lg, rfl, few, hf, rfl⟩, g_name ?_⟩⟩
  clear q1 q2 q3
  cases l with
  | clock lo hi =>
    walk_at "k28"
    rw [if_pos (by decide)]
    walk_at "k28"
    rw [if_pos (by simpa using tr.1)]
    walk_at "k28"
    rw [decide_eq_true tr.2]
  | read s v st x =>
    obtain ⟨sl, s1, hs, rfl, hv⟩ := tr
    obtain ⟨hlt, _⟩ := List.getElem?_eq_some_iff.mp hs
    obtain ⟨hlv, _⟩ := List.getElem?_eq_some_iff.mp hv
    walk_at "k28"
    rw [if_neg (by decide)]
    walk_at "k28"
    rw [if_neg (by simp; omega)]
    walk_at "k28"
    rw [if_pos (by decide)]
    walk_at "k28"
    refine ⟨_, _, slotD sl, rfl, rfl, atI_of (j := s - 1) (by omega) (by rw [List.getElem?_map, hs]; rfl), ?_⟩
    walk_at "k28"
    rw [if_pos (by simp)]
    walk_at "k28"
    rw [if_pos (by simp; omega)]
    walk_at "k28"
    refine ⟨_, _, optD x, rfl, rfl, atI_of (j := v) rfl (by rw [List.getElem?_map, hv]; rfl), ?_⟩
    walk_at "k28"
    obtain ⟨z, z1, z2⟩ := scx x
    refine ⟨_, _, z, z, rfl, rfl, z1, z1, z2, ?_⟩
    show En1.dat _ = En1.dat _
    simp
  | close n st vs =>
    obtain ⟨hn, hc, hv⟩ := tr
    walk_at "k28"
    rw [if_neg (by decide)]
    walk_at "k28"
    rw [if_neg (by simp; omega)]
    walk_at "k28"
    rw [if_neg (by decide)]
    walk_at "k28"
    refine s_forR ?_
    walk_at "k28"
    refine ⟨by simp, by rw [List.length_map]; omega, fun i ρ' => Hid (∃ a b, ρ' = [some (.dat (Let.d nm (.close n st vs))), some (.dat (.tuple (ls.map Log.d))), some (.dat lg.d), some (.dat (.tuple (lg.ss.map slotD))), a, b]), hid ⟨_, _, rfl⟩, ?_, ?_⟩
    · intro i ρ' hi hI
      obtain ⟨a, b, rfl⟩ := hI.out
      rw [List.length_map] at hi
      have il : i < lg.ss.length := by omega
      obtain ⟨sl, hs⟩ : ∃ sl, lg.ss[i]? = some sl := ⟨lg.ss[i], List.getElem?_eq_getElem il⟩
      have q := hc i sl hs
      walk_at "k28"
      refine ⟨_, _, slotD sl, rfl, rfl, atI_of (j := i) rfl (by rw [List.getElem?_map, hs]; rfl), ?_⟩
      walk_at "k28"
      rw [if_neg (by
        have e : decide (sl.1 < st) = decide ((i : Int) < (n : Int)) := by
          rw [decide_eq_decide, q]
          omega
        simp [e])]
      walk_at "k28"
      exact hid ⟨_, _, rfl⟩
    · intro ρ' hI
      obtain ⟨a, b, rfl⟩ := hI.out
      walk_at "k28"
      refine w_lcT0 (F := slotD) ?_
      walk_at "k28"
      rw [cut_to (by simpa using hn), ← List.map_take]
      refine ⟨_, rfl, by rw [List.length_take]; omega, fun s => .int s.2.length, fun s hs => ?_, ?_⟩
      · walk_at "k28"
        simp
      · walk_at "k28"
        show En1.dat _ = En1.dat _
        have e : ((lg.ss.take n).map fun s => (s.2.length : Int)).sum = (vs : Int) := by
          rw [← hv]
          exact sum_cast _
        rw [e]
        simp
theorem sc__law_all_true : FnScope ["_law_letters", "_law_history", "_law_letter"] ["_law_letters", "_law_history"] (defScope s__law_all_true) := ⟨rfl, rfl, rfl, by decide +kernel, rfl, by decide +kernel, by decide +kernel⟩
def RAll (es : List En1) (e : En1) : Prop := ∃ (nm : Str) (us : List Let) (ls : List Log) (lg : Log), es = [.lst (us.map (Let.d nm)), .dat (.tuple (ls.map Log.d))] ∧ us.length ≤ 1000 ∧ ls.length ≤ 1000 ∧ ls.find? (fun l => decide (l.name = nm)) = some lg ∧ lg.ss.length ≤ 1000 ∧ (∀ l ∈ us, Tr lg.off lg.ss l) ∧ e = .dat (.bool true)
theorem ok__law_all_true (T : Txt K mg) : Ok P w K mg base CX0 3 "_law_all_true" (He.ga K "_law_all_true") ["_law_letters", "_law_history"] (psp RAll) := by
  obtain ⟨fd, F⟩ := T.F__law_all_true
  have o__law_is_true := ok__law_is_true (P := P) (w := w) (base := base) T
  refine ⟨⟨fd, ok_pure F sc__law_all_true (fun es e ⟨nm, l, ls, lg, h, _⟩ => by rw [h]; rfl) (fun cdv A outer s H E hr => ⟨_, (pss_cons (ps_for PassesOwn.never rfl (kiList (K := K) rfl (pv 0)) (pg_name (i := 2) sc__law_all_true.nd rfl (Or.inl rfl)) (pss_one (ps_if (pt_not (pt_val (pe_ok o__law_is_true hr (by decide) (by rfl) (pa_cons (pv 2) (pa_cons (pv 1) pa_nil))))) (pss_one (ps_ret pe_bl)) pss_nil))) (pss_one (ps_ret pe_bl))), fun es e r => ?_⟩), (F.bindsN fun _ _ _ _ _ _ us hl => match us, hl with | [_, _], _ => rfl)⟩, T.g__law_all_true, F.kp⟩
  obtain ⟨nm, us, ls, lg, rfl, few0, few, hf, few2, tr, rfl⟩ := r
  walk_at "k28"
  refine s_forL (F := Let.d nm) ?_
  walk_at "k28"
  refine ⟨fun i ρ' => Hid (∃ a, ρ' = [some (.lst (us.map (Let.d nm))), some (.dat (.tuple (ls.map Log.d))), a]), hid ⟨_, rfl⟩, ?_, ?_⟩
  · intro i l ρ' hi hI
    obtain ⟨a, rfl⟩ := hI.out
    walk_at "k28"
    refine ⟨_, ⟨nm, l, ls, lg, rfl, few, hf, few2, tr l (List.mem_of_getElem? hi), rfl⟩, ?_⟩
    walk_at "k28"
    rw [if_neg (by simp)]
    walk_at "k28"
    exact hid ⟨_, rfl⟩
  · intro ρ' hI
    obtain ⟨a, rfl⟩ := hI.out
    walk_at "k28"
theorem sc__law_others : FnScope ["_law_plan_here", "_law_meter", "_law_log_here", "_law_other"] ["_law_plan_here", "_law_meter", "_law_log_here"] (defScope s__law_others) := ⟨rfl, rfl, rfl, by decide +kernel, rfl, by decide +kernel, by decide +kernel⟩
def ROth (es : List En1) (e : En1) : Prop := ∃ (p : Plan) (m : Meter) (off : Int) (ss : List Slot), es = [.dat p.d, .dat m.d, .dat (Log.d ⟨m.name, off, ss⟩)] ∧ p.ms.length ≤ 1000 ∧ e = .dat (.tuple ((histOf p m off ss).map Log.d))
theorem ok__law_others (T : Txt K mg) : Ok P w K mg base CX0 1 "_law_others" (He.ga K "_law_others") ["_law_plan_here", "_law_meter", "_law_log_here"] (psp ROth) := by
  obtain ⟨fd, F⟩ := T.F__law_others
  refine ⟨⟨fd, ok_pure F sc__law_others (fun es e ⟨nm, l, ls, lg, h, _⟩ => by rw [h]; rfl) (fun cdv A outer s H E hr => ⟨_, (pss_one (ps_ret (pe_callTy (kTuple (K := K) rfl) (by rfl) T.f_tuple (by decide +kernel) (pa_cons (pe_lc (own := [("_law_other", 3)]) (by rfl) sc__law_others.nd (kiTup (K := K) rfl (pe_ix (kIxT (K := K) rfl) (pv 0) pe_int (fun _ _ => rfl))) (blkOk_by (own := [("_law_other", 3)]) (N := ["_law_plan_here", "_law_meter", "_law_log_here", "_law_other"]) (sc := defScope s__law_others) (by decide +kernel)) (fun _ _ _ _ _ => (pg_name (i := 3) sc__law_others.nd rfl (Or.inl rfl))) (fun _ _ _ _ _ => pts_nil) (fun _ _ _ _ _ => (pe_ifExp (pt_cmpR op_eq (pe_ix (kIxT (K := K) rfl) (pv 3) pe_int (fun _ _ => rfl)) (pe_ix (kIxT (K := K) rfl) (pv 1) pe_int (fun _ _ => rfl)) (nomark _)) (pv 2) (pe_tup (pa_cons (pe_ix (kIxT (K := K) rfl) (pv 3) pe_int (fun _ _ => rfl)) (pa_cons (pe_ix (kIxT (K := K) rfl) (pv 3) pe_int (fun _ _ => rfl)) (pa_cons (pe_tup pa_nil) pa_nil))))))) pa_nil)))), fun es e r => ?_⟩), (F.bindsN fun _ _ _ _ _ _ us hl => match us, hl with | [_, _, _], _ => rfl)⟩, T.g__law_others, F.kp⟩
  obtain ⟨p, m, off, ss, rfl, few, rfl⟩ := r
  walk_at "k28"
  refine w_lcT0 (F := Meter.d) ?_
  walk_at "k28"
  refine ⟨by omega, fun o => Log.d (if o.name = m.name then ⟨m.name, off, ss⟩ else ⟨o.name, o.err, []⟩), fun o _ => ?_, ?_⟩
  · walk_at "k28"
    by_cases c : o.name = m.name
    · rw [if_pos (by simpa using c)]
      simp only [if_pos c]
      walk_at "k28"
    · rw [if_neg (by simpa using c)]
      simp only [if_neg c]
      walk_at "k28"
  · walk_at "k28"
    show En1.dat _ = En1.dat _
    unfold histOf
    rw [List.map_map]
    rfl
end
end TW
/-! K28X -/
/-! K28: methods over owned cells, and what they may raise. -/
namespace TW
open PySem PySem.Spec PyProof.Rows L2
/-- X(e), the argument any value -/
theorem pmk_arg {X : Cx} {C : Addr} {bmB : List Value} {B newId initId : String} {x : Str} {e : Expr} {ta : TE} {p pos : Pos} (F : ExcBaseFacts B newId initId bmB) (q : PySem.W.excIn X.K C bmB newId = true) (gC : X.mg x = some (.ref C)) (kC : PySem.W.keepIn X.K (.ref C) = true) (r : Raises X (.ref C)) (hg : Gl X x)
    (he : PE X e ta) (hs : starEach [e] X.env = (false, eval e X.env) :: starEach [] X.env := by rfl) (hdb : (x == ("__debug__" : Str)) = false := by decide) :
    L2N.PMk X (.Call (.Name x p) [e] [] pos) (fun σ H Q => ta σ H fun _ H1 => Q (.ref C) none H1) := fun pins s σ H Q I h => by
  refine wpAny_Call_Name_kw (ld_glob I hg gC (PySem.W.callWith_K (h₀ := X.base) I.ok.mod.kin kC (by
    rw [hs]
    show wpAny _ _ (spliced ((false, eval e X.env) :: backTo pos (starEach [] X.env))) _ _ s
    refine Calls.spliced_cons (thn (he.run pins s σ H _ I h) fun u s1 ⟨v, H1, I1, r1, q1⟩ => Calls.spliced_nil ⟨I1.kIn, ?_⟩)
    obtain ⟨bm, N, nm, qn, bs, hdct, sn, sub, ab, col, dd, k0, k1, k2, k3, k5, mN, hC, hN, hni, T⟩ := exc_obj I1.kIn q
    exact wpAny_call_exc_subT F T hC hN hni (fun h' e hm => L2N.mk_of I1 hm r q1 (I1.hok.gone hm.new)) (by show 1 ≤ sizeLine; rw [sizeLine_eq]; omega)) hs rfl) hdb)
/-- what is left to a raise: the class, at the heap as it stands -/
def tRzA (E : XK) (C : Addr) (ta : TE) : TS := fun _ σ H => ta σ H fun _ H1 => E (.ref C) none H1
def tRz (E : XK) (C : Addr) : TS := fun _ _ H => E (.ref C) none H
section
variable {X : Cx} {E : XK} {C : Addr} {x : Str} {p pos pos2 : Pos}
theorem ps_rzA {e : Expr} {ta : TE} (hc : X.calm = true) (tk : L2N.Takes X fun cls d _ H => E cls d H) (q : PySem.W.excIn X.K C He.veBase "ValueError.__new__" = true) (gC : X.mg x = some (.ref C)) (kC : PySem.W.keepIn X.K (.ref C) = true) (r : Raises X (.ref C)) (hg : Gl X x)
    (he : PE X e ta) (hs : starEach [e] X.env = (false, eval e X.env) :: starEach [] X.env := by rfl) (hdb : (x == ("__debug__" : Str)) = false := by decide) : PS X (.Raise (some (.Call (.Name x p) [e] [] pos)) none pos2) (tRzA E C ta) :=
  L2N.ps_raise hc tk (pmk_arg PySem.F.excBase_ValueError q gC kC r hg he hs hdb)
theorem ps_rz {m : Str} {j : Nat} {p2 : Pos} (hc : X.calm = true) (tk : L2N.Takes X fun cls d _ H => E cls d H) (q : PySem.W.excIn X.K C He.veBase "ValueError.__new__" = true) (gC : X.mg x = some (.ref C)) (kC : PySem.W.keepIn X.K (.ref C) = true) (r : Raises X (.ref C)) (hg : Gl X x)
    (hdb : (x == ("__debug__" : Str)) = false := by decide) : PS X (.Raise (some (.Call (.Name x p) [.Constant (.str m) j p2] [] pos)) none pos2) (tRz E C) :=
  L2N.ps_raise hc tk (L2N.pmk_own PySem.F.excBase_ValueError q gC kC r hg hdb)
end
theorem fld_none {H : Hp} {f : Str} : ∀ {vs : List (Str × V)} {fs : List (Str × En1)}, FldS H vs fs → fs.lookup f = none → vs.lookup f = none
  | _, _, .nil, _ => rfl
  | (x, u) :: _, (y, e) :: _, .cons h r, lk => by
    obtain ⟨hx, _⟩ := h
    simp only at hx
    subst hx
    by_cases c : f = x
    · subst c
      rw [List.lookup_cons_self] at lk
      cases lk
    · have nb : (f == x) = false := by simpa using c
      rw [List.lookup_cons, nb] at lk ⊢
      exact fld_none r lk
/-! ### the promise of a method -/
def pso {ι : Type} (A : ι → Gs → List En1 → Prop) (S : ι → Gs → En1 → Prop) (R : ι → Gs → Value → Prop) : Sp := fun vs H Q E => ∃ i Γ es, JG Γ H ∧ IsS (MG Γ).B H vs es ∧ A i Γ es ∧
  (∀ v H' Γ' e, Lg Γ Γ' H H' → Is (MG Γ').B H' v e → S i Γ' e → Q v H') ∧ ∀ cls H' Γ', Lg Γ Γ' H H' → R i Γ' cls → E cls none H'
structure Pe where
  nx : Gs → Ro → Prop
  rt : Gs → En1 → Prop
  ex : Gs → Value → Prop := fun _ _ => False
abbrev HitX (Γ : Gs) (H : Hp) (N : Gs → Value → Prop) (E : XK) : Prop := ∀ cls H' Γ', Lg Γ Γ' H H' → N Γ' cls → E cls none H'
theorem HitX.lg {Γ Γ' : Gs} {H H1 : Hp} {N : Gs → Value → Prop} {E : XK} (h : HitX Γ H N E) (l : Lg Γ Γ' H H1) : HitX Γ' H1 N E := fun cls H' Γ2 l' => h cls H' Γ2 (l.trans l')
/-- statements that may raise into E -/
def Wk (E : XK) (Γ : Gs) (t : TS) (ρ : Ro) (P : Pe) : Prop := ∀ D σ H, JG Γ H → En (MG Γ) H σ ρ → HitG Γ H P.nx D.nx → HitE Γ H P.rt D.rt → HitX Γ H P.ex E → t D σ H
section
variable {E : XK} {Γ : Gs} {ρ : Ro} {P : Pe} {ta tb : TE} {KF : PySem.W.Frag} {t u : TS} {g : TG} {ι : Type} {A : ι → Gs → List En1 → Prop} {S : ι → Gs → En1 → Prop} {R : ι → Gs → Value → Prop} {C : Addr} {m : Str}
theorem k_of (h : Wm Γ t ρ { nx := P.nx, rt := P.rt }) : Wk E Γ t ρ P := fun D σ H j n a b _ => h D σ H j n a b (fun _ _ _ _ _ _ z => z.elim) (fun _ _ _ _ _ _ z => z.elim)
theorem k_seq (h : Wk E Γ t ρ { P with nx := fun Γ' ρ' => Wk E Γ' u ρ' P }) : Wk E Γ (tSeq t u) ρ P := fun D σ H j n a b c =>
  h { D with nx := u D } σ H j n (fun σ' H' Γ' ρ' l n' k => k D σ' H' l.j n' (HitG.lg a l) (HitE.lg b l) (HitX.lg c l)) b c
theorem k_cut (N : Gs → Ro → Prop) (h : Wk E Γ t ρ { P with nx := N }) (k : ∀ Γ' ρ', N Γ' ρ' → Wk E Γ' u ρ' P) : Wk E Γ (tSeq t u) ρ P :=
  k_seq fun D σ H j n a b c => h D σ H j n (fun σ' H' Γ' ρ' l n' x => a σ' H' Γ' ρ' l n' (k Γ' ρ' x)) b c
theorem k_if {c : TT} (h : Wt (MG Γ) c ρ fun b => if b = true then Wk E Γ t ρ P else Wk E Γ u ρ P) : Wk E Γ (tIfS c t u) ρ P := fun D σ H j n a b d =>
  h σ H j n _ fun x H1 l1 k => by
    have l := Lg.of l1
    have n1 := n.lg j l
    cases x with
    | true => exact iteT ((show Wk E Γ t ρ P from by simpa using k) D σ H1 l.j n1 (HitG.lg a l) (HitE.lg b l) (HitX.lg d l))
    | false => exact iteF ((show Wk E Γ u ρ P from by simpa using k) D σ H1 l.j n1 (HitG.lg a l) (HitE.lg b l) (HitX.lg d l))
theorem k_rzA (h : We (MG Γ) ta ρ fun _ => P.ex Γ (.ref C)) : Wk E Γ (tRzA E C ta) ρ P := fun D σ H j n _ _ c => h σ H j n _ fun v H1 e l i k => c _ H1 Γ (.of l) k
theorem k_rz (k : P.ex Γ (.ref C)) : Wk E Γ (tRz E C) ρ P := fun D σ H j n _ _ c => c _ H Γ (.refl j) k
/-- o.m(..) as a statement -/
theorem k_meth {t : TA} (h : We (MG Γ) ta ρ fun x => ∃ a dx vs fs, x = .raw (.ref a) ∧ (a, Cell.o C dx vs fs) ∈ Γ ∧ fs.lookup m = none ∧ Wa (MG Γ) t ρ fun es => ∃ i, A i Γ (x :: es) ∧ (∀ Γ' e, S i Γ' e → P.nx Γ' ρ) ∧ ∀ Γ' cls, R i Γ' cls → P.ex Γ' cls) :
    Wk E Γ (tDrop (tMeth C m (pso A S R) [] E ta t)) ρ P := fun D σ H j n a b c => h σ H j n _ fun v H1 x l1 i1 ⟨p, dx, vs, fs, ex, hm, lk, k1⟩ => by
  subst ex
  obtain rfl : v = .ref p := i1
  have lb := Lg.of l1
  obtain ⟨c1, c2⟩ := lb.j.2 _ hm
  refine ⟨p, dx, vs, rfl, c1, (fld_none c2 lk), k1 σ H1 lb.j (n.lg j lb) _ fun us H2 es l2 i2 ⟨i, ai, q1, q2⟩ => ?_⟩
  show pso A S R (.ref p :: (us ++ [])) H2 _ E
  rw [List.append_nil]
  have l3 := lb.trans (.of l2)
  refine ⟨i, Γ, _, l3.j, .cons (show Is (MG Γ).B H2 (.ref p) (.raw (.ref p)) from rfl) i2, ai, fun v H' Γ' e l4 iv se => ?_, fun cls H' Γ' l4 rc => c cls H' Γ' (l3.trans l4) (q2 Γ' cls rc)⟩
  exact a σ H' Γ' ρ (l3.trans l4) (n.lg j (l3.trans l4)) (q1 Γ' e se)
/-- o.m(..) that writes nothing, as a value -/
theorem w_methd {K : En1 → Prop} {t : TA} {E : XK} (h : We (MG Γ) ta ρ fun x => ∃ a dx vs fs, x = .raw (.ref a) ∧ (a, Cell.o C dx vs fs) ∈ Γ ∧ fs.lookup m = none ∧ Wa (MG Γ) t ρ fun es => ∃ i, A i Γ (x :: es) ∧ (∀ Γ' e, S i Γ' e → Γ' = Γ ∧ fsOk e = true ∧ K e) ∧ ∀ Γ' cls, ¬ R i Γ' cls) :
    We (MG Γ) (tMeth C m (pso A S R) [] E ta t) ρ K := fun σ H j n Q q => h σ H j n _ fun v H1 x l1 i1 ⟨p, dx, vs, fs, ex, hm, lk, k1⟩ => by
  subst ex
  obtain rfl : v = .ref p := i1
  obtain ⟨c1, c2⟩ := l1.2.2 _ hm
  refine ⟨p, dx, vs, rfl, c1, (fld_none c2 lk), k1 σ H1 l1.2 (n.le j l1) _ fun us H2 es l2 i2 ⟨i, ai, q1, q2⟩ => ?_⟩
  show pso A S R (.ref p :: (us ++ [])) H2 _ E
  rw [List.append_nil]
  refine ⟨i, Γ, _, l2.2, .cons (show Is (MG Γ).B H2 (.ref p) (.raw (.ref p)) from rfl) i2, ai, fun v H' Γ' e l4 iv se => ?_, fun cls H' Γ' l4 rc => absurd rc (q2 Γ' cls)⟩
  obtain ⟨rfl, f, k⟩ := q1 Γ' e se
  exact q v H' e ((l1.trans l2).trans l4.le) iv k
/-- o.m(..) that writes and raises nothing -/
theorem x_meth {K : Gs → En1 → Prop} {t : TA} {E : XK} (h : We (MG Γ) ta ρ fun x => ∃ a dx vs fs, x = .raw (.ref a) ∧ (a, Cell.o C dx vs fs) ∈ Γ ∧ fs.lookup m = none ∧ Wa (MG Γ) t ρ fun es => ∃ i, A i Γ (x :: es) ∧ (∀ Γ' e, S i Γ' e → K Γ' e) ∧ ∀ Γ' cls, ¬ R i Γ' cls) :
    Wx Γ (tMeth C m (pso A S R) [] E ta t) ρ K := fun σ H j n Q q => h σ H j n _ fun v H1 x l1 i1 ⟨p, dx, vs, fs, ex, hm, lk, k1⟩ => by
  subst ex
  obtain rfl : v = .ref p := i1
  have lb := Lg.of l1
  obtain ⟨c1, c2⟩ := lb.j.2 _ hm
  refine ⟨p, dx, vs, rfl, c1, (fld_none c2 lk), k1 σ H1 lb.j (n.lg j lb) _ fun us H2 es l2 i2 ⟨i, ai, q1, q2⟩ => ?_⟩
  show pso A S R (.ref p :: (us ++ [])) H2 _ E
  rw [List.append_nil]
  have l3 := lb.trans (.of l2)
  refine ⟨i, Γ, _, l3.j, .cons (show Is (MG Γ).B H2 (.ref p) (.raw (.ref p)) from rfl) i2, ai, fun v H' Γ' e l4 iv se => ?_, fun cls H' Γ' l4 rc => absurd rc (q2 Γ' cls)⟩
  exact q v H' Γ' e (l3.trans l4) iv (q1 Γ' e se)
variable {Pg0 : Program} {w : World} {mg : Str → Option Value} {base : Heap}
structure OkM (P : Program) (w : World) (K : PySem.W.Frag) (mg : Str → Option Value) (base : Heap) (CX : CXT) (k : Nat) (f : Addr) (ps : List Str) (sp : Sp) : Prop where
  ex : ∃ fd, FnOk P w K mg base CX k f fd ps sp ∧ Binds K fd ps []
theorem pe_okm {X : Cx} {CX : CXT} {j k : Nat} {C f : Addr} {m : Str} {ps : List Str} {sp : Sp} {E : XK} {o e : Expr} {es : List Expr} {ta : TE} {t : TA} {pos apos : Pos} {pl : Sem Bool} (ok : OkM X.prog X.w X.K X.mg X.base CX j f ps sp) (he : PE X o ta) (c : Cls X.K C) (hm : Meth X.K C m f) (hr : Room k X.A) (hj : j ≤ k) (hx : Passes CX X E) (ha : PA X (e :: es) t)
    (hst : starEach (e :: es) X.env = (false, eval e X.env) :: starEach es X.env := by rfl) (hpl : (backTo pos (starEach es X.env)).any (·.1) = false := by rfl)
    (ht : eval (.Call (.Attribute o m apos) (e :: es) [] pos) X.env = (do
      let ov ← eval o X.env
      standAt apos.atName
      let (f, first) ← holding [ov] (getMethod ov m pl)
      callWith pos f first (backTo pos (starEach (e :: es) X.env)) (backToKw pos (keywordEach [] X.env))) := by rfl) : PE X (.Call (.Attribute o m apos) (e :: es) [] pos) (tMeth C m sp [] E ta t) := by
  obtain ⟨fd, a, b⟩ := ok.ex
  exact pe_meth he c hm a (hr.mono hj) b .nil hx ha hst hpl ht
theorem pe_okm0 {X : Cx} {CX : CXT} {j k : Nat} {C f : Addr} {m : Str} {ps : List Str} {sp : Sp} {E : XK} {o : Expr} {ta : TE} {pos apos : Pos} {pl : Sem Bool} (ok : OkM X.prog X.w X.K X.mg X.base CX j f ps sp) (he : PE X o ta) (c : Cls X.K C) (hm : Meth X.K C m f) (hr : Room k X.A) (hj : j ≤ k) (hx : Passes CX X E)
    (ht : eval (.Call (.Attribute o m apos) [] [] pos) X.env = (do
      let ov ← eval o X.env
      standAt apos.atName
      let (f, first) ← holding [ov] (getMethod ov m pl)
      callWith pos f first (backTo pos (starEach [] X.env)) (backToKw pos (keywordEach [] X.env))) := by rfl) : PE X (.Call (.Attribute o m apos) [] [] pos) (tMeth C m sp [] E ta tNil) := by
  obtain ⟨fd, a, b⟩ := ok.ex
  exact pe_meth0 he c hm a (hr.mono hj) b .nil hx ht
/-- a method that raises nothing -/
theorem ok_meth {x qual : Str} {st : Stmt} {f : Addr} {fd : FuncData} {N ps : List Str} {k : Nat} (F : FnQ KF x qual st f fd) (Sc : FnScope N ps (defScope st)) (len : ∀ i Γ es, A i Γ es → es.length = ps.length)
    (body : ∀ (cdv : Value) (Ar : Around) (outer : List Env) (s : Shared) (H : Hp) (E : XK), Room k (Ar.deeper (envOfC qual (defScope st) s.heap.objs.size f cdv)) →
      ∃ t, PSs (cxOf CX0 Pg0 w KF mg base N qual (defScope st) f cdv Ar outer s H E).nox (defBody st) t ∧ ∀ i Γ es, A i Γ es → Wm Γ t (startR N es) { nx := fun Γ' _ => S i Γ' (.dat .none), rt := S i }) :
    FnOk Pg0 w KF mg base CX0 (k + 1) f fd ps (pso A S R) := by
  refine F.ok Sc (fun vs H Q E ⟨i, Γ, es, j, is, r, q⟩ => (Paired.length is).trans (len i Γ es r)) (fun cdv Ar outer s H vs Q E hr ⟨i, Γ, es, j, is, r, q, _⟩ => ?_)
  obtain ⟨t, h, b⟩ := body cdv Ar outer s H E hr
  refine ⟨t, h.nox, b i Γ es r _ _ H j (en_start is) (fun σ' H' Γ' ρ' l n k => q .non H' Γ' _ l (Is.d At.non) k) (fun v H' Γ' e' l iv k => q v H' Γ' e' l iv k) (fun _ _ _ _ _ _ k => k.elim) (fun _ _ _ _ _ _ k => k.elim)⟩
/-- a method that may raise -/
theorem ok_methX {x qual : Str} {st : Stmt} {f : Addr} {fd : FuncData} {N ps : List Str} {k : Nat} (F : FnQ KF x qual st f fd) (Sc : FnScope N ps (defScope st)) (len : ∀ i Γ es, A i Γ es → es.length = ps.length)
    (body : ∀ (cdv : Value) (Ar : Around) (outer : List Env) (s : Shared) (H : Hp) (E : XK), Room k (Ar.deeper (envOfC qual (defScope st) s.heap.objs.size f cdv)) →
      ∃ t, PSs (cxOf (L2N.CX Pg0 w) Pg0 w KF mg base N qual (defScope st) f cdv Ar outer s H E) (defBody st) t ∧ ∀ i Γ es, A i Γ es → Wk E Γ t (startR N es) { nx := fun Γ' _ => S i Γ' (.dat .none), rt := S i, ex := R i }) :
    FnOk Pg0 w KF mg base (L2N.CX Pg0 w) (k + 1) f fd ps (pso A S R) := by
  refine F.ok Sc (fun vs H Q E ⟨i, Γ, es, j, is, r, q⟩ => (Paired.length is).trans (len i Γ es r)) (fun cdv Ar outer s H vs Q E hr ⟨i, Γ, es, j, is, r, q, q2⟩ => ?_)
  obtain ⟨t, h, b⟩ := body cdv Ar outer s H E hr
  exact ⟨t, h, b i Γ es r _ _ H j (en_start is) (fun σ' H' Γ' ρ' l n k => q .non H' Γ' _ l (Is.d At.non) k) (fun v H' Γ' e' l iv k => q v H' Γ' e' l iv k) (fun cls H' Γ' l k => q2 cls H' Γ' l k)⟩
end
end TW
/-! K28P17 -/
namespace TW
open PySem PySem.Spec PyProof.Rows L2
def srcF (m : Meter) (off : Int) (p q : Addr) (cn : Nat) (cs : Option Int) : List (Str × En1) :=
  [("_meter", .dat m.d), ("_offset", .dat (.int off)), ("_slots", .raw (.ref p)), ("_closed_number", .dat (.int cn)), ("_closed_stamp", .dat (optD cs)), ("_due", .raw (.ref q))]
section
variable {m : Meter} {off : Int} {p q : Addr} {cn : Nat} {cs : Option Int}
theorem lk_meter : (srcF m off p q cn cs).lookup (Str.ofString "_meter") = some (.dat m.d) := rfl
theorem lk_offset : (srcF m off p q cn cs).lookup (Str.ofString "_offset") = some (.dat (.int off)) := rfl
theorem lk_slots : (srcF m off p q cn cs).lookup (Str.ofString "_slots") = some (.raw (.ref p)) := rfl
theorem lk_closed_number : (srcF m off p q cn cs).lookup (Str.ofString "_closed_number") = some (.dat (.int cn)) := rfl
theorem lk_closed_stamp : (srcF m off p q cn cs).lookup (Str.ofString "_closed_stamp") = some (.dat (optD cs)) := rfl
theorem lk_due : (srcF m off p q cn cs).lookup (Str.ofString "_due") = some (.raw (.ref q)) := rfl
theorem lk_none {f : Str} (h : f ∉ [("_meter" : Str), "_offset", "_slots", "_closed_number", "_closed_stamp", "_due"]) : (srcF m off p q cn cs).lookup f = none := by
  simp only [List.mem_cons, List.not_mem_nil, or_false, not_or] at h
  obtain ⟨h1, h2, h3, h4, h5, h6⟩ := h
  have b : ∀ {g : Str}, f ≠ g → (f == g) = false := fun h => by simpa using h
  simp only [srcF, List.lookup_cons, b h1, b h2, b h3, b h4, b h5, b h6, List.lookup_nil]
end
/-- the source at a stands in the state z -/
def SrcIs (K : PySem.W.Frag) (m : Meter) (off : Int) (a : Addr) (z : Sta) (rest Γ : Gs) : Prop := ∃ (p q dx : Addr) (vs : List (Str × V)) (xs ys : List V),
  Γ = (a, .o (He.ga K "Source") dx vs (srcF m off p q z.cn z.cs)) :: (p, .l xs (z.ss.map slotD)) :: (q, .l ys (z.due.map (Let.d m.name))) :: rest
theorem wf {ρ : Ro} {Kp : En1 → Prop} {KF : PySem.W.Frag} {C : Addr} {m : Meter} {off : Int} {a p q dx : Addr} {vs : List (Str × V)} {cn : Nat} {cs : Option Int} {rest : Gs} {f : Str} {e : En1} (c : Cls KF C) (n : NoAttr KF C f) (h0 : ρ[0]? = some (some (.raw (.ref a)))) (lk : (srcF m off p q cn cs).lookup f = some e) (k : Kp e) :
    We (MG ((a, .o C dx vs (srcF m off p q cn cs)) :: rest)) (tFld KF (tVar 0) f) ρ Kp :=
  w_fld (K := fun _ => Kp) (w_var h0 ⟨a, C, dx, vs, _, e, rfl, .head _, c, n, lk, k⟩)
local macro_rules | `(tactic| walk_at "k28 d") => `(tactic| first
  | refine w_var rfl ?_ | with_reducible refine w_int ?_ | with_reducible refine w_str ?_ | with_reducible refine w_non ?_ | with_reducible refine w_bl ?_
  | with_reducible refine w_ixT ?_ | with_reducible refine w_ixL ?_ | with_reducible refine w_add ?_ | with_reducible refine w_sub ?_ | with_reducible refine w_eq ?_ | with_reducible refine w_ne ?_ | with_reducible refine w_lt ?_
  | with_reducible refine w_leq ?_ | with_reducible refine w_gt ?_ | with_reducible refine w_ge ?_ | with_reducible refine w_mul ?_ | with_reducible refine w_div ?_ | with_reducible refine w_mod ?_ | with_reducible refine w_pow ?_
  | with_reducible refine w_neg ?_ | with_reducible refine w_isN ?_ | with_reducible refine w_notN ?_ | with_reducible refine a_nil ?_ | with_reducible refine a_cons ?_ | with_reducible refine w_tup ?_ | with_reducible refine w_lst ?_
  | with_reducible refine w_call0 ?_ | with_reducible refine w_len ?_ | with_reducible refine w_sumM ?_ | with_reducible refine w_allM ?_ | with_reducible refine w_tuple ?_ | with_reducible refine w_abs ?_ | with_reducible refine w_toInt ?_ | with_reducible refine w_max2 ?_
  | with_reducible refine w_min2 ?_ | with_reducible refine t_test ?_ | with_reducible refine t_B ?_ | with_reducible refine t_and ?_ | with_reducible refine t_or ?_ | with_reducible refine t_not ?_ | with_reducible refine t_yes ?_
  | with_reducible refine w_andV ?_ | with_reducible refine w_orV ?_ | with_reducible refine w_notV ?_ | with_reducible refine w_if ?_ | with_reducible refine w_chain ?_ | with_reducible refine o_none ?_ | with_reducible refine o_some ?_
  | with_reducible refine w_slT ?_ | with_reducible refine w_slL ?_ | with_reducible refine w_catT ?_ | with_reducible refine w_catL ?_ | with_reducible refine w_dget ?_ | with_reducible refine w_din ?_ | with_reducible refine w_dnotin ?_ | with_reducible refine w_sortD ?_ | with_reducible refine w_sortI ?_ | with_reducible refine w_callq ?_ | with_reducible refine w_isB ?_
  | with_reducible refine w_notB ?_ | with_reducible refine g_name ?_ | refine gs_nil rfl ?_ | refine gs_cons rfl ?_ | with_reducible refine s_next ?_ | with_reducible refine s_seq ?_ | with_reducible refine s_asg ?_
  | with_reducible refine s_drop ?_ | with_reducible refine s_ret ?_ | with_reducible refine s_brk ?_ | with_reducible refine s_if ?_)
local macro_rules | `(tactic| walk_at "k28 x") => `(tactic| first
  | refine g_tup ⟨_, rfl, rfl, ?_⟩ | refine ⟨_, _, _, _, rfl, rfl, rfl, rfl, rfl, ?_⟩ | refine ⟨_, _, _, rfl, rfl, rfl, ?_⟩ | refine ⟨_, _, _, rfl, rfl, atI_nat (j := 0) rfl, ?_⟩ | refine ⟨_, _, _, rfl, ?_⟩ | refine ⟨_, _, rfl, rfl, by decide, ?_⟩ | refine ⟨_, _, rfl, rfl, ⟨by decide, by decide⟩, ?_⟩ | refine ⟨_, _, rfl, rfl, ⟨by decide, by decide, by decide⟩, ?_⟩ | refine ⟨_, _, rfl, rfl, .inl ⟨by decide, by decide⟩, ?_⟩ | refine ⟨_, _, rfl, rfl, .inr ⟨by decide, by decide⟩, ?_⟩ | refine ⟨_, _, rfl, rfl, ?_⟩ | refine ⟨_, _, rfl, ?_⟩ | refine ⟨_, (show undats _ = some _ from rfl), by simp, ?_⟩ | refine ⟨_, rfl, ?_⟩ | refine ⟨_, .inl rfl, ?_⟩ | refine ⟨_, .inr rfl, ?_⟩ | refine ⟨_, _, rfl, rfl, ?_, ?_⟩)
local macro_rules | `(tactic| walk_at "k28 t") => `(tactic| first | rw [if_pos (by decide)] | rw [if_neg (by decide)] | rw [if_pos (by simp)] | rw [if_neg (by simp)])
local macro_rules | `(tactic| walk_at "k28") => `(tactic| repeat (first | walk_at "k28 d" | walk_at "k28 x" | exact rfl))
local macro_rules | `(tactic| walk_at "k28 s") => `(tactic| repeat (first | (fail_if_success with_reducible refine s_if ?_); (first | walk_at "k28 d" | walk_at "k28 x" | exact rfl)))
local macro_rules | `(tactic| walk_at "k28 o") => `(tactic| first
  | with_reducible refine w_dnotinO ?_ | with_reducible refine w_dgetO ?_ | with_reducible refine w_dget2O ?_ | with_reducible refine w_lenO ?_ | with_reducible refine w_tupleO ?_ | with_reducible refine w_notInO ?_ | with_reducible refine w_ixO ?_ | with_reducible refine w_fld ?_
  | refine ⟨_, _, _, rfl, rfl, .of (.head _), ?_⟩ | refine ⟨_, _, _, rfl, rfl, .of (.tail _ (.head _)), ?_⟩ | refine ⟨_, _, rfl, .of (.head _), ?_⟩ | refine ⟨_, _, rfl, .of (.tail _ (.head _)), ?_⟩)
local macro_rules | `(tactic| walk_at "k28 w") => `(tactic| first | with_reducible refine m_next ?_ | with_reducible refine m_seq ?_ | with_reducible refine m_asg (x_dnew fun p => ?_) | with_reducible refine m_asg (x_dnewT fun p => ?_) | with_reducible refine m_asg (x_lst ?_) | with_reducible refine m_asgP ?_ | with_reducible refine m_if ?_ | with_reducible refine m_retP ?_)
local macro_rules | `(tactic| walk_at "k28 m") => `(tactic| repeat (first | walk_at "k28 w" | walk_at "k28 o" | walk_at "k28 d" | walk_at "k28 x" | exact rfl))
local macro_rules | `(tactic| walk_at "k28 g") => `(tactic| repeat (first | with_reducible refine w_take ?_ | with_reducible refine w_word ?_ | with_reducible refine w_calld ?_ | with_reducible refine w_callgq ?_ | with_reducible refine w_addS ?_ | with_reducible refine w_ixS ?_ | with_reducible refine w_catL ?_ | walk_at "k28 w" | walk_at "k28 d" | refine ⟨_, _, rfl, .head _, (by first | decide | omega | simp | (simp only [List.length_map]; omega)), fun (r : Int) (r1 : 0 ≤ r) (r2 : r < _) => ?_⟩ | refine ⟨_, rfl, fun (s : Str) (sw : Wdn 60 s) => ?_⟩ | walk_at "k28 x" | exact rfl))
local macro_rules | `(tactic| walk_at "k28 f") => `(tactic| first
  | refine wf (Txt.c_Source (by assumption)) (Txt.n_meter (by assumption)) rfl lk_meter ?_ | refine wf (Txt.c_Source (by assumption)) (Txt.n_offset (by assumption)) rfl lk_offset ?_ | refine wf (Txt.c_Source (by assumption)) (Txt.n_slots (by assumption)) rfl lk_slots ?_ | refine wf (Txt.c_Source (by assumption)) (Txt.n_closed_number (by assumption)) rfl lk_closed_number ?_ | refine wf (Txt.c_Source (by assumption)) (Txt.n_closed_stamp (by assumption)) rfl lk_closed_stamp ?_ | refine wf (Txt.c_Source (by assumption)) (Txt.n_due (by assumption)) rfl lk_due ?_)
local macro_rules | `(tactic| walk_at "k28 n") => `(tactic| repeat (first | walk_at "k28 w" | walk_at "k28 f" | walk_at "k28 d" | walk_at "k28 x" | exact rfl))
local macro_rules | `(tactic| walk_at "k28 p") => `(tactic| first
  | with_reducible refine w_lenO ?_ | with_reducible refine w_tupleO ?_ | with_reducible refine w_ixO ?_
  | refine ⟨_, _, rfl, .of (.tail _ (.head _)), ?_⟩ | refine ⟨_, _, rfl, .of (.tail _ (.tail _ (.head _))), ?_⟩)
local macro_rules | `(tactic| walk_at "k28 q") => `(tactic| repeat (first | walk_at "k28 w" | walk_at "k28 f" | walk_at "k28 p" | walk_at "k28 d" | walk_at "k28 x" | exact rfl))
section
variable {P : Program} {w : World} {K : PySem.W.Frag} {mg : Str → Option Value} {base : Heap}
structure GSrc where
  m : Meter
  off : Int
  a : Addr
  z : Sta
  rest : Gs
structure GMk extends GSrc where
  l : Let
def AMk (K : PySem.W.Frag) (g : GMk) (Γ : Gs) (es : List En1) : Prop := SrcIs K g.m g.off g.a g.z g.rest Γ ∧ es = [.raw (.ref g.a), .dat (Let.d g.m.name g.l)] ∧ PyData.strOk g.m.name = true ∧ g.z.due.length ≤ 1000
def SMk (K : PySem.W.Frag) (g : GMk) (Γ : Gs) (e : En1) : Prop := SrcIs K g.m g.off g.a { g.z with due := addDue g.z.due g.l } g.rest Γ ∧ e = .dat .none
def noR {ι : Type} (_ : ι) (_ : Gs) (_ : Value) : Prop := False
theorem sc_Source__make : FnScope ["self", "letter"] ["self", "letter"] (defScope s_Source__make) := ⟨rfl, rfl, rfl, by decide +kernel, rfl, by decide +kernel, by decide +kernel⟩
theorem om__make (T : Txt K mg) : OkM P w K mg base CX0 1 (He.ma K (He.ga K "Source") "_make") ["self", "letter"] (pso (AMk K) (SMk K) noR) := by
  obtain ⟨fd, F⟩ := T.F_Source__make
  refine ⟨⟨fd, ok_meth F sc_Source__make (fun g Γ es h => by rw [h.2.1]; rfl) (fun cdv A outer s H E hr => ⟨_, (pss_one (ps_if (pt_cmpR (kNotInD (K := K) rfl (hu65 hr)) (pv 1) (kFld (K := K) rfl (pv 0) rfl) (by rfl)) (pss_one (ps_expr (pe_bm PySem.F.plainAttrs_list PySem.F.slot_list_append PySem.F.type_list_append mt_append (kFld (K := K) rfl (pv 0) rfl) (pa_cons (pv 1) pa_nil)))) pss_nil)), fun g Γ es r => ?_⟩), (F.bindsN fun _ _ _ _ _ _ us hl => match us, hl with | [_, _], _ => rfl)⟩⟩
  obtain ⟨⟨m, off, a, ⟨ss, cn, cs, due⟩, rest⟩, l⟩ := g
  obtain ⟨⟨p, q, dx, vs, xs, ys, rfl⟩, rfl, so, hz⟩ := r
  dsimp only at so hz ⊢
  refine m_if (t_test (w_notInO ?_))
  walk_at "k28 d"
  walk_at "k28 f"
  refine ⟨_, _, _, rfl, rfl, .of (.tail _ (.tail _ (.head _))), shaped_let so l, (shaped_lets so due).2, ?_⟩
  rw [any_let]
  by_cases c : l ∈ due
  · rw [decide_eq_true c]
    refine ⟨_, rfl, ?_⟩
    rw [if_neg (by simp)]
    refine m_next ⟨⟨p, q, dx, vs, xs, ys, ?_⟩, rfl⟩
    unfold addDue
    rw [if_pos c]
  · rw [decide_eq_false c]
    refine ⟨_, rfl, ?_⟩
    rw [if_pos (by simp)]
    refine m_drop (x_append 2 ?_)
    walk_at "k28 f"
    refine ⟨_, _, _, rfl, rfl, ?_⟩
    walk_at "k28"
    refine ⟨by rw [List.length_map]; omega, fun xs' => ⟨⟨p, q, dx, vs, xs, xs', ?_⟩, rfl⟩⟩
    unfold addDue
    rw [if_neg c, List.map_append]
    rfl
theorem sc_Source__is_value : FnScope ["self", "value"] ["self", "value"] (defScope s_Source__is_value) := ⟨rfl, rfl, rfl, by decide +kernel, rfl, by decide +kernel, by decide +kernel⟩
structure GVal extends GSrc where
  v : Int
  G0 : Gs
def AVal (K : PySem.W.Frag) (g : GVal) (Γ : Gs) (es : List En1) : Prop := (SrcIs K g.m g.off g.a g.z g.rest Γ ∧ Γ = g.G0) ∧ es = [.raw (.ref g.a), .dat (.int g.v)]
def SVal (_ : PySem.W.Frag) (g : GVal) (Γ : Gs) (e : En1) : Prop := Γ = g.G0 ∧ e = .dat (.bool (decide (g.m.lo ≤ g.v) && decide (g.v ≤ g.m.hi)))
theorem om__is_value (T : Txt K mg) : OkM P w K mg base CX0 1 (He.ma K (He.ga K "Source") "_is_value") ["self", "value"] (pso (AVal K) (SVal K) noR) := by
  obtain ⟨fd, F⟩ := T.F_Source__is_value
  refine ⟨⟨fd, ok_meth F sc_Source__is_value (fun g Γ es h => by rw [h.2]; rfl) (fun cdv A outer s H E hr => ⟨_, (pss_one (ps_ret (pe_chain op_le op_le (pe_ix (kIxT (K := K) rfl) (kFld (K := K) rfl (pv 0) rfl) pe_int (fun _ _ => rfl)) (pv 1) (pe_ix (kIxT (K := K) rfl) (kFld (K := K) rfl (pv 0) rfl) pe_int (fun _ _ => rfl))))), fun g Γ es r => ?_⟩), (F.bindsN fun _ _ _ _ _ _ us hl => match us, hl with | [_, _], _ => rfl)⟩⟩
  obtain ⟨⟨m, off, a, ⟨ss, cn, cs, due⟩, rest⟩, v, G0⟩ := g
  obtain ⟨⟨⟨p, q, dx, vs, xs, ys, eG⟩, e0⟩, rfl⟩ := r
  dsimp only at eG e0 ⊢
  subst eG
  walk_at "k28 n"
  split
  · rename_i c
    walk_at "k28 n"
    refine ⟨e0, ?_⟩
    have c' : m.lo ≤ v := by simpa using c
    simp [c']
  · rename_i c
    refine ⟨e0, ?_⟩
    have c' : ¬ m.lo ≤ v := by simpa using c
    simp [c']
theorem sc_Source__need : FnScope ["self", "right", "why"] ["self", "right", "why"] (defScope s_Source__need) := ⟨rfl, rfl, rfl, by decide +kernel, rfl, by decide +kernel, by decide +kernel⟩
structure GNe extends GSrc where
  b : Bool
  why : Str
def ANe (K : PySem.W.Frag) (g : GNe) (Γ : Gs) (es : List En1) : Prop := SrcIs K g.m g.off g.a g.z g.rest Γ ∧ es = [.raw (.ref g.a), .dat (.bool g.b), .dat (.str g.why)]
def SNe (K : PySem.W.Frag) (g : GNe) (Γ : Gs) (e : En1) : Prop := SrcIs K g.m g.off g.a g.z g.rest Γ ∧ g.b = true
def RNe (K : PySem.W.Frag) (g : GNe) (Γ : Gs) (c : Value) : Prop := SrcIs K g.m g.off g.a g.z g.rest Γ ∧ g.b = false ∧ c = .ref (He.ga K "InvalidEntry")
theorem om__need (T : Txt K mg) : OkM P w K mg base (L2N.CX P w) 1 (He.ma K (He.ga K "Source") "_need") ["self", "right", "why"] (pso (ANe K) (SNe K) (RNe K)) := by
  obtain ⟨fd, F⟩ := T.F_Source__need
  refine ⟨⟨fd, ok_methX F sc_Source__need (fun g Γ es h => by rw [h.2]; rfl) (fun cdv A outer s H E hr => ⟨_, (pss_one (ps_if (pt_not (pt_val (pv 1))) (pss_one (ps_rzA (E := E) rfl (L2N.takes_of rfl rfl rfl rfl) (He.exc_ok T.x_InvalidEntry).1 T.g_InvalidEntry (He.exc_ok T.x_InvalidEntry).2.1 (raises_own (He.exc_ok T.x_InvalidEntry).2.2.1 (He.exc_ok T.x_InvalidEntry).2.2.2) (by rfl) (pv 2))) pss_nil)), fun g Γ es r => ?_⟩), (F.bindsN fun _ _ _ _ _ _ us hl => match us, hl with | [_, _, _], _ => rfl)⟩⟩
  obtain ⟨⟨m, off, a, z, rest⟩, b, why⟩ := g
  obtain ⟨h, rfl⟩ := r
  refine k_if ?_
  walk_at "k28"
  cases b with
  | true =>
    rw [if_neg (by simp)]
    exact k_of (m_next ⟨h, rfl⟩)
  | false =>
    rw [if_pos (by simp)]
    refine k_rzA ?_
    walk_at "k28"
    exact ⟨h, rfl, rfl⟩
end
end TW
/-! K28P18 -/
namespace TW
open PySem PySem.Spec PyProof.Rows L2
local macro_rules | `(tactic| walk_at "k28 d") => `(tactic| first
  | refine w_var rfl ?_ | with_reducible refine w_int ?_ | with_reducible refine w_str ?_ | with_reducible refine w_non ?_ | with_reducible refine w_bl ?_
  | with_reducible refine w_ixT ?_ | with_reducible refine w_ixL ?_ | with_reducible refine w_add ?_ | with_reducible refine w_sub ?_ | with_reducible refine w_eq ?_ | with_reducible refine w_ne ?_ | with_reducible refine w_lt ?_
  | with_reducible refine w_leq ?_ | with_reducible refine w_gt ?_ | with_reducible refine w_ge ?_ | with_reducible refine w_mul ?_ | with_reducible refine w_div ?_ | with_reducible refine w_mod ?_ | with_reducible refine w_pow ?_
  | with_reducible refine w_neg ?_ | with_reducible refine w_isN ?_ | with_reducible refine w_notN ?_ | with_reducible refine a_nil ?_ | with_reducible refine a_cons ?_ | with_reducible refine w_tup ?_ | with_reducible refine w_lst ?_
  | with_reducible refine w_call0 ?_ | with_reducible refine w_len ?_ | with_reducible refine w_sumM ?_ | with_reducible refine w_allM ?_ | with_reducible refine w_tuple ?_ | with_reducible refine w_abs ?_ | with_reducible refine w_toInt ?_ | with_reducible refine w_max2 ?_
  | with_reducible refine w_min2 ?_ | with_reducible refine t_test ?_ | with_reducible refine t_B ?_ | with_reducible refine t_and ?_ | with_reducible refine t_or ?_ | with_reducible refine t_not ?_ | with_reducible refine t_yes ?_
  | with_reducible refine w_andV ?_ | with_reducible refine w_orV ?_ | with_reducible refine w_notV ?_ | with_reducible refine w_if ?_ | with_reducible refine w_chain ?_ | with_reducible refine o_none ?_ | with_reducible refine o_some ?_
  | with_reducible refine w_slT ?_ | with_reducible refine w_slL ?_ | with_reducible refine w_catT ?_ | with_reducible refine w_catL ?_ | with_reducible refine w_dget ?_ | with_reducible refine w_din ?_ | with_reducible refine w_dnotin ?_ | with_reducible refine w_sortD ?_ | with_reducible refine w_sortI ?_ | with_reducible refine w_callq ?_ | with_reducible refine w_isB ?_
  | with_reducible refine w_notB ?_ | with_reducible refine g_name ?_ | refine gs_nil rfl ?_ | refine gs_cons rfl ?_ | with_reducible refine s_next ?_ | with_reducible refine s_seq ?_ | with_reducible refine s_asg ?_
  | with_reducible refine s_drop ?_ | with_reducible refine s_ret ?_ | with_reducible refine s_brk ?_ | with_reducible refine s_if ?_)
local macro_rules | `(tactic| walk_at "k28 x") => `(tactic| first
  | refine g_tup ⟨_, rfl, rfl, ?_⟩ | refine ⟨_, _, _, _, rfl, rfl, rfl, rfl, rfl, ?_⟩ | refine ⟨_, _, _, rfl, rfl, rfl, ?_⟩ | refine ⟨_, _, _, rfl, rfl, atI_nat (j := 0) rfl, ?_⟩ | refine ⟨_, _, _, rfl, ?_⟩ | refine ⟨_, _, rfl, rfl, by decide, ?_⟩ | refine ⟨_, _, rfl, rfl, ⟨by decide, by decide⟩, ?_⟩ | refine ⟨_, _, rfl, rfl, ⟨by decide, by decide, by decide⟩, ?_⟩ | refine ⟨_, _, rfl, rfl, .inl ⟨by decide, by decide⟩, ?_⟩ | refine ⟨_, _, rfl, rfl, .inr ⟨by decide, by decide⟩, ?_⟩ | refine ⟨_, _, rfl, rfl, ?_⟩ | refine ⟨_, _, rfl, ?_⟩ | refine ⟨_, (show undats _ = some _ from rfl), by simp, ?_⟩ | refine ⟨_, rfl, ?_⟩ | refine ⟨_, .inl rfl, ?_⟩ | refine ⟨_, .inr rfl, ?_⟩ | refine ⟨_, _, rfl, rfl, ?_, ?_⟩)
local macro_rules | `(tactic| walk_at "k28 t") => `(tactic| first | rw [if_pos (by decide)] | rw [if_neg (by decide)] | rw [if_pos (by simp)] | rw [if_neg (by simp)])
local macro_rules | `(tactic| walk_at "k28") => `(tactic| repeat (first | walk_at "k28 d" | walk_at "k28 x" | exact rfl))
local macro_rules | `(tactic| walk_at "k28 s") => `(tactic| repeat (first | (fail_if_success with_reducible refine s_if ?_); (first | walk_at "k28 d" | walk_at "k28 x" | exact rfl)))
local macro_rules | `(tactic| walk_at "k28 o") => `(tactic| first
  | with_reducible refine w_dnotinO ?_ | with_reducible refine w_dgetO ?_ | with_reducible refine w_dget2O ?_ | with_reducible refine w_lenO ?_ | with_reducible refine w_tupleO ?_ | with_reducible refine w_notInO ?_ | with_reducible refine w_ixO ?_ | with_reducible refine w_fld ?_
  | refine ⟨_, _, _, rfl, rfl, .of (.head _), ?_⟩ | refine ⟨_, _, _, rfl, rfl, .of (.tail _ (.head _)), ?_⟩ | refine ⟨_, _, rfl, .of (.head _), ?_⟩ | refine ⟨_, _, rfl, .of (.tail _ (.head _)), ?_⟩)
local macro_rules | `(tactic| walk_at "k28 w") => `(tactic| first | with_reducible refine m_next ?_ | with_reducible refine m_seq ?_ | with_reducible refine m_asg (x_dnew fun p => ?_) | with_reducible refine m_asg (x_dnewT fun p => ?_) | with_reducible refine m_asg (x_lst ?_) | with_reducible refine m_asgP ?_ | with_reducible refine m_if ?_ | with_reducible refine m_retP ?_)
local macro_rules | `(tactic| walk_at "k28 m") => `(tactic| repeat (first | walk_at "k28 w" | walk_at "k28 o" | walk_at "k28 d" | walk_at "k28 x" | exact rfl))
local macro_rules | `(tactic| walk_at "k28 g") => `(tactic| repeat (first | with_reducible refine w_take ?_ | with_reducible refine w_word ?_ | with_reducible refine w_calld ?_ | with_reducible refine w_callgq ?_ | with_reducible refine w_addS ?_ | with_reducible refine w_ixS ?_ | with_reducible refine w_catL ?_ | walk_at "k28 w" | walk_at "k28 d" | refine ⟨_, _, rfl, .head _, (by first | decide | omega | simp | (simp only [List.length_map]; omega)), fun (r : Int) (r1 : 0 ≤ r) (r2 : r < _) => ?_⟩ | refine ⟨_, rfl, fun (s : Str) (sw : Wdn 60 s) => ?_⟩ | walk_at "k28 x" | exact rfl))
local macro_rules | `(tactic| walk_at "k28 f") => `(tactic| first
  | refine wf (Txt.c_Source (by assumption)) (Txt.n_meter (by assumption)) rfl lk_meter ?_ | refine wf (Txt.c_Source (by assumption)) (Txt.n_offset (by assumption)) rfl lk_offset ?_ | refine wf (Txt.c_Source (by assumption)) (Txt.n_slots (by assumption)) rfl lk_slots ?_ | refine wf (Txt.c_Source (by assumption)) (Txt.n_closed_number (by assumption)) rfl lk_closed_number ?_ | refine wf (Txt.c_Source (by assumption)) (Txt.n_closed_stamp (by assumption)) rfl lk_closed_stamp ?_ | refine wf (Txt.c_Source (by assumption)) (Txt.n_due (by assumption)) rfl lk_due ?_)
local macro_rules | `(tactic| walk_at "k28 n") => `(tactic| repeat (first | walk_at "k28 w" | walk_at "k28 f" | walk_at "k28 d" | walk_at "k28 x" | exact rfl))
local macro_rules | `(tactic| walk_at "k28 p") => `(tactic| first
  | with_reducible refine w_lenO ?_ | with_reducible refine w_tupleO ?_ | with_reducible refine w_ixO ?_
  | refine ⟨_, _, rfl, .of (.tail _ (.head _)), ?_⟩ | refine ⟨_, _, rfl, .of (.tail _ (.tail _ (.head _))), ?_⟩)
local macro_rules | `(tactic| walk_at "k28 q") => `(tactic| repeat (first | walk_at "k28 w" | walk_at "k28 f" | walk_at "k28 p" | walk_at "k28 d" | walk_at "k28 x" | exact rfl))
section
variable {P : Program} {w : World} {K : PySem.W.Frag} {mg : Str → Option Value} {base : Heap}
theorem sc_Source_log : FnScope ["self"] ["self"] (defScope s_Source_log) := ⟨rfl, rfl, rfl, by decide +kernel, rfl, by decide +kernel, by decide +kernel⟩
structure GLo extends GSrc where
  G0 : Gs
def ASl (K : PySem.W.Frag) (g : GLo) (Γ : Gs) (es : List En1) : Prop := (SrcIs K g.m g.off g.a g.z g.rest Γ ∧ Γ = g.G0) ∧ es = [.raw (.ref g.a)]
def SLo (_ : PySem.W.Frag) (g : GLo) (Γ : Gs) (e : En1) : Prop := Γ = g.G0 ∧ e = .dat (Log.d ⟨g.m.name, g.off, g.z.ss⟩)
theorem om_log (T : Txt K mg) : OkM P w K mg base CX0 1 (He.ma K (He.ga K "Source") "log") ["self"] (pso (ASl K) (SLo K) noR) := by
  obtain ⟨fd, F⟩ := T.F_Source_log
  refine ⟨⟨fd, ok_meth F sc_Source_log (fun g Γ es h => by rw [h.2]; rfl) (fun cdv A outer s H E hr => ⟨_, (pss_one (ps_ret (pe_tup (pa_cons (pe_ix (kIxT (K := K) rfl) (kFld (K := K) rfl (pv 0) rfl) pe_int (fun _ _ => rfl)) (pa_cons (kFld (K := K) rfl (pv 0) rfl) (pa_cons (pe_callTy (kTuple (K := K) rfl) (by rfl) T.f_tuple (by decide +kernel) (pa_cons (kFld (K := K) rfl (pv 0) rfl) pa_nil)) pa_nil)))))), fun g Γ es r => ?_⟩), (F.bindsN fun _ _ _ _ _ _ us hl => match us, hl with | [_], _ => rfl)⟩⟩
  obtain ⟨⟨m, off, a, ⟨ss, cn, cs, due⟩, rest⟩, G0⟩ := g
  obtain ⟨⟨⟨p, q, dx, vs, xs, ys, eG⟩, e0⟩, rfl⟩ := r
  dsimp only at eG e0 ⊢
  subst eG
  walk_at "k28 q"
  exact ⟨e0, rfl⟩
theorem sc_Source_due : FnScope ["self"] ["self"] (defScope s_Source_due) := ⟨rfl, rfl, rfl, by decide +kernel, rfl, by decide +kernel, by decide +kernel⟩
def SDu (_ : PySem.W.Frag) (g : GLo) (Γ : Gs) (e : En1) : Prop := Γ = g.G0 ∧ e = .dat (.tuple (g.z.due.map (Let.d g.m.name)))
theorem om_due (T : Txt K mg) : OkM P w K mg base CX0 1 (He.ma K (He.ga K "Source") "due") ["self"] (pso (ASl K) (SDu K) noR) := by
  obtain ⟨fd, F⟩ := T.F_Source_due
  refine ⟨⟨fd, ok_meth F sc_Source_due (fun g Γ es h => by rw [h.2]; rfl) (fun cdv A outer s H E hr => ⟨_, (pss_one (ps_ret (pe_callTy (kTuple (K := K) rfl) (by rfl) T.f_tuple (by decide +kernel) (pa_cons (kFld (K := K) rfl (pv 0) rfl) pa_nil)))), fun g Γ es r => ?_⟩), (F.bindsN fun _ _ _ _ _ _ us hl => match us, hl with | [_], _ => rfl)⟩⟩
  obtain ⟨⟨m, off, a, ⟨ss, cn, cs, due⟩, rest⟩, G0⟩ := g
  obtain ⟨⟨⟨p, q, dx, vs, xs, ys, eG⟩, e0⟩, rfl⟩ := r
  dsimp only at eG e0 ⊢
  subst eG
  walk_at "k28 q"
  exact ⟨e0, rfl⟩
theorem sc_Source__need_open : FnScope ["self", "slot"] ["self", "slot"] (defScope s_Source__need_open) := ⟨rfl, rfl, rfl, by decide +kernel, rfl, by decide +kernel, by decide +kernel⟩
structure GNo extends GSrc where
  s : Int
def ANo (K : PySem.W.Frag) (g : GNo) (Γ : Gs) (es : List En1) : Prop := SrcIs K g.m g.off g.a g.z g.rest Γ ∧ es = [.raw (.ref g.a), .dat (.int g.s)]
def SNo (K : PySem.W.Frag) (g : GNo) (Γ : Gs) (e : En1) : Prop := SrcIs K g.m g.off g.a g.z g.rest Γ ∧ ¬ (g.s < 1 ∨ (g.z.ss.length : Int) < g.s) ∧ ¬ g.s ≤ g.z.cn
def RNo (K : PySem.W.Frag) (g : GNo) (Γ : Gs) (c : Value) : Prop := SrcIs K g.m g.off g.a g.z g.rest Γ ∧ (((g.s < 1 ∨ (g.z.ss.length : Int) < g.s) ∧ c = .ref (He.ga K "NoSlot")) ∨ (¬ (g.s < 1 ∨ (g.z.ss.length : Int) < g.s) ∧ g.s ≤ g.z.cn ∧ c = .ref (He.ga K "Closed")))
theorem om__need_open (T : Txt K mg) : OkM P w K mg base (L2N.CX P w) 1 (He.ma K (He.ga K "Source") "_need_open") ["self", "slot"] (pso (ANo K) (SNo K) (RNo K)) := by
  obtain ⟨fd, F⟩ := T.F_Source__need_open
  refine ⟨⟨fd, ok_methX F sc_Source__need_open (fun g Γ es h => by rw [h.2]; rfl) (fun cdv A outer s H E hr => ⟨_, (pss_cons (ps_if (PW.pt (pw_or (pt_cmpR op_lt (pv 1) pe_int (nomark _)) (pw_or1 (pt_cmpR op_gt (pv 1) (pe_callB (kLen (K := K) rfl) (by rfl) T.f_len (by decide +kernel) (pa_cons (kFld (K := K) rfl (pv 0) rfl) pa_nil)) (nomark _))))) (pss_one (ps_rz (E := E) rfl (L2N.takes_of rfl rfl rfl rfl) (He.exc_ok T.x_NoSlot).1 T.g_NoSlot (He.exc_ok T.x_NoSlot).2.1 (raises_own (He.exc_ok T.x_NoSlot).2.2.1 (He.exc_ok T.x_NoSlot).2.2.2) (by rfl))) pss_nil) (pss_one (ps_if (pt_cmpR op_le (pv 1) (kFld (K := K) rfl (pv 0) rfl) (nomark _)) (pss_one (ps_rz (E := E) rfl (L2N.takes_of rfl rfl rfl rfl) (He.exc_ok T.x_Closed).1 T.g_Closed (He.exc_ok T.x_Closed).2.1 (raises_own (He.exc_ok T.x_Closed).2.2.1 (He.exc_ok T.x_Closed).2.2.2) (by rfl))) pss_nil))), fun g Γ es r => ?_⟩), (F.bindsN fun _ _ _ _ _ _ us hl => match us, hl with | [_, _], _ => rfl)⟩⟩
  obtain ⟨⟨m, off, a, ⟨ss, cn, cs, due⟩, rest⟩, s⟩ := g
  obtain ⟨⟨p, q, dx, vs, xs, ys, rfl⟩, rfl⟩ := r
  dsimp only
  refine k_seq (k_if (t_is (decide (s < 1 ∨ (ss.length : Int) < s)) ?_ ?_))
  · walk_at "k28"
    by_cases c3 : s < 1
    · rw [if_pos (by simpa using c3)]
      simp [c3]
    · rw [if_neg (by simpa using c3)]
      walk_at "k28 q"
      rw [List.length_map]
      exact decide_eq_decide.mpr (by omega)
  by_cases c : s < 1 ∨ (ss.length : Int) < s
  · rw [decide_eq_true c, if_pos rfl]
    exact k_rz ⟨⟨p, q, dx, vs, xs, ys, rfl⟩, .inl ⟨c, rfl⟩⟩
  rw [decide_eq_false c, if_neg (by simp)]
  refine k_of (m_next (k_if ?_))
  walk_at "k28 n"
  split
  · rename_i c2
    exact k_rz ⟨⟨p, q, dx, vs, xs, ys, rfl⟩, .inr ⟨c, by simpa using c2, rfl⟩⟩
  · rename_i c2
    exact k_of (m_next ⟨⟨p, q, dx, vs, xs, ys, rfl⟩, c, by simpa using c2⟩)
theorem sc_Source__add : FnScope ["self", "slot", "value", "stamp", "versions"] ["self", "slot", "value"] (defScope s_Source__add) := ⟨rfl, rfl, rfl, by decide +kernel, rfl, by decide +kernel, by decide +kernel⟩
structure GAd extends GSrc where
  s : Int
  x : Option Int
def AAd (K : PySem.W.Frag) (g : GAd) (Γ : Gs) (es : List En1) : Prop := SrcIs K g.m g.off g.a g.z g.rest Γ ∧ es = [.raw (.ref g.a), .dat (.int g.s), .dat (optD g.x)] ∧ PyData.strOk g.m.name = true ∧ SmSta g.z ∧ ¬ (g.s < 1 ∨ (g.z.ss.length : Int) < g.s)
def SAd (K : PySem.W.Frag) (g : GAd) (Γ : Gs) (e : En1) : Prop := SrcIs K g.m g.off g.a (newVer g.z g.s g.x) g.rest Γ ∧ e = .dat .none
theorem om__add (T : Txt K mg) : OkM P w K mg base CX0 2 (He.ma K (He.ga K "Source") "_add") ["self", "slot", "value"] (pso (AAd K) (SAd K) noR) := by
  obtain ⟨fd, F⟩ := T.F_Source__add
  have om__make := om__make (P := P) (w := w) (base := base) T
  refine ⟨⟨fd, ok_meth F sc_Source__add (fun g Γ es h => by rw [h.2.1]; rfl) (fun cdv A outer s H E hr => ⟨_, (pss_cons (ps_asg (pe_ix (kIxL (K := K) rfl) (kFld (K := K) rfl (pv 0) rfl) (pe_op op_sub (pv 1) pe_int) (fun _ _ => rfl)) (kgTup (K := K) (n := 2) rfl rfl (pgs_cons (pg_name (i := 3) sc_Source__add.nd rfl (Or.inl rfl)) (pgs_cons (pg_name (i := 4) sc_Source__add.nd rfl (Or.inl rfl)) pgs_nil)))) (pss_cons (ps_asg (pe_tup (pa_cons (pv 3) (pa_cons (pe_op (kCatT (K := K) rfl) (pv 4) (pe_tup (pa_cons (pv 2) pa_nil))) pa_nil))) (pg_sub (kFld (K := K) rfl (pv 0) rfl) (pe_op op_sub (pv 1) pe_int) set_list)) (pss_one (ps_expr (pe_okm om__make (pv 0) T.c_Source T.m__make hr (by decide) pass0 (pa_cons (pe_tup (pa_cons pe_str (pa_cons (pe_ix (kIxT (K := K) rfl) (kFld (K := K) rfl (pv 0) rfl) pe_int (fun _ _ => rfl)) (pa_cons (pv 1) (pa_cons (pe_callB (kLen (K := K) rfl) (by rfl) T.f_len (by decide +kernel) (pa_cons (pv 4) pa_nil)) (pa_cons (pv 3) (pa_cons (pv 2) pa_nil))))))) pa_nil)))))), fun g Γ es r => ?_⟩), (F.bindsN fun _ _ _ _ _ _ us hl => match us, hl with | [_, _, _], _ => rfl)⟩⟩
  obtain ⟨⟨m, off, a, ⟨ss, cn, cs, due⟩, rest⟩, s, x⟩ := g
  obtain ⟨⟨p, q, dx, vs, xs, ys, rfl⟩, rfl, so, sm, hb⟩ := r
  have z1 := sm.ss
  have z2 := sm.due
  dsimp only at so z1 z2 hb ⊢
  obtain ⟨i, hi⟩ : ∃ i : Nat, s - 1 = i := ⟨(s - 1).toNat, by omega⟩
  have il : i < ss.length := by omega
  obtain ⟨sl, hs⟩ : ∃ sl, ss[i]? = some sl := ⟨ss[i], List.getElem?_eq_getElem il⟩
  have hsd : (ss.map slotD)[i]? = some (slotD sl) := by rw [List.getElem?_map, hs]; rfl
  have at1 : atI (ss.map slotD) (s - 1) = some (slotD sl) := atI_of hi hsd
  have sv := sm.vs sl (List.mem_of_getElem? hs)
  walk_at "k28 q"
  refine ⟨_, _, _, _, rfl, .of (.tail _ (.head _)), rfl, at1, ?_⟩
  refine g_tup ⟨_, rfl, rfl, gs_cons rfl (gs_cons rfl (gs_nil rfl ?_))⟩
  refine m_seq (m_setL 1 ?_)
  walk_at "k28 q"
  refine ⟨by rw [List.length_map, sizeLine_eq]; simp; omega, ?_⟩
  walk_at "k28 q"
  have ixe : ixN (ss.map slotD).length (s - 1) = some i := by
    unfold ixN
    rw [hi, if_pos (by omega), List.length_map, if_pos (by omega)]
    rfl
  refine ⟨_, _, _, _, _, i, rfl, rfl, rfl, rfl, ixe, fun xs' => ?_⟩
  have es : ((ss.map slotD).set i (.tuple [.int sl.1, .tuple (sl.2.map optD ++ [optD x])])) = (ss.set i (sl.1, sl.2 ++ [x])).map slotD := by
    rw [List.map_set]
    simp only [slotD, List.map_append, List.map_cons, List.map_nil]
  have nv : newVer ⟨ss, cn, cs, due⟩ s x = ⟨ss.set i (sl.1, sl.2 ++ [x]), cn, cs, addDue due (.read s.toNat sl.2.length sl.1 x)⟩ := by
    have ei : (s - 1).toNat = i := by omega
    unfold newVer putVer
    simp only [ei, hs]
  refine m_drop (x_meth ?_)
  refine w_var rfl ⟨_, _, _, _, rfl, .head _, lk_none (by decide), ?_⟩
  walk_at "k28 n"
  refine ⟨⟨⟨m, off, a, ⟨ss.set i (sl.1, sl.2 ++ [x]), cn, cs, due⟩, rest⟩, .read s.toNat sl.2.length sl.1 x⟩, ⟨⟨p, q, dx, vs, xs', ys, ?_⟩, ?_, so, z2⟩, fun Γ' e h => ?_, fun _ _ h => h⟩
  · show _ :: (p, Cell.l xs' ((ss.map slotD).set i (.tuple [.int sl.1, .tuple (sl.2.map optD ++ [optD x])]))) :: _ = _
    rw [es]
  · simp only [Let.d]
    rw [show ((s.toNat : Nat) : Int) = s from by omega, List.length_map]
  · obtain ⟨h1, rfl⟩ := h
    show SAd K _ _ _
    unfold SAd
    rw [nv]
    exact ⟨h1, rfl⟩
end
end TW
/-! K28P19 -/
namespace TW
open PySem PySem.Spec PyProof.Rows L2
local macro_rules | `(tactic| walk_at "k28 d") => `(tactic| first
  | refine w_var rfl ?_ | with_reducible refine w_int ?_ | with_reducible refine w_str ?_ | with_reducible refine w_non ?_ | with_reducible refine w_bl ?_
  | with_reducible refine w_ixT ?_ | with_reducible refine w_ixL ?_ | with_reducible refine w_add ?_ | with_reducible refine w_sub ?_ | with_reducible refine w_eq ?_ | with_reducible refine w_ne ?_ | with_reducible refine w_lt ?_
  | with_reducible refine w_leq ?_ | with_reducible refine w_gt ?_ | with_reducible refine w_ge ?_ | with_reducible refine w_mul ?_ | with_reducible refine w_div ?_ | with_reducible refine w_mod ?_ | with_reducible refine w_pow ?_
  | with_reducible refine w_neg ?_ | with_reducible refine w_isN ?_ | with_reducible refine w_notN ?_ | with_reducible refine a_nil ?_ | with_reducible refine a_cons ?_ | with_reducible refine w_tup ?_ | with_reducible refine w_lst ?_
  | with_reducible refine w_call0 ?_ | with_reducible refine w_len ?_ | with_reducible refine w_sumM ?_ | with_reducible refine w_allM ?_ | with_reducible refine w_tuple ?_ | with_reducible refine w_abs ?_ | with_reducible refine w_toInt ?_ | with_reducible refine w_max2 ?_
  | with_reducible refine w_min2 ?_ | with_reducible refine t_test ?_ | with_reducible refine t_B ?_ | with_reducible refine t_and ?_ | with_reducible refine t_or ?_ | with_reducible refine t_not ?_ | with_reducible refine t_yes ?_
  | with_reducible refine w_andV ?_ | with_reducible refine w_orV ?_ | with_reducible refine w_notV ?_ | with_reducible refine w_if ?_ | with_reducible refine w_chain ?_ | with_reducible refine o_none ?_ | with_reducible refine o_some ?_
  | with_reducible refine w_slT ?_ | with_reducible refine w_slL ?_ | with_reducible refine w_catT ?_ | with_reducible refine w_catL ?_ | with_reducible refine w_dget ?_ | with_reducible refine w_din ?_ | with_reducible refine w_dnotin ?_ | with_reducible refine w_sortD ?_ | with_reducible refine w_sortI ?_ | with_reducible refine w_callq ?_ | with_reducible refine w_isB ?_
  | with_reducible refine w_notB ?_ | with_reducible refine g_name ?_ | refine gs_nil rfl ?_ | refine gs_cons rfl ?_ | with_reducible refine s_next ?_ | with_reducible refine s_seq ?_ | with_reducible refine s_asg ?_
  | with_reducible refine s_drop ?_ | with_reducible refine s_ret ?_ | with_reducible refine s_brk ?_ | with_reducible refine s_if ?_)
local macro_rules | `(tactic| walk_at "k28 x") => `(tactic| first
  | refine g_tup ⟨_, rfl, rfl, ?_⟩ | refine ⟨_, _, _, _, rfl, rfl, rfl, rfl, rfl, ?_⟩ | refine ⟨_, _, _, rfl, rfl, rfl, ?_⟩ | refine ⟨_, _, _, rfl, rfl, atI_nat (j := 0) rfl, ?_⟩ | refine ⟨_, _, _, rfl, ?_⟩ | refine ⟨_, _, rfl, rfl, by decide, ?_⟩ | refine ⟨_, _, rfl, rfl, ⟨by decide, by decide⟩, ?_⟩ | refine ⟨_, _, rfl, rfl, ⟨by decide, by decide, by decide⟩, ?_⟩ | refine ⟨_, _, rfl, rfl, .inl ⟨by decide, by decide⟩, ?_⟩ | refine ⟨_, _, rfl, rfl, .inr ⟨by decide, by decide⟩, ?_⟩ | refine ⟨_, _, rfl, rfl, ?_⟩ | refine ⟨_, _, rfl, ?_⟩ | refine ⟨_, (show undats _ = some _ from rfl), by simp, ?_⟩ | refine ⟨_, rfl, ?_⟩ | refine ⟨_, .inl rfl, ?_⟩ | refine ⟨_, .inr rfl, ?_⟩ | refine ⟨_, _, rfl, rfl, ?_, ?_⟩)
local macro_rules | `(tactic| walk_at "k28 t") => `(tactic| first | rw [if_pos (by decide)] | rw [if_neg (by decide)] | rw [if_pos (by simp)] | rw [if_neg (by simp)])
local macro_rules | `(tactic| walk_at "k28") => `(tactic| repeat (first | walk_at "k28 d" | walk_at "k28 x" | exact rfl))
local macro_rules | `(tactic| walk_at "k28 s") => `(tactic| repeat (first | (fail_if_success with_reducible refine s_if ?_); (first | walk_at "k28 d" | walk_at "k28 x" | exact rfl)))
local macro_rules | `(tactic| walk_at "k28 o") => `(tactic| first
  | with_reducible refine w_dnotinO ?_ | with_reducible refine w_dgetO ?_ | with_reducible refine w_dget2O ?_ | with_reducible refine w_lenO ?_ | with_reducible refine w_tupleO ?_ | with_reducible refine w_notInO ?_ | with_reducible refine w_ixO ?_ | with_reducible refine w_fld ?_
  | refine ⟨_, _, _, rfl, rfl, .of (.head _), ?_⟩ | refine ⟨_, _, _, rfl, rfl, .of (.tail _ (.head _)), ?_⟩ | refine ⟨_, _, rfl, .of (.head _), ?_⟩ | refine ⟨_, _, rfl, .of (.tail _ (.head _)), ?_⟩)
local macro_rules | `(tactic| walk_at "k28 w") => `(tactic| first | with_reducible refine m_next ?_ | with_reducible refine m_seq ?_ | with_reducible refine m_asg (x_dnew fun p => ?_) | with_reducible refine m_asg (x_dnewT fun p => ?_) | with_reducible refine m_asg (x_lst ?_) | with_reducible refine m_asgP ?_ | with_reducible refine m_if ?_ | with_reducible refine m_retP ?_)
local macro_rules | `(tactic| walk_at "k28 m") => `(tactic| repeat (first | walk_at "k28 w" | walk_at "k28 o" | walk_at "k28 d" | walk_at "k28 x" | exact rfl))
local macro_rules | `(tactic| walk_at "k28 g") => `(tactic| repeat (first | with_reducible refine w_take ?_ | with_reducible refine w_word ?_ | with_reducible refine w_calld ?_ | with_reducible refine w_callgq ?_ | with_reducible refine w_addS ?_ | with_reducible refine w_ixS ?_ | with_reducible refine w_catL ?_ | walk_at "k28 w" | walk_at "k28 d" | refine ⟨_, _, rfl, .head _, (by first | decide | omega | simp | (simp only [List.length_map]; omega)), fun (r : Int) (r1 : 0 ≤ r) (r2 : r < _) => ?_⟩ | refine ⟨_, rfl, fun (s : Str) (sw : Wdn 60 s) => ?_⟩ | walk_at "k28 x" | exact rfl))
local macro_rules | `(tactic| walk_at "k28 f") => `(tactic| first
  | refine wf (Txt.c_Source (by assumption)) (Txt.n_meter (by assumption)) rfl lk_meter ?_ | refine wf (Txt.c_Source (by assumption)) (Txt.n_offset (by assumption)) rfl lk_offset ?_ | refine wf (Txt.c_Source (by assumption)) (Txt.n_slots (by assumption)) rfl lk_slots ?_ | refine wf (Txt.c_Source (by assumption)) (Txt.n_closed_number (by assumption)) rfl lk_closed_number ?_ | refine wf (Txt.c_Source (by assumption)) (Txt.n_closed_stamp (by assumption)) rfl lk_closed_stamp ?_ | refine wf (Txt.c_Source (by assumption)) (Txt.n_due (by assumption)) rfl lk_due ?_)
local macro_rules | `(tactic| walk_at "k28 n") => `(tactic| repeat (first | walk_at "k28 w" | walk_at "k28 f" | walk_at "k28 d" | walk_at "k28 x" | exact rfl))
local macro_rules | `(tactic| walk_at "k28 p") => `(tactic| first
  | with_reducible refine w_lenO ?_ | with_reducible refine w_tupleO ?_ | with_reducible refine w_ixO ?_
  | refine ⟨_, _, rfl, .of (.tail _ (.head _)), ?_⟩ | refine ⟨_, _, rfl, .of (.tail _ (.tail _ (.head _))), ?_⟩)
local macro_rules | `(tactic| walk_at "k28 q") => `(tactic| repeat (first | walk_at "k28 w" | walk_at "k28 f" | walk_at "k28 p" | walk_at "k28 d" | walk_at "k28 x" | exact rfl))
section
variable {P : Program} {w : World} {K : PySem.W.Frag} {mg : Str → Option Value} {base : Heap}
structure GDd extends GSrc where
  dd : Deed
def SDd (K : PySem.W.Frag) (g : GDd) (Γ : Gs) (e : En1) : Prop := (aft g.m g.off g.z g.dd).1 = Str.ofString "" ∧ SrcIs K g.m g.off g.a (aft g.m g.off g.z g.dd).2 g.rest Γ ∧ ∃ d, e = .dat d
def RDd (K : PySem.W.Frag) (g : GDd) (Γ : Gs) (c : Value) : Prop := SrcIs K g.m g.off g.a g.z g.rest Γ ∧ ∃ nm : Str, (nm = Str.ofString "InvalidEntry" ∨ nm = Str.ofString "NoSlot" ∨ nm = Str.ofString "Closed") ∧ aft g.m g.off g.z g.dd = (nm, g.z) ∧ c = .ref (He.ga K nm)
theorem sc_Source_record : FnScope ["self", "stamp", "value"] ["self", "stamp", "value"] (defScope s_Source_record) := ⟨rfl, rfl, rfl, by decide +kernel, rfl, by decide +kernel, by decide +kernel⟩
def ARe (K : PySem.W.Frag) (g : GDd) (Γ : Gs) (es : List En1) : Prop := SrcIs K g.m g.off g.a g.z g.rest Γ ∧ (∃ st v, g.dd = .record st v ∧ es = [.raw (.ref g.a), .dat (.int st), .dat (.int v)]) ∧ PyData.strOk g.m.name = true ∧ SmSta g.z
theorem om_record (T : Txt K mg) : OkM P w K mg base (L2N.CX P w) 2 (He.ma K (He.ga K "Source") "record") ["self", "stamp", "value"] (pso (ARe K) (SDd K) (RDd K)) := by
  obtain ⟨fd, F⟩ := T.F_Source_record
  have om__make := om__make (P := P) (w := w) (base := base) T
  have om__need := om__need (P := P) (w := w) (base := base) T
  have om__is_value := om__is_value (P := P) (w := w) (base := base) T
  refine ⟨⟨fd, ok_methX F sc_Source_record (fun g Γ es h => by obtain ⟨_, ⟨st, v, _, h⟩, _⟩ := h; rw [h]; rfl) (fun cdv A outer s H E hr => ⟨_, (pss_cons (ps_expr (pe_okm om__need (pv 0) T.c_Source T.m__need hr (by decide) (L2N.passes_call (L2N.takes_of rfl rfl rfl rfl) (fun _ _ _ _ h => h)) (pa_cons (pe_okm om__is_value (pv 0) T.c_Source T.m__is_value hr (by decide) pass0 (pa_cons (pv 2) pa_nil)) (pa_cons pe_str pa_nil)))) (pss_cons (ps_if (pt_cmpR op_gt (pe_callB (kLen (K := K) rfl) (by rfl) T.f_len (by decide +kernel) (pa_cons (kFld (K := K) rfl (pv 0) rfl) pa_nil)) pe_int (nomark _)) (pss_one (ps_expr (pe_okm om__need (pv 0) T.c_Source T.m__need hr (by decide) (L2N.passes_call (L2N.takes_of rfl rfl rfl rfl) (fun _ _ _ _ h => h)) (pa_cons (pe_cmpR op_ge (pv 1) (pe_ix (kIxT (K := K) rfl) (pe_ix (kIxL (K := K) rfl) (kFld (K := K) rfl (pv 0) rfl) (pe_un un_neg pe_int) (fun _ _ => rfl)) pe_int (fun _ _ => rfl)) (nomark _)) (pa_cons pe_str pa_nil))))) pss_nil) (pss_cons (ps_if (pt_cmpR op_notN (kFld (K := K) rfl (pv 0) rfl) pe_non (nomark _)) (pss_one (ps_expr (pe_okm om__need (pv 0) T.c_Source T.m__need hr (by decide) (L2N.passes_call (L2N.takes_of rfl rfl rfl rfl) (fun _ _ _ _ h => h)) (pa_cons (pe_cmpR op_ge (pv 1) (kFld (K := K) rfl (pv 0) rfl) (nomark _)) (pa_cons pe_str pa_nil))))) pss_nil) (pss_cons (ps_expr (pe_bm PySem.F.plainAttrs_list PySem.F.slot_list_append PySem.F.type_list_append mt_append (kFld (K := K) rfl (pv 0) rfl) (pa_cons (pe_tup (pa_cons (pv 1) (pa_cons (pe_tup (pa_cons (pv 2) pa_nil)) pa_nil))) pa_nil))) (pss_cons (ps_expr (pe_okm om__make (pv 0) T.c_Source T.m__make hr (by decide) pass0 (pa_cons (pe_tup (pa_cons pe_str (pa_cons (pe_ix (kIxT (K := K) rfl) (kFld (K := K) rfl (pv 0) rfl) pe_int (fun _ _ => rfl)) (pa_cons (pe_callB (kLen (K := K) rfl) (by rfl) T.f_len (by decide +kernel) (pa_cons (kFld (K := K) rfl (pv 0) rfl) pa_nil)) (pa_cons pe_int (pa_cons (pv 1) (pa_cons (pv 2) pa_nil))))))) pa_nil))) (pss_one (ps_ret (pe_callB (kLen (K := K) rfl) (by rfl) T.f_len (by decide +kernel) (pa_cons (kFld (K := K) rfl (pv 0) rfl) pa_nil))))))))), fun g Γ es r => ?_⟩), (F.bindsN fun _ _ _ _ _ _ us hl => match us, hl with | [_, _, _], _ => rfl)⟩⟩
  obtain ⟨⟨m, off, a, ⟨ss, cn, cs, due⟩, rest⟩, dd⟩ := g
  obtain ⟨⟨p, q, dx, vs, xs, ys, rfl⟩, ⟨st, v, ed, rfl⟩, so, sm⟩ := r
  have z1 := sm.ss
  have z2 := sm.due
  dsimp only at so z1 z2 ed ⊢
  subst ed
  have bad : recOk m ⟨ss, cn, cs, due⟩ st v = false → aft m off ⟨ss, cn, cs, due⟩ (.record st v) = (Str.ofString "InvalidEntry", ⟨ss, cn, cs, due⟩) := fun h => by
    simp only [aft]
    rw [h, if_neg (by simp)]
  refine k_seq (k_meth (w_var rfl ⟨_, _, _, _, rfl, .head _, lk_none (by decide), a_cons (w_methd (w_var rfl ⟨_, _, _, _, rfl, .head _, lk_none (by decide), ?_⟩))⟩))
  walk_at "k28"
  refine ⟨⟨⟨m, off, a, ⟨ss, cn, cs, due⟩, rest⟩, v, _⟩, ⟨⟨⟨p, q, dx, vs, xs, ys, rfl⟩, rfl⟩, rfl⟩, ?_, fun _ _ h => h⟩
  rintro Γ' e ⟨rfl, rfl⟩
  refine ⟨rfl, rfl, ?_⟩
  walk_at "k28"
  refine ⟨⟨⟨m, off, a, ⟨ss, cn, cs, due⟩, rest⟩, _, _⟩, ⟨⟨p, q, dx, vs, xs, ys, rfl⟩, rfl⟩, ?_, ?_⟩
  · rintro Γ' e ⟨h1, h2⟩
    have h2' : (decide (m.lo ≤ v) && decide (v ≤ m.hi)) = true := h2
    obtain ⟨p, q, dx, vs, xs, ys, eG⟩ := h1
    dsimp only at eG
    subst eG
    show Wk E _ _ _ _
    refine k_cut (fun Γ' ρ' => SrcIs K m off a ⟨ss, cn, cs, due⟩ rest Γ' ∧ lastBad ⟨ss, cn, cs, due⟩ st = false ∧ ρ' = [some (.raw (.ref a)), some (.dat (.int st)), some (.dat (.int v))]) ?_ ?_
    · refine k_if ?_
      walk_at "k28 q"
      rw [List.length_map]
      rcases List.eq_nil_or_concat ss with e | ⟨ss', sl, e⟩
      · subst e
        rw [if_neg (by simp)]
        exact k_of (m_next ⟨⟨p, q, dx, vs, xs, ys, rfl⟩, rfl, rfl⟩)
      · rw [if_pos (by rw [e]; simp)]
        have e1 : atI (ss.map slotD) (-1) = some (slotD sl) := by
          rw [e, List.concat_eq_append, List.map_append]
          exact atI_last _ _
        have lb : lastBad ⟨ss, cn, cs, due⟩ st = decide (st < sl.1) := by rw [e]; simp [lastBad]
        refine k_meth (w_var rfl ⟨_, _, _, _, rfl, .head _, lk_none (by decide), ?_⟩)
        walk_at "k28 q"
        refine ⟨_, _, _, _, rfl, .of (.tail _ (.head _)), rfl, e1, ?_⟩
        walk_at "k28 q"
        refine ⟨⟨⟨m, off, a, ⟨ss, cn, cs, due⟩, rest⟩, _, _⟩, ⟨⟨p, q, dx, vs, xs, ys, rfl⟩, rfl⟩, ?_, ?_⟩
        · rintro Γ' e ⟨h1, h2⟩
          have h3 : decide (sl.1 ≤ st) = true := h2
          have h4 := of_decide_eq_true h3
          exact ⟨h1, by rw [lb, decide_eq_false (by omega)], rfl⟩
        · rintro Γ' c ⟨h1, h2, rfl⟩
          have h3 : decide (sl.1 ≤ st) = false := h2
          have h4 := of_decide_eq_false h3
          refine ⟨h1, _, .inl rfl, bad ?_, rfl⟩
          unfold recOk
          rw [lb, show decide (st < sl.1) = true from decide_eq_true (by omega)]
          simp
    rintro Γ' ρ' ⟨⟨p, q, dx, vs, xs, ys, eG⟩, hl, rfl⟩
    dsimp only at eG
    subst eG
    refine k_cut (fun Γ' ρ' => SrcIs K m off a ⟨ss, cn, cs, due⟩ rest Γ' ∧ lateFor ⟨ss, cn, cs, due⟩ st = false ∧ ρ' = [some (.raw (.ref a)), some (.dat (.int st)), some (.dat (.int v))]) ?_ ?_
    · refine k_if ?_
      walk_at "k28 q"
      cases cs with
      | none =>
        rw [if_neg (by simp [isN])]
        exact k_of (m_next ⟨⟨p, q, dx, vs, xs, ys, rfl⟩, rfl, rfl⟩)
      | some c =>
        rw [if_pos (by simp [isN])]
        refine k_meth (w_var rfl ⟨_, _, _, _, rfl, .head _, lk_none (by decide), ?_⟩)
        walk_at "k28 q"
        refine ⟨⟨⟨m, off, a, ⟨ss, cn, some c, due⟩, rest⟩, _, _⟩, ⟨⟨p, q, dx, vs, xs, ys, rfl⟩, rfl⟩, ?_, ?_⟩
        · rintro Γ' e ⟨h1, h2⟩
          have h3 : decide (c ≤ st) = true := h2
          have h4 := of_decide_eq_true h3
          exact ⟨h1, by show decide (st < c) = false; rw [decide_eq_false (by omega)], rfl⟩
        · rintro Γ' c' ⟨h1, h2, rfl⟩
          have h3 : decide (c ≤ st) = false := h2
          have h4 := of_decide_eq_false h3
          refine ⟨h1, _, .inl rfl, bad ?_, rfl⟩
          unfold recOk
          rw [show lateFor ⟨ss, cn, some c, due⟩ st = true from decide_eq_true (by omega)]
          simp
    rintro Γ' ρ' ⟨⟨p, q, dx, vs, xs, ys, eG⟩, hc, rfl⟩
    dsimp only at eG
    subst eG
    have good : aft m off ⟨ss, cn, cs, due⟩ (.record st v) = (Str.ofString "", ⟨ss ++ [(st, [some v])], cn, cs, addDue due (.read (ss.length + 1) 0 st (some v))⟩) := by
      simp only [aft]
      rw [if_pos (by unfold recOk; rw [h2', hl, hc]; rfl)]
    refine k_of (m_seq (m_drop (x_append 1 ?_)))
    walk_at "k28 f"
    refine ⟨_, _, _, rfl, rfl, ?_⟩
    walk_at "k28 q"
    refine ⟨by rw [List.length_map]; omega, fun xs' => ?_⟩
    have em : ss.map slotD ++ [slotD (st, [some v])] = (ss ++ [(st, [some v])]).map slotD := by rw [List.map_append]; rfl
    refine m_seq (m_drop (x_meth (w_var rfl ⟨_, _, _, _, rfl, .head _, lk_none (by decide), ?_⟩)))
    walk_at "k28 q"
    refine ⟨⟨⟨m, off, a, ⟨ss ++ [(st, [some v])], cn, cs, due⟩, rest⟩, .read (ss.length + 1) 0 st (some v)⟩, ⟨⟨p, q, dx, vs, xs', ys, ?_⟩, ?_, so, z2⟩, fun Γ' e h => ?_, fun _ _ h => h⟩
    · show _ :: (p, Cell.l xs' (ss.map slotD ++ [slotD (st, [some v])])) :: _ = _
      rw [em]
    · rw [List.length_append, List.length_map]
      rfl
    · obtain ⟨⟨p, q, dx, vs, xs, ys, eG⟩, rfl⟩ := h
      dsimp only at eG
      subst eG
      show Wm _ _ _ _
      walk_at "k28 q"
      refine ⟨by rw [good], ?_, _, rfl⟩
      rw [good]
      exact ⟨p, q, dx, vs, xs, ys, rfl⟩
  · rintro Γ' c ⟨h1, h2, rfl⟩
    have h2' : (decide (m.lo ≤ v) && decide (v ≤ m.hi)) = false := h2
    refine ⟨h1, _, .inl rfl, bad ?_, rfl⟩
    unfold recOk
    rw [h2']
    rfl
end
end TW
/-! K28P20 -/
namespace TW
open PySem PySem.Spec PyProof.Rows L2
local macro_rules | `(tactic| walk_at "k28 d") => `(tactic| first
  | refine w_var rfl ?_ | with_reducible refine w_int ?_ | with_reducible refine w_str ?_ | with_reducible refine w_non ?_ | with_reducible refine w_bl ?_
  | with_reducible refine w_ixT ?_ | with_reducible refine w_ixL ?_ | with_reducible refine w_add ?_ | with_reducible refine w_sub ?_ | with_reducible refine w_eq ?_ | with_reducible refine w_ne ?_ | with_reducible refine w_lt ?_
  | with_reducible refine w_leq ?_ | with_reducible refine w_gt ?_ | with_reducible refine w_ge ?_ | with_reducible refine w_mul ?_ | with_reducible refine w_div ?_ | with_reducible refine w_mod ?_ | with_reducible refine w_pow ?_
  | with_reducible refine w_neg ?_ | with_reducible refine w_isN ?_ | with_reducible refine w_notN ?_ | with_reducible refine a_nil ?_ | with_reducible refine a_cons ?_ | with_reducible refine w_tup ?_ | with_reducible refine w_lst ?_
  | with_reducible refine w_call0 ?_ | with_reducible refine w_len ?_ | with_reducible refine w_sumM ?_ | with_reducible refine w_allM ?_ | with_reducible refine w_tuple ?_ | with_reducible refine w_abs ?_ | with_reducible refine w_toInt ?_ | with_reducible refine w_max2 ?_
  | with_reducible refine w_min2 ?_ | with_reducible refine t_test ?_ | with_reducible refine t_B ?_ | with_reducible refine t_and ?_ | with_reducible refine t_or ?_ | with_reducible refine t_not ?_ | with_reducible refine t_yes ?_
  | with_reducible refine w_andV ?_ | with_reducible refine w_orV ?_ | with_reducible refine w_notV ?_ | with_reducible refine w_if ?_ | with_reducible refine w_chain ?_ | with_reducible refine o_none ?_ | with_reducible refine o_some ?_
  | with_reducible refine w_slT ?_ | with_reducible refine w_slL ?_ | with_reducible refine w_catT ?_ | with_reducible refine w_catL ?_ | with_reducible refine w_dget ?_ | with_reducible refine w_din ?_ | with_reducible refine w_dnotin ?_ | with_reducible refine w_sortD ?_ | with_reducible refine w_sortI ?_ | with_reducible refine w_callq ?_ | with_reducible refine w_isB ?_
  | with_reducible refine w_notB ?_ | with_reducible refine g_name ?_ | refine gs_nil rfl ?_ | refine gs_cons rfl ?_ | with_reducible refine s_next ?_ | with_reducible refine s_seq ?_ | with_reducible refine s_asg ?_
  | with_reducible refine s_drop ?_ | with_reducible refine s_ret ?_ | with_reducible refine s_brk ?_ | with_reducible refine s_if ?_)
local macro_rules | `(tactic| walk_at "k28 x") => `(tactic| first
  | refine g_tup ⟨_, rfl, rfl, ?_⟩ | refine ⟨_, _, _, _, rfl, rfl, rfl, rfl, rfl, ?_⟩ | refine ⟨_, _, _, rfl, rfl, rfl, ?_⟩ | refine ⟨_, _, _, rfl, rfl, atI_nat (j := 0) rfl, ?_⟩ | refine ⟨_, _, _, rfl, ?_⟩ | refine ⟨_, _, rfl, rfl, by decide, ?_⟩ | refine ⟨_, _, rfl, rfl, ⟨by decide, by decide⟩, ?_⟩ | refine ⟨_, _, rfl, rfl, ⟨by decide, by decide, by decide⟩, ?_⟩ | refine ⟨_, _, rfl, rfl, .inl ⟨by decide, by decide⟩, ?_⟩ | refine ⟨_, _, rfl, rfl, .inr ⟨by decide, by decide⟩, ?_⟩ | refine ⟨_, _, rfl, rfl, ?_⟩ | refine ⟨_, _, rfl, ?_⟩ | refine ⟨_, (show undats _ = some _ from rfl), by simp, ?_⟩ | refine ⟨_, rfl, ?_⟩ | refine ⟨_, .inl rfl, ?_⟩ | refine ⟨_, .inr rfl, ?_⟩ | refine ⟨_, _, rfl, rfl, ?_, ?_⟩)
local macro_rules | `(tactic| walk_at "k28 t") => `(tactic| first | rw [if_pos (by decide)] | rw [if_neg (by decide)] | rw [if_pos (by simp)] | rw [if_neg (by simp)])
local macro_rules | `(tactic| walk_at "k28") => `(tactic| repeat (first | walk_at "k28 d" | walk_at "k28 x" | exact rfl))
local macro_rules | `(tactic| walk_at "k28 s") => `(tactic| repeat (first | (fail_if_success with_reducible refine s_if ?_); (first | walk_at "k28 d" | walk_at "k28 x" | exact rfl)))
local macro_rules | `(tactic| walk_at "k28 o") => `(tactic| first
  | with_reducible refine w_dnotinO ?_ | with_reducible refine w_dgetO ?_ | with_reducible refine w_dget2O ?_ | with_reducible refine w_lenO ?_ | with_reducible refine w_tupleO ?_ | with_reducible refine w_notInO ?_ | with_reducible refine w_ixO ?_ | with_reducible refine w_fld ?_
  | refine ⟨_, _, _, rfl, rfl, .of (.head _), ?_⟩ | refine ⟨_, _, _, rfl, rfl, .of (.tail _ (.head _)), ?_⟩ | refine ⟨_, _, rfl, .of (.head _), ?_⟩ | refine ⟨_, _, rfl, .of (.tail _ (.head _)), ?_⟩)
local macro_rules | `(tactic| walk_at "k28 w") => `(tactic| first | with_reducible refine m_next ?_ | with_reducible refine m_seq ?_ | with_reducible refine m_asg (x_dnew fun p => ?_) | with_reducible refine m_asg (x_dnewT fun p => ?_) | with_reducible refine m_asg (x_lst ?_) | with_reducible refine m_asgP ?_ | with_reducible refine m_if ?_ | with_reducible refine m_retP ?_)
local macro_rules | `(tactic| walk_at "k28 m") => `(tactic| repeat (first | walk_at "k28 w" | walk_at "k28 o" | walk_at "k28 d" | walk_at "k28 x" | exact rfl))
local macro_rules | `(tactic| walk_at "k28 g") => `(tactic| repeat (first | with_reducible refine w_take ?_ | with_reducible refine w_word ?_ | with_reducible refine w_calld ?_ | with_reducible refine w_callgq ?_ | with_reducible refine w_addS ?_ | with_reducible refine w_ixS ?_ | with_reducible refine w_catL ?_ | walk_at "k28 w" | walk_at "k28 d" | refine ⟨_, _, rfl, .head _, (by first | decide | omega | simp | (simp only [List.length_map]; omega)), fun (r : Int) (r1 : 0 ≤ r) (r2 : r < _) => ?_⟩ | refine ⟨_, rfl, fun (s : Str) (sw : Wdn 60 s) => ?_⟩ | walk_at "k28 x" | exact rfl))
local macro_rules | `(tactic| walk_at "k28 f") => `(tactic| first
  | refine wf (Txt.c_Source (by assumption)) (Txt.n_meter (by assumption)) rfl lk_meter ?_ | refine wf (Txt.c_Source (by assumption)) (Txt.n_offset (by assumption)) rfl lk_offset ?_ | refine wf (Txt.c_Source (by assumption)) (Txt.n_slots (by assumption)) rfl lk_slots ?_ | refine wf (Txt.c_Source (by assumption)) (Txt.n_closed_number (by assumption)) rfl lk_closed_number ?_ | refine wf (Txt.c_Source (by assumption)) (Txt.n_closed_stamp (by assumption)) rfl lk_closed_stamp ?_ | refine wf (Txt.c_Source (by assumption)) (Txt.n_due (by assumption)) rfl lk_due ?_)
local macro_rules | `(tactic| walk_at "k28 n") => `(tactic| repeat (first | walk_at "k28 w" | walk_at "k28 f" | walk_at "k28 d" | walk_at "k28 x" | exact rfl))
local macro_rules | `(tactic| walk_at "k28 p") => `(tactic| first
  | with_reducible refine w_lenO ?_ | with_reducible refine w_tupleO ?_ | with_reducible refine w_ixO ?_
  | refine ⟨_, _, rfl, .of (.tail _ (.head _)), ?_⟩ | refine ⟨_, _, rfl, .of (.tail _ (.tail _ (.head _))), ?_⟩)
local macro_rules | `(tactic| walk_at "k28 q") => `(tactic| repeat (first | walk_at "k28 w" | walk_at "k28 f" | walk_at "k28 p" | walk_at "k28 d" | walk_at "k28 x" | exact rfl))
section
variable {P : Program} {w : World} {K : PySem.W.Frag} {mg : Str → Option Value} {base : Heap}
theorem sc_Source_correct : FnScope ["self", "slot", "value"] ["self", "slot", "value"] (defScope s_Source_correct) := ⟨rfl, rfl, rfl, by decide +kernel, rfl, by decide +kernel, by decide +kernel⟩
def ACo (K : PySem.W.Frag) (g : GDd) (Γ : Gs) (es : List En1) : Prop := SrcIs K g.m g.off g.a g.z g.rest Γ ∧ (∃ s v, g.dd = .correct s v ∧ es = [.raw (.ref g.a), .dat (.int s), .dat (.int v)]) ∧ PyData.strOk g.m.name = true ∧ SmSta g.z
theorem om_correct (T : Txt K mg) : OkM P w K mg base (L2N.CX P w) 3 (He.ma K (He.ga K "Source") "correct") ["self", "slot", "value"] (pso (ACo K) (SDd K) (RDd K)) := by
  obtain ⟨fd, F⟩ := T.F_Source_correct
  have om__add := om__add (P := P) (w := w) (base := base) T
  have om__need := om__need (P := P) (w := w) (base := base) T
  have om__need_open := om__need_open (P := P) (w := w) (base := base) T
  have om__is_value := om__is_value (P := P) (w := w) (base := base) T
  refine ⟨⟨fd, ok_methX F sc_Source_correct (fun g Γ es h => by obtain ⟨_, ⟨st, v, _, h⟩, _⟩ := h; rw [h]; rfl) (fun cdv A outer s H E hr => ⟨_, (pss_cons (ps_expr (pe_okm om__need_open (pv 0) T.c_Source T.m__need_open hr (by decide) (L2N.passes_call (L2N.takes_of rfl rfl rfl rfl) (fun _ _ _ _ h => h)) (pa_cons (pv 1) pa_nil))) (pss_cons (ps_expr (pe_okm om__need (pv 0) T.c_Source T.m__need hr (by decide) (L2N.passes_call (L2N.takes_of rfl rfl rfl rfl) (fun _ _ _ _ h => h)) (pa_cons (pe_okm om__is_value (pv 0) T.c_Source T.m__is_value hr (by decide) pass0 (pa_cons (pv 2) pa_nil)) (pa_cons pe_str pa_nil)))) (pss_one (ps_expr (pe_okm om__add (pv 0) T.c_Source T.m__add hr (by decide) pass0 (pa_cons (pv 1) (pa_cons (pv 2) pa_nil))))))), fun g Γ es r => ?_⟩), (F.bindsN fun _ _ _ _ _ _ us hl => match us, hl with | [_, _, _], _ => rfl)⟩⟩
  obtain ⟨⟨m, off, a, z, rest⟩, dd⟩ := g
  obtain ⟨⟨p, q, dx, vs, xs, ys, rfl⟩, ⟨s, v, ed, rfl⟩, so, sm⟩ := r
  dsimp only at so sm ed ⊢
  subst ed
  refine k_seq (k_meth (w_var rfl ⟨_, _, _, _, rfl, .head _, lk_none (by decide), ?_⟩))
  walk_at "k28"
  refine ⟨⟨⟨m, off, a, z, rest⟩, s⟩, ⟨⟨p, q, dx, vs, xs, ys, rfl⟩, rfl⟩, ?_, ?_⟩
  · rintro Γ' e ⟨⟨p, q, dx, vs, xs, ys, eG⟩, c, c2⟩
    dsimp only at eG c c2
    subst eG
    show Wk E _ _ _ _
    refine k_seq (k_meth (w_var rfl ⟨_, _, _, _, rfl, .head _, lk_none (by decide), a_cons (w_methd (w_var rfl ⟨_, _, _, _, rfl, .head _, lk_none (by decide), ?_⟩))⟩))
    walk_at "k28"
    refine ⟨⟨⟨m, off, a, z, rest⟩, v, _⟩, ⟨⟨⟨p, q, dx, vs, xs, ys, rfl⟩, rfl⟩, rfl⟩, ?_, fun _ _ h => h⟩
    rintro Γ' e ⟨rfl, rfl⟩
    refine ⟨rfl, rfl, ?_⟩
    walk_at "k28"
    refine ⟨⟨⟨m, off, a, z, rest⟩, _, _⟩, ⟨⟨p, q, dx, vs, xs, ys, rfl⟩, rfl⟩, ?_, ?_⟩
    · rintro Γ' e ⟨⟨p, q, dx, vs, xs, ys, eG⟩, h2⟩
      dsimp only at eG
      subst eG
      have h2' : (decide (m.lo ≤ v) && decide (v ≤ m.hi)) = true := h2
      rw [Bool.and_eq_true, decide_eq_true_eq, decide_eq_true_eq] at h2'
      have good : aft m off z (.correct s v) = (Str.ofString "", newVer z s (some v)) := by
        simp only [aft]
        rw [if_neg c, if_neg c2, if_neg (by omega)]
      show Wk E _ _ _ _
      refine k_of (m_drop (x_meth (w_var rfl ⟨_, _, _, _, rfl, .head _, lk_none (by decide), ?_⟩)))
      walk_at "k28"
      refine ⟨⟨⟨m, off, a, z, rest⟩, s, some v⟩, ⟨⟨p, q, dx, vs, xs, ys, rfl⟩, rfl, so, sm, c⟩, ?_, fun _ _ h => h⟩
      rintro Γ' e ⟨h1, rfl⟩
      refine ⟨by rw [good], ?_, _, rfl⟩
      rw [good]
      exact h1
    · rintro Γ' c' ⟨h1, h2, rfl⟩
      have h2' : (decide (m.lo ≤ v) && decide (v ≤ m.hi)) = false := h2
      refine ⟨h1, _, .inl rfl, ?_, rfl⟩
      simp only [aft]
      rw [if_neg c, if_neg c2, if_pos]
      by_cases c3 : m.lo ≤ v
      · right
        simp [c3] at h2'
        exact h2'
      · left
        omega
  · rintro Γ' c' ⟨h1, h2⟩
    rcases h2 with ⟨h2, rfl⟩ | ⟨h2, h3, rfl⟩
    · refine ⟨h1, _, .inr (.inl rfl), ?_, rfl⟩
      simp only [aft]
      rw [if_pos h2]
    · refine ⟨h1, _, .inr (.inr rfl), ?_, rfl⟩
      simp only [aft]
      rw [if_neg h2, if_pos h3]
theorem sc_Source_take_back : FnScope ["self", "slot"] ["self", "slot"] (defScope s_Source_take_back) := ⟨rfl, rfl, rfl, by decide +kernel, rfl, by decide +kernel, by decide +kernel⟩
def ATb (K : PySem.W.Frag) (g : GDd) (Γ : Gs) (es : List En1) : Prop := SrcIs K g.m g.off g.a g.z g.rest Γ ∧ (∃ s, g.dd = .back s ∧ es = [.raw (.ref g.a), .dat (.int s)]) ∧ PyData.strOk g.m.name = true ∧ SmSta g.z
theorem om_take_back (T : Txt K mg) : OkM P w K mg base (L2N.CX P w) 3 (He.ma K (He.ga K "Source") "take_back") ["self", "slot"] (pso (ATb K) (SDd K) (RDd K)) := by
  obtain ⟨fd, F⟩ := T.F_Source_take_back
  have om__add := om__add (P := P) (w := w) (base := base) T
  have om__need_open := om__need_open (P := P) (w := w) (base := base) T
  refine ⟨⟨fd, ok_methX F sc_Source_take_back (fun g Γ es h => by obtain ⟨_, ⟨st, _, h⟩, _⟩ := h; rw [h]; rfl) (fun cdv A outer s H E hr => ⟨_, (pss_cons (ps_expr (pe_okm om__need_open (pv 0) T.c_Source T.m__need_open hr (by decide) (L2N.passes_call (L2N.takes_of rfl rfl rfl rfl) (fun _ _ _ _ h => h)) (pa_cons (pv 1) pa_nil))) (pss_one (ps_expr (pe_okm om__add (pv 0) T.c_Source T.m__add hr (by decide) pass0 (pa_cons (pv 1) (pa_cons pe_non pa_nil)))))), fun g Γ es r => ?_⟩), (F.bindsN fun _ _ _ _ _ _ us hl => match us, hl with | [_, _], _ => rfl)⟩⟩
  obtain ⟨⟨m, off, a, z, rest⟩, dd⟩ := g
  obtain ⟨⟨p, q, dx, vs, xs, ys, rfl⟩, ⟨s, ed, rfl⟩, so, sm⟩ := r
  dsimp only at so sm ed ⊢
  subst ed
  refine k_seq (k_meth (w_var rfl ⟨_, _, _, _, rfl, .head _, lk_none (by decide), ?_⟩))
  walk_at "k28"
  refine ⟨⟨⟨m, off, a, z, rest⟩, s⟩, ⟨⟨p, q, dx, vs, xs, ys, rfl⟩, rfl⟩, ?_, ?_⟩
  · rintro Γ' e ⟨⟨p, q, dx, vs, xs, ys, eG⟩, c, c2⟩
    dsimp only at eG c c2
    subst eG
    have good : aft m off z (.back s) = (Str.ofString "", newVer z s none) := by
      simp only [aft]
      rw [if_neg c, if_neg c2]
    show Wk E _ _ _ _
    refine k_of (m_drop (x_meth (w_var rfl ⟨_, _, _, _, rfl, .head _, lk_none (by decide), ?_⟩)))
    walk_at "k28"
    refine ⟨⟨⟨m, off, a, z, rest⟩, s, none⟩, ⟨⟨p, q, dx, vs, xs, ys, rfl⟩, rfl, so, sm, c⟩, ?_, fun _ _ h => h⟩
    rintro Γ' e ⟨h1, rfl⟩
    refine ⟨by rw [good], ?_, _, rfl⟩
    rw [good]
    exact h1
  · rintro Γ' c' ⟨h1, h2⟩
    rcases h2 with ⟨h2, rfl⟩ | ⟨h2, h3, rfl⟩
    · refine ⟨h1, _, .inr (.inl rfl), ?_, rfl⟩
      simp only [aft]
      rw [if_pos h2]
    · refine ⟨h1, _, .inr (.inr rfl), ?_, rfl⟩
      simp only [aft]
      rw [if_neg h2, if_pos h3]
theorem sc_Source_check : FnScope ["self", "low", "high"] ["self", "low", "high"] (defScope s_Source_check) := ⟨rfl, rfl, rfl, by decide +kernel, rfl, by decide +kernel, by decide +kernel⟩
def ACk (K : PySem.W.Frag) (g : GDd) (Γ : Gs) (es : List En1) : Prop := SrcIs K g.m g.off g.a g.z g.rest Γ ∧ (∃ lo hi, g.dd = .check lo hi ∧ es = [.raw (.ref g.a), .dat (.int lo), .dat (.int hi)]) ∧ PyData.strOk g.m.name = true ∧ SmSta g.z
theorem om_check (T : Txt K mg) : OkM P w K mg base (L2N.CX P w) 2 (He.ma K (He.ga K "Source") "check") ["self", "low", "high"] (pso (ACk K) (SDd K) (RDd K)) := by
  obtain ⟨fd, F⟩ := T.F_Source_check
  have om__make := om__make (P := P) (w := w) (base := base) T
  have om__need := om__need (P := P) (w := w) (base := base) T
  refine ⟨⟨fd, ok_methX F sc_Source_check (fun g Γ es h => by obtain ⟨_, ⟨st, v, _, h⟩, _⟩ := h; rw [h]; rfl) (fun cdv A outer s H E hr => ⟨_, (pss_cons (ps_expr (pe_okm om__need (pv 0) T.c_Source T.m__need hr (by decide) (L2N.passes_call (L2N.takes_of rfl rfl rfl rfl) (fun _ _ _ _ h => h)) (pa_cons (pe_chain op_le op_le (pv 1) (kFld (K := K) rfl (pv 0) rfl) (pv 2)) (pa_cons pe_str pa_nil)))) (pss_one (ps_expr (pe_okm om__make (pv 0) T.c_Source T.m__make hr (by decide) pass0 (pa_cons (pe_tup (pa_cons pe_str (pa_cons (pe_ix (kIxT (K := K) rfl) (kFld (K := K) rfl (pv 0) rfl) pe_int (fun _ _ => rfl)) (pa_cons (pv 1) (pa_cons (pv 2) pa_nil))))) pa_nil))))), fun g Γ es r => ?_⟩), (F.bindsN fun _ _ _ _ _ _ us hl => match us, hl with | [_, _, _], _ => rfl)⟩⟩
  obtain ⟨⟨m, off, a, ⟨ss, cn, cs, due⟩, rest⟩, dd⟩ := g
  obtain ⟨⟨p, q, dx, vs, xs, ys, rfl⟩, ⟨lo, hi, ed, rfl⟩, so, sm⟩ := r
  have z2 := sm.due
  dsimp only at so sm ed z2 ⊢
  subst ed
  refine k_seq (k_meth (w_var rfl ⟨_, _, _, _, rfl, .head _, lk_none (by decide), a_cons (w_is (.dat (.bool (decide (lo ≤ off) && decide (off ≤ hi)))) ?_ ?_)⟩))
  · walk_at "k28 q"
    by_cases c : lo ≤ off
    · rw [if_pos (by simpa using c)]
      walk_at "k28 q"
      simp [c]
    · rw [if_neg (by simpa using c)]
      simp [c]
  walk_at "k28"
  refine ⟨⟨⟨m, off, a, ⟨ss, cn, cs, due⟩, rest⟩, _, _⟩, ⟨⟨p, q, dx, vs, xs, ys, rfl⟩, rfl⟩, ?_, ?_⟩
  · rintro Γ' e ⟨⟨p, q, dx, vs, xs, ys, eG⟩, h2⟩
    dsimp only at eG
    subst eG
    have h2 : (decide (lo ≤ off) && decide (off ≤ hi)) = true := h2
    rw [Bool.and_eq_true, decide_eq_true_eq, decide_eq_true_eq] at h2
    have good : aft m off ⟨ss, cn, cs, due⟩ (.check lo hi) = (Str.ofString "", ⟨ss, cn, cs, addDue due (.clock lo hi)⟩) := by
      simp only [aft]
      rw [if_neg (by omega)]
    show Wk E _ _ _ _
    refine k_of (m_drop (x_meth (w_var rfl ⟨_, _, _, _, rfl, .head _, lk_none (by decide), ?_⟩)))
    walk_at "k28 q"
    refine ⟨⟨⟨m, off, a, ⟨ss, cn, cs, due⟩, rest⟩, .clock lo hi⟩, ⟨⟨p, q, dx, vs, xs, ys, rfl⟩, rfl, so, z2⟩, ?_, fun _ _ h => h⟩
    rintro Γ' e ⟨h1, rfl⟩
    refine ⟨by rw [good], ?_, _, rfl⟩
    rw [good]
    exact h1
  · rintro Γ' c' ⟨h1, h2, rfl⟩
    have h2 : (decide (lo ≤ off) && decide (off ≤ hi)) = false := h2
    refine ⟨h1, _, .inl rfl, ?_, rfl⟩
    simp only [aft]
    rw [if_pos]
    by_cases c3 : lo ≤ off
    · right
      simp [c3] at h2
      exact h2
    · left
      omega
end
end TW
/-! K28X2 -/
namespace TW
open PySem PySem.Spec PyProof.Rows L2
section
variable {Γ : Gs} {ρ : Ro} {P : Pg} {ta te : TE} {tt : TT} {KF : PySem.W.Frag} {t : TS}
/-- fewer cells, in another order -/
theorem lg_less {Γ1 Γ2 l : Gs} {H H' : Hp} (p : Γ1.Perm (Γ2 ++ l)) (g : Lg Γ Γ1 H H') : Lg Γ Γ2 H H' := by
  have sub : ∀ a, a ∈ dm Γ2 → a ∈ dm Γ1 := fun a h => by
    obtain ⟨x, hx, rfl⟩ := List.mem_map.mp h
    exact List.mem_map.mpr ⟨x, p.mem_iff.mpr (List.mem_append.mpr (.inl hx)), rfl⟩
  refine ⟨g.k, fun a h => g.f a (sub a h), ?_, fun x hx => g.j.2 x (p.mem_iff.mpr (List.mem_append.mpr (.inl hx)))⟩
  have n := ((p.map (fun x : Addr × Cell => x.1)).nodup_iff).mp g.j.1
  rw [List.map_append] at n
  exact (List.nodup_append.mp n).1
theorem en_less {Γ1 Γ2 l : Gs} {H : Hp} {σ : L2.St} (p : Γ1.Perm (Γ2 ++ l)) (h : En (MG Γ1) H σ ρ) : En (MG Γ2) H σ ρ := Paired.mapP h fun x y f z ez => by
  obtain ⟨u, a, b⟩ := f z ez
  refine ⟨u, a, is_sub (fun c hc => ?_) b⟩
  obtain ⟨x, hx, rfl⟩ := List.mem_map.mp hc
  exact List.mem_map.mpr ⟨x, p.mem_iff.mpr (List.mem_append.mpr (.inl hx)), rfl⟩
theorem m_weak (N : Gs → Ro → Prop) (h : Wm Γ t ρ { P with nx := N }) (k : ∀ Γ' ρ', N Γ' ρ' → ∃ Γ2 l, Γ'.Perm (Γ2 ++ l) ∧ P.nx Γ2 ρ') : Wm Γ t ρ P := fun D σ H j n a b c d =>
  h D σ H j n (fun σ' H' Γ' ρ' l n' x => by
    obtain ⟨Γ2, r, p, q⟩ := k Γ' ρ' x
    exact a σ' H' Γ2 ρ' (lg_less p l) (en_less p n') q) b c d
/-- a comprehension over a list that is owned, its list owned -/
theorem x_lcNew {j : Nat} {α : Type} {F : α → Dt} {K : Gs → En1 → Prop} (h : We (MG Γ) ta ρ fun x => ∃ (a : Addr) (ds : List α), x = .raw (.ref a) ∧ OwL (MG Γ) a (ds.map F) ∧ ds.length ≤ 1000000 ∧ ∃ (f : α → Bool) (v : α → Dt), (∀ d ∈ ds, Wt (MG Γ) tt (ρ.set j (some (.dat (F d)))) fun b => b = f d) ∧
    (∀ d ∈ ds, f d = true → We (MG Γ) te (ρ.set j (some (.dat (F d)))) fun e => e = .dat (v d)) ∧ ∀ p xs, K (Γ ++ [(p, .l xs ((ds.filter f).map v))]) (.raw (.ref p))) :
    Wx Γ (tLc (iList KF ta) (gName j) tt te [j]) ρ K := fun σ H jj n Q q =>
  h σ H jj n _ fun u H1 x l1 i1 ⟨p, ds, ex, ⟨xs, o⟩, z, f, v, ht, he, k⟩ => by
    subst ex
    obtain rfl : u = .ref p := i1
    obtain ⟨hp, r⟩ := o H1 l1.2
    have j1 : JG Γ H1 := l1.2
    refine ⟨p, rfl, ⟨xs, SqL.of hp⟩, fun D hD => ?_⟩
    have nb : ¬ (MG Γ).B D := Md.fresh l1.2 hD
    refine lc_list (xs := xs) (fun i H' => (MG Γ).le H1 H' ∧ ∃ acc, H' D = some (.lst acc) ∧ AtS H' acc (((ds.take i).filter f).map v)) ⟨Md.new l1.2 hD, [], upd_same, .nil⟩ (fun i H' _ l => SqL.of (o H' l.1.2).1) ?_ ?_
    · rintro i x H' hx ⟨l, acc, ha, ra⟩
      exact lc_turn l1.2 nb r z (n.le jj l1) ht he hx hD l ha ra
    · rintro H' ⟨l, acc, ha, ra⟩
      rw [r.len, List.length_map, List.take_length] at ra
      have jn : JG Γ H' := l.2
      refine q _ H' _ (.raw (.ref D)) ((Lg.of l1).trans ⟨fun a o na e => l.1 a o na e, fun a ha => ?_, ?_, fun x hx => ?_⟩) rfl (k D acc)
      · unfold dm at ha
        rw [List.map_append, List.mem_append] at ha
        rcases ha with ha | ha
        · exact .inl ha
        · obtain rfl : a = D := by simpa using ha
          exact .inr hD
      · unfold dm
        rw [List.map_append]
        exact List.nodup_append.mpr ⟨jn.1, by simp, fun a ha b hb e => nb (by
          have hb' : b = D := by simpa using hb
          show D ∈ dm Γ
          rw [← hb', ← e]; exact ha)⟩
      · rcases List.mem_append.mp hx with hx | hx
        · exact jn.2 x hx
        · obtain rfl : x = (D, .l acc ((ds.filter f).map v)) := by simpa using hx
          exact ⟨ha, ra⟩
end
end TW
/-! K28P21 -/
namespace TW
open PySem PySem.Spec PyProof.Rows L2
local macro_rules | `(tactic| walk_at "k28 d") => `(tactic| first
  | refine w_var rfl ?_ | with_reducible refine w_int ?_ | with_reducible refine w_str ?_ | with_reducible refine w_non ?_ | with_reducible refine w_bl ?_
  | with_reducible refine w_ixT ?_ | with_reducible refine w_ixL ?_ | with_reducible refine w_add ?_ | with_reducible refine w_sub ?_ | with_reducible refine w_eq ?_ | with_reducible refine w_ne ?_ | with_reducible refine w_lt ?_
  | with_reducible refine w_leq ?_ | with_reducible refine w_gt ?_ | with_reducible refine w_ge ?_ | with_reducible refine w_mul ?_ | with_reducible refine w_div ?_ | with_reducible refine w_mod ?_ | with_reducible refine w_pow ?_
  | with_reducible refine w_neg ?_ | with_reducible refine w_isN ?_ | with_reducible refine w_notN ?_ | with_reducible refine a_nil ?_ | with_reducible refine a_cons ?_ | with_reducible refine w_tup ?_ | with_reducible refine w_lst ?_
  | with_reducible refine w_call0 ?_ | with_reducible refine w_len ?_ | with_reducible refine w_sumM ?_ | with_reducible refine w_allM ?_ | with_reducible refine w_tuple ?_ | with_reducible refine w_abs ?_ | with_reducible refine w_toInt ?_ | with_reducible refine w_max2 ?_
  | with_reducible refine w_min2 ?_ | with_reducible refine t_test ?_ | with_reducible refine t_B ?_ | with_reducible refine t_and ?_ | with_reducible refine t_or ?_ | with_reducible refine t_not ?_ | with_reducible refine t_yes ?_
  | with_reducible refine w_andV ?_ | with_reducible refine w_orV ?_ | with_reducible refine w_notV ?_ | with_reducible refine w_if ?_ | with_reducible refine w_chain ?_ | with_reducible refine o_none ?_ | with_reducible refine o_some ?_
  | with_reducible refine w_slT ?_ | with_reducible refine w_slL ?_ | with_reducible refine w_catT ?_ | with_reducible refine w_catL ?_ | with_reducible refine w_dget ?_ | with_reducible refine w_din ?_ | with_reducible refine w_dnotin ?_ | with_reducible refine w_sortD ?_ | with_reducible refine w_sortI ?_ | with_reducible refine w_callq ?_ | with_reducible refine w_isB ?_
  | with_reducible refine w_notB ?_ | with_reducible refine g_name ?_ | refine gs_nil rfl ?_ | refine gs_cons rfl ?_ | with_reducible refine s_next ?_ | with_reducible refine s_seq ?_ | with_reducible refine s_asg ?_
  | with_reducible refine s_drop ?_ | with_reducible refine s_ret ?_ | with_reducible refine s_brk ?_ | with_reducible refine s_if ?_)
local macro_rules | `(tactic| walk_at "k28 x") => `(tactic| first
  | refine g_tup ⟨_, rfl, rfl, ?_⟩ | refine ⟨_, _, _, _, rfl, rfl, rfl, rfl, rfl, ?_⟩ | refine ⟨_, _, _, rfl, rfl, rfl, ?_⟩ | refine ⟨_, _, _, rfl, rfl, atI_nat (j := 0) rfl, ?_⟩ | refine ⟨_, _, _, rfl, ?_⟩ | refine ⟨_, _, rfl, rfl, by decide, ?_⟩ | refine ⟨_, _, rfl, rfl, ⟨by decide, by decide⟩, ?_⟩ | refine ⟨_, _, rfl, rfl, ⟨by decide, by decide, by decide⟩, ?_⟩ | refine ⟨_, _, rfl, rfl, .inl ⟨by decide, by decide⟩, ?_⟩ | refine ⟨_, _, rfl, rfl, .inr ⟨by decide, by decide⟩, ?_⟩ | refine ⟨_, _, rfl, rfl, ?_⟩ | refine ⟨_, _, rfl, ?_⟩ | refine ⟨_, (show undats _ = some _ from rfl), by simp, ?_⟩ | refine ⟨_, rfl, ?_⟩ | refine ⟨_, .inl rfl, ?_⟩ | refine ⟨_, .inr rfl, ?_⟩ | refine ⟨_, _, rfl, rfl, ?_, ?_⟩)
local macro_rules | `(tactic| walk_at "k28 t") => `(tactic| first | rw [if_pos (by decide)] | rw [if_neg (by decide)] | rw [if_pos (by simp)] | rw [if_neg (by simp)])
local macro_rules | `(tactic| walk_at "k28") => `(tactic| repeat (first | walk_at "k28 d" | walk_at "k28 x" | exact rfl))
local macro_rules | `(tactic| walk_at "k28 s") => `(tactic| repeat (first | (fail_if_success with_reducible refine s_if ?_); (first | walk_at "k28 d" | walk_at "k28 x" | exact rfl)))
local macro_rules | `(tactic| walk_at "k28 o") => `(tactic| first
  | with_reducible refine w_dnotinO ?_ | with_reducible refine w_dgetO ?_ | with_reducible refine w_dget2O ?_ | with_reducible refine w_lenO ?_ | with_reducible refine w_tupleO ?_ | with_reducible refine w_notInO ?_ | with_reducible refine w_ixO ?_ | with_reducible refine w_fld ?_
  | refine ⟨_, _, _, rfl, rfl, .of (.head _), ?_⟩ | refine ⟨_, _, _, rfl, rfl, .of (.tail _ (.head _)), ?_⟩ | refine ⟨_, _, rfl, .of (.head _), ?_⟩ | refine ⟨_, _, rfl, .of (.tail _ (.head _)), ?_⟩)
local macro_rules | `(tactic| walk_at "k28 w") => `(tactic| first | with_reducible refine m_next ?_ | with_reducible refine m_seq ?_ | with_reducible refine m_asg (x_dnew fun p => ?_) | with_reducible refine m_asg (x_dnewT fun p => ?_) | with_reducible refine m_asg (x_lst ?_) | with_reducible refine m_asgP ?_ | with_reducible refine m_if ?_ | with_reducible refine m_retP ?_)
local macro_rules | `(tactic| walk_at "k28 m") => `(tactic| repeat (first | walk_at "k28 w" | walk_at "k28 o" | walk_at "k28 d" | walk_at "k28 x" | exact rfl))
local macro_rules | `(tactic| walk_at "k28 g") => `(tactic| repeat (first | with_reducible refine w_take ?_ | with_reducible refine w_word ?_ | with_reducible refine w_calld ?_ | with_reducible refine w_callgq ?_ | with_reducible refine w_addS ?_ | with_reducible refine w_ixS ?_ | with_reducible refine w_catL ?_ | walk_at "k28 w" | walk_at "k28 d" | refine ⟨_, _, rfl, .head _, (by first | decide | omega | simp | (simp only [List.length_map]; omega)), fun (r : Int) (r1 : 0 ≤ r) (r2 : r < _) => ?_⟩ | refine ⟨_, rfl, fun (s : Str) (sw : Wdn 60 s) => ?_⟩ | walk_at "k28 x" | exact rfl))
local macro_rules | `(tactic| walk_at "k28 f") => `(tactic| first
  | refine wf (Txt.c_Source (by assumption)) (Txt.n_meter (by assumption)) rfl lk_meter ?_ | refine wf (Txt.c_Source (by assumption)) (Txt.n_offset (by assumption)) rfl lk_offset ?_ | refine wf (Txt.c_Source (by assumption)) (Txt.n_slots (by assumption)) rfl lk_slots ?_ | refine wf (Txt.c_Source (by assumption)) (Txt.n_closed_number (by assumption)) rfl lk_closed_number ?_ | refine wf (Txt.c_Source (by assumption)) (Txt.n_closed_stamp (by assumption)) rfl lk_closed_stamp ?_ | refine wf (Txt.c_Source (by assumption)) (Txt.n_due (by assumption)) rfl lk_due ?_)
local macro_rules | `(tactic| walk_at "k28 n") => `(tactic| repeat (first | walk_at "k28 w" | walk_at "k28 f" | walk_at "k28 d" | walk_at "k28 x" | exact rfl))
local macro_rules | `(tactic| walk_at "k28 p") => `(tactic| first
  | with_reducible refine w_lenO ?_ | with_reducible refine w_tupleO ?_ | with_reducible refine w_ixO ?_
  | refine ⟨_, _, rfl, .of (.tail _ (.head _)), ?_⟩ | refine ⟨_, _, rfl, .of (.tail _ (.tail _ (.head _))), ?_⟩)
local macro_rules | `(tactic| walk_at "k28 q") => `(tactic| repeat (first | walk_at "k28 w" | walk_at "k28 f" | walk_at "k28 p" | walk_at "k28 d" | walk_at "k28 x" | exact rfl))
section
variable {P : Program} {w : World} {K : PySem.W.Frag} {mg : Str → Option Value} {base : Heap}
theorem putE_len (f : Str) (e : En1) : ∀ fs : List (Str × En1), (putE f e fs).length ≤ fs.length + 1
  | [] => Nat.le_refl _
  | (g, x) :: r => by
    unfold putE
    split
    · simp
    · simp only [List.length_cons]
      have := putE_len f e r
      omega
theorem sc_Source_close : FnScope ["self", "stamp", "closed", "slot"] ["self", "stamp"] (defScope s_Source_close) := ⟨rfl, rfl, rfl, by decide +kernel, rfl, by decide +kernel, by decide +kernel⟩
def ACs (K : PySem.W.Frag) (g : GDd) (Γ : Gs) (es : List En1) : Prop := SrcIs K g.m g.off g.a g.z g.rest Γ ∧ (∃ st, g.dd = .close st ∧ es = [.raw (.ref g.a), .dat (.int st)]) ∧ PyData.strOk g.m.name = true ∧ SmSta g.z
theorem om_close (T : Txt K mg) : OkM P w K mg base (L2N.CX P w) 2 (He.ma K (He.ga K "Source") "close") ["self", "stamp"] (pso (ACs K) (SDd K) (RDd K)) := by
  obtain ⟨fd, F⟩ := T.F_Source_close
  have om__make := om__make (P := P) (w := w) (base := base) T
  have om__need := om__need (P := P) (w := w) (base := base) T
  refine ⟨⟨fd, ok_methX F sc_Source_close (fun g Γ es h => by obtain ⟨_, ⟨st, _, h⟩, _⟩ := h; rw [h]; rfl) (fun cdv A outer s H E hr => ⟨_, (pss_cons (ps_if (pt_cmpR op_notN (kFld (K := K) rfl (pv 0) rfl) pe_non (nomark _)) (pss_one (ps_expr (pe_okm om__need (pv 0) T.c_Source T.m__need hr (by decide) (L2N.passes_call (L2N.takes_of rfl rfl rfl rfl) (fun _ _ _ _ h => h)) (pa_cons (pe_cmpR op_ge (pv 1) (kFld (K := K) rfl (pv 0) rfl) (nomark _)) (pa_cons pe_str pa_nil))))) pss_nil) (pss_cons (ps_setLc (i := 2) (own := [("slot", 3)]) (by rfl) sc_Source_close.nd rfl rfl (sw_true rfl rfl rfl (by decide +kernel)) (kiList (K := K) rfl (kFld (K := K) rfl (pv 0) rfl)) (blkOk_by (own := [("slot", 3)]) (N := ["self", "stamp", "closed", "slot"]) (sc := defScope s_Source_close) (by decide +kernel)) (fun _ _ _ _ _ => (pg_name (i := 3) sc_Source_close.nd rfl (Or.inl rfl))) (fun _ _ _ _ _ => (pts_one (pt_cmpR op_lt (pe_ix (kIxT (K := K) rfl) (pv 3) pe_int (fun _ _ => rfl)) (pv 1) (nomark _)))) (fun _ _ _ _ _ => (pv 3))) (pss_cons (ps_fld (pv 0) (pe_callB (kLen (K := K) rfl) (by rfl) T.f_len (by decide +kernel) (pa_cons (pv 2) pa_nil)) rfl) (pss_cons (ps_fld (pv 0) (pv 1) rfl) (pss_one (ps_expr (pe_okm om__make (pv 0) T.c_Source T.m__make hr (by decide) pass0 (pa_cons (pe_tup (pa_cons pe_str (pa_cons (pe_ix (kIxT (K := K) rfl) (kFld (K := K) rfl (pv 0) rfl) pe_int (fun _ _ => rfl)) (pa_cons (pe_callB (kLen (K := K) rfl) (by rfl) T.f_len (by decide +kernel) (pa_cons (pv 2) pa_nil)) (pa_cons (pv 1) (pa_cons (pe_callB (kSum (K := K) rfl rfl) (by rfl) T.f_sum (by decide +kernel) (pa_cons (pe_lc (own := [("slot", 3)]) (by rfl) sc_Source_close.nd (kiList (K := K) rfl (pv 2)) (blkOk_by (own := [("slot", 3)]) (N := ["self", "stamp", "closed", "slot"]) (sc := defScope s_Source_close) (by decide +kernel)) (fun _ _ _ _ _ => (pg_name (i := 3) sc_Source_close.nd rfl (Or.inl rfl))) (fun _ _ _ _ _ => pts_nil) (fun _ _ _ _ _ => (pe_callB (kLen (K := K) rfl) (by rfl) T.f_len (by decide +kernel) (pa_cons (pe_ix (kIxT (K := K) rfl) (pv 3) pe_int (fun _ _ => rfl)) pa_nil)))) pa_nil)) pa_nil)))))) pa_nil)))))))), fun g Γ es r => ?_⟩), (F.bindsN fun _ _ _ _ _ _ us hl => match us, hl with | [_, _], _ => rfl)⟩⟩
  obtain ⟨⟨m, off, a, ⟨ss, cn, cs, due⟩, rest⟩, dd⟩ := g
  obtain ⟨⟨p, q, dx, vs, xs, ys, rfl⟩, ⟨st, ed, rfl⟩, so, sm⟩ := r
  have z1 := sm.ss
  have z2 := sm.due
  dsimp only at so z1 z2 ed ⊢
  subst ed
  refine k_cut (fun Γ' ρ' => SrcIs K m off a ⟨ss, cn, cs, due⟩ rest Γ' ∧ lateFor ⟨ss, cn, cs, due⟩ st = false ∧ ρ' = [some (.raw (.ref a)), some (.dat (.int st)), none, none]) ?_ ?_
  · refine k_if ?_
    walk_at "k28 q"
    cases cs with
    | none =>
      rw [if_neg (by simp [isN])]
      exact k_of (m_next ⟨⟨p, q, dx, vs, xs, ys, rfl⟩, rfl, rfl⟩)
    | some c =>
      rw [if_pos (by simp [isN])]
      refine k_meth (w_var rfl ⟨_, _, _, _, rfl, .head _, lk_none (by decide), ?_⟩)
      walk_at "k28 q"
      refine ⟨⟨⟨m, off, a, ⟨ss, cn, some c, due⟩, rest⟩, _, _⟩, ⟨⟨p, q, dx, vs, xs, ys, rfl⟩, rfl⟩, ?_, ?_⟩
      · rintro Γ' e ⟨h1, h2⟩
        have h3 : decide (c ≤ st) = true := h2
        have h4 := of_decide_eq_true h3
        exact ⟨h1, by show decide (st < c) = false; rw [decide_eq_false (by omega)], rfl⟩
      · rintro Γ' c' ⟨h1, h2, rfl⟩
        have h3 : decide (c ≤ st) = false := h2
        have h4 := of_decide_eq_false h3
        refine ⟨h1, _, .inl rfl, ?_, rfl⟩
        simp only [aft]
        rw [if_pos (show lateFor ⟨ss, cn, some c, due⟩ st = true from decide_eq_true (by omega))]
  rintro Γ' ρ' ⟨⟨p, q, dx, vs, xs, ys, eG⟩, hc, rfl⟩
  dsimp only at eG
  subst eG
  have good : aft m off ⟨ss, cn, cs, due⟩ (.close st) = (Str.ofString "", ⟨ss, (closedOf ⟨ss, cn, cs, due⟩ st).length, some st, addDue due (.close (closedOf ⟨ss, cn, cs, due⟩ st).length st ((closedOf ⟨ss, cn, cs, due⟩ st).map fun s => s.2.length).sum)⟩) := by
    simp only [aft]
    rw [if_neg (by rw [hc]; simp)]
  have fl : (ss.filter fun s => decide (s.1 < st)).length ≤ 1000 := Nat.le_trans (List.length_filter_le _ _) z1
  refine k_of (m_seq (m_asgP (w_lcO (F := slotD) ?_)))
  walk_at "k28 f"
  refine ⟨p, ss, rfl, .of (.tail _ (.head _)), by omega, fun s => decide (s.1 < st), slotD, fun s _ => ?_, fun s _ _ => ?_, ?_⟩
  · walk_at "k28"
  · walk_at "k28"
  refine g_name ?_
  refine m_seq (m_fld 0 (x_pure (w_len ?_)))
  walk_at "k28"
  refine ⟨rfl, ?_⟩
  walk_at "k28"
  refine ⟨_, _, _, _, _, rfl, rfl, T.c_Source, T.n_closed_number, by simp [srcF], fun v => ?_⟩
  refine m_seq (m_fld 0 (x_pure ?_))
  walk_at "k28"
  refine ⟨rfl, ?_⟩
  walk_at "k28"
  refine ⟨_, _, _, _, _, rfl, rfl, T.c_Source, T.n_closed_stamp, Nat.lt_of_le_of_lt (putE_len _ _ _) (by simp [srcF]), fun v' => ?_⟩
  have ec : ((ss.filter fun s => decide (s.1 < st)).map slotD).length = (closedOf ⟨ss, cn, cs, due⟩ st).length := by rw [List.length_map]; rfl
  show Wm ((a, .o (He.ga K "Source") dx _ (srcF m off p q ((ss.filter fun s => decide (s.1 < st)).map slotD).length (some st))) :: (p, .l xs (ss.map slotD)) :: (q, .l ys (due.map (Let.d m.name))) :: rest) _ _ _
  refine m_drop (x_meth (w_var rfl ⟨_, _, _, _, rfl, .head _, lk_none (by decide), ?_⟩))
  walk_at "k28 n"
  refine w_lcL0 (F := slotD) ?_
  walk_at "k28"
  refine ⟨by omega, fun s => .int s.2.length, fun s _ => ?_, ?_⟩
  · walk_at "k28"
    rw [List.length_map]
  walk_at "k28"
  have sc : ((ss.filter fun s => decide (s.1 < st)).map fun a => ((a.2.length : Nat) : Int)).sum = ((((ss.filter fun s => decide (s.1 < st)).map fun s => s.2.length).sum : Nat) : Int) := sum_cast _
  rw [sc]
  refine ⟨⟨⟨m, off, a, ⟨ss, (closedOf ⟨ss, cn, cs, due⟩ st).length, some st, due⟩, rest⟩, .close (closedOf ⟨ss, cn, cs, due⟩ st).length st ((closedOf ⟨ss, cn, cs, due⟩ st).map fun s => s.2.length).sum⟩, ⟨⟨p, q, dx, putF (Str.ofString "_closed_stamp") v' (putF (Str.ofString "_closed_number") v vs), xs, ys, ?_⟩, ?_, so, z2⟩, ?_, fun _ _ h => h⟩
  · rw [ec]
  · rw [List.length_map]
    rfl
  rintro Γ' e ⟨h1, rfl⟩
  refine ⟨by rw [good], ?_, _, rfl⟩
  rw [good]
  exact h1
theorem sc_Source_acknowledge : FnScope ["self", "letter", "other"] ["self", "letter"] (defScope s_Source_acknowledge) := ⟨rfl, rfl, rfl, by decide +kernel, rfl, by decide +kernel, by decide +kernel⟩
def AAc (K : PySem.W.Frag) (g : GDd) (Γ : Gs) (es : List En1) : Prop := SrcIs K g.m g.off g.a g.z g.rest Γ ∧ (∃ l, g.dd = .ack l ∧ es = [.raw (.ref g.a), .dat (Let.d g.m.name l)]) ∧ PyData.strOk g.m.name = true ∧ SmSta g.z
theorem om_acknowledge (T : Txt K mg) : OkM P w K mg base CX0 1 (He.ma K (He.ga K "Source") "acknowledge") ["self", "letter"] (pso (AAc K) (SDd K) noR) := by
  obtain ⟨fd, F⟩ := T.F_Source_acknowledge
  refine ⟨⟨fd, ok_meth F sc_Source_acknowledge (fun g Γ es h => by obtain ⟨_, ⟨st, _, h⟩, _⟩ := h; rw [h]; rfl) (fun cdv A outer s H E hr => ⟨_, (pss_one (ps_fld (pv 0) (pe_lc (own := [("other", 2)]) (by rfl) sc_Source_acknowledge.nd (kiList (K := K) rfl (kFld (K := K) rfl (pv 0) rfl)) (blkOk_by (own := [("other", 2)]) (N := ["self", "letter", "other"]) (sc := defScope s_Source_acknowledge) (by decide +kernel)) (fun _ _ _ _ _ => (pg_name (i := 2) sc_Source_acknowledge.nd rfl (Or.inl rfl))) (fun _ _ _ _ _ => (pts_one (pt_cmpR (kNeD (K := K) rfl hr.units) (pv 2) (pv 1) (nomark _)))) (fun _ _ _ _ _ => (pv 2))) rfl)), fun g Γ es r => ?_⟩), (F.bindsN fun _ _ _ _ _ _ us hl => match us, hl with | [_, _], _ => rfl)⟩⟩
  obtain ⟨⟨m, off, a, ⟨ss, cn, cs, due⟩, rest⟩, dd⟩ := g
  obtain ⟨⟨p, q, dx, vs, xs, ys, rfl⟩, ⟨l, ed, rfl⟩, so, sm⟩ := r
  have z1 := sm.ss
  have z2 := sm.due
  dsimp only at so z1 z2 ed ⊢
  subst ed
  refine m_weak (fun Γ' _ => ∃ q' ys' v, Γ' = (a, Cell.o (He.ga K "Source") dx v (srcF m off p q' cn cs)) :: (p, .l xs (ss.map slotD)) :: (q, .l ys (due.map (Let.d m.name))) :: (rest ++ [(q', .l ys' ((due.filter fun o => decide (o ≠ l)).map (Let.d m.name)))])) ?_ ?_
  · refine m_fld 0 (x_lcNew (F := Let.d m.name) ?_)
    walk_at "k28 f"
    refine ⟨q, due, rfl, .of (.tail _ (.tail _ (.head _))), by omega, fun o => decide (o ≠ l), Let.d m.name, fun o _ => ?_, fun o _ _ => ?_, fun q' ys' => ?_⟩
    · refine t_test (w_neD ?_)
      walk_at "k28"
      refine ⟨_, _, ⟨.inl rfl, .inl rfl⟩, shaped_let so o, shaped_let so l, ?_⟩
      rw [eqv_let]
      walk_at "k28"
      by_cases c : o = l <;> simp [c]
    · walk_at "k28"
    refine ⟨rfl, ?_⟩
    walk_at "k28"
    exact ⟨_, _, _, _, _, rfl, rfl, T.c_Source, T.n_due, by simp [srcF], fun v => ⟨q', ys', _, rfl⟩⟩
  · rintro Γ' ρ' ⟨q', ys', v, rfl⟩
    refine ⟨(a, Cell.o (He.ga K "Source") dx v (srcF m off p q' cn cs)) :: (p, .l xs (ss.map slotD)) :: (q', .l ys' ((due.filter fun o => decide (o ≠ l)).map (Let.d m.name))) :: rest, [(q, .l ys (due.map (Let.d m.name)))], ?_, rfl, ⟨p, q', dx, v, xs, ys', rfl⟩, _, rfl⟩
    refine .cons _ (.cons _ ?_)
    exact ((List.perm_append_singleton _ _).cons _).trans ((List.Perm.swap _ _ _).trans ((List.perm_append_singleton _ _).symm.cons _))
end
end TW
/-! K28P22 -/
namespace TW
open PySem PySem.Spec PyProof.Rows L2
local macro_rules | `(tactic| walk_at "k28 d") => `(tactic| first
  | refine w_var rfl ?_ | with_reducible refine w_int ?_ | with_reducible refine w_str ?_ | with_reducible refine w_non ?_ | with_reducible refine w_bl ?_
  | with_reducible refine w_ixT ?_ | with_reducible refine w_ixL ?_ | with_reducible refine w_add ?_ | with_reducible refine w_sub ?_ | with_reducible refine w_eq ?_ | with_reducible refine w_ne ?_ | with_reducible refine w_lt ?_
  | with_reducible refine w_leq ?_ | with_reducible refine w_gt ?_ | with_reducible refine w_ge ?_ | with_reducible refine w_mul ?_ | with_reducible refine w_div ?_ | with_reducible refine w_mod ?_ | with_reducible refine w_pow ?_
  | with_reducible refine w_neg ?_ | with_reducible refine w_isN ?_ | with_reducible refine w_notN ?_ | with_reducible refine a_nil ?_ | with_reducible refine a_cons ?_ | with_reducible refine w_tup ?_ | with_reducible refine w_lst ?_
  | with_reducible refine w_call0 ?_ | with_reducible refine w_len ?_ | with_reducible refine w_sumM ?_ | with_reducible refine w_allM ?_ | with_reducible refine w_tuple ?_ | with_reducible refine w_abs ?_ | with_reducible refine w_toInt ?_ | with_reducible refine w_max2 ?_
  | with_reducible refine w_min2 ?_ | with_reducible refine t_test ?_ | with_reducible refine t_B ?_ | with_reducible refine t_and ?_ | with_reducible refine t_or ?_ | with_reducible refine t_not ?_ | with_reducible refine t_yes ?_
  | with_reducible refine w_andV ?_ | with_reducible refine w_orV ?_ | with_reducible refine w_notV ?_ | with_reducible refine w_if ?_ | with_reducible refine w_chain ?_ | with_reducible refine o_none ?_ | with_reducible refine o_some ?_
  | with_reducible refine w_slT ?_ | with_reducible refine w_slL ?_ | with_reducible refine w_catT ?_ | with_reducible refine w_catL ?_ | with_reducible refine w_dget ?_ | with_reducible refine w_din ?_ | with_reducible refine w_dnotin ?_ | with_reducible refine w_sortD ?_ | with_reducible refine w_sortI ?_ | with_reducible refine w_callq ?_ | with_reducible refine w_isB ?_
  | with_reducible refine w_notB ?_ | with_reducible refine g_name ?_ | refine gs_nil rfl ?_ | refine gs_cons rfl ?_ | with_reducible refine s_next ?_ | with_reducible refine s_seq ?_ | with_reducible refine s_asg ?_
  | with_reducible refine s_drop ?_ | with_reducible refine s_ret ?_ | with_reducible refine s_brk ?_ | with_reducible refine s_if ?_)
local macro_rules | `(tactic| walk_at "k28 x") => `(tactic| first
  | refine g_tup ⟨_, rfl, rfl, ?_⟩ | refine ⟨_, _, _, _, rfl, rfl, rfl, rfl, rfl, ?_⟩ | refine ⟨_, _, _, rfl, rfl, rfl, ?_⟩ | refine ⟨_, _, _, rfl, rfl, atI_nat (j := 0) rfl, ?_⟩ | refine ⟨_, _, _, rfl, ?_⟩ | refine ⟨_, _, rfl, rfl, by decide, ?_⟩ | refine ⟨_, _, rfl, rfl, ⟨by decide, by decide⟩, ?_⟩ | refine ⟨_, _, rfl, rfl, ⟨by decide, by decide, by decide⟩, ?_⟩ | refine ⟨_, _, rfl, rfl, .inl ⟨by decide, by decide⟩, ?_⟩ | refine ⟨_, _, rfl, rfl, .inr ⟨by decide, by decide⟩, ?_⟩ | refine ⟨_, _, rfl, rfl, ?_⟩ | refine ⟨_, _, rfl, ?_⟩ | refine ⟨_, (show undats _ = some _ from rfl), by simp, ?_⟩ | refine ⟨_, rfl, ?_⟩ | refine ⟨_, .inl rfl, ?_⟩ | refine ⟨_, .inr rfl, ?_⟩ | refine ⟨_, _, rfl, rfl, ?_, ?_⟩)
local macro_rules | `(tactic| walk_at "k28 t") => `(tactic| first | rw [if_pos (by decide)] | rw [if_neg (by decide)] | rw [if_pos (by simp)] | rw [if_neg (by simp)])
local macro_rules | `(tactic| walk_at "k28") => `(tactic| repeat (first | walk_at "k28 d" | walk_at "k28 x" | exact rfl))
local macro_rules | `(tactic| walk_at "k28 s") => `(tactic| repeat (first | (fail_if_success with_reducible refine s_if ?_); (first | walk_at "k28 d" | walk_at "k28 x" | exact rfl)))
local macro_rules | `(tactic| walk_at "k28 o") => `(tactic| first
  | with_reducible refine w_dnotinO ?_ | with_reducible refine w_dgetO ?_ | with_reducible refine w_dget2O ?_ | with_reducible refine w_lenO ?_ | with_reducible refine w_tupleO ?_ | with_reducible refine w_notInO ?_ | with_reducible refine w_ixO ?_ | with_reducible refine w_fld ?_
  | refine ⟨_, _, _, rfl, rfl, .of (.head _), ?_⟩ | refine ⟨_, _, _, rfl, rfl, .of (.tail _ (.head _)), ?_⟩ | refine ⟨_, _, rfl, .of (.head _), ?_⟩ | refine ⟨_, _, rfl, .of (.tail _ (.head _)), ?_⟩)
local macro_rules | `(tactic| walk_at "k28 w") => `(tactic| first | with_reducible refine m_next ?_ | with_reducible refine m_seq ?_ | with_reducible refine m_asg (x_dnew fun p => ?_) | with_reducible refine m_asg (x_dnewT fun p => ?_) | with_reducible refine m_asg (x_lst ?_) | with_reducible refine m_asgP ?_ | with_reducible refine m_if ?_ | with_reducible refine m_retP ?_)
local macro_rules | `(tactic| walk_at "k28 m") => `(tactic| repeat (first | walk_at "k28 w" | walk_at "k28 o" | walk_at "k28 d" | walk_at "k28 x" | exact rfl))
local macro_rules | `(tactic| walk_at "k28 g") => `(tactic| repeat (first | with_reducible refine w_take ?_ | with_reducible refine w_word ?_ | with_reducible refine w_calld ?_ | with_reducible refine w_callgq ?_ | with_reducible refine w_addS ?_ | with_reducible refine w_ixS ?_ | with_reducible refine w_catL ?_ | walk_at "k28 w" | walk_at "k28 d" | refine ⟨_, _, rfl, .head _, (by first | decide | omega | simp | (simp only [List.length_map]; omega)), fun (r : Int) (r1 : 0 ≤ r) (r2 : r < _) => ?_⟩ | refine ⟨_, rfl, fun (s : Str) (sw : Wdn 60 s) => ?_⟩ | walk_at "k28 x" | exact rfl))
local macro_rules | `(tactic| walk_at "k28 f") => `(tactic| first
  | refine wf (Txt.c_Source (by assumption)) (Txt.n_meter (by assumption)) rfl lk_meter ?_ | refine wf (Txt.c_Source (by assumption)) (Txt.n_offset (by assumption)) rfl lk_offset ?_ | refine wf (Txt.c_Source (by assumption)) (Txt.n_slots (by assumption)) rfl lk_slots ?_ | refine wf (Txt.c_Source (by assumption)) (Txt.n_closed_number (by assumption)) rfl lk_closed_number ?_ | refine wf (Txt.c_Source (by assumption)) (Txt.n_closed_stamp (by assumption)) rfl lk_closed_stamp ?_ | refine wf (Txt.c_Source (by assumption)) (Txt.n_due (by assumption)) rfl lk_due ?_)
local macro_rules | `(tactic| walk_at "k28 n") => `(tactic| repeat (first | walk_at "k28 w" | walk_at "k28 f" | walk_at "k28 d" | walk_at "k28 x" | exact rfl))
local macro_rules | `(tactic| walk_at "k28 p") => `(tactic| first
  | with_reducible refine w_lenO ?_ | with_reducible refine w_tupleO ?_ | with_reducible refine w_ixO ?_
  | refine ⟨_, _, rfl, .of (.tail _ (.head _)), ?_⟩ | refine ⟨_, _, rfl, .of (.tail _ (.tail _ (.head _))), ?_⟩)
local macro_rules | `(tactic| walk_at "k28 q") => `(tactic| repeat (first | walk_at "k28 w" | walk_at "k28 f" | walk_at "k28 p" | walk_at "k28 d" | walk_at "k28 x" | exact rfl))
section
variable {P : Program} {w : World} {K : PySem.W.Frag} {mg : Str → Option Value} {base : Heap}
theorem sc_Source___init__ : FnScope ["self", "plan", "name", "offset"] ["self", "plan", "name", "offset"] (defScope s_Source___init__) := ⟨rfl, rfl, rfl, by decide +kernel, rfl, by decide +kernel, by decide +kernel⟩
structure GIn where
  p : Plan
  m : Meter
  off : Int
  x : Addr
  rest : Gs
def AIn (K : PySem.W.Frag) (g : GIn) (Γ : Gs) (es : List En1) : Prop := (∃ dx, Γ = (g.x, Cell.o (He.ga K "Source") dx [] []) :: g.rest) ∧ es = [.raw (.ref g.x), .dat g.p.d, .dat (.str g.m.name), .dat (.int g.off)] ∧ g.p.ms.length ≤ 1000 ∧ g.p.ms.find? (fun m => decide (m.name = g.m.name)) = some g.m
def SIn (K : PySem.W.Frag) (g : GIn) (Γ : Gs) (e : En1) : Prop := SrcIs K g.m g.off g.x ⟨[], 0, none, []⟩ g.rest Γ ∧ e = .dat .none
theorem om___init__ (T : Txt K mg) : OkM P w K mg base CX0 2 (He.ma K (He.ga K "Source") "__init__") ["self", "plan", "name", "offset"] (pso (AIn K) (SIn K) noR) := by
  obtain ⟨fd, F⟩ := T.F_Source___init__
  have o_meter_of := ok_meter_of (P := P) (w := w) (base := base) T
  refine ⟨⟨fd, ok_meth F sc_Source___init__ (fun g Γ es h => by rw [h.2.1]; rfl) (fun cdv A outer s H E hr => ⟨_, (pss_cons (ps_fld (pv 0) (pe_ok o_meter_of hr (by decide) (by rfl) (pa_cons (pv 1) (pa_cons (pv 2) pa_nil))) rfl) (pss_cons (ps_fld (pv 0) (pv 3) rfl) (pss_cons (ps_fld (pv 0) (pe_lst pa_nil) rfl) (pss_cons (ps_fld (pv 0) pe_int rfl) (pss_cons (ps_fld (pv 0) pe_non rfl) (pss_one (ps_fld (pv 0) (pe_lst pa_nil) rfl))))))), fun g Γ es r => ?_⟩), (F.bindsN fun _ _ _ _ _ _ us hl => match us, hl with | [_, _, _, _], _ => rfl)⟩⟩
  obtain ⟨p, m, off, x, rest⟩ := g
  obtain ⟨⟨dx, rfl⟩, rfl, few, hf⟩ := r
  dsimp only at few hf ⊢
  have L : ∀ (f : Str) (e : En1) (fs : List (Str × En1)) (k : Nat), fs.length ≤ k → (putE f e fs).length ≤ k + 1 := fun f e fs k h => Nat.le_trans (putE_len f e fs) (Nat.succ_le_succ h)
  refine m_seq (m_fld 0 (x_pure (w_callg1 ?_)))
  walk_at "k28"
  refine ⟨_, ⟨p, m.name, m, rfl, few, hf, rfl⟩, trivial, rfl, ?_⟩
  walk_at "k28"
  refine ⟨_, _, _, _, _, rfl, rfl, T.c_Source, T.n_meter, by simp, fun v1 => ?_⟩
  refine m_seq (m_fld 0 (x_pure ?_))
  walk_at "k28"
  refine ⟨rfl, ?_⟩
  walk_at "k28"
  refine ⟨_, _, _, _, _, rfl, rfl, T.c_Source, T.n_offset, Nat.lt_of_le_of_lt (putE_len _ _ _) (by simp), fun v2 => ?_⟩
  refine m_seq (m_fld 0 (x_lst (a_nil ⟨_, rfl, by simp, fun q1 xs => ⟨rfl, ?_⟩⟩)))
  walk_at "k28"
  refine ⟨_, _, _, _, _, rfl, rfl, T.c_Source, T.n_slots, Nat.lt_of_le_of_lt (L _ _ _ 1 (L _ _ _ 0 (Nat.le_refl _))) (by decide), fun v3 => ?_⟩
  refine m_seq (m_fld 0 (x_pure ?_))
  walk_at "k28"
  refine ⟨rfl, ?_⟩
  walk_at "k28"
  refine ⟨_, _, _, _, _, rfl, rfl, T.c_Source, T.n_closed_number, Nat.lt_of_le_of_lt (L _ _ _ 2 (L _ _ _ 1 (L _ _ _ 0 (Nat.le_refl _)))) (by decide), fun v4 => ?_⟩
  refine m_seq (m_fld 0 (x_pure ?_))
  walk_at "k28"
  refine ⟨rfl, ?_⟩
  walk_at "k28"
  refine ⟨_, _, _, _, _, rfl, rfl, T.c_Source, T.n_closed_stamp, Nat.lt_of_le_of_lt (L _ _ _ 3 (L _ _ _ 2 (L _ _ _ 1 (L _ _ _ 0 (Nat.le_refl _))))) (by decide), fun v5 => ?_⟩
  refine m_weak (fun Γ' _ => ∃ q2 ys v, Γ' = (x, Cell.o (He.ga K "Source") dx v (srcF m off q1 q2 0 none)) :: ((rest ++ [(q1, .l xs [])]) ++ [(q2, .l ys [])])) ?_ ?_
  · refine m_fld 0 (x_lst (a_nil ⟨_, rfl, by simp, fun q2 ys => ⟨rfl, ?_⟩⟩))
    walk_at "k28"
    exact ⟨_, _, _, _, _, rfl, rfl, T.c_Source, T.n_due, Nat.lt_of_le_of_lt (L _ _ _ 4 (L _ _ _ 3 (L _ _ _ 2 (L _ _ _ 1 (L _ _ _ 0 (Nat.le_refl _)))))) (by decide), fun v6 => ⟨q2, ys, _, rfl⟩⟩
  · rintro Γ' ρ' ⟨q2, ys, v, rfl⟩
    refine ⟨(x, Cell.o (He.ga K "Source") dx v (srcF m off q1 q2 0 none)) :: (q1, .l xs []) :: (q2, .l ys []) :: rest, [], ?_, ⟨q1, q2, dx, v, xs, ys, rfl⟩, rfl⟩
    rw [List.append_nil]
    refine .cons _ ?_
    exact (List.perm_append_singleton _ _).trans (((List.perm_append_singleton _ _).cons _).trans (List.Perm.swap _ _ _))
end
end TW
/-! K28P23 -/
namespace TW
open PySem PySem.Spec PyProof.Rows L2
local macro_rules | `(tactic| walk_at "k28 d") => `(tactic| first
  | refine w_var rfl ?_ | with_reducible refine w_int ?_ | with_reducible refine w_str ?_ | with_reducible refine w_non ?_ | with_reducible refine w_bl ?_
  | with_reducible refine w_ixT ?_ | with_reducible refine w_ixL ?_ | with_reducible refine w_add ?_ | with_reducible refine w_sub ?_ | with_reducible refine w_eq ?_ | with_reducible refine w_ne ?_ | with_reducible refine w_lt ?_
  | with_reducible refine w_leq ?_ | with_reducible refine w_gt ?_ | with_reducible refine w_ge ?_ | with_reducible refine w_mul ?_ | with_reducible refine w_div ?_ | with_reducible refine w_mod ?_ | with_reducible refine w_pow ?_
  | with_reducible refine w_neg ?_ | with_reducible refine w_isN ?_ | with_reducible refine w_notN ?_ | with_reducible refine a_nil ?_ | with_reducible refine a_cons ?_ | with_reducible refine w_tup ?_ | with_reducible refine w_lst ?_
  | with_reducible refine w_call0 ?_ | with_reducible refine w_len ?_ | with_reducible refine w_sumM ?_ | with_reducible refine w_allM ?_ | with_reducible refine w_tuple ?_ | with_reducible refine w_abs ?_ | with_reducible refine w_toInt ?_ | with_reducible refine w_max2 ?_
  | with_reducible refine w_min2 ?_ | with_reducible refine t_test ?_ | with_reducible refine t_B ?_ | with_reducible refine t_and ?_ | with_reducible refine t_or ?_ | with_reducible refine t_not ?_ | with_reducible refine t_yes ?_
  | with_reducible refine w_andV ?_ | with_reducible refine w_orV ?_ | with_reducible refine w_notV ?_ | with_reducible refine w_if ?_ | with_reducible refine w_chain ?_ | with_reducible refine o_none ?_ | with_reducible refine o_some ?_
  | with_reducible refine w_slT ?_ | with_reducible refine w_slL ?_ | with_reducible refine w_catT ?_ | with_reducible refine w_catL ?_ | with_reducible refine w_dget ?_ | with_reducible refine w_din ?_ | with_reducible refine w_dnotin ?_ | with_reducible refine w_sortD ?_ | with_reducible refine w_sortI ?_ | with_reducible refine w_callq ?_ | with_reducible refine w_isB ?_
  | with_reducible refine w_notB ?_ | with_reducible refine g_name ?_ | refine gs_nil rfl ?_ | refine gs_cons rfl ?_ | with_reducible refine s_next ?_ | with_reducible refine s_seq ?_ | with_reducible refine s_asg ?_
  | with_reducible refine s_drop ?_ | with_reducible refine s_ret ?_ | with_reducible refine s_brk ?_ | with_reducible refine s_if ?_)
local macro_rules | `(tactic| walk_at "k28 x") => `(tactic| first
  | refine g_tup ⟨_, rfl, rfl, ?_⟩ | refine ⟨_, _, _, _, rfl, rfl, rfl, rfl, rfl, ?_⟩ | refine ⟨_, _, _, rfl, rfl, rfl, ?_⟩ | refine ⟨_, _, _, rfl, rfl, atI_nat (j := 0) rfl, ?_⟩ | refine ⟨_, _, _, rfl, ?_⟩ | refine ⟨_, _, rfl, rfl, by decide, ?_⟩ | refine ⟨_, _, rfl, rfl, ⟨by decide, by decide⟩, ?_⟩ | refine ⟨_, _, rfl, rfl, ⟨by decide, by decide, by decide⟩, ?_⟩ | refine ⟨_, _, rfl, rfl, .inl ⟨by decide, by decide⟩, ?_⟩ | refine ⟨_, _, rfl, rfl, .inr ⟨by decide, by decide⟩, ?_⟩ | refine ⟨_, _, rfl, rfl, ?_⟩ | refine ⟨_, _, rfl, ?_⟩ | refine ⟨_, (show undats _ = some _ from rfl), by simp, ?_⟩ | refine ⟨_, rfl, ?_⟩ | refine ⟨_, .inl rfl, ?_⟩ | refine ⟨_, .inr rfl, ?_⟩ | refine ⟨_, _, rfl, rfl, ?_, ?_⟩)
local macro_rules | `(tactic| walk_at "k28 t") => `(tactic| first | rw [if_pos (by decide)] | rw [if_neg (by decide)] | rw [if_pos (by simp)] | rw [if_neg (by simp)])
local macro_rules | `(tactic| walk_at "k28") => `(tactic| repeat (first | walk_at "k28 d" | walk_at "k28 x" | exact rfl))
local macro_rules | `(tactic| walk_at "k28 s") => `(tactic| repeat (first | (fail_if_success with_reducible refine s_if ?_); (first | walk_at "k28 d" | walk_at "k28 x" | exact rfl)))
local macro_rules | `(tactic| walk_at "k28 o") => `(tactic| first
  | with_reducible refine w_dnotinO ?_ | with_reducible refine w_dgetO ?_ | with_reducible refine w_dget2O ?_ | with_reducible refine w_lenO ?_ | with_reducible refine w_tupleO ?_ | with_reducible refine w_notInO ?_ | with_reducible refine w_ixO ?_ | with_reducible refine w_fld ?_
  | refine ⟨_, _, _, rfl, rfl, .of (.head _), ?_⟩ | refine ⟨_, _, _, rfl, rfl, .of (.tail _ (.head _)), ?_⟩ | refine ⟨_, _, rfl, .of (.head _), ?_⟩ | refine ⟨_, _, rfl, .of (.tail _ (.head _)), ?_⟩)
local macro_rules | `(tactic| walk_at "k28 w") => `(tactic| first | with_reducible refine m_next ?_ | with_reducible refine m_seq ?_ | with_reducible refine m_asg (x_dnew fun p => ?_) | with_reducible refine m_asg (x_dnewT fun p => ?_) | with_reducible refine m_asg (x_lst ?_) | with_reducible refine m_asgP ?_ | with_reducible refine m_if ?_ | with_reducible refine m_retP ?_)
local macro_rules | `(tactic| walk_at "k28 m") => `(tactic| repeat (first | walk_at "k28 w" | walk_at "k28 o" | walk_at "k28 d" | walk_at "k28 x" | exact rfl))
local macro_rules | `(tactic| walk_at "k28 g") => `(tactic| repeat (first | with_reducible refine w_take ?_ | with_reducible refine w_word ?_ | with_reducible refine w_calld ?_ | with_reducible refine w_callgq ?_ | with_reducible refine w_addS ?_ | with_reducible refine w_ixS ?_ | with_reducible refine w_catL ?_ | walk_at "k28 w" | walk_at "k28 d" | refine ⟨_, _, rfl, .head _, (by first | decide | omega | simp | (simp only [List.length_map]; omega)), fun (r : Int) (r1 : 0 ≤ r) (r2 : r < _) => ?_⟩ | refine ⟨_, rfl, fun (s : Str) (sw : Wdn 60 s) => ?_⟩ | walk_at "k28 x" | exact rfl))
local macro_rules | `(tactic| walk_at "k28 f") => `(tactic| first
  | refine wf (Txt.c_Source (by assumption)) (Txt.n_meter (by assumption)) rfl lk_meter ?_ | refine wf (Txt.c_Source (by assumption)) (Txt.n_offset (by assumption)) rfl lk_offset ?_ | refine wf (Txt.c_Source (by assumption)) (Txt.n_slots (by assumption)) rfl lk_slots ?_ | refine wf (Txt.c_Source (by assumption)) (Txt.n_closed_number (by assumption)) rfl lk_closed_number ?_ | refine wf (Txt.c_Source (by assumption)) (Txt.n_closed_stamp (by assumption)) rfl lk_closed_stamp ?_ | refine wf (Txt.c_Source (by assumption)) (Txt.n_due (by assumption)) rfl lk_due ?_)
local macro_rules | `(tactic| walk_at "k28 n") => `(tactic| repeat (first | walk_at "k28 w" | walk_at "k28 f" | walk_at "k28 d" | walk_at "k28 x" | exact rfl))
local macro_rules | `(tactic| walk_at "k28 p") => `(tactic| first
  | with_reducible refine w_lenO ?_ | with_reducible refine w_tupleO ?_ | with_reducible refine w_ixO ?_
  | refine ⟨_, _, rfl, .of (.tail _ (.head _)), ?_⟩ | refine ⟨_, _, rfl, .of (.tail _ (.tail _ (.head _))), ?_⟩)
local macro_rules | `(tactic| walk_at "k28 q") => `(tactic| repeat (first | walk_at "k28 w" | walk_at "k28 f" | walk_at "k28 p" | walk_at "k28 d" | walk_at "k28 x" | exact rfl))
section
variable {P : Program} {w : World} {K : PySem.W.Frag} {mg : Str → Option Value} {base : Heap}
/-- the script stands where it stood -/
theorem sq_keep {KF : PySem.W.Frag} {H H' : Hp} {a : Addr} {xs : List V} (k : ∀ o, H a = some o → H' a = some o) (h : SqL KF H a xs) : SqL KF H' a xs := by
  rcases h with (h | ⟨o, h⟩) | h
  · exact .inl (.inl (k _ h))
  · exact .inl (.inr ⟨o, k _ h⟩)
  · exact .inr h
def pcell (K : PySem.W.Frag) : Sp := fun vs H Q _ => ∃ (a dr : Addr) (ns : List Int), vs = [.ref a, .ref dr] ∧ ns.length ≤ 1000 ∧ SqL K H a (ns.map V.int) ∧ JG [(dr, .rnd)] H ∧ (∀ H', Lg [(dr, .rnd)] [(dr, .rnd)] H H' → SqL K H' a (ns.map V.int)) ∧ ∀ c H', Lg [(dr, .rnd)] [(dr, .rnd)] H H' → Q (.int c) H'
theorem sc__law_cell : FnScope ["_law_script", "_law_draws_here"] ["_law_script", "_law_draws_here"] (defScope s__law_cell) := ⟨rfl, rfl, rfl, by decide +kernel, rfl, by decide +kernel, by decide +kernel⟩
theorem ok__law_cell (T : Txt K mg) : Ok P w K mg base CX0 2 "_law_cell" (He.ga K "_law_cell") ["_law_script", "_law_draws_here"] (pcell K) := by
  obtain ⟨fd, F⟩ := T.F__law_cell
  have o__law_take := ok__law_take (P := P) (w := w) (base := base) T
  refine ⟨⟨fd, F.ok sc__law_cell (fun vs H Q E ⟨a, dr, ns, e, _⟩ => by rw [e]; rfl) (fun cdv A outer s H vs Q E hr h => ⟨_, (show PSs (cxOf CX0 P w K mg base _ "_law_cell" (defScope s__law_cell) _ cdv A outer s H E).nox (defBody s__law_cell) _ from (pss_cons (ps_if (pt_cmpR op_eq (pe_callB (kLen (K := K) rfl) (by rfl) T.f_len (by decide +kernel) (pa_cons (pv 0) pa_nil)) pe_int (nomark _)) (pss_one (ps_ret pe_int)) pss_nil) (pss_one (ps_ret (pe_callTy call_int1 (by rfl) T.f_int (by decide +kernel) (pa_cons (pe_ix (kIxL (K := K) rfl) (pv 0) (pe_ok o__law_take hr (by decide) (by rfl) (pa_cons (pv 1) (pa_cons (pe_callB (kLen (K := K) rfl) (by rfl) T.f_len (by decide +kernel) (pa_cons (pv 0) pa_nil)) pa_nil))) (fun _ _ => rfl)) pa_nil)))))).nox, ?_⟩), (F.bindsN fun _ _ _ _ _ _ us hl => match us, hl with | [_, _], _ => rfl)⟩, T.g__law_cell, F.kp⟩
  obtain ⟨a, dr, ns, rfl, few, hS, j, ne, q⟩ := h
  show tCB (rLenQ K) (tCons (tVar 0) tNil) (L2.start ["_law_script", "_law_draws_here"] [V.ref a, V.ref dr]) H _
  refine ⟨_, rfl, a, ns.map V.int, rfl, .inl hS, rfl, _, rfl, ?_⟩
  by_cases c : ns = []
  · subst c
    exact iteT (q 0 H (.refl j))
  · have lp := List.length_pos_iff.mpr c
    have nz : ¬ decide (V.int ((ns.map V.int).length : Int) = V.int 0) = true := by
      rw [decide_eq_true_eq, List.length_map]
      intro z
      have := V.int.inj z
      omega
    show (if decide (V.int ((ns.map V.int).length : Int) = V.int 0) = true then _ else _)
    rw [if_neg nz]
    refine ⟨_, rfl, _, rfl, _, rfl, a, ns.map V.int, rfl, .inl hS, ?_⟩
    refine ⟨((ns.map V.int).length : Int), dr, [.raw (.ref dr), .dat (.int ((ns.map V.int).length : Int))], j, .cons (show Is (MG [(dr, .rnd)]).B H (.ref dr) (.raw (.ref dr)) from rfl) (.cons (At.int _) .nil), ⟨rfl, by rw [List.length_map]; omega⟩, fun v H' d l iv sd => ?_⟩
    obtain ⟨r, ed, r1, r2⟩ := sd
    obtain rfl : d = .int r := by injection ed
    obtain ⟨z, hz, mz⟩ := pick r1 r2
    obtain ⟨y, _, rfl⟩ := List.mem_map.mp mz
    exact ⟨a, ns.map V.int, r, .int y, rfl, At.of_int iv, ne H' l, hz, .inl ⟨y, rfl, q y H' l⟩⟩
end
end TW
/-! K28X3 -/
namespace TW
open PySem PySem.Spec PyProof.Rows L2
abbrev rListOf (K : PySem.W.Frag) : List V → Hp → VK → Prop := fun xs H Q => ∃ p ys, xs = [.ref p] ∧ (SqL K H p ys ∨ SqT K H p ys) ∧ ∀ l, H l = none → Q (.ref l) (upd H l (.lst ys))
theorem kListOf {X : Cx} {K : PySem.W.Frag} (h : X.K = K) : CallR X (.type "list") (rListOf K) := by subst h; exact call_list_of
section
variable {Γ : Gs} {ρ : Ro} {ta : TE} {KF : PySem.W.Frag} {K : Gs → En1 → Prop}
/-- list(l) of an owned list -/
theorem x_listOf {t : TA} (h : Wa (MG Γ) t ρ fun es => ∃ a ds, es = [.raw (.ref a)] ∧ OwL (MG Γ) a ds ∧ ∀ p xs, K (Γ ++ [(p, .l xs ds)]) (.raw (.ref p))) : Wx Γ (tCB (rListOf KF) t) ρ K := fun σ H j n Q q =>
  h σ H j n _ fun vs H1 es l1 i1 ⟨a, ds, ee, ⟨xs, o⟩, k⟩ => by
    subst ee
    cases i1 with
    | cons i1 r1 =>
    cases r1
    rename_i y
    obtain rfl : y = .ref a := i1
    obtain ⟨hp, r⟩ := o H1 l1.2
    refine ⟨a, xs, rfl, .inl (SqL.of hp), fun l hl => ?_⟩
    exact q _ _ _ (.raw (.ref l)) ((Lg.of l1).trans (JG.new (c := .l xs ds) l1.2 hl ⟨upd_same, r.keep (Same.kt (same_new hl))⟩)) rfl (k l xs)
theorem AtS.rev {H : Hp} : ∀ {vs : List V} {ds : List Dt}, AtS H vs ds → AtS H vs.reverse ds.reverse
  | _, _, .nil => .nil
  | _, _, .cons a r => by
    rw [List.reverse_cons, List.reverse_cons]
    exact (AtS.rev r).app (.cons a .nil)
/-- l.reverse() -/
theorem x_reverse (i : Nat) (h : We (MG Γ) ta ρ fun x => ∃ a xs ds, x = .raw (.ref a) ∧ Γ[i]? = some (a, .l xs ds) ∧ ∀ xs', K (Γ.set i (a, .l xs' ds.reverse)) (.dat .none)) : Wx Γ (tBM0 KF "list" rReverse ta) ρ K := fun σ H j n Q q =>
  h σ H j n _ fun v H1 x l1 i1 ⟨a, xs, ds, ex, hi, k⟩ => by
    subst ex
    obtain rfl : v = .ref a := i1
    have lb := Lg.of l1
    obtain ⟨c1, c2⟩ := lb.j.at hi
    have kt : KT H1 (upd H1 a (.lst xs.reverse)) := fun b ys e => by rw [upd_ne (ne_of e c1 (by intro z; cases z))]; exact e
    have w := lb.j.write (c' := .l xs.reverse ds.reverse) (o := .lst xs.reverse) hi (fun _ e => by cases e) ⟨upd_same, c2.rev.keep kt⟩
    exact ⟨ty_list c1, a, xs, rfl, rfl, c1, q _ _ _ _ (lb.trans w) (Is.d At.non) (k _)⟩
end
end TW
/-! K28P24 -/
namespace TW
open PySem PySem.Spec PyProof.Rows L2
local macro_rules | `(tactic| walk_at "k28 d") => `(tactic| first
  | refine w_var rfl ?_ | with_reducible refine w_int ?_ | with_reducible refine w_str ?_ | with_reducible refine w_non ?_ | with_reducible refine w_bl ?_
  | with_reducible refine w_ixT ?_ | with_reducible refine w_ixL ?_ | with_reducible refine w_add ?_ | with_reducible refine w_sub ?_ | with_reducible refine w_eq ?_ | with_reducible refine w_ne ?_ | with_reducible refine w_lt ?_
  | with_reducible refine w_leq ?_ | with_reducible refine w_gt ?_ | with_reducible refine w_ge ?_ | with_reducible refine w_mul ?_ | with_reducible refine w_div ?_ | with_reducible refine w_mod ?_ | with_reducible refine w_pow ?_
  | with_reducible refine w_neg ?_ | with_reducible refine w_isN ?_ | with_reducible refine w_notN ?_ | with_reducible refine a_nil ?_ | with_reducible refine a_cons ?_ | with_reducible refine w_tup ?_ | with_reducible refine w_lst ?_
  | with_reducible refine w_call0 ?_ | with_reducible refine w_len ?_ | with_reducible refine w_sumM ?_ | with_reducible refine w_allM ?_ | with_reducible refine w_tuple ?_ | with_reducible refine w_abs ?_ | with_reducible refine w_toInt ?_ | with_reducible refine w_max2 ?_
  | with_reducible refine w_min2 ?_ | with_reducible refine t_test ?_ | with_reducible refine t_B ?_ | with_reducible refine t_and ?_ | with_reducible refine t_or ?_ | with_reducible refine t_not ?_ | with_reducible refine t_yes ?_
  | with_reducible refine w_andV ?_ | with_reducible refine w_orV ?_ | with_reducible refine w_notV ?_ | with_reducible refine w_if ?_ | with_reducible refine w_chain ?_ | with_reducible refine o_none ?_ | with_reducible refine o_some ?_
  | with_reducible refine w_slT ?_ | with_reducible refine w_slL ?_ | with_reducible refine w_catT ?_ | with_reducible refine w_catL ?_ | with_reducible refine w_dget ?_ | with_reducible refine w_din ?_ | with_reducible refine w_dnotin ?_ | with_reducible refine w_sortD ?_ | with_reducible refine w_sortI ?_ | with_reducible refine w_callq ?_ | with_reducible refine w_isB ?_
  | with_reducible refine w_notB ?_ | with_reducible refine g_name ?_ | refine gs_nil rfl ?_ | refine gs_cons rfl ?_ | with_reducible refine s_next ?_ | with_reducible refine s_seq ?_ | with_reducible refine s_asg ?_
  | with_reducible refine s_drop ?_ | with_reducible refine s_ret ?_ | with_reducible refine s_brk ?_ | with_reducible refine s_if ?_)
local macro_rules | `(tactic| walk_at "k28 x") => `(tactic| first
  | refine g_tup ⟨_, rfl, rfl, ?_⟩ | refine ⟨_, _, _, _, rfl, rfl, rfl, rfl, rfl, ?_⟩ | refine ⟨_, _, _, rfl, rfl, rfl, ?_⟩ | refine ⟨_, _, _, rfl, rfl, atI_nat (j := 0) rfl, ?_⟩ | refine ⟨_, _, _, rfl, ?_⟩ | refine ⟨_, _, rfl, rfl, by decide, ?_⟩ | refine ⟨_, _, rfl, rfl, ⟨by decide, by decide⟩, ?_⟩ | refine ⟨_, _, rfl, rfl, ⟨by decide, by decide, by decide⟩, ?_⟩ | refine ⟨_, _, rfl, rfl, .inl ⟨by decide, by decide⟩, ?_⟩ | refine ⟨_, _, rfl, rfl, .inr ⟨by decide, by decide⟩, ?_⟩ | refine ⟨_, _, rfl, rfl, ?_⟩ | refine ⟨_, _, rfl, ?_⟩ | refine ⟨_, (show undats _ = some _ from rfl), by simp, ?_⟩ | refine ⟨_, rfl, ?_⟩ | refine ⟨_, .inl rfl, ?_⟩ | refine ⟨_, .inr rfl, ?_⟩ | refine ⟨_, _, rfl, rfl, ?_, ?_⟩)
local macro_rules | `(tactic| walk_at "k28 t") => `(tactic| first | rw [if_pos (by decide)] | rw [if_neg (by decide)] | rw [if_pos (by simp)] | rw [if_neg (by simp)])
local macro_rules | `(tactic| walk_at "k28") => `(tactic| repeat (first | walk_at "k28 d" | walk_at "k28 x" | exact rfl))
local macro_rules | `(tactic| walk_at "k28 s") => `(tactic| repeat (first | (fail_if_success with_reducible refine s_if ?_); (first | walk_at "k28 d" | walk_at "k28 x" | exact rfl)))
local macro_rules | `(tactic| walk_at "k28 o") => `(tactic| first
  | with_reducible refine w_dnotinO ?_ | with_reducible refine w_dgetO ?_ | with_reducible refine w_dget2O ?_ | with_reducible refine w_lenO ?_ | with_reducible refine w_tupleO ?_ | with_reducible refine w_notInO ?_ | with_reducible refine w_ixO ?_ | with_reducible refine w_fld ?_
  | refine ⟨_, _, _, rfl, rfl, .of (.head _), ?_⟩ | refine ⟨_, _, _, rfl, rfl, .of (.tail _ (.head _)), ?_⟩ | refine ⟨_, _, rfl, .of (.head _), ?_⟩ | refine ⟨_, _, rfl, .of (.tail _ (.head _)), ?_⟩)
local macro_rules | `(tactic| walk_at "k28 w") => `(tactic| first | with_reducible refine m_next ?_ | with_reducible refine m_seq ?_ | with_reducible refine m_asg (x_dnew fun p => ?_) | with_reducible refine m_asg (x_dnewT fun p => ?_) | with_reducible refine m_asg (x_lst ?_) | with_reducible refine m_asgP ?_ | with_reducible refine m_if ?_ | with_reducible refine m_retP ?_)
local macro_rules | `(tactic| walk_at "k28 m") => `(tactic| repeat (first | walk_at "k28 w" | walk_at "k28 o" | walk_at "k28 d" | walk_at "k28 x" | exact rfl))
local macro_rules | `(tactic| walk_at "k28 g") => `(tactic| repeat (first | with_reducible refine w_take ?_ | with_reducible refine w_word ?_ | with_reducible refine w_calld ?_ | with_reducible refine w_callgq ?_ | with_reducible refine w_addS ?_ | with_reducible refine w_ixS ?_ | with_reducible refine w_catL ?_ | walk_at "k28 w" | walk_at "k28 d" | refine ⟨_, _, rfl, .head _, (by first | decide | omega | simp | (simp only [List.length_map]; omega)), fun (r : Int) (r1 : 0 ≤ r) (r2 : r < _) => ?_⟩ | refine ⟨_, rfl, fun (s : Str) (sw : Wdn 60 s) => ?_⟩ | walk_at "k28 x" | exact rfl))
local macro_rules | `(tactic| walk_at "k28 f") => `(tactic| first
  | refine wf (Txt.c_Source (by assumption)) (Txt.n_meter (by assumption)) rfl lk_meter ?_ | refine wf (Txt.c_Source (by assumption)) (Txt.n_offset (by assumption)) rfl lk_offset ?_ | refine wf (Txt.c_Source (by assumption)) (Txt.n_slots (by assumption)) rfl lk_slots ?_ | refine wf (Txt.c_Source (by assumption)) (Txt.n_closed_number (by assumption)) rfl lk_closed_number ?_ | refine wf (Txt.c_Source (by assumption)) (Txt.n_closed_stamp (by assumption)) rfl lk_closed_stamp ?_ | refine wf (Txt.c_Source (by assumption)) (Txt.n_due (by assumption)) rfl lk_due ?_)
local macro_rules | `(tactic| walk_at "k28 n") => `(tactic| repeat (first | walk_at "k28 w" | walk_at "k28 f" | walk_at "k28 d" | walk_at "k28 x" | exact rfl))
local macro_rules | `(tactic| walk_at "k28 p") => `(tactic| first
  | with_reducible refine w_lenO ?_ | with_reducible refine w_tupleO ?_ | with_reducible refine w_ixO ?_
  | refine ⟨_, _, rfl, .of (.tail _ (.head _)), ?_⟩ | refine ⟨_, _, rfl, .of (.tail _ (.tail _ (.head _))), ?_⟩)
local macro_rules | `(tactic| walk_at "k28 q") => `(tactic| repeat (first | walk_at "k28 w" | walk_at "k28 f" | walk_at "k28 p" | walk_at "k28 d" | walk_at "k28 x" | exact rfl))
section
variable {P : Program} {w : World} {K : PySem.W.Frag} {mg : Str → Option Value} {base : Heap}
def pdraws (K : PySem.W.Frag) : Sp := fun vs H Q _ => ∃ (a : Addr) (ns : List Int) (m : Int), vs = [.ref a, .int m] ∧ ns.length ≤ 1000 ∧ 0 ≤ m ∧ m ≤ 1000 ∧ SqL K H a (ns.map V.int) ∧ ∀ dr H', Same H H' → H dr = none → JG [(dr, .rnd)] H' → Q (.ref dr) H'
theorem m_cut {Γ : Gs} {ρ : Ro} {P : Pg} {t u : TS} (N : Gs → Ro → Prop) (h : Wm Γ t ρ { P with nx := N }) (k : ∀ Γ' ρ', N Γ' ρ' → Wm Γ' u ρ' P) : Wm Γ (tSeq t u) ρ P :=
  m_seq fun D σ H j n a b c d => h D σ H j n (fun σ' H' Γ' ρ' l n' x => a σ' H' Γ' ρ' l n' (k Γ' ρ' x)) b c d
theorem use_wm {Γ : Gs} {ρ : Ro} {P : Pg} {t : TS} {D : Ends} {σ : L2.St} {H : Hp} (j : JG Γ H) (n : En (MG Γ) H σ ρ) (a : HitG Γ H P.nx D.nx) (b : HitE Γ H P.rt D.rt) (c : HitG Γ H P.bk D.bk) (d : HitG Γ H P.ct D.ct) (h : Wm Γ t ρ P) : t D σ H := h D σ H j n a b c d
theorem sc__law_draws : FnScope ["_law_script", "_law_many", "_law_cells", "_law_rest", "_law_draws_here", "_law_k", "_law_at", "_law_once", "_law_cell_here"] ["_law_script", "_law_many"] (defScope s__law_draws) := ⟨rfl, rfl, rfl, by decide +kernel, rfl, by decide +kernel, by decide +kernel⟩
theorem ok__law_draws (T : Txt K mg) : Ok P w K mg base CX0 1 "_law_draws" (He.ga K "_law_draws") ["_law_script", "_law_many"] (pdraws K) := by
  obtain ⟨fd, F⟩ := T.F__law_draws
  refine ⟨⟨fd, F.ok sc__law_draws (fun vs H Q E ⟨a, ns, m, e, _⟩ => by rw [e]; rfl) (fun cdv A outer s H vs Q E hr h => ⟨_, (show PSs (cxOf CX0 P w K mg base _ "_law_draws" (defScope s__law_draws) _ cdv A outer s H E).nox (defBody s__law_draws) _ from (pss_cons (ps_setLc (i := 2) (own := [("_law_cell_here", 8)]) (by rfl) sc__law_draws.nd rfl rfl (sw_true rfl rfl rfl (by decide +kernel)) (kiList (K := K) rfl (pv 0)) (blkOk_by (own := [("_law_cell_here", 8)]) (N := ["_law_script", "_law_many", "_law_cells", "_law_rest", "_law_draws_here", "_law_k", "_law_at", "_law_once", "_law_cell_here"]) (sc := defScope s__law_draws) (by decide +kernel)) (fun _ _ _ _ _ => (pg_name (i := 8) sc__law_draws.nd rfl (Or.inl rfl))) (fun _ _ _ _ _ => pts_nil) (fun _ _ _ _ _ => (pe_callTy call_int1 (by rfl) T.f_int (by decide +kernel) (pa_cons (pv 8) pa_nil)))) (pss_cons (ps_if (pt_cmpR op_eq (pe_callB (kLen (K := K) rfl) (by rfl) T.f_len (by decide +kernel) (pa_cons (pv 2) pa_nil)) pe_int (nomark _)) (pss_one (ps_expr (pe_bm PySem.F.plainAttrs_list PySem.F.slot_list_append PySem.F.type_list_append mt_append (pv 2) (pa_cons pe_int pa_nil)))) pss_nil) (pss_cons (ps_set (i := 3) sc__law_draws.nd rfl (Or.inl rfl) (pe_callTy (kListOf (K := K) rfl) (by rfl) T.f_list (by decide +kernel) (pa_cons (pv 2) pa_nil))) (pss_cons (ps_set (i := 4) sc__law_draws.nd rfl (Or.inl rfl) (pe_lst pa_nil)) (pss_cons (ps_for PassesOwn.never rfl (pi_range1 (by rfl) T.f_range (pa_cons (pv 1) pa_nil)) (pg_name (i := 5) sc__law_draws.nd rfl (Or.inl rfl)) (pss_cons (ps_set (i := 6) sc__law_draws.nd rfl (Or.inl rfl) (pe_op op_mod (pv 5) (pe_callB (kLen (K := K) rfl) (by rfl) T.f_len (by decide +kernel) (pa_cons (pv 2) pa_nil)))) (pss_one (ps_if (pt_cmpR op_ge (pe_ix (kIxL (K := K) rfl) (pv 2) (pv 6) (fun _ _ => rfl)) (pe_op op_pow pe_int pe_int) (nomark _)) (pss_cons (ps_expr (pe_bm PySem.F.plainAttrs_list PySem.F.slot_list_append PySem.F.type_list_append mt_append (pv 4) (pa_cons (pe_op op_mod (pe_callTy call_int1 (by rfl) T.f_int (by decide +kernel) (pa_cons (pe_ix (kIxL (K := K) rfl) (pv 3) (pv 6) (fun _ _ => rfl)) pa_nil)) pe_int) pa_nil))) (pss_one (ps_asg (pe_op op_fdiv (pe_ix (kIxL (K := K) rfl) (pv 3) (pv 6) (fun _ _ => rfl)) pe_int) (pg_sub (pv 3) (pv 6) set_list)))) (pss_cons (ps_set (i := 7) sc__law_draws.nd rfl (Or.inl rfl) (pe_op op_mod (pe_callTy call_int1 (by rfl) T.f_int (by decide +kernel) (pa_cons (pe_op op_add (pe_op op_add (pe_op op_mul (pe_ix (kIxL (K := K) rfl) (pv 2) (pv 6) (fun _ _ => rfl)) pe_int) (pe_op op_mul (pv 5) pe_int)) pe_int) pa_nil)) pe_int)) (pss_one (ps_expr (pe_bm PySem.F.plainAttrs_list PySem.F.slot_list_append PySem.F.type_list_append mt_append (pv 4) (pa_cons (pe_op op_mod (pe_callTy call_int1 (by rfl) T.f_int (by decide +kernel) (pa_cons (pe_op op_add (pe_op op_add (pe_op op_mul (pv 7) (pv 7)) (pe_op op_mul pe_int (pv 7))) (pv 5)) pa_nil)) pe_int) pa_nil))))))))) (pss_cons (ps_expr (pe_bm0 PySem.F.plainAttrs_list PySem.F.slot_list_reverse PySem.F.type_list_reverse mt_reverse (pv 4))) (pss_one (ps_ret (pv 4)))))))))).nox, ?_⟩), (F.bindsN fun _ _ _ _ _ _ us hl => match us, hl with | [_, _], _ => rfl)⟩, T.g__law_draws, F.kp⟩
  obtain ⟨a, ns, m, rfl, few, m0, m1, hS, q⟩ := h
  refine ⟨_, rfl, a, rfl, ⟨_, hS⟩, fun D hD => ?_⟩
  refine lc_list (xs := ns.map V.int) (fun i H' => Same H H' ∧ H' D = some (.lst ((ns.take i).map V.int))) ⟨same_new hD, upd_same⟩ (fun i H' _ l => sq_keep (fun o e => l.1 a o e) hS) ?_ ?_
  · rintro i x H' hx ⟨s1, hD1⟩
    rw [List.getElem?_map] at hx
    obtain ⟨n, hn, rfl⟩ := Option.map_eq_some_iff.mp hx
    refine ⟨wipe1 _ _ _, yes_if ⟨_, rfl, .inl ⟨n, rfl, (ns.take i).map V.int, hD1, ?_, fun b o e => ?_, ?_⟩⟩⟩
    · rw [List.length_map, List.length_take, sizeLine_eq]; omega
    · rw [upd_ne (ne_of_none e hD)]
      exact s1 b o e
    · rw [upd_same, List.take_succ, hn, List.map_append]
      rfl
  rintro H' ⟨s1, hD1⟩
  rw [List.length_map, List.take_length] at hD1
  have j1 : JG [(D, .l (ns.map V.int) (ns.map .int))] H' := jg_one ⟨hD1, atS_ints ns⟩
  show tSeq _ _ _ (List.set _ 2 (some (V.ref D))) H'
  refine use_wm (ρ := [some (.raw (.ref a)), some (.dat (.int m)), some (.raw (.ref D)), none, none, none, none, none, none]) (P := { nx := fun _ _ => False, rt := fun Γ' e => ∃ (dr : Addr) (ns' : List Int) (xs : List V), e = .raw (.ref dr) ∧ (dr, Cell.l xs (ns'.map .int)) ∈ Γ' }) j1
      (.cons (fun x ex => by cases ex; exact ⟨_, rfl, rfl⟩) (.cons (fun x ex => by cases ex; exact ⟨_, rfl, At.int m⟩) (.cons (fun x ex => by cases ex; exact ⟨_, rfl, rfl⟩) (.cons (fun x ex => by cases ex) (.cons (fun x ex => by cases ex) (.cons (fun x ex => by cases ex) (.cons (fun x ex => by cases ex) (.cons (fun x ex => by cases ex) (.cons (fun x ex => by cases ex) .nil)))))))))
      (fun _ _ _ _ _ _ z => z.elim) (fun v H2 Γ' e l iv z => ?_) (fun _ _ _ _ _ _ z => z.elim) (fun _ _ _ _ _ _ z => z.elim) ?_
  · obtain ⟨dr, ns', xs, ee, hm⟩ := z
    subst ee
    obtain rfl : v = .ref dr := iv
    refine q dr H2 (fun b o e => l.k b o (fun z => ?_) (s1 b o e)) ?_ (jg_one ((IsRnd.l xs ns').holds (l.j.2 _ hm)))
    · rw [dm_one.mp z, hD] at e
      cases e
    · rcases l.f dr (mem_dm hm) with z | z
      · rw [dm_one.mp z]; exact hD
      · cases e : H dr with
        | none => rfl
        | some o => rw [s1 dr o e] at z; cases z
  refine m_seq (m_next ?_)
  refine m_cut (fun Γ' ρ' => ∃ (xs : List V) (nc : List Int), Γ' = [(D, .l xs (nc.map .int))] ∧ 1 ≤ nc.length ∧ nc.length ≤ 1000 ∧ ρ' = [some (.raw (.ref a)), some (.dat (.int m)), some (.raw (.ref D)), none, none, none, none, none, none]) ?_ ?_
  · refine m_if (t_test (w_eq (w_lenO ?_)))
    walk_at "k28 m"
    rw [List.length_map]
    cases ns with
    | nil =>
      rw [if_pos (by decide)]
      refine m_drop (x_append 0 ?_)
      walk_at "k28"
      refine ⟨_, _, _, rfl, rfl, ?_⟩
      walk_at "k28"
      exact ⟨by simp, fun xs' => ⟨xs', [0], rfl, by simp, by simp, rfl⟩⟩
    | cons n0 ns =>
      rw [if_neg (by simp; omega)]
      exact m_next ⟨_, n0 :: ns, rfl, by simp, few, rfl⟩
  rintro Γ' ρ' ⟨xs, nc, rfl, c1, c2, rfl⟩
  refine m_seq (m_asg (x_listOf ?_))
  walk_at "k28"
  refine ⟨_, _, rfl, .of (.head _), fun p xr => g_name ?_⟩
  refine m_seq (m_asg (x_lst (a_nil ⟨_, rfl, by simp, fun p2 xd => g_name ?_⟩)))
  refine m_seq (m_forR ?_)
  walk_at "k28"
  refine ⟨m0, by omega, fun i Γ' ρ' => Hid (∃ (xr xd : List V) (nr nd : List Int) (b1 b2 b3 : Option En1), Γ' = [(D, .l xs (nc.map .int)), (p, .l xr (nr.map .int)), (p2, .l xd (nd.map .int))] ∧ nr.length = nc.length ∧ nd.length ≤ i ∧ ρ' = [some (.raw (.ref a)), some (.dat (.int m)), some (.raw (.ref D)), some (.raw (.ref p)), some (.raw (.ref p2)), b1, b2, b3, none]), hid ⟨xr, xd, nc, [], none, none, none, rfl, rfl, Nat.le_refl _, rfl⟩, ?_, ?_⟩
  · intro i Γ' ρ' hi hI
    obtain ⟨xr, xd, nr, nd, b1, b2, b3, rfl, lr, ld, rfl⟩ := hI.out
    walk_at "k28"
    refine m_seq (m_asgP (w_mod (w_var rfl (w_lenO (a_cons (w_var rfl (a_nil ⟨_, _, rfl, .of (.head _), _, _, rfl, rfl, by rw [List.length_map]; omega, g_name ?_⟩)))))))
    have g0 : 0 ≤ (i : Int) % ((nc.map PyData.int).length : Int) := Int.emod_nonneg _ (by rw [List.length_map]; omega)
    have g1 : (i : Int) % ((nc.map PyData.int).length : Int) < ((nc.map PyData.int).length : Int) := Int.emod_lt_of_pos _ (by rw [List.length_map]; omega)
    generalize (i : Int) % ((nc.map PyData.int).length : Int) = at0 at g0 g1 ⊢
    obtain ⟨d, hc, md⟩ := pick g0 g1
    obtain ⟨c, _, rfl⟩ := List.mem_map.mp md
    have g2 : at0 < ((nr.map PyData.int).length : Int) := by rw [List.length_map] at g1 ⊢; omega
    obtain ⟨d, hr', md'⟩ := pick g0 g2
    obtain ⟨c', _, rfl⟩ := List.mem_map.mp md'
    refine m_if (t_test (w_ge (w_ixO (w_var rfl (w_var rfl ⟨_, _, _, _, rfl, .of (.head _), rfl, hc, ?_⟩)))))
    walk_at "k28"
    split
    · refine m_seq (m_drop (x_append 2 (w_var rfl ⟨_, _, _, rfl, rfl, a_cons (w_mod (w_toInt (a_cons (w_ixO (w_var rfl (w_var rfl ⟨_, _, _, _, rfl, .of (.tail _ (.head _)), rfl, hr', ?_⟩))))))⟩)))
      walk_at "k28"
      refine ⟨by rw [List.length_map]; omega, fun xs' => ?_⟩
      refine m_setL 1 (w_div (w_ixO (w_var rfl (w_var rfl ⟨_, _, _, _, rfl, .of (.tail _ (.head _)), rfl, hr', ?_⟩))))
      walk_at "k28"
      have ixe : ixN (nr.map PyData.int).length at0 = some at0.toNat := by
        unfold ixN
        rw [if_pos g0, if_pos g2]
      refine ⟨_, _, _, _, _, at0.toNat, rfl, rfl, rfl, rfl, ixe, fun xs2 => ?_⟩
      refine hid ⟨xs2, xs', nr.set at0.toNat (c' / 1000), nd ++ [c' % 1000], _, _, _, ?_, by rw [List.length_set]; exact lr, by rw [List.length_append]; simp; omega, rfl⟩
      rw [List.map_set, List.map_append]
      rfl
    · refine m_seq (m_asgP (w_mod (w_toInt (a_cons (w_add (w_add (w_mul (w_ixO (w_var rfl (w_var rfl ⟨_, _, _, _, rfl, .of (.head _), rfl, hc, ?_⟩))))))))))
      walk_at "k28"
      refine m_drop (x_append 2 (w_var rfl ⟨_, _, _, rfl, rfl, ?_⟩))
      walk_at "k28"
      have o0 : 0 ≤ (c * 48271 + (i : Int) * 69621 + 11) % 2147483647 := Int.emod_nonneg _ (by decide)
      have o1 : (c * 48271 + (i : Int) * 69621 + 11) % 2147483647 < 2147483647 := Int.emod_lt_of_pos _ (by decide)
      generalize (c * 48271 + (i : Int) * 69621 + 11) % 2147483647 = once at o0 o1 ⊢
      refine ⟨.inl ⟨by omega, by omega⟩, ?_⟩
      walk_at "k28"
      refine ⟨by rw [List.length_map]; omega, fun xs' => ?_⟩
      refine hid ⟨xr, xs', nr, nd ++ [(once * once + 3 * once + i) % 1000003], _, _, _, ?_, lr, by rw [List.length_append]; simp; omega, rfl⟩
      rw [List.map_append]
      rfl
  · intro Γ' ρ' hI
    obtain ⟨xr, xd, nr, nd, b1, b2, b3, rfl, lr, ld, rfl⟩ := hI.out
    refine m_seq (m_drop (x_reverse 2 (w_var rfl ⟨_, _, _, rfl, rfl, fun xs' => ?_⟩)))
    refine m_retP (w_var rfl ?_)
    exact ⟨p2, nd.reverse, xs', rfl, by rw [List.map_reverse]; exact .tail _ (.tail _ (.head _))⟩
end
end TW
/-! K28H -/
/-! K28: a def that is called in an except suite and asks the exception for its classes. -/
namespace TW
open PySem PySem.Spec PyProof.Rows L2 L2H
/-- a def's promise there: sp is told the exception's address; D is its class -/
structure FnZ (P : Program) (w : World) (K : PySem.W.Frag) (mg : Str → Option Value) (base : Heap) (CX : CXT) (k : Nat) (f : Addr) (fd : FuncData) (ps : List Str) (D : Addr) (sp : Addr → Sp) : Prop where
  len : ∀ a vs H Q E, sp a vs H Q E → vs.length = ps.length
  run : ∀ (A : Around) (outer : List Env) (s : Shared) (H : Hp) (args : Args) (us : List Value) (vs : List V) (Q : VK) (E : XK) (p : Addr × Obj), RoomH k A → Hot1 A p → Zc (.ref D) none p.2 → PinOk outer H s p → Env0 P w K mg base A outer s H → BindsTo s fd args (ps.zip us) → Vals vs us → sp p.1 vs H Q E →
    codeAny (model P w) A (.call (.ref f) args) (CR CX outer P w H s Q E) s
theorem fn_ofZ {CX : CXT} {P : Program} {w : World} {K : PySem.W.Frag} {mg : Str → Option Value} {base : Heap} {k : Nat} {f D : Addr} {name qual : Str} {params : Arguments} {body : List Stmt} {scope : Scope} {dV kV doc pm cdv ct oc : Value} {an od : Option Addr}
    {osl : Array (Option Value)} {N ps : List Str} {sp : Addr → Sp} (lk : K.lookup f = some ⟨oc, od, .func (PySem.W.fnOf name qual params body scope dV kV doc pm an cdv ct), osl⟩) (hcd : PySem.W.codeIn K cdv qual = true) (S : FnScope N ps scope)
    (len : ∀ a vs H Q E, sp a vs H Q E → vs.length = ps.length)
    (hbody : ∀ (A : Around) (outer : List Env) (s : Shared) (H : Hp) (vs : List V) (Q : VK) (E : XK) (p : Addr × Obj), Hot1 A p → Zc (.ref D) none p.2 → RoomH k (A.deeper (envOfC qual scope s.heap.objs.size f cdv)) → sp p.1 vs H Q E →
      ∃ t, PSs (cxH CX P w K mg base N qual scope f cdv A outer s H E p) body t ∧ t { nx := fun _ H' => Q .non H', rt := Q } (L2.start N vs) H) :
    FnZ P w K mg base CX (k + 1) f (PySem.W.fnOf name qual params body scope dV kV doc pm an cdv ct) ps D sp := by
  refine ⟨len, fun A outer s H args us vs Q E p hr hot hz pin e0 hb r h => ?_⟩
  have hl := len _ _ _ _ _ h
  have KX : K.In s.heap := e0.mod.kin.keeps fun b o e => (e0.bs b o e).1
  have lim : s.heap.NoLimit := e0.mod.nolimit.keeps fun b o e => (e0.bs b o e).1
  refine codeAny_call_function hr.depth (KX _ _ lk) rfl S.co S.gen rfl (PySem.W.codeRec_of KX hcd) (hb _ _ _ _ (wpAny_newFunctionEnv_cells S.kind (fun y hy => ?_) fun env he s1 x => ?_))
  · rcases S.par y.1 (List.of_mem_zip (show (y.1, y.2) ∈ ps.zip us from hy)).1 with c | c
    · exact .inl c
    · exact .inr ⟨c, PySem.W.cellsFrom_some _ _ _ (.inl c)⟩
  subst he
  refine ⟨lim.keeps x.toInCall.keep, codeAny_func ?_⟩
  obtain ⟨t, ht, hq⟩ := hbody A outer s H vs Q E p hot hz (hr.deeper _) h
  refine wpAny_mono (ht.run [] s1 _ H _ (inv_startH S pin e0 hl r x) hq) (fun fl s' hs => ?_) fun _ _ z => z
  cases fl with
  | ret u => obtain ⟨v, σ', H', J, rv, z⟩ := hs; exact ⟨v, H', J.os, J.bare, J.base, J.hok, rv, z⟩
  | next => obtain ⟨σ', H', J, z⟩ := hs; exact ⟨V.non, H', J.os, J.bare, J.base, J.hok, rfl, z⟩
  | brk => obtain ⟨_, _, _, z⟩ := hs; exact z.elim
  | cont => obtain ⟨_, _, _, z⟩ := hs; exact z.elim
section
variable {X : Cx} {k : Nat} {f D : Addr} {fd : FuncData} {ps : List Str} {sp : Addr → Sp} {p : Addr × Obj}
theorem run_fnZ {pins : List (Addr × Obj)} {σ : L2.St} {H : Hp} {s : Shared} {Q : VK} {us : List Value} {vs : List V} (F : FnZ X.prog X.w X.K X.mg X.base CX0 k f fd ps D sp) (hr : RoomH k X.A) (hot : Hot1 X.A p) (hz : Zc (.ref D) none p.2) (hp : p ∈ X.pn) (hb : Binds X.K fd ps [])
    (I : Inv X pins σ H s) (r : Vals vs us) (h : sp p.1 vs H Q E0) : wpAny (model X.prog X.w) X.A (call (.ref f) us) (EP X pins σ Q) X.xe s := by
  have b := hb s us I.kIn (by rw [List.append_nil, ← r.length]; exact F.len _ _ _ _ _ h)
  rw [List.append_nil] at b
  obtain ⟨g1, g2, g3, g4, g5⟩ := I.pin p (List.mem_append_left _ hp)
  refine wpAny_call (codeAny_mono (F.run X.A X.stack s H ⟨us, []⟩ us vs Q E0 p hr hot hz ⟨g1, g2, fun m => (List.mem_cons.mp (I.stkSub p.1 m)).elim g3 g4, g5⟩ I.env0 b r h) fun x s' hq => ?_)
  cases x with
  | error e => exact (show False from hq).elim
  | ok fl =>
    cases fl with
    | ret u => exact I.after hq
    | next => exact False.elim hq
    | brk => exact False.elim hq
    | cont => exact False.elim hq
/-- f(e) in the suite -/
theorem pe_callZ {x : Str} {q pos : Pos} {e : Expr} {es : List Expr} {t : TA} (F : FnZ X.prog X.w X.K X.mg X.base CX0 k f fd ps D sp) (hr : RoomH k X.A) (hot : Hot1 X.A p) (hz : Zc (.ref D) none p.2) (hp : p ∈ X.pn) (hg : Gl X x) (hm : X.mg x = some (.ref f)) (hk : PySem.W.keepIn X.K (.ref f) = true) (hb : Binds X.K fd ps [])
    (ha : PA X (e :: es) t) (hdb : (x == ("__debug__" : Str)) = false := by decide) (he : starEach (e :: es) X.env = (false, eval e X.env) :: starEach es X.env := by rfl) (hpl : (backTo pos (starEach es X.env)).any (·.1) = false := by rfl) :
    PE X (.Call (.Name x q) (e :: es) [] pos) (fun σ H Q => t σ H fun vs H1 => sp p.1 vs H1 Q E0) :=
  ⟨fun pins s σ H Q I h => wpAny_Call_Name_kw (ld_glob I hg hm (PySem.W.callWith_K (h₀ := X.base) I.ok.mod.kin hk (thn (ha.run pos pins s σ H _ I h) fun us s1 ⟨vs, H1, I1, r, z⟩ => ⟨I1.kIn, run_fnZ F hr hot hz hp hb I1 r z⟩) he hpl) hdb)⟩
/-- isinstance(e, c) of the pinned exception -/
theorem call_isZ (C : ExcC X.K D) (hz : Zc (.ref D) none p.2) (hf : ∃ vs, p.2.data = .fields vs) (hp : p ∈ X.pn) : CallR X (.builtin "isinstance") (rIsE X.K D p.1) := by
  rintro pins s σ H xs us Q I r ⟨c, cv, b, rfl, hcv, e, q⟩
  cases r with
  | cons rx rr =>
  cases rr with
  | cons rt rr =>
  cases rr
  cases rx
  obtain rfl := hcv _ rt
  obtain ⟨hget, _⟩ := I.pin p (List.mem_append_left _ hp)
  obtain ⟨vs, hv⟩ := hf
  have J : PySem.W.InstAt s.heap p.1 p.2 D none := by
    obtain ⟨a, oc, od, oda, osl⟩ := p
    obtain ⟨h1, h2⟩ := hz
    dsimp only at h1 h2 hv
    subst h1 h2 hv
    exact ⟨hget, rfl, rfl, trivial⟩
  exact PySem.W.kia_one (PySem.W.handS_kitx_exc C.hg C.hk C.hs C.hd C.ha C.hn C.ht C.hm) I.kIn J e (fun z => nomatch z) fun tk => ⟨.bl b, H, I.kept (t' := tk) fun _ _ z => z, rfl, q⟩
end
end TW
/-! K28H2 -/
/-! K28: over a range while an exception is handled; p is its object, pinned. -/
namespace TW
open PySem PySem.Spec PyProof.Rows L2 L2H
theorem hot_at {X : Cx} {pins : List (Addr × Obj)} {σ : L2.St} {H : Hp} {s : Shared} {p : Addr × Obj} (h : Hot1 X.A p) (hp : p ∈ X.pn ++ pins) (I : Inv X pins σ H s) : HotX.HotAt X.A p.1 s.heap := by
  obtain ⟨hh, v1, e1, c1⟩ := h
  exact ⟨hh, p.2, v1, (I.pin p hp).1, e1, c1⟩
/-- what the range's iterator keeps at turn i -/
abbrev RgAt (it : Addr) (n : Nat) (i : Nat) (h : Heap) : Prop := IsRangeIter h it (0 + (i : Nat) * 1) ((n : Int) - (i : Nat)) 1
section
variable {X : Cx} {pins : List (Addr × Obj)} {σ : L2.St} {H : Hp} {s : Shared} {p : Addr × Obj} {it : Addr} {n i : Nat} {E : Value → Shared → Prop} {tg : Expr}
theorem rg_item (I : Inv X pins σ H s) (f : FpOk X pins H it) (st : RgAt it n i s.heap) (h : i < n) :
    wpAny (model X.prog X.w) X.A (pyNext (.ref it)) (fun r s1 => ∃ u, r = some u ∧ wpAny (model X.prog X.w) X.A (letOwnedTupleGo tg (.ref it) u) (fun _ s2 => Inv X pins σ H s2 ∧ RelV (.int (i : Nat)) u ∧ RgAt it n (i + 1) s2.heap ∧ H it = none) E s1) E s := by
  obtain ⟨f0, f1, f2, f3, f4, f5⟩ := f
  refine wpAny_pyNext_range_item st (by omega) fun h' st' sb => ?_
  have st2 : RgAt it n (i + 1) h' := by
    have e1 : (0 : Int) + ((i : Nat) : Int) * 1 + 1 = 0 + ((i + 1 : Nat) : Int) * 1 := by omega
    have e2 : (n : Int) - ((i : Nat) : Int) - 1 = (n : Int) - ((i + 1 : Nat) : Int) := by omega
    show IsRangeIter h' it (0 + ((i + 1 : Nat) : Int) * 1) _ 1
    rw [← e1, ← e2]
    exact st'
  have J : Inv X pins σ H { s with heap := h', toks := s.toks + 1 } := I.turned (fun b o hb e => (sb.2 b hb).trans e) f0 f1 f3 f4 f5
  exact ⟨_, rfl, go_of (s := { s with heap := h', toks := s.toks + 1 }) (n := "range_iterator") st2 rfl rfl (by decide) ⟨J, ⟨s.toks, by congr 1; omega⟩, st2, f0⟩⟩
theorem rg_done (I : Inv X pins σ H s) (f : FpOk X pins H it) (hot : Hot1 X.A p) (hp : p ∈ X.pn ++ pins) (st : RgAt it n i s.heap) (h : n ≤ i) : wpAny (model X.prog X.w) X.A (pyNext (.ref it)) (fun r s1 => r = none ∧ Inv X pins σ H s1) E s := by
  obtain ⟨f0, f1, f2, f3, f4, f5⟩ := f
  exact HotX.pyNext_range_end_hot (hot_at hot hp I) st (by omega) fun h' eb => ⟨rfl, I.turned (t' := s.toks) (fun b o _ e => eb b o e) f0 f1 f3 f4 f5⟩

abbrev blkZ (X : Cx) (p : Addr × Obj) (s : Shared) (H : Hp) (scope : Scope) (cenv : Env) (fp : List Addr) : Cx := { X with s_0 := s, H_0 := H, env := cenv, outer := X.stack, ex := fp, fn := fun x => scope.names.lookup x == some .cell, pn := [p], xe := fun _ _ => False }

theorem inv_blkZ {s' : Shared} {σ' : L2.St} {scope : Scope} {ce : Env} {fp : List Addr} (I : Inv X pins σ H s) (J : Inv (X.blk s H scope ce fp) [] σ' H s') (k : ∀ b o, s.heap.get? b = some o → s'.heap.get? b = some o) (hp : p ∈ X.pn) (hL : ce.locals = s.heap.objs.size) : Inv (blkZ X p s H scope ce fp) [] σ' H s' := by
  refine ⟨⟨J.ok.mod, J.ok.kind, J.ok.glob, J.ok.blt, J.ok.above, J.ok.inj, J.ok.has, J.ok.cab, J.ok.hd, J.ok.frames, J.ok.stk, J.ok.exf, J.ok.bs, J.ok.bsz, J.ok.noex, J.ok.exfs, J.ok.funs, J.ok.frf⟩, J.os, J.bare, J.base, J.loc, J.cell, J.free, J.freeC, fun q hq => ?_, J.hok, J.len⟩
  have hq : q = p := by simpa using (show q ∈ [p] ++ ([] : List (Addr × Obj)) from hq)
  subst hq
  obtain ⟨g1, g2, g3, g4, g5⟩ := I.pin q (List.mem_append_left _ hp)
  refine ⟨k _ _ g1, g2, fun z => ?_, fun z => ?_, g5⟩
  · have z : q.1 = ce.locals := z
    rw [hL] at z
    exact absurd (Heap.lt_size g1) (by rw [z]; exact Nat.lt_irrefl _)
  · rcases List.mem_cons.mp (I.stkSub _ z) with z | z
    · exact g3 z
    · exact g4 z
end
section
variable {X : Cx} {p : Addr × Obj}
theorem lc_coreZ {pins : List (Addr × Obj)} {s : Shared} {σ : L2.St} {H : Hp} {Q : VK} {elt tg iter : Expr} {ifs : List Expr} {scope : Scope} {own : List (Str × Nat)} {pos pos' : Pos} {wi : TI} {g : TG} {tt : TT} {te : TE} {use : Option (Value → Sem Unit)} {Qf : Value → Shared → Prop}
    (hot : Hot1 X.A p) (hp : p ∈ X.pn) (hN : X.N.Nodup) (I : Inv X pins σ H s) (hi : PIH X tg iter wi) (ok : BlkOk X.N X.env.scope scope own)
    (hg : ∀ (s : Shared) (H : Hp) (C : Addr) (cl : List (Str × Addr)) (fp : List Addr), PG (blkZ X p s H scope (compEnvC scope cl C X.env) fp) tg g) (ht : ∀ (s : Shared) (H : Hp) (C : Addr) (cl : List (Str × Addr)) (fp : List Addr), PTs (blkZ X p s H scope (compEnvC scope cl C X.env) fp) ifs tt)
    (he : ∀ (s : Shared) (H : Hp) (C : Addr) (cl : List (Str × Addr)) (fp : List Addr), PE (blkZ X p s H scope (compEnvC scope cl C X.env) fp) elt te) (hs : ∀ x, foldedSetIterable iter X.env x = pure x)
    (h : tLc wi g tt te (own.map (·.2)) σ H Q)
    (hRR : ∀ D C s' m H', Inv X pins σ H' s' → Q (.ref D) H' → s'.heap.Ns C m → FpOk X pins H' C → compPost (model X.prog X.w) X.A X.xe use Qf (.ref D) C (.ok .next) s') :
    wpAny (model X.prog X.w) X.A (comprehension (.ListComp elt [⟨tg, iter, ifs, 0⟩] scope pos) scope X.env pos' (newList []) false (eval iter X.env) use) Qf X.xe s := by
  have hfree : ∀ y ∈ scope.names, y.2 = .free → ∃ c, X.env.cells.lookup y.1 = some c := fun y hy e => by
    rcases ok.free y hy e with k | k
    · exact I.ok.has _ (.inl k)
    · exact I.ok.has _ (.inr k)
  refine wpAny_comprehension_free (use := use) rfl hs (closure_ok hfree) ok.kind (fun y hy e => by rw [ok.uniq y hy, e])
    (thn (hi.run pins s σ H _ I h) fun xv s1 hx => thn hx fun itv s2 h2 => ?_)
  obtain ⟨it, fp, tn, J, H2, e, I2, T, st2, f2, q⟩ := h2
  subst e
  refine wpAny_newObj_type (newEnv_comp ?_) (by show 0 ≤ sizeLine; decide)
  generalize hD : s2.heap.objs.size = D
  have hDn : H2 D = none := I2.hok.fresh (Nat.le_of_eq hD)
  obtain ⟨W, ⟨m0, w0⟩, turn⟩ := q D hDn
  -- the new list
  generalize hs3 : ({ s2 with heap := s2.heap.push { cls := .type "list", data := .seq ([] : List Value).toArray } } : Shared) = s3
  have I3 : Inv X pins σ (upd H2 D (.lst [])) s3 := by
    rw [← hs3]
    refine I2.laid (t' := s2.toks) (fun b o e => Heap.get?_push_of_some _ e) (Nat.le_of_eq hD) ⟨Nat.zero_le _, [], 0, .nil, ?_⟩
    rw [← hD]
    exact Heap.get?_push_size _ rfl
  have h3 : s3.heap = s2.heap.push { cls := .type "list", data := .seq ([] : List Value).toArray } := by rw [← hs3]
  have sz : ∀ b ∈ fp, b < s2.heap.objs.size := fun b hb => by
    obtain ⟨o, e, _⟩ := T.obj _ _ st2 b hb
    exact Heap.lt_size e
  have f3 : ∀ b ∈ fp, FpOk X pins (upd H2 D (.lst [])) b ∧ b < s3.heap.objs.size := fun b hb => by
    have hlt := sz b hb
    refine ⟨⟨?_, (f2 b hb).2⟩, by rw [h3, Heap.size_push]; exact Nat.lt_succ_of_lt hlt⟩
    rw [upd_ne (by rw [← hD]; exact Nat.ne_of_lt hlt)]
    exact (f2 b hb).1
  have st3 : tn 0 s3.heap := T.keep _ _ _ st2 fun b _ o e => by rw [h3]; exact Heap.get?_push_of_some _ e
  have I4 := inv_blkZ I3 (block_start I3 ok hN f3) (fun b o e => pushCells_keeps _ _ _ _ (Heap.get?_push_of_some _ e)) hp rfl
  have pg := hg s3 (upd H2 D (.lst [])) s3.heap.objs.size (cellsFrom (s3.heap.objs.size + 1) scope.names (cloFrom X.env.cells scope.names [])) fp
  have pt := ht s3 (upd H2 D (.lst [])) s3.heap.objs.size (cellsFrom (s3.heap.objs.size + 1) scope.names (cloFrom X.env.cells scope.names [])) fp
  have pe := he s3 (upd H2 D (.lst [])) s3.heap.objs.size (cellsFrom (s3.heap.objs.size + 1) scope.names (cloFrom X.env.cells scope.names [])) fp
  show codeAny _ _ (.compStart (.ListComp elt [⟨tg, iter, ifs, 0⟩] scope pos) 0 (.ref it) (.ref D) (compEnvC scope (cellsFrom (s3.heap.objs.size + 1) scope.names (cloFrom X.env.cells scope.names [])) s3.heap.objs.size X.env)) (compPost (model X.prog X.w) X.A X.xe use Qf (.ref D) s3.heap.objs.size) { s3 with heap := pushCells (s3.heap.push { cls := .type "dict", data := .dict #[] }) scope.names }
  have nfp : ∀ b ∈ fp, (upd H2 D (.lst [])) b = none := fun b hb => (f3 b hb).1.1
  have hcZ : HotC (blkZ X p s3 (upd H2 D (.lst [])) scope (compEnvC scope (cellsFrom (s3.heap.objs.size + 1) scope.names (cloFrom X.env.cells scope.names [])) s3.heap.objs.size X.env) fp) := ⟨p, hot, List.mem_singleton.mpr rfl⟩
  generalize hce : compEnvC scope (cellsFrom (s3.heap.objs.size + 1) scope.names (cloFrom X.env.cells scope.names [])) s3.heap.objs.size X.env = ce at I4 pg pt pe hcZ ⊢
  have cL : ce.locals = s3.heap.objs.size := by subst hce; rfl
  generalize hH3 : upd H2 D (.lst []) = H3 at I3 I4 pg pt pe w0 nfp f3 hcZ
  generalize hs4 : ({ s3 with heap := pushCells (s3.heap.push { cls := .type "dict", data := .dict #[] }) scope.names } : Shared) = s4 at I4 ⊢
  have st4 : tn 0 s4.heap := T.keep _ _ _ st3 fun b _ o e => by rw [← hs4]; exact pushCells_keeps _ _ _ _ (Heap.get?_push_of_some _ e)
  have stat : ∀ {σ' : L2.St} {H' : Hp} {s' : Shared}, Inv (blkZ X p s3 H3 scope ce fp) [] σ' H' s' → (∀ b ∈ fp, H' b = none) → ∀ b ∈ fp, FpOk (blkZ X p s3 H3 scope ce fp) [] H' b := fun {σ' H' s'} I' hn b hb =>
    ⟨hn b hb, (I'.ok.exf b hb).1, I'.ok.exfs b hb, .inl hb, fun x c e => (I'.ok.exf b hb).2 x c e, fun q hq => by
      have hq : q = p := by simpa using (show q ∈ [p] ++ ([] : List (Addr × Obj)) from hq)
      subst hq
      exact fun z => (f3 b hb).1.2.2.2.2.2 q (List.mem_append_left _ hp) z⟩
  have loop : codeAny (model X.prog X.w) X.A (.compLoop (.ListComp elt [⟨tg, iter, ifs, 0⟩] scope pos) 0 (.ref it) (.ref D) ce) (compPost (model X.prog X.w) X.A X.xe use Qf (.ref D) s3.heap.objs.size) s4 := by
    refine compLoop_any (fun n s' => ∃ i H', Inv (blkZ X p s3 H3 scope ce fp) [] (wipe σ (own.map (·.2))) H' s' ∧ tn i s'.heap ∧ (∀ b ∈ fp, H' b = none) ∧ W i n H') ?_ m0 ⟨0, H3, I4, st4, nfp, w0⟩
    rintro n s5 ⟨i, H5, I5, st5, n5, w5⟩
    rcases turn i n H5 w5 with ⟨stop, qq⟩ | ⟨go, Nx, hNx, step⟩
    · have td := T.done (blkZ X p s3 H3 scope ce fp) rfl rfl rfl hcZ i [] s5 _ H5 (fun _ _ => False) I5 (stat I5 n5) st5 stop
      refine thnF td fun r s6 ⟨hr, I6⟩ => ?_
      subst hr
      -- back in the def's context
      have I7 : Inv X pins σ H5 s6 := I3.call' (ch := fp) I6.os I6.base I6.hok I6.bare fun b hb => ⟨(f3 b hb).1.2.2.2.1, (f3 b hb).1.2.1, (f3 b hb).1.2.2.2.2.1, (f3 b hb).1.2.2.2.2.2⟩
      have nC : H5 s3.heap.objs.size = none := by
        have z : H5 ce.locals = none := I6.free
        rw [cL] at z
        exact z
      obtain ⟨m, hn, _⟩ := I6.loc
      have hn : s6.heap.Ns ce.locals m := hn
      rw [cL] at hn
      exact hRR D s3.heap.objs.size s6 m H5 I7 qq hn (I3.fpOk (Nat.le_refl _) nC)
    · have ti := T.item (blkZ X p s3 H3 scope ce fp) rfl rfl rfl hcZ i [] s5 _ H5 (fun _ _ => False) I5 (stat I5 n5) st5 go
      refine thnF ti fun r s6 ⟨u, hr, h6⟩ => ?_
      subst hr
      refine thnF h6 fun _ s7 ⟨x, H7, I7, r7, y7, st7, n7⟩ => ?_
      have I7' := I7.pinned (stat I7 n7) (T.obj _ _ st7)
      refine thnF (pg.run _ s7 _ H7 x u _ I7' r7 (step x H7 y7)) fun _ s8 ⟨σ8, H8, I8, hw8, q8⟩ => ?_
      refine thnF (pt.run _ s8 σ8 H8 _ I8 q8) fun b s9 ⟨H9, I9, q9⟩ => ?_
      -- the turn's end
      have fin : ∀ {s' : Shared} {H' : Hp}, Inv (blkZ X p s3 H3 scope ce fp) ([] ++ pinsAt fp s7.heap) σ8 H' s' → Nx H' → ∃ m, m < n ∧ ∃ i H', Inv (blkZ X p s3 H3 scope ce fp) [] (wipe σ (own.map (·.2))) H' s' ∧ tn i s'.heap ∧ (∀ b ∈ fp, H' b = none) ∧ W i m H' := fun {s' H'} I' nx => by
        obtain ⟨m', hm, w'⟩ := hNx H' nx
        have pin' : ∀ b ∈ fp, ∀ o, s7.heap.get? b = some o → s'.heap.get? b = some o ∧ H' b = none := fun b hb o e =>
          let z := I'.pin (b, o) (List.mem_append_right _ (List.mem_append_right _ (mem_pinsAt hb e)))
          ⟨z.1, z.2.1⟩
        have hl : (wipe σ (own.map (·.2))).length = σ8.length := by rw [← hw8, wipe_length]
        refine ⟨m', hm, i + 1, H', (I'.unpinned (pins := [])).weak hl (fun j v e => ?_), T.keep _ _ _ st7 fun b hb o e => (pin' b hb o e).1, fun b hb => ?_, w'⟩
        · rw [← hw8] at e
          exact (wipe_some e).1
        · obtain ⟨o, e, _⟩ := T.obj _ _ st7 b hb
          exact (pin' b hb o e).2
      cases b with
      | false =>
        simp only [Bool.false_eq_true, if_false] at q9 ⊢
        exact fin I9 q9
      | true =>
        simp only [if_true] at q9 ⊢
        refine thnF (pe.run _ s9 σ8 H9 _ I9 q9) fun z s10 ⟨yv, H10, I10, r10, acc, hD10, hz10, nx⟩ => ?_
        exact app_ok (X := blkZ X p s3 H3 scope ce fp) I10 hD10 hz10 r10 fun s11 I11 => fin I11 nx
  exact codeAny_compStart_list loop (T.self X.A 0 _ _ _ st4 loop)
theorem pe_lcZ {elt tg iter : Expr} {ifs : List Expr} {scope : Scope} {own : List (Str × Nat)} {pos : Pos} {wi : TI} {g : TG} {tt : TT} {te : TE} (hot : Hot1 X.A p) (hp : p ∈ X.pn) (hN : X.N.Nodup) (hi : PIH X tg iter wi) (ok : BlkOk X.N X.env.scope scope own)
    (hg : ∀ (s : Shared) (H : Hp) (C : Addr) (cl : List (Str × Addr)) (fp : List Addr), PG (blkZ X p s H scope (compEnvC scope cl C X.env) fp) tg g) (ht : ∀ (s : Shared) (H : Hp) (C : Addr) (cl : List (Str × Addr)) (fp : List Addr), PTs (blkZ X p s H scope (compEnvC scope cl C X.env) fp) ifs tt)
    (he : ∀ (s : Shared) (H : Hp) (C : Addr) (cl : List (Str × Addr)) (fp : List Addr), PE (blkZ X p s H scope (compEnvC scope cl C X.env) fp) elt te) (hs : ∀ x, foldedSetIterable iter X.env x = pure x := by intro _; rfl) :
    PE X (.ListComp elt [⟨tg, iter, ifs, 0⟩] scope pos) (tLc wi g tt te (own.map (·.2))) := by
  refine ⟨fun pins s σ H Q I h => ?_⟩
  rw [eval_ListComp]
  refine lc_coreZ hot hp hN I hi ok hg ht he hs h fun D C s' m H' I' q hn f => ⟨m, hn, fun h'' sb => ?_⟩
  obtain ⟨f0, f1, f2, f3, f4, f5⟩ := f
  exact ⟨.ref D, H', I'.turned (t' := s'.toks) (fun b o hb e => (sb.2 b hb).trans e) f0 f1 f3 f4 f5, rfl, q⟩
end
end TW
/-! K28X4 -/
/-! K28: try over owned cells; calls that write, within expressions and tests; a new instance; pairs sorted. -/
namespace TW
open PySem PySem.Spec PyProof.Rows L2
/-- what a callee may let out within a try body whose slots may change -/
theorem passLen {X : Cx} {W : WX} (n : Nat) (hn : X.N.length = n) (tk : L2N.Takes X W) : Passes (L2N.CX X.prog X.w) X (fun cls d H => ∀ σ : L2.St, σ.length = n → W cls d σ H) := fun pins σ H s e s' I c =>
  tk e s' (L2N.XE.of_call I (fun cls d H' h => h σ (I.len.trans hn)) c)
def tTry (K : PySem.W.Frag) (c : Value) (i : Nat) (ts : Addr → Value → Option Addr → TS) (tb : WX → TS) : TS := fun D σ H => tb (wAs K c i ts (fun _ _ _ _ => False) D) D σ H
/-- try: .. except x as n: .., where all that is raised is caught -/
theorem ps_tryK {X : Cx} {K : PySem.W.Frag} (hK : X.K = K) {x n : Str} {c : Value} {i : Nat} {body suite : List Stmt} {b₀ : Stmt} {np pos pos' : Pos} {tb : WX → TS} {ts : Addr → Value → Option Addr → TS} (hs : X.stack = X.env :: X.outer) (hf : X.env.frame = some X.env.locals) (hN : X.N.Nodup) (hi : X.N[i]? = some n) (hln : X.env.kindOf n = some .local) (hc : Names X x c)
    (hb : ∀ (W : WX) (pn : List (Addr × Obj)) (xe : Value → Shared → Prop), L2N.Takes (X.tr pn xe) W → PSs (X.tr pn xe) body (tb W))
    (hsu : ∀ (a : Addr) (oe : Obj) (cls : Value) (d : Option Addr) (pn : List (Addr × Obj)), L2N.Zn cls d oe → (∃ vs, oe.data = .fields vs) → PSs (X.suite a ((a, oe) :: pn)) (b₀ :: suite) (ts a cls d)) :
    PS X (.Try body [.ExceptHandler (some (.Name x np)) (some n) (b₀ :: suite) pos'] [] [] pos) (tTry K c i ts tb) := by
  subst hK
  exact L2N.ps_try_as hs hf hN hi hln hc (fun u s' ⟨_, _, _, _, _, _, _, _, _, _, _, _, _, _, _, _, z⟩ => z.elim) (fun W pn xe tk _ => hb W pn xe tk) hsu
section
variable {Γ : Gs} {ρ : Ro} {P : Pg} {ta tb tc te : TE} {KF : PySem.W.Frag} {t u : TS} {K : Gs → En1 → Prop}
theorem m_try {c : Value} {i n : Nat} {tb : WX → TS} {ts : Addr → Value → Option Addr → TS} (Cg : Gs → Value → Prop)
    (h : ∀ W : WX, Wk (fun cls d H => ∀ σ : L2.St, σ.length = n → W cls d σ H) Γ (tb W) ρ { nx := P.nx, rt := P.rt, ex := Cg })
    (hc : ∀ Γ' cls, Cg Γ' cls → PySem.W.exmOne KF cls c = some true ∧ ∀ (a : Addr) (σ : L2.St) (H : Hp) (D : Ends), JG Γ' H → H a = none → σ.length = n → HitE Γ' H P.rt D.rt → ts a cls none D (σ.set i (some (.ref a))) H) :
    Wm Γ (tTry KF c i ts tb) ρ P := fun D σ H j m a b _ _ =>
  h (wAs KF c i ts (fun _ _ _ _ => False) D) D σ H j m a b fun cls H' Γ' l cg σ' hl =>
    ⟨true, (hc Γ' cls cg).1, fun _ p hp => (hc Γ' cls cg).2 p σ' H' _ l.j hp hl (HitE.lg b l), fun e => by cases e⟩
/-- return (text, o.m(..)) -/
theorem k_retT {E : XK} {P : Pe} {ι : Type} {A : ι → Gs → List En1 → Prop} {S : ι → Gs → En1 → Prop} {R : ι → Gs → Value → Prop} {C : Addr} {m : Str} {t : TA} {s : Str} (h : We (MG Γ) ta ρ fun x => ∃ a dx vs fs, x = .raw (.ref a) ∧ (a, Cell.o C dx vs fs) ∈ Γ ∧ fs.lookup m = none ∧ Wa (MG Γ) t ρ fun es => ∃ i, A i Γ (x :: es) ∧ (∀ Γ' e, S i Γ' e → ∃ d, e = .dat d ∧ P.rt Γ' (.dat (.tuple [.str s, d]))) ∧ ∀ Γ' cls, R i Γ' cls → P.ex Γ' cls) :
    Wk E Γ (tRet (tTup (tCons (tC (.str s)) (tCons (tMeth C m (pso A S R) [] E ta t) tNil)))) ρ P := fun D σ H j n _ b c => h σ H j n _ fun v H1 x l1 i1 ⟨p, dx, vs, fs, ex, hm, lk, k1⟩ => by
  subst ex
  obtain rfl : v = .ref p := i1
  have lb := Lg.of l1
  obtain ⟨c1, c2⟩ := lb.j.2 _ hm
  refine ⟨p, dx, vs, rfl, c1, (fld_none c2 lk), k1 σ H1 lb.j (n.lg j lb) _ fun us H2 es l2 i2 ⟨i, ai, q1, q2⟩ => ?_⟩
  show pso A S R (.ref p :: (us ++ [])) H2 _ E
  rw [List.append_nil]
  have l3 := lb.trans (.of l2)
  refine ⟨i, Γ, _, l3.j, .cons (show Is (MG Γ).B H2 (.ref p) (.raw (.ref p)) from rfl) i2, ai, fun v H' Γ' e l4 iv se => ?_, fun cls H' Γ' l4 rc => c cls H' Γ' (l3.trans l4) (q2 Γ' cls rc)⟩
  obtain ⟨d, rfl, kr⟩ := q1 Γ' e se
  refine ⟨by rw [sizeLine_eq]; simp, fun r hr => ?_⟩
  have l5 := Md.new (M := MG Γ') (o := .tup [.str s, v]) l4.j hr
  have av : At H' v d := iv
  exact b _ _ Γ' _ ((l3.trans l4).trans (.of l5)) (Is.d (At.tup upd_same (.cons (.str s) (.cons (av.keep (l5.kt l4.j)) .nil)))) kr
/-! expressions that write -/
theorem x_op {r : R2} (h : Wx Γ ta ρ fun Γ1 x => We (MG Γ1) tb ρ fun y => Rr (MG Γ1) r x y (K Γ1)) : Wx Γ (tOp r ta tb) ρ K := fun σ H j n Q q =>
  h σ H j n _ fun v H1 Γ1 x l1 i1 k1 => k1 σ H1 l1.j (n.lg j l1) _ fun u H2 y l2 i2 k2 => k2 v u H2 l2.2 (i1.le l1.j l2) i2 Q fun w H3 e l3 i3 k3 => q w H3 Γ1 e (l1.trans (.of (l2.trans l3))) i3 k3
theorem r_ixT {M : Md} {K : En1 → Prop} {ds : List Dt} {i : Int} {d : Dt} (c : atI ds i = some d) (k : K (.dat d)) : Rr M (rIxT KF) (.dat (.tuple ds)) (.dat (.int i)) K := fun u u' H j a b Q q => by
  obtain ⟨p, xs, rfl, hp, r⟩ := At.of_tup a
  obtain ⟨v, hv, z⟩ := atI_S r c
  exact ⟨p, xs, i, v, rfl, At.of_int b, SqT.of hp, hv, q _ H _ (Md.refl j) (Is.d z) k⟩
theorem r_neS {M : Md} {K : En1 → Prop} {x y : Str} (k : K (.dat (.bool (!decide (x = y))))) : Rr M rNe (.dat (.str x)) (.dat (.str y)) K := fun u u' H j a b Q q => by
  rw [At.of_str a, At.of_str b]
  refine ⟨rfl, ?_⟩
  have e : decide (V.str x = V.str y) = decide (x = y) := decide_eq_decide.mpr ⟨fun h => V.str.inj h, fun h => by rw [h]⟩
  show Q (.bl (!decide (V.str x = V.str y))) H
  rw [e]
  exact q _ H _ (Md.refl j) (Is.d (At.bl _)) k
theorem x_ixT (h : Wx Γ ta ρ fun Γ1 x => We (MG Γ1) tb ρ fun y => ∃ ds i d, x = .dat (.tuple ds) ∧ y = .dat (.int i) ∧ atI ds i = some d ∧ K Γ1 (.dat d)) : Wx Γ (tOp (rIxT KF) ta tb) ρ K :=
  x_op fun σ H j n Q q => h σ H j n Q fun v H' Γ' e l i k => q v H' Γ' e l i (k.imp fun y ⟨ds, ii, d, ex, ey, c, kk⟩ => by subst ex ey; exact r_ixT c kk)
theorem x_neS (h : Wx Γ ta ρ fun Γ1 x => We (MG Γ1) tb ρ fun y => ∃ a b, x = .dat (.str a) ∧ y = .dat (.str b) ∧ K Γ1 (.dat (.bool (!decide (a = b))))) : Wx Γ (tOp rNe ta tb) ρ K :=
  x_op fun σ H j n Q q => h σ H j n Q fun v H' Γ' e l i k => q v H' Γ' e l i (k.imp fun y ⟨a, b, ex, ey, kk⟩ => by subst ex ey; exact r_neS kk)
theorem x_callo {E : XK} {ι : Type} {A : ι → Gs → List En1 → Prop} {S : ι → Gs → En1 → Prop} {R : ι → Gs → Value → Prop} {t : TA} (h : Wa (MG Γ) t ρ fun es => ∃ i, A i Γ es ∧ (∀ Γ' e, S i Γ' e → K Γ' e) ∧ ∀ Γ' cls, ¬ R i Γ' cls) : Wx Γ (tCall (pso A S R) [] E t) ρ K := fun σ H j n Q q =>
  h σ H j n _ fun vs H1 es l1 i1 ⟨i, ai, q1, q2⟩ => by
    show pso A S R (vs ++ []) H1 _ E
    rw [List.append_nil]
    have lb := Lg.of l1
    exact ⟨i, Γ, es, lb.j, i1, ai, fun v H' Γ' e l4 iv se => q v H' Γ' e (lb.trans l4) iv (q1 Γ' e se), fun cls H' Γ' l4 rc => absurd rc (q2 Γ' cls)⟩
theorem tx_B {K : Gs → Bool → Prop} (h : Wx Γ ta ρ fun Γ' e => ∃ b, e = .dat (.bool b) ∧ K Γ' b) : Wtx Γ (tB ta) ρ K := fun σ H j n Q q =>
  h σ H j n _ fun v H1 Γ1 x l1 i1 ⟨b, ex, k⟩ => by subst ex; exact ⟨b, At.of_bl i1, q b H1 Γ1 l1 k⟩
/-- C(..) -/
theorem x_make {E : XK} {ι : Type} {A : ι → Gs → List En1 → Prop} {S : ι → Gs → En1 → Prop} {R : ι → Gs → Value → Prop} {C : Addr} {t : TA}
    (h : Wa (MG Γ) t ρ fun es => ∀ x dx, ∃ i, A i ((x, .o C dx [] []) :: Γ) (.raw (.ref x) :: es) ∧ (∀ Γ' e, S i Γ' e → e = .dat .none ∧ K Γ' (.raw (.ref x))) ∧ ∀ Γ' cls, ¬ R i Γ' cls) : Wx Γ (tMake C (pso A S R) [] E t) ρ K := fun σ H j n Q q =>
  h σ H j n _ fun vs H1 es l1 i1 k => by
    intro x dx hx hdx ne
    obtain ⟨i, ai, q1, q2⟩ := k x dx
    have lb := Lg.of l1
    have j1 : JG Γ H1 := lb.j
    show pso A S R (.ref x :: (vs ++ [])) _ _ E
    rw [List.append_nil]
    have hx' : upd H1 dx (.own x) x = none := by rw [upd_ne (fun e => ne e.symm)]; exact hx
    have sm : Same H1 (upd (upd H1 dx (.own x)) x (.ins C dx [])) := fun a o e => same_new hx' a o (same_new hdx a o e)
    have nx : x ∉ dm Γ := fun m => by
      obtain ⟨y, hy, e⟩ := List.mem_map.mp m
      obtain ⟨u, e', _⟩ := (j1.2 y hy).ob
      rw [e, hx] at e'; cases e'
    have l2 : Lg Γ ((x, .o C dx [] []) :: Γ) H1 (upd (upd H1 dx (.own x)) x (.ins C dx [])) := by
      refine ⟨fun a o _ e => sm a o e, fun a ha => ?_, ?_, fun y hy => ?_⟩
      · rcases List.mem_cons.mp ha with e | ha
        · subst e; exact .inr hx
        · exact .inl ha
      · exact List.nodup_cons.mpr ⟨nx, j1.1⟩
      · rcases List.mem_cons.mp hy with e | hy
        · subst e
          exact ⟨upd_same, .nil⟩
        · exact (j1.2 y hy).keep (Same.kt sm) fun o e => sm _ o e
    refine ⟨i, _, _, l2.j, .cons (show Is _ _ (.ref x) (.raw (.ref x)) from rfl) (IsS.lg j1 l2 i1), ai, fun v H' Γ' e l4 iv se => ?_, fun cls H' Γ' l4 rc => absurd rc (q2 Γ' cls)⟩
    obtain ⟨rfl, kx⟩ := q1 Γ' e se
    exact ⟨At.of_non iv, q _ H' Γ' (.raw (.ref x)) ((lb.trans l2).trans l4) rfl kx⟩
end
/-! sorted, of pairs -/
theorem kSortP {X : Cx} {K : PySem.W.Frag} (h : X.K = K) : CallR X (.builtin "sorted") (rSortedPO K) := by subst h; exact cr_sortedPO
section
variable {M : Md} {ρ : Ro} {K : En1 → Prop} {KF : PySem.W.Frag}
abbrev pairD (q : Int × Int) : Dt := .tuple [.int q.1, .int q.2]
theorem pair_at {H : Hp} {v : V} {q : Int × Int} (h : At H v (pairD q)) : ∃ t, v = .ref t ∧ H t = some (.tup [.int q.1, .int q.2]) := by
  obtain ⟨t, xs, rfl, ht, r⟩ := At.of_tup h
  cases r with
  | cons a r =>
  cases r with
  | cons b r =>
  cases r
  rw [At.of_int a, At.of_int b] at ht
  exact ⟨t, rfl, ht⟩
theorem pair_in {H : Hp} : ∀ {xs : List V} {ps : List (Int × Int)} {x : V}, AtS H xs (ps.map pairD) → x ∈ xs → ∃ q ∈ ps, At H x (pairD q)
  | _, [], _, .nil, hx => by cases hx
  | _, p :: ps, x, .cons a r, hx => by
    rcases List.mem_cons.mp hx with e | hx
    · subst e; exact ⟨p, List.mem_cons_self, a⟩
    · obtain ⟨q, hq, z⟩ := pair_in r hx
      exact ⟨q, List.mem_cons_of_mem _ hq, z⟩
/-- which pair stands at a value -/
noncomputable def keyV (H : Hp) (v : V) : Int × Int := match v with
  | .ref t => match H t with
    | some (.tup [.int i, .int j]) => (i, j)
    | _ => (0, 0)
  | _ => (0, 0)
theorem keyV_at {H : Hp} {v : V} {q : Int × Int} (h : At H v (pairD q)) : keyV H v = q := by
  obtain ⟨t, rfl, e⟩ := pair_at h
  unfold keyV
  simp only [e]
theorem keys_map {H : Hp} : ∀ {xs : List V} {ps : List (Int × Int)}, AtS H xs (ps.map pairD) → xs.map (keyV H) = ps
  | _, [], .nil => rfl
  | _, p :: ps, .cons a r => by rw [List.map_cons, keyV_at a, keys_map r]
theorem back_at {H : Hp} : ∀ ys : List V, (∀ y ∈ ys, ∃ q, At H y (pairD q)) → AtS H ys ((ys.map (keyV H)).map pairD)
  | [], _ => .nil
  | y :: ys, h => by
    obtain ⟨q, hq⟩ := h y List.mem_cons_self
    have e := keyV_at hq
    rw [List.map_cons, List.map_cons, e]
    exact .cons hq (back_at ys fun z hz => h z (List.mem_cons_of_mem _ hz))
/-- in their order: by the first, then by the second -/
def leP (a b : Int × Int) : Prop := a.1 < b.1 ∨ (a.1 = b.1 ∧ a.2 ≤ b.2)
theorem w_sortP {t : TA} (h : Wa M t ρ fun es => ∃ ps : List (Int × Int), es = [.lst (ps.map pairD)] ∧ ∀ ys : List (Int × Int), ys.Perm ps → ys.Pairwise leP → K (.lst (ys.map pairD))) : We M (tCB (rSortedPO KF) t) ρ K :=
  w_cb fun σ H j n Q q => h σ H j n _ fun vs H1 es l1 i1 ⟨ps, ee, k⟩ => q vs H1 es l1 i1 fun vs' H' j' i' Q' q' => by
    subst ee
    cases i' with
    | cons a r =>
    cases r
    obtain ⟨p, xs, rfl, nb, hp, r⟩ := a
    refine ⟨p, xs, keyV H', rfl, SqL.of hp, fun x hx => ?_, fun ys l sd st hl => ?_⟩
    · obtain ⟨q, hq, z⟩ := pair_in r hx
      obtain ⟨t, e, ht⟩ := pair_at z
      exact ⟨t, e, by rw [keyV_at z]; exact ht⟩
    · have hin : ∀ y ∈ ys, ∃ q, At H' y (pairD q) := fun y hy => by
        obtain ⟨q, _, z⟩ := pair_in r (st.perm.mem_iff.mp hy)
        exact ⟨q, z⟩
      have pm : (ys.map (keyV H')).Perm ps := by
        have e := st.perm.map (keyV H')
        rw [keys_map r] at e
        exact e
      have pw : (ys.map (keyV H')).Pairwise leP := by
        rw [List.pairwise_map]
        refine List.Pairwise.imp (fun {a b} hab => ?_) sd
        have q2 := SrtO.lexB_no.mp (show SrtO.lexB (keyV H' b) (keyV H' a) = false from hab)
        unfold leP
        omega
      have ln := Md.new (M := M) (o := .lst ys) j' hl
      exact q' _ _ _ ln (Is.l (Md.fresh j' hl) upd_same ((back_at ys hin).keep (ln.kt j'))) (k _ pm pw)
end
theorem leP_anti {a b : Int × Int} (h1 : leP a b) (h2 : leP b a) : a = b := by
  unfold leP at h1 h2
  obtain ⟨a1, a2⟩ := a
  obtain ⟨b1, b2⟩ := b
  dsimp only at h1 h2
  have e1 : a1 = b1 := by omega
  have e2 : a2 = b2 := by omega
  rw [e1, e2]
theorem sorted_uniq {l m : List (Int × Int)} (p : l.Perm m) (hl : l.Pairwise leP) (hm : m.Pairwise leP) : l = m := p.eq_of_pairwise (fun a b _ _ h1 h2 => leP_anti h1 h2) hl hm
end TW
/-! K28W -/
/-! K28: the plain law: whole letters stay true, whatever the deeds. -/
namespace TW
open PySem PySem.Spec PyProof.Rows L2
def rdP : Let → Option (Nat × Nat)
  | .read s v _ _ => some (s, v)
  | _ => none
def readsP (us : List Let) : List (Nat × Nat) := us.filterMap rdP
/-- all versions of the slots: the slot's number, the version's -/
def allQ : Nat → List Slot → List (Nat × Nat)
  | _, [] => []
  | k, s :: r => ((List.range s.2.length).map fun v => (k + 1, v)) ++ allQ (k + 1) r
def addAll (us ls : List Let) : List Let := ls.foldl addDue us
theorem addDue_in {us : List Let} {l : Let} (h : l ∈ us) : addDue us l = us := by unfold addDue; rw [if_pos h]
theorem addDue_out {us : List Let} {l : Let} (h : l ∉ us) : addDue us l = us ++ [l] := by unfold addDue; rw [if_neg h]
theorem mem_addDue {us : List Let} {l x : Let} : x ∈ addDue us l ↔ x ∈ us ∨ x = l := by
  by_cases c : l ∈ us
  · rw [addDue_in c]
    exact ⟨.inl, fun h => h.elim id fun e => by rw [e]; exact c⟩
  · rw [addDue_out c, List.mem_append, List.mem_singleton]
theorem addAll_sub {us ls : List Let} (h : ∀ l ∈ ls, l ∈ us) : addAll us ls = us := by
  unfold addAll
  induction ls with
  | nil => rfl
  | cons a r ih =>
    rw [List.foldl_cons, addDue_in (h a List.mem_cons_self)]
    exact ih fun l hl => h l (List.mem_cons_of_mem _ hl)
theorem addAll_due {us ls : List Let} (h : ∀ l ∈ ls, l ∈ us) (l : Let) : addAll us (addDue ls l) = addDue us l := by
  by_cases c : l ∈ ls
  · rw [addDue_in c, addAll_sub h, addDue_in (h l c)]
  · rw [addDue_out c]
    have e : addAll us (ls ++ [l]) = addDue (addAll us ls) l := by unfold addAll; rw [List.foldl_append]; rfl
    rw [e, addAll_sub h]
theorem addDue_len (us : List Let) (l : Let) : (addDue us l).length ≤ us.length + 1 := by
  unfold addDue
  split
  · omega
  · rw [List.length_append]; exact Nat.le_refl _
theorem allQ_app : ∀ (k : Nat) (a b : List Slot), allQ k (a ++ b) = allQ k a ++ allQ (k + a.length) b
  | k, [], b => by simp [allQ]
  | k, s :: a, b => by
    rw [List.cons_append]
    show ((List.range s.2.length).map fun v => (k + 1, v)) ++ allQ (k + 1) (a ++ b) = (((List.range s.2.length).map fun v => (k + 1, v)) ++ allQ (k + 1) a) ++ allQ (k + (s :: a).length) b
    rw [allQ_app (k + 1) a b, List.append_assoc, List.length_cons, show k + 1 + a.length = k + (a.length + 1) by omega]
theorem allQ_set {x : Option Int} : ∀ {i k : Nat} {ss : List Slot} {sl : Slot}, ss[i]? = some sl → (allQ k ss ++ [(k + i + 1, sl.2.length)]).Perm (allQ k (ss.set i (sl.1, sl.2 ++ [x])))
  | _, _, [], _, h => by simp at h
  | 0, k, s :: r, sl, h => by
    obtain rfl := Option.some.inj h
    show (((List.range s.2.length).map fun v => (k + 1, v)) ++ allQ (k + 1) r ++ [(k + 0 + 1, s.2.length)]).Perm (((List.range (s.2 ++ [x]).length).map fun v => (k + 1, v)) ++ allQ (k + 1) r)
    rw [List.length_append, List.length_singleton, List.range_succ, List.map_append, List.append_assoc, List.append_assoc]
    exact List.Perm.append_left _ List.perm_append_comm
  | i + 1, k, s :: r, sl, h => by
    have ih := allQ_set (x := x) (i := i) (k := k + 1) (ss := r) (sl := sl) h
    show (((List.range s.2.length).map fun v => (k + 1, v)) ++ allQ (k + 1) r ++ [(k + (i + 1) + 1, sl.2.length)]).Perm (((List.range s.2.length).map fun v => (k + 1, v)) ++ allQ (k + 1) (r.set i (sl.1, sl.2 ++ [x])))
    rw [List.append_assoc, show k + (i + 1) + 1 = k + 1 + i + 1 by omega]
    exact List.Perm.append_left _ ih
theorem allQ_len : ∀ (k : Nat) (ss : List Slot), (allQ k ss).length = (ss.map fun s => s.2.length).sum
  | _, [] => rfl
  | k, s :: r => by
    show (((List.range s.2.length).map fun v => (k + 1, v)) ++ allQ (k + 1) r).length = _
    rw [List.length_append, List.length_map, List.length_range, allQ_len (k + 1) r, List.map_cons, List.sum_cons]
/-- the slots below a stamp come first -/
theorem below : ∀ {ss : List Slot}, ss.Pairwise (fun a b => a.1 ≤ b.1) → ∀ st : Int, (ss.filter fun s => decide (s.1 < st)) = ss.take (ss.filter fun s => decide (s.1 < st)).length ∧ ∀ (i : Nat) (sl : Slot), ss[i]? = some sl → (sl.1 < st ↔ i < (ss.filter fun s => decide (s.1 < st)).length)
  | [], _, st => ⟨rfl, fun i sl h => by simp at h⟩
  | a :: r, p, st => by
    rw [List.pairwise_cons] at p
    obtain ⟨h1, h2⟩ := below p.2 st
    by_cases c : a.1 < st
    · rw [List.filter_cons_of_pos (by simpa using c), List.length_cons, List.take_succ_cons, ← h1]
      refine ⟨rfl, fun i sl h => ?_⟩
      cases i with
      | zero => obtain rfl := Option.some.inj h; exact ⟨fun _ => Nat.succ_pos _, fun _ => c⟩
      | succ i =>
        rw [h2 i sl h]
        omega
    · have e : (r.filter fun s => decide (s.1 < st)) = [] := List.filter_eq_nil_iff.mpr fun s hs => by
        have := p.1 s hs
        simp only [decide_eq_true_eq]
        omega
      rw [List.filter_cons_of_neg (by simpa using c), e]
      refine ⟨rfl, fun i sl h => ⟨fun hl => ?_, fun hl => by simp at hl⟩⟩
      cases i with
      | zero => obtain rfl := Option.some.inj h; exact absurd hl c
      | succ i =>
        have := p.1 sl (List.mem_of_getElem? h)
        omega
structure Good (m : Meter) (off : Int) (k : Nat) (z : Sta) (us : List Let) : Prop where
  lss : z.ss.length ≤ k
  lvs : ∀ s ∈ z.ss, s.2.length ≤ k + 1
  ldue : z.due.length ≤ k
  lus : us.length ≤ k
  vs : ∀ s ∈ z.ss, (∃ v r, s.2 = some v :: r) ∧ ∀ x ∈ s.2, InR m x
  asc : z.ss.Pairwise fun a b => a.1 ≤ b.1
  tr : ∀ l ∈ us, Tr off z.ss l
  sub : ∀ l ∈ z.due, l ∈ us
  clo : ∀ n st vs, Let.close n st vs ∈ us → ∃ c, z.cs = some c ∧ st ≤ c ∧ n ≤ z.cn
  cn : ∀ c, z.cs = some c → ∀ (i : Nat) (s : Slot), z.ss[i]? = some s → (s.1 < c ↔ i < z.cn)
  cnl : z.cn ≤ z.ss.length
  rds : (readsP us).Perm (allQ 0 z.ss)
theorem good0 (m : Meter) (off : Int) : Good m off 0 ⟨[], 0, none, []⟩ [] :=
  ⟨Nat.le_refl _, fun _ h => (by cases h), Nat.le_refl _, Nat.le_refl _, fun _ h => (by cases h), .nil, fun _ h => (by cases h), fun _ h => h, fun _ _ _ h => (by cases h), fun _ h => (by cases h), Nat.le_refl _, .refl _⟩
theorem readsP_app (us : List Let) (l : Let) : readsP (us ++ [l]) = readsP us ++ (rdP l).toList := by
  unfold readsP
  rw [List.filterMap_append]
  cases h : rdP l <;> simp [h]
section
variable {m : Meter} {off : Int} {k : Nat} {z : Sta} {us : List Let}
theorem Good.up (g : Good m off k z us) : Good m off (k + 1) z us :=
  ⟨Nat.le_succ_of_le g.lss, fun s h => Nat.le_succ_of_le (g.lvs s h), Nat.le_succ_of_le g.ldue, Nat.le_succ_of_le g.lus, g.vs, g.asc, g.tr, g.sub, g.clo, g.cn, g.cnl, g.rds⟩
theorem Good.same (g : Good m off k z us) : Good m off (k + 1) z (addAll us z.due) := by rw [addAll_sub g.sub]; exact g.up
/-- the close and clock letters when the slots get more versions behind the closed ones -/
theorem tr_ver {ss : List Slot} {i : Nat} {sl : Slot} {x : Option Int} (h : ss[i]? = some sl) {l : Let} (t : Tr off ss l) (hc : ∀ n st vs, l = .close n st vs → n ≤ i) : Tr off (ss.set i (sl.1, sl.2 ++ [x])) l := by
  have hl := (List.getElem?_eq_some_iff.mp h).1
  cases l with
  | clock lo hi => exact t
  | read s v st y =>
    obtain ⟨s0, h1, h2, h3, h4⟩ := t
    by_cases c : s - 1 = i
    · rw [c, h] at h2
      obtain rfl := Option.some.inj h2
      refine ⟨(sl.1, sl.2 ++ [x]), h1, by rw [c, List.getElem?_set_self hl], h3, ?_⟩
      show (sl.2 ++ [x])[v]? = some y
      rw [List.getElem?_append_left (List.getElem?_eq_some_iff.mp h4).1]
      exact h4
    · exact ⟨s0, h1, by rw [List.getElem?_set_ne (fun e => c e.symm)]; exact h2, h3, h4⟩
  | close n st vs =>
    have hn := hc n st vs rfl
    obtain ⟨h1, h2, h3⟩ := t
    refine ⟨by rw [List.length_set]; exact h1, fun j s hj => ?_, ?_⟩
    · by_cases c : i = j
      · subst c
        rw [List.getElem?_set_self hl] at hj
        obtain rfl := Option.some.inj hj
        exact h2 i sl h
      · rw [List.getElem?_set_ne c] at hj
        exact h2 j s hj
    · rw [List.take_set_of_le hn]
      exact h3
theorem good_record (g : Good m off k z us) {st v : Int} (h : recOk m z st v = true) : Good m off (k + 1) ⟨z.ss ++ [(st, [some v])], z.cn, z.cs, addDue z.due (.read (z.ss.length + 1) 0 st (some v))⟩ (addAll us (addDue z.due (.read (z.ss.length + 1) 0 st (some v)))) := by
  unfold recOk at h
  rw [Bool.and_eq_true, Bool.and_eq_true, decide_eq_true_eq, decide_eq_true_eq, Bool.not_eq_true', Bool.or_eq_false_iff] at h
  obtain ⟨⟨v1, v2⟩, lb, lf⟩ := h
  have out : Let.read (z.ss.length + 1) 0 st (some v) ∉ us := fun hm => by
    obtain ⟨s0, _, h2, _⟩ := g.tr _ hm
    have := (List.getElem?_eq_some_iff.mp h2).1
    omega
  have late : ∀ c, z.cs = some c → c ≤ st := fun c e => by
    unfold lateFor at lf
    rw [e] at lf
    have := of_decide_eq_false lf
    omega
  rw [addAll_due g.sub, addDue_out out]
  have hend : (z.ss ++ [(st, [some v])])[z.ss.length]? = some (st, [some v]) := by simp
  have old : ∀ {i : Nat} {s : Slot}, z.ss[i]? = some s → (z.ss ++ [(st, [some v])])[i]? = some s := fun {i s} e => by
    rw [List.getElem?_append_left (List.getElem?_eq_some_iff.mp e).1]; exact e
  have back : ∀ {i : Nat} {s : Slot}, (z.ss ++ [(st, [some v])])[i]? = some s → z.ss[i]? = some s ∨ (i = z.ss.length ∧ s = (st, [some v])) := fun {i s} e => by
    have hl := (List.getElem?_eq_some_iff.mp e).1
    rw [List.length_append, List.length_singleton] at hl
    by_cases c : i < z.ss.length
    · rw [List.getElem?_append_left c] at e
      exact .inl e
    · have : i = z.ss.length := by omega
      subst this
      rw [hend] at e
      exact .inr ⟨rfl, (Option.some.inj e).symm⟩
  have tk : ∀ {n : Nat}, n ≤ z.ss.length → (z.ss ++ [(st, [some v])]).take n = z.ss.take n := fun {n} hn => by rw [List.take_append_of_le_length hn]
  refine ⟨?_, ?_, ?_, ?_, ?_, ?_, ?_, ?_, ?_, ?_, ?_, ?_⟩
  · show (z.ss ++ [(st, [some v])]).length ≤ k + 1
    rw [List.length_append, List.length_singleton]
    have := g.lss
    omega
  · intro s hs
    rcases List.mem_append.mp hs with hs | hs
    · have := g.lvs s hs
      omega
    · obtain rfl := List.mem_singleton.mp hs
      show 1 ≤ _
      omega
  · exact Nat.le_trans (addDue_len _ _) (Nat.succ_le_succ g.ldue)
  · rw [List.length_append, List.length_singleton]
    have := g.lus
    omega
  · intro s hs
    rcases List.mem_append.mp hs with hs | hs
    · exact g.vs s hs
    · obtain rfl := List.mem_singleton.mp hs
      refine ⟨⟨v, [], rfl⟩, fun x hx => ?_⟩
      obtain rfl := List.mem_singleton.mp hx
      exact ⟨v1, v2⟩
  · refine List.pairwise_append.mpr ⟨g.asc, List.pairwise_singleton _ _, fun a ha b hb => ?_⟩
    obtain rfl := List.mem_singleton.mp hb
    show a.1 ≤ st
    rcases List.eq_nil_or_concat z.ss with e | ⟨l, x, e⟩
    · rw [e] at ha; cases ha
    · rw [List.concat_eq_append] at e
      have lx : ¬ st < x.1 := by
        unfold lastBad at lb
        rw [e, List.getLast?_append] at lb
        simpa using lb
      have pa := g.asc
      rw [e] at pa ha
      rcases List.mem_append.mp ha with ha | ha
      · have := (List.pairwise_append.mp pa).2.2 a ha x (List.mem_singleton.mpr rfl)
        omega
      · obtain rfl := List.mem_singleton.mp ha
        omega
  · intro l hl
    rcases List.mem_append.mp hl with hl | hl
    · have t := g.tr l hl
      cases l with
      | clock lo hi => exact t
      | read s v0 st0 y =>
        obtain ⟨s0, h1, h2, h3, h4⟩ := t
        exact ⟨s0, h1, old h2, h3, h4⟩
      | close n st0 vs =>
        obtain ⟨c, e, c1, c2⟩ := g.clo n st0 vs hl
        obtain ⟨h1, h2, h3⟩ := t
        have := late c e
        refine ⟨?_, fun j s hj => ?_, ?_⟩
        · show n ≤ (z.ss ++ [(st, [some v])]).length
          rw [List.length_append]
          omega
        · rcases back hj with hj | ⟨rfl, rfl⟩
          · exact h2 j s hj
          · show st < st0 ↔ z.ss.length < n
            omega
        · show (((z.ss ++ [(st, [some v])]).take n).map fun s => s.2.length).sum = vs
          rw [tk h1]
          exact h3
    · obtain rfl := List.mem_singleton.mp hl
      exact ⟨(st, [some v]), by omega, hend, rfl, rfl⟩
  · intro l hl
    rcases mem_addDue.mp hl with hl | rfl
    · exact List.mem_append_left _ (g.sub l hl)
    · exact List.mem_append_right _ (List.mem_singleton.mpr rfl)
  · intro n st0 vs hl
    rcases List.mem_append.mp hl with hl | hl
    · exact g.clo n st0 vs hl
    · cases List.mem_singleton.mp hl
  · intro c e i s hi
    rcases back hi with hi | ⟨rfl, rfl⟩
    · exact g.cn c e i s hi
    · have := late c e
      have := g.cnl
      show st < c ↔ z.ss.length < z.cn
      omega
  · show z.cn ≤ (z.ss ++ [(st, [some v])]).length
    rw [List.length_append]
    exact Nat.le_trans g.cnl (Nat.le_add_right _ _)
  · rw [readsP_app]
    show (readsP us ++ [(z.ss.length + 1, 0)]).Perm (allQ 0 (z.ss ++ [(st, [some v])]))
    rw [allQ_app]
    have e : allQ (0 + z.ss.length) [(st, [some v])] = [(z.ss.length + 1, 0)] := by
      rw [Nat.zero_add]
      rfl
    rw [e]
    exact g.rds.append_right _
theorem good_ver (g : Good m off k z us) {s : Int} {x : Option Int} (h1 : ¬ (s < 1 ∨ (z.ss.length : Int) < s)) (h2 : ¬ s ≤ z.cn) (hx : InR m x) : Good m off (k + 1) (newVer z s x) (addAll us (newVer z s x).due) := by
  obtain ⟨i, rfl⟩ : ∃ i : Nat, s = (i : Int) + 1 := ⟨(s - 1).toNat, by omega⟩
  have hi : i < z.ss.length := by omega
  obtain ⟨sl, hs⟩ : ∃ sl, z.ss[i]? = some sl := ⟨z.ss[i], List.getElem?_eq_getElem hi⟩
  have hci : z.cn ≤ i := by omega
  have e : newVer z ((i : Int) + 1) x = ⟨z.ss.set i (sl.1, sl.2 ++ [x]), z.cn, z.cs, addDue z.due (.read (i + 1) sl.2.length sl.1 x)⟩ := by
    unfold newVer putVer
    have e1 : ((i : Int) + 1 - 1).toNat = i := by omega
    have e2 : ((i : Int) + 1).toNat = i + 1 := by omega
    rw [e1, e2]
    simp only [hs]
  rw [e]
  have out : Let.read (i + 1) sl.2.length sl.1 x ∉ us := fun hm => by
    obtain ⟨s0, _, h2, _, h4⟩ := g.tr _ hm
    rw [show i + 1 - 1 = i by omega, hs] at h2
    obtain rfl := Option.some.inj h2
    have := (List.getElem?_eq_some_iff.mp h4).1
    omega
  have hm := List.mem_of_getElem? hs
  show Good m off (k + 1) _ (addAll us (addDue z.due _))
  rw [addAll_due g.sub, addDue_out out]
  have mem_set : ∀ {s : Slot}, s ∈ z.ss.set i (sl.1, sl.2 ++ [x]) → s ∈ z.ss ∨ s = (sl.1, sl.2 ++ [x]) := fun h => List.mem_or_eq_of_mem_set h
  refine ⟨?_, ?_, ?_, ?_, ?_, ?_, ?_, ?_, ?_, ?_, ?_, ?_⟩
  · show (z.ss.set i _).length ≤ k + 1
    rw [List.length_set]
    exact Nat.le_succ_of_le g.lss
  · intro s hs'
    rcases mem_set hs' with hs' | rfl
    · exact Nat.le_succ_of_le (g.lvs s hs')
    · show (sl.2 ++ [x]).length ≤ k + 1 + 1
      rw [List.length_append, List.length_singleton]
      exact Nat.succ_le_succ (g.lvs sl hm)
  · exact Nat.le_trans (addDue_len _ _) (Nat.succ_le_succ g.ldue)
  · rw [List.length_append, List.length_singleton]
    exact Nat.succ_le_succ g.lus
  · intro s hs'
    rcases mem_set hs' with hs' | rfl
    · exact g.vs s hs'
    · obtain ⟨⟨v, r, ev⟩, hv⟩ := g.vs sl hm
      refine ⟨⟨v, r ++ [x], by rw [ev]; rfl⟩, fun y hy => ?_⟩
      rcases List.mem_append.mp hy with hy | hy
      · exact hv y hy
      · obtain rfl := List.mem_singleton.mp hy
        exact hx
  · show (z.ss.set i (sl.1, sl.2 ++ [x])).Pairwise _
    have em : (z.ss.set i (sl.1, sl.2 ++ [x])).map (·.1) = z.ss.map (·.1) := by
      rw [List.map_set]
      apply List.ext_getElem?
      intro j
      by_cases c : i = j
      · subst c
        rw [List.getElem?_set_self (by rw [List.length_map]; exact hi), List.getElem?_map, hs]
        rfl
      · rw [List.getElem?_set_ne c]
    have p : (z.ss.map (·.1)).Pairwise (· ≤ ·) := List.pairwise_map.mpr g.asc
    rw [← em] at p
    exact List.pairwise_map.mp p
  · intro l hl
    rcases List.mem_append.mp hl with hl | hl
    · refine tr_ver hs (g.tr l hl) fun n st vs el => ?_
      subst el
      obtain ⟨_, _, _, h⟩ := g.clo n st vs hl
      omega
    · obtain rfl := List.mem_singleton.mp hl
      refine ⟨(sl.1, sl.2 ++ [x]), by omega, ?_, rfl, ?_⟩
      · show (z.ss.set i _)[i + 1 - 1]? = _
        rw [show i + 1 - 1 = i by omega, List.getElem?_set_self hi]
      · show (sl.2 ++ [x])[sl.2.length]? = some x
        simp
  · intro l hl
    rcases mem_addDue.mp hl with hl | rfl
    · exact List.mem_append_left _ (g.sub l hl)
    · exact List.mem_append_right _ (List.mem_singleton.mpr rfl)
  · intro n st0 vs hl
    rcases List.mem_append.mp hl with hl | hl
    · exact g.clo n st0 vs hl
    · cases List.mem_singleton.mp hl
  · intro c e j s hj
    by_cases cc : i = j
    · subst cc
      have hj : (z.ss.set i (sl.1, sl.2 ++ [x]))[i]? = some s := hj
      rw [List.getElem?_set_self hi] at hj
      obtain rfl := Option.some.inj hj
      exact g.cn c e i sl hs
    · have hj : (z.ss.set i (sl.1, sl.2 ++ [x]))[j]? = some s := hj
      rw [List.getElem?_set_ne cc] at hj
      exact g.cn c e j s hj
  · show z.cn ≤ (z.ss.set i _).length
    rw [List.length_set]
    exact g.cnl
  · rw [readsP_app]
    show (readsP us ++ [(i + 1, sl.2.length)]).Perm (allQ 0 (z.ss.set i (sl.1, sl.2 ++ [x])))
    have q := allQ_set (x := x) (i := i) (k := 0) hs
    rw [Nat.zero_add] at q
    exact (g.rds.append_right _).trans q
/-- a letter that tells no version -/
theorem good_tell (g : Good m off k z us) {l : Let} {cn' : Nat} {cs' : Option Int} (hr : rdP l = none) (t : Tr off z.ss l) (clo : ∀ n st vs, Let.close n st vs ∈ us ∨ Let.close n st vs = l → ∃ c, cs' = some c ∧ st ≤ c ∧ n ≤ cn')
    (cn : ∀ c, cs' = some c → ∀ (i : Nat) (s : Slot), z.ss[i]? = some s → (s.1 < c ↔ i < cn')) (cnl : cn' ≤ z.ss.length) : Good m off (k + 1) ⟨z.ss, cn', cs', addDue z.due l⟩ (addAll us (addDue z.due l)) := by
  rw [addAll_due g.sub]
  refine ⟨Nat.le_succ_of_le g.lss, fun s h => Nat.le_succ_of_le (g.lvs s h), Nat.le_trans (addDue_len _ _) (Nat.succ_le_succ g.ldue), Nat.le_trans (addDue_len _ _) (Nat.succ_le_succ g.lus), g.vs, g.asc, fun x hx => ?_, fun x hx => ?_, fun n st vs h => clo n st vs ?_, cn, cnl, ?_⟩
  · rcases mem_addDue.mp hx with hx | rfl
    · exact g.tr x hx
    · exact t
  · rcases mem_addDue.mp hx with hx | rfl
    · exact mem_addDue.mpr (.inl (g.sub x hx))
    · exact mem_addDue.mpr (.inr rfl)
  · exact mem_addDue.mp h
  · by_cases c : l ∈ us
    · rw [addDue_in c]; exact g.rds
    · rw [addDue_out c, readsP_app, hr]
      show (readsP us ++ []).Perm _
      rw [List.append_nil]
      exact g.rds
theorem good_close (g : Good m off k z us) {st : Int} (h : lateFor z st = false) : Good m off (k + 1) ⟨z.ss, (closedOf z st).length, some st, addDue z.due (.close (closedOf z st).length st ((closedOf z st).map fun s => s.2.length).sum)⟩ (addAll us (addDue z.due (.close (closedOf z st).length st ((closedOf z st).map fun s => s.2.length).sum))) := by
  obtain ⟨b1, b2⟩ := below g.asc st
  have late : ∀ c, z.cs = some c → c ≤ st := fun c e => by
    unfold lateFor at h
    rw [e] at h
    have := of_decide_eq_false h
    omega
  have hl : (closedOf z st).length ≤ z.ss.length := List.length_filter_le _ _
  have grow : ∀ c, z.cs = some c → z.cn ≤ (closedOf z st).length := fun c e => by
    refine Nat.le_of_not_lt fun hlt => ?_
    have hi : (closedOf z st).length < z.ss.length := Nat.lt_of_lt_of_le hlt g.cnl
    have q := (g.cn c e _ _ (List.getElem?_eq_getElem hi)).mpr hlt
    have q2 := (b2 _ _ (List.getElem?_eq_getElem hi)).mp (by have := late c e; omega)
    exact absurd q2 (Nat.lt_irrefl _)
  refine good_tell g rfl ⟨hl, fun i s hi => b2 i s hi, ?_⟩ (fun n st0 vs hm => ?_) (fun c e i s hi => ?_) hl
  · show ((z.ss.take (closedOf z st).length).map fun s => s.2.length).sum = _
    rw [← (show closedOf z st = z.ss.take (closedOf z st).length from b1)]
  · rcases hm with hm | hm
    · obtain ⟨c, e, c1, c2⟩ := g.clo n st0 vs hm
      have := late c e
      have := grow c e
      exact ⟨st, rfl, by omega, by omega⟩
    · injection hm with e1 e2 e3
      exact ⟨st, rfl, by omega, by omega⟩
  · obtain rfl := Option.some.inj e
    exact b2 i s hi
theorem good_ack (g : Good m off k z us) (l : Let) : Good m off (k + 1) ⟨z.ss, z.cn, z.cs, z.due.filter fun o => decide (o ≠ l)⟩ (addAll us (z.due.filter fun o => decide (o ≠ l))) := by
  have sub : ∀ x ∈ z.due.filter (fun o => decide (o ≠ l)), x ∈ us := fun x hx => g.sub x (List.mem_filter.mp hx).1
  rw [addAll_sub sub]
  have u := g.up
  exact ⟨u.lss, u.lvs, Nat.le_trans (List.length_filter_le _ _) u.ldue, u.lus, u.vs, u.asc, u.tr, sub, u.clo, u.cn, u.cnl, u.rds⟩
/-- the law of one deed -/
theorem good_aft (g : Good m off k z us) (dd : Deed) : Good m off (k + 1) (aft m off z dd).2 (addAll us (aft m off z dd).2.due) := by
  cases dd with
  | record st v =>
    simp only [aft]
    split
    · rename_i c; exact good_record g c
    · exact g.same
  | correct s v =>
    simp only [aft]
    split
    · exact g.same
    · split
      · exact g.same
      · split
        · exact g.same
        · rename_i c1 c2 c3
          exact good_ver g c1 c2 (show m.lo ≤ v ∧ v ≤ m.hi by omega)
  | back s =>
    simp only [aft]
    split
    · exact g.same
    · split
      · exact g.same
      · rename_i c1 c2
        exact good_ver g c1 c2 trivial
  | close st =>
    simp only [aft]
    split
    · exact g.same
    · rename_i c
      exact good_close g (by simpa using c)
  | check lo hi =>
    simp only [aft]
    split
    · exact g.same
    · rename_i c
      exact good_tell g rfl (show lo ≤ off ∧ off ≤ hi by omega) (fun n st vs h => by
        rcases h with h | h
        · exact g.clo n st vs h
        · cases h) g.cn g.cnl
  | ack l =>
    simp only [aft]
    exact good_ack g l
theorem Good.sm (g : Good m off k z us) (hk : k ≤ 500) : SmSta z := ⟨by have := g.lss; omega, fun s h => by have := g.lvs s h; omega, by have := g.ldue; omega⟩
theorem Good.ok (g : Good m off k z us) (hk : k ≤ 500) : SsOk m z.ss := ⟨by have := g.lss; omega, fun s h => ⟨by have := g.lvs s h; omega, (g.vs s h).1, (g.vs s h).2⟩, g.asc⟩
end
/-! ### the pairs of the read letters, sorted -/
abbrev prD (q : Nat × Nat) : Dt := .tuple [.int q.1, .int q.2]
theorem reads_map (us : List Let) : ((us.filter isRd).map fun l => match l with | .read s v _ _ => (s, v) | _ => (0, 0)) = readsP us := by
  unfold readsP
  induction us with
  | nil => rfl
  | cons a r ih =>
    cases a with
    | read s v st x =>
      rw [List.filter_cons_of_pos rfl, List.map_cons, ih]
      rfl
    | close n st vs => rw [List.filter_cons_of_neg (by simp [isRd]), ih]; rfl
    | clock lo hi => rw [List.filter_cons_of_neg (by simp [isRd]), ih]; rfl
theorem reads_len (us : List Let) : (us.filter isRd).length = (readsP us).length := by rw [← reads_map, List.length_map]
end TW
/-! K28P25 -/
/-! K28: _law_error_name, called in the except suite. -/
namespace TW
open PySem PySem.Spec PyProof.Rows L2 L2H
abbrev rJoinK (K : PySem.W.Frag) : V → List V → Hp → VK → Prop := fun x xs H Q => ∃ a p, ∃ ys : List Str, x = .str a ∧ xs = [.ref p] ∧ (SqL K H p (ys.map V.str) ∨ SqT K H p (ys.map V.str)) ∧ (ys.map (·.length)).sum + ys.length * a.length ≤ 16777216 ∧ Q (.str (Txt.join a ys)) H
theorem kJoin {X : Cx} {K : PySem.W.Frag} (hK : X.K = K) {o e : Expr} {to te : TE} {apos pos : Pos} (ho : PE X o to) (he : PE X e te) (hs : starEach [e] X.env = [(false, eval e X.env)] := by rfl) (hbase : attributeBase o "join" X.env (eval o X.env) = eval o X.env := by rfl) (hline : (apos.endLine == pos.line) = true := by rfl) :
    PE X (.Call (.Attribute o "join" apos) [e] [] pos) (tM1 (rJoinK K) to te) := by subst hK; exact pe_join ho he hs hbase hline
section
variable {M : Md} {ρ : Ro} {K : En1 → Prop} {ta tb te : TE} {tt : TT} {KF : PySem.W.Frag} {j : Nat}
theorem w_raw {v : V} (k : K (.raw v)) : We M (tC v) ρ K := fun σ H j n Q q => q v H (.raw v) (Md.refl j) rfl k
theorem w_rawR {a : Addr} (k : K (.raw (.ref a))) : We M (tC (.ref a)) ρ K := w_raw k
theorem w_rawT {x : String} (k : K (.raw (.ty x))) : We M (tC (.ty x)) ρ K := w_raw k
theorem w_isE {D a : Addr} {t : TA} (h : Wa M t ρ fun es => ∃ c cv b, es = [.raw (.ref a), .raw c] ∧ (∀ u, RelV c u → u = cv) ∧ PySem.W.kitOne KF (.ref D) cv = some b ∧ K (.dat (.bool b))) : We M (tCB (rIsE KF D a) t) ρ K :=
  w_cb fun σ H j n Q q => h σ H j n _ fun vs H1 es l1 i1 ⟨c, cv, b, ee, hc, hk, k⟩ => q vs H1 es l1 i1 fun vs' H' j' i' Q' q' => by
    subst ee
    cases i' with
    | cons a1 r1 =>
    cases r1 with
    | cons a2 r2 =>
    cases r2
    rename_i x y
    obtain rfl : x = .ref a := a1
    obtain rfl : y = c := a2
    exact ⟨y, cv, b, rfl, hc, hk, q' _ H' _ (Md.refl j') (Is.d (At.bl _)) k⟩
theorem w_join (h : We M ta ρ fun x => ∃ a, x = .dat (.str a) ∧ We M tb ρ fun y => ∃ ys : List Str, y = .lst (ys.map .str) ∧ (ys.map (·.length)).sum + ys.length * a.length ≤ 16777216 ∧ K (.dat (.str (Txt.join a ys)))) : We M (tM1 (rJoinK KF) ta tb) ρ K := fun σ H j n Q q =>
  h σ H j n _ fun v H1 x l1 i1 ⟨a, ex, h2⟩ => by
    subst ex
    refine ⟨⟨a, At.of_str i1⟩, h2 σ H1 l1.2 (n.le j l1) _ fun w H2 y l2 i2 ⟨ys, ey, z, k⟩ => ?_⟩
    subst ey
    obtain ⟨p, xs, rfl, _, hp, r⟩ := i2
    exact ⟨a, p, ys, At.of_str i1, rfl, .inl (SqL.of (by rw [hp, r.strs])), z, q _ H2 _ (l1.trans l2) (Is.d (At.str _)) k⟩
theorem vi_get (m i : Nat) (h : i < m) : ((List.range m).map fun i : Nat => V.int i)[i]? = some (V.int i) := by
  rw [List.getElem?_map, List.getElem?_range h]; rfl
theorem vi_at (H : Hp) : ∀ l : List Nat, AtS H (l.map fun i : Nat => V.int i) (l.map fun i : Nat => PyData.int i)
  | [] => .nil
  | i :: l => .cons (.int _) (vi_at H l)
/-- over a range, with a test -/
theorem w_lcR {t : TA} (h : Wa M t ρ fun es => ∃ m : Nat, es = [.dat (.int m)] ∧ m ≤ 1000000 ∧ ∃ (f : Nat → Bool) (v : Nat → Dt), (∀ i : Nat, i < m → Wt M tt (ρ.set j (some (.dat (.int i)))) fun b => b = f i) ∧
      (∀ i : Nat, i < m → f i = true → We M te (ρ.set j (some (.dat (.int i)))) fun e => e = .dat (v i)) ∧ K (.lst (((List.range m).filter f).map v))) :
    We M (tLc (iRng1 t) (gName j) tt te [j]) ρ K := fun σ H jj n Q q =>
  h σ H jj n _ fun vs H1 es l1 i1 ⟨m, ee, z, f, v, ht, he, k⟩ => by
    subst ee
    cases i1 with
    | cons a1 r1 =>
    cases r1
    refine ⟨(m : Int), by rw [At.of_int a1], by omega, by omega, fun D hD => ?_⟩
    have nb := Md.fresh l1.2 hD
    have e0 : ((m : Int)).toNat = m := by omega
    rw [e0]
    refine lc_range (lo := 0) (n := m) (fun i H' => M.le H1 H' ∧ ∃ acc, H' D = some (.lst acc) ∧ AtS H' acc ((((List.range m).take i).filter f).map v)) ⟨Md.new l1.2 hD, [], upd_same, .nil⟩ ?_ ?_
    · rintro i H' hi ⟨l, acc, ha, ra⟩
      rw [show (0 : Int) + (i : Int) = (i : Int) by omega]
      exact lc_turn (F := fun i : Nat => PyData.int i) (ds := List.range m) (xs := (List.range m).map fun i : Nat => V.int i) l1.2 nb (vi_at H1 _) (by rw [List.length_range]; exact z) (n.le jj l1) (fun d hd => ht d (List.mem_range.mp hd)) (fun d hd => he d (List.mem_range.mp hd)) (vi_get m i hi) hD l ha ra
    · rintro H' ⟨l, acc, ha, ra⟩
      rw [List.take_of_length_le (by rw [List.length_range]; exact Nat.le_refl _)] at ra
      exact q _ H' _ (l1.trans l) (Is.l nb ha ra) k
end
/-- the three errors that a source may raise; the ten of the package -/
def err3 : List Str := ["InvalidEntry", "NoSlot", "Closed"]
def err10 : List Str := ["InvalidPlan", "InvalidLetter", "InvalidAlarm", "InvalidEntry", "BadText", "NotPossible", "NoNote", "NoSlot", "Closed", "NoLetter"]
structure IsiT (K : PySem.W.Frag) (x : Str) : Prop where
  c : ExcC K (He.ga K x)
  v : PySem.W.kitOne K (.ref (He.ga K x)) (.type "ValueError") = some true
  i : ∀ y ∈ err10, PySem.W.kitOne K (.ref (He.ga K x)) (.ref (He.ga K y)) = some (decide (x = y))
theorem IsiT.at {K : PySem.W.Frag} {x y : Str} (h : IsiT K x) (hy : y ∈ err10) : PySem.W.kitOne K (.ref (He.ga K x)) (.ref (He.ga K y)) = some (decide (x = y)) := h.i y hy
theorem isi {K : PySem.W.Frag} {mg : Str → Option Value} (T : Txt K mg) {x : Str} (hx : x ∈ err3) : IsiT K x := by
  have h := T.ex
  unfold exB at h
  rw [Bool.and_eq_true] at h
  obtain ⟨hb, h3⟩ := h
  have h1 := List.all_eq_true.mp h3 x hx
  unfold isiAll at h1
  rw [Bool.and_eq_true, Bool.and_eq_true] at h1
  obtain ⟨hE, hV, hI⟩ := h1
  unfold excB at hE
  simp only [Bool.and_eq_true, decide_eq_true_eq] at hE
  obtain ⟨c1, c2, c3, c4, c5, c6⟩ := hE
  unfold bltB at hb
  rw [Bool.and_eq_true, decide_eq_true_eq] at hb
  refine ⟨⟨He.eqO_ok c1, He.eqO_ok c2, c3, c4, He.eqO_ok c5, He.eqO_ok hb.1, hb.2, c6⟩, ?_, fun y hy => ?_⟩
  · exact of_decide_eq_true hV
  · have q := List.all_eq_true.mp hI y hy
    exact of_decide_eq_true q
theorem getB {bs : List Bool} {i : Nat} (h : i < bs.length) : (bs.map PyData.bool)[i]? = some (.bool (bs.getD i false)) := by
  rw [List.getElem?_map, List.getElem?_eq_getElem h, List.getD_eq_getElem?_getD, List.getElem?_eq_getElem h]; rfl
theorem getS {bs : List Str} {i : Nat} (h : i < bs.length) : (bs.map PyData.str)[i]? = some (.str (bs.getD i "")) := by
  rw [List.getElem?_map, List.getElem?_eq_getElem h, List.getD_eq_getElem?_getD, List.getElem?_eq_getElem h]; rfl
local macro_rules | `(tactic| walk_at "k28 d") => `(tactic| first
  | refine w_var rfl ?_ | with_reducible refine w_int ?_ | with_reducible refine w_str ?_ | with_reducible refine w_non ?_ | with_reducible refine w_bl ?_
  | with_reducible refine w_ixT ?_ | with_reducible refine w_ixL ?_ | with_reducible refine w_add ?_ | with_reducible refine w_sub ?_ | with_reducible refine w_eq ?_ | with_reducible refine w_ne ?_ | with_reducible refine w_lt ?_
  | with_reducible refine w_leq ?_ | with_reducible refine w_gt ?_ | with_reducible refine w_ge ?_ | with_reducible refine w_mul ?_ | with_reducible refine w_div ?_ | with_reducible refine w_mod ?_ | with_reducible refine w_pow ?_
  | with_reducible refine w_neg ?_ | with_reducible refine w_isN ?_ | with_reducible refine w_notN ?_ | with_reducible refine a_nil ?_ | with_reducible refine a_cons ?_ | with_reducible refine w_tup ?_ | with_reducible refine w_lst ?_
  | with_reducible refine w_call0 ?_ | with_reducible refine w_len ?_ | with_reducible refine w_sumM ?_ | with_reducible refine w_allM ?_ | with_reducible refine w_tuple ?_ | with_reducible refine w_abs ?_ | with_reducible refine w_toInt ?_ | with_reducible refine w_max2 ?_
  | with_reducible refine w_min2 ?_ | with_reducible refine t_test ?_ | with_reducible refine t_B ?_ | with_reducible refine t_and ?_ | with_reducible refine t_or ?_ | with_reducible refine t_not ?_ | with_reducible refine t_yes ?_
  | with_reducible refine w_andV ?_ | with_reducible refine w_orV ?_ | with_reducible refine w_notV ?_ | with_reducible refine w_if ?_ | with_reducible refine w_chain ?_ | with_reducible refine o_none ?_ | with_reducible refine o_some ?_
  | with_reducible refine w_slT ?_ | with_reducible refine w_slL ?_ | with_reducible refine w_catT ?_ | with_reducible refine w_catL ?_ | with_reducible refine w_dget ?_ | with_reducible refine w_din ?_ | with_reducible refine w_dnotin ?_ | with_reducible refine w_sortD ?_ | with_reducible refine w_sortI ?_ | with_reducible refine w_callq ?_ | with_reducible refine w_isB ?_
  | with_reducible refine w_notB ?_ | with_reducible refine g_name ?_ | refine gs_nil rfl ?_ | refine gs_cons rfl ?_ | with_reducible refine s_next ?_ | with_reducible refine s_seq ?_ | with_reducible refine s_asg ?_
  | with_reducible refine s_drop ?_ | with_reducible refine s_ret ?_ | with_reducible refine s_brk ?_ | with_reducible refine s_if ?_)
local macro_rules | `(tactic| walk_at "k28 x") => `(tactic| first
  | refine g_tup ⟨_, rfl, rfl, ?_⟩ | refine ⟨_, _, _, _, rfl, rfl, rfl, rfl, rfl, ?_⟩ | refine ⟨_, _, _, rfl, rfl, rfl, ?_⟩ | refine ⟨_, _, _, rfl, rfl, atI_nat (j := 0) rfl, ?_⟩ | refine ⟨_, _, _, rfl, ?_⟩ | refine ⟨_, _, rfl, rfl, by decide, ?_⟩ | refine ⟨_, _, rfl, rfl, ⟨by decide, by decide⟩, ?_⟩ | refine ⟨_, _, rfl, rfl, ⟨by decide, by decide, by decide⟩, ?_⟩ | refine ⟨_, _, rfl, rfl, .inl ⟨by decide, by decide⟩, ?_⟩ | refine ⟨_, _, rfl, rfl, .inr ⟨by decide, by decide⟩, ?_⟩ | refine ⟨_, _, rfl, rfl, ?_⟩ | refine ⟨_, _, rfl, ?_⟩ | refine ⟨_, (show undats _ = some _ from rfl), by simp, ?_⟩ | refine ⟨_, rfl, ?_⟩ | refine ⟨_, .inl rfl, ?_⟩ | refine ⟨_, .inr rfl, ?_⟩ | refine ⟨_, _, rfl, rfl, ?_, ?_⟩)
local macro_rules | `(tactic| walk_at "k28 t") => `(tactic| first | rw [if_pos (by decide)] | rw [if_neg (by decide)] | rw [if_pos (by simp)] | rw [if_neg (by simp)])
local macro_rules | `(tactic| walk_at "k28") => `(tactic| repeat (first | walk_at "k28 d" | walk_at "k28 x" | exact rfl))
local macro_rules | `(tactic| walk_at "k28 s") => `(tactic| repeat (first | (fail_if_success with_reducible refine s_if ?_); (first | walk_at "k28 d" | walk_at "k28 x" | exact rfl)))
local macro_rules | `(tactic| walk_at "k28 o") => `(tactic| first
  | with_reducible refine w_dnotinO ?_ | with_reducible refine w_dgetO ?_ | with_reducible refine w_dget2O ?_ | with_reducible refine w_lenO ?_ | with_reducible refine w_tupleO ?_ | with_reducible refine w_notInO ?_ | with_reducible refine w_ixO ?_ | with_reducible refine w_fld ?_
  | refine ⟨_, _, _, rfl, rfl, .of (.head _), ?_⟩ | refine ⟨_, _, _, rfl, rfl, .of (.tail _ (.head _)), ?_⟩ | refine ⟨_, _, rfl, .of (.head _), ?_⟩ | refine ⟨_, _, rfl, .of (.tail _ (.head _)), ?_⟩)
local macro_rules | `(tactic| walk_at "k28 w") => `(tactic| first | with_reducible refine m_next ?_ | with_reducible refine m_seq ?_ | with_reducible refine m_asg (x_dnew fun p => ?_) | with_reducible refine m_asg (x_dnewT fun p => ?_) | with_reducible refine m_asg (x_lst ?_) | with_reducible refine m_asgP ?_ | with_reducible refine m_if ?_ | with_reducible refine m_retP ?_)
local macro_rules | `(tactic| walk_at "k28 m") => `(tactic| repeat (first | walk_at "k28 w" | walk_at "k28 o" | walk_at "k28 d" | walk_at "k28 x" | exact rfl))
local macro_rules | `(tactic| walk_at "k28 g") => `(tactic| repeat (first | with_reducible refine w_take ?_ | with_reducible refine w_word ?_ | with_reducible refine w_calld ?_ | with_reducible refine w_callgq ?_ | with_reducible refine w_addS ?_ | with_reducible refine w_ixS ?_ | with_reducible refine w_catL ?_ | walk_at "k28 w" | walk_at "k28 d" | refine ⟨_, _, rfl, .head _, (by first | decide | omega | simp | (simp only [List.length_map]; omega)), fun (r : Int) (r1 : 0 ≤ r) (r2 : r < _) => ?_⟩ | refine ⟨_, rfl, fun (s : Str) (sw : Wdn 60 s) => ?_⟩ | walk_at "k28 x" | exact rfl))
local macro_rules | `(tactic| walk_at "k28 f") => `(tactic| first
  | refine wf (Txt.c_Source (by assumption)) (Txt.n_meter (by assumption)) rfl lk_meter ?_ | refine wf (Txt.c_Source (by assumption)) (Txt.n_offset (by assumption)) rfl lk_offset ?_ | refine wf (Txt.c_Source (by assumption)) (Txt.n_slots (by assumption)) rfl lk_slots ?_ | refine wf (Txt.c_Source (by assumption)) (Txt.n_closed_number (by assumption)) rfl lk_closed_number ?_ | refine wf (Txt.c_Source (by assumption)) (Txt.n_closed_stamp (by assumption)) rfl lk_closed_stamp ?_ | refine wf (Txt.c_Source (by assumption)) (Txt.n_due (by assumption)) rfl lk_due ?_)
local macro_rules | `(tactic| walk_at "k28 n") => `(tactic| repeat (first | walk_at "k28 w" | walk_at "k28 f" | walk_at "k28 d" | walk_at "k28 x" | exact rfl))
local macro_rules | `(tactic| walk_at "k28 p") => `(tactic| first
  | with_reducible refine w_lenO ?_ | with_reducible refine w_tupleO ?_ | with_reducible refine w_ixO ?_
  | refine ⟨_, _, rfl, .of (.tail _ (.head _)), ?_⟩ | refine ⟨_, _, rfl, .of (.tail _ (.tail _ (.head _))), ?_⟩)
local macro_rules | `(tactic| walk_at "k28 q") => `(tactic| repeat (first | walk_at "k28 w" | walk_at "k28 f" | walk_at "k28 p" | walk_at "k28 d" | walk_at "k28 x" | exact rfl))
def spZ (x : Str) : Addr → Sp := fun a vs H Q _ => vs = [.ref a] ∧ ∀ H', Same H H' → Q (.str x) H'
local macro_rules | `(tactic| walk_at "k28 z") => `(tactic| repeat (first | with_reducible refine w_isE ?_ | with_reducible refine w_rawR ?_ | with_reducible refine w_rawT ?_ | refine ⟨_, _, _, rfl, fun _ h => h, IsiT.at (by assumption) (by decide), ?_⟩ | walk_at "k28 d" | walk_at "k28 x" | exact rfl))
section
variable {P : Program} {w : World} {K : PySem.W.Frag} {mg : Str → Option Value} {base : Heap}
theorem sc__law_error_name : FnScope ["_law_e", "_law_kinds", "_law_names", "_law_k"] ["_law_e"] (defScope s__law_error_name) := ⟨rfl, rfl, rfl, by decide +kernel, rfl, by decide +kernel, by decide +kernel⟩
def nm10 : List Str := ["InvalidPlan", "InvalidLetter", "InvalidAlarm", "NoSlot", "BadText", "NotPossible", "NoNote", "Closed", "InvalidEntry", "NoLetter"]
theorem join3 : ∀ x ∈ err3, ((((List.range 10).filter fun i => (nm10.map fun y => decide (x = y)).getD i false).map fun i => nm10.getD i "").map (·.length)).sum + (((List.range 10).filter fun i => (nm10.map fun y => decide (x = y)).getD i false).map fun i => nm10.getD i "").length * (" " : Str).length ≤ 16777216 ∧
    Txt.join " " (((List.range 10).filter fun i => (nm10.map fun y => decide (x = y)).getD i false).map fun i => nm10.getD i "") = x := by decide +kernel
theorem ok__law_error_name (T : Txt K mg) {x : Str} (hx : x ∈ err3) : ∃ fd, FnZ P w K mg base CX0 1 (He.ga K "_law_error_name") fd ["_law_e"] (He.ga K x) (spZ x) ∧ Binds K fd ["_law_e"] [] ∧ PySem.W.keepIn K (.ref (He.ga K "_law_error_name")) = true := by
  obtain ⟨fd, F⟩ := T.F__law_error_name
  have is := isi T hx
  refine ⟨fd, ?_, (F.bindsN fun _ _ _ _ _ _ us hl => match us, hl with | [_], _ => rfl), F.kp⟩
  obtain ⟨oc, od, dV, kV, doc, pm, an, cdv, ct, osl, rfl, lk, hcd, _, _⟩ := F.ex
  refine fn_ofZ lk hcd sc__law_error_name (fun a vs H Q E h => by rw [h.1]; rfl) fun A outer s H vs Q E p hot hz hr h => ?_
  have hf : ∃ vs, p.2.data = .fields vs := ⟨_, hot.2.choose_spec.1⟩
  refine ⟨_, (pss_cons (ps_set (i := 1) sc__law_error_name.nd rfl (Or.inr rfl) (pe_lst (pa_cons (pe_callB (call_isZ is.c hz hf (List.mem_singleton.mpr rfl)) (by rfl) T.f_isinstance (by decide +kernel) (pa_cons (pv 0) (pa_cons (pe_glob (v := .ref (He.ga K "InvalidPlan")) (by rfl) T.g_InvalidPlan rfl) pa_nil))) (pa_cons (pe_callB (call_isZ is.c hz hf (List.mem_singleton.mpr rfl)) (by rfl) T.f_isinstance (by decide +kernel) (pa_cons (pv 0) (pa_cons (pe_glob (v := .ref (He.ga K "InvalidLetter")) (by rfl) T.g_InvalidLetter rfl) pa_nil))) (pa_cons (pe_callB (call_isZ is.c hz hf (List.mem_singleton.mpr rfl)) (by rfl) T.f_isinstance (by decide +kernel) (pa_cons (pv 0) (pa_cons (pe_glob (v := .ref (He.ga K "InvalidAlarm")) (by rfl) T.g_InvalidAlarm rfl) pa_nil))) (pa_cons (pe_callB (call_isZ is.c hz hf (List.mem_singleton.mpr rfl)) (by rfl) T.f_isinstance (by decide +kernel) (pa_cons (pv 0) (pa_cons (pe_glob (v := .ref (He.ga K "NoSlot")) (by rfl) T.g_NoSlot rfl) pa_nil))) pa_nil)))))) (pss_cons (ps_set (i := 1) sc__law_error_name.nd rfl (Or.inr rfl) (pe_op op_cat (pv 1) (pe_lst (pa_cons (pe_callB (call_isZ is.c hz hf (List.mem_singleton.mpr rfl)) (by rfl) T.f_isinstance (by decide +kernel) (pa_cons (pv 0) (pa_cons (pe_glob (v := .ref (He.ga K "BadText")) (by rfl) T.g_BadText rfl) pa_nil))) (pa_cons (pe_callB (call_isZ is.c hz hf (List.mem_singleton.mpr rfl)) (by rfl) T.f_isinstance (by decide +kernel) (pa_cons (pv 0) (pa_cons (pe_glob (v := .ref (He.ga K "NotPossible")) (by rfl) T.g_NotPossible rfl) pa_nil))) (pa_cons (pe_callB (call_isZ is.c hz hf (List.mem_singleton.mpr rfl)) (by rfl) T.f_isinstance (by decide +kernel) (pa_cons (pv 0) (pa_cons (pe_glob (v := .ref (He.ga K "NoNote")) (by rfl) T.g_NoNote rfl) pa_nil))) (pa_cons (pe_callB (call_isZ is.c hz hf (List.mem_singleton.mpr rfl)) (by rfl) T.f_isinstance (by decide +kernel) (pa_cons (pv 0) (pa_cons (pe_glob (v := .ref (He.ga K "Closed")) (by rfl) T.g_Closed rfl) pa_nil))) pa_nil))))))) (pss_cons (ps_set (i := 1) sc__law_error_name.nd rfl (Or.inr rfl) (pe_op op_cat (pv 1) (pe_lst (pa_cons (pe_callB (call_isZ is.c hz hf (List.mem_singleton.mpr rfl)) (by rfl) T.f_isinstance (by decide +kernel) (pa_cons (pv 0) (pa_cons (pe_glob (v := .ref (He.ga K "InvalidEntry")) (by rfl) T.g_InvalidEntry rfl) pa_nil))) (pa_cons (pe_callB (call_isZ is.c hz hf (List.mem_singleton.mpr rfl)) (by rfl) T.f_isinstance (by decide +kernel) (pa_cons (pv 0) (pa_cons (pe_glob (v := .ref (He.ga K "NoLetter")) (by rfl) T.g_NoLetter rfl) pa_nil))) pa_nil))))) (pss_cons (ps_set (i := 2) sc__law_error_name.nd rfl (Or.inr rfl) (pe_lst (pa_cons pe_str (pa_cons pe_str (pa_cons pe_str (pa_cons pe_str (pa_cons pe_str (pa_cons pe_str (pa_cons pe_str (pa_cons pe_str pa_nil)))))))))) (pss_cons (ps_set (i := 2) sc__law_error_name.nd rfl (Or.inr rfl) (pe_op op_cat (pv 2) (pe_lst (pa_cons pe_str (pa_cons pe_str pa_nil))))) (pss_cons (ps_if (pt_not (pt_val (pe_callB (call_isZ is.c hz hf (List.mem_singleton.mpr rfl)) (by rfl) T.f_isinstance (by decide +kernel) (pa_cons (pv 0) (pa_cons (pe_bltn (v := .ty "ValueError") (by rfl) T.f_ValueError rfl rfl) pa_nil))))) (pss_one (ps_ret pe_str)) pss_nil) (pss_one (ps_ret (kJoin (K := K) rfl pe_str (pe_lcZ (own := [("_law_k", 3)]) hot (List.mem_singleton.mpr rfl) sc__law_error_name.nd (pi_range1H (by rfl) T.f_range (pa_cons pe_int pa_nil)) (blkOk_by (own := [("_law_k", 3)]) (N := ["_law_e", "_law_kinds", "_law_names", "_law_k"]) (sc := defScope s__law_error_name) (by decide +kernel)) (fun _ _ _ _ _ => (pg_name (i := 3) sc__law_error_name.nd rfl (Or.inl rfl))) (fun _ _ _ _ _ => (pts_one (pt_val (pe_ix (kIxL (K := K) rfl) (pv 1) (pv 3) (fun _ _ => rfl))))) (fun _ _ _ _ _ => (pe_ix (kIxL (K := K) rfl) (pv 2) (pv 3) (fun _ _ => rfl))))))))))))), ?_⟩
  obtain ⟨rfl, h⟩ := h
  refine (show Ws M0 _ (startR _ [.raw (.ref p.1)]) { nx := fun _ => False, rt := fun e => e = .dat (.str x) } from ?_) _ _ H trivial (en_start (.cons rfl .nil)) (fun _ _ _ _ _ k => k.elim) (fun v H' e l iv ke => by subst ke; obtain rfl := At.of_str iv; exact h H' (Md.le0 l)) (fun _ _ _ _ _ k => k.elim) (fun _ _ _ _ _ k => k.elim)
  clear h
  walk_at "k28 z"
  refine ⟨by rw [sizeLine_eq]; simp, ?_⟩
  walk_at "k28 z"
  refine ⟨by rw [sizeLine_eq]; simp, ?_⟩
  walk_at "k28 z"
  refine ⟨_, _, _, rfl, fun _ h => h, is.v, ?_⟩
  walk_at "k28 z"
  rw [if_neg (by simp)]
  walk_at "k28 z"
  refine w_join ?_
  walk_at "k28 z"
  refine (show We M0 (tLc (iRng1 (tCons (tC (.int 10)) tNil)) (gName 3) (tB (tOp (rIxL K) (tVar 1) (tVar 3))) (tOp (rIxL K) (tVar 2) (tVar 3)) [3]) [some (.raw (.ref p.1)), some (.lst ((nm10.map fun y => decide (x = y)).map .bool)), some (.lst (nm10.map .str)), none] _ from ?_)
  refine w_lcR (a_cons (w_int (a_nil ⟨10, rfl, by decide, fun i => (nm10.map fun y => decide (x = y)).getD i false, fun i => .str (nm10.getD i ""), fun i hi => ?_, fun i hi _ => ?_, ?_⟩)))
  · exact t_B (w_ixL (w_var rfl (w_var rfl ⟨_, _, _, rfl, rfl, atI_of (j := i) rfl (getB (by rw [List.length_map]; exact hi)), _, rfl, rfl⟩)))
  · exact w_ixL (w_var rfl (w_var rfl ⟨_, _, _, rfl, rfl, atI_of (j := i) rfl (getS hi), rfl⟩))
  · refine ⟨((List.range 10).filter fun i => (nm10.map fun y => decide (x = y)).getD i false).map fun i => nm10.getD i "", by rw [List.map_map]; rfl, (join3 x hx).1, ?_⟩
    show En1.dat _ = En1.dat _
    rw [(join3 x hx).2]
end
end TW
/-! K28P26 -/
/-! K28: _law_do: one deed, and what it raises. -/
namespace TW
open PySem PySem.Spec PyProof.Rows L2 L2H
local macro_rules | `(tactic| walk_at "k28 d") => `(tactic| first
  | refine w_var rfl ?_ | with_reducible refine w_int ?_ | with_reducible refine w_str ?_ | with_reducible refine w_non ?_ | with_reducible refine w_bl ?_
  | with_reducible refine w_ixT ?_ | with_reducible refine w_ixL ?_ | with_reducible refine w_add ?_ | with_reducible refine w_sub ?_ | with_reducible refine w_eq ?_ | with_reducible refine w_ne ?_ | with_reducible refine w_lt ?_
  | with_reducible refine w_leq ?_ | with_reducible refine w_gt ?_ | with_reducible refine w_ge ?_ | with_reducible refine w_mul ?_ | with_reducible refine w_div ?_ | with_reducible refine w_mod ?_ | with_reducible refine w_pow ?_
  | with_reducible refine w_neg ?_ | with_reducible refine w_isN ?_ | with_reducible refine w_notN ?_ | with_reducible refine a_nil ?_ | with_reducible refine a_cons ?_ | with_reducible refine w_tup ?_ | with_reducible refine w_lst ?_
  | with_reducible refine w_call0 ?_ | with_reducible refine w_len ?_ | with_reducible refine w_sumM ?_ | with_reducible refine w_allM ?_ | with_reducible refine w_tuple ?_ | with_reducible refine w_abs ?_ | with_reducible refine w_toInt ?_ | with_reducible refine w_max2 ?_
  | with_reducible refine w_min2 ?_ | with_reducible refine t_test ?_ | with_reducible refine t_B ?_ | with_reducible refine t_and ?_ | with_reducible refine t_or ?_ | with_reducible refine t_not ?_ | with_reducible refine t_yes ?_
  | with_reducible refine w_andV ?_ | with_reducible refine w_orV ?_ | with_reducible refine w_notV ?_ | with_reducible refine w_if ?_ | with_reducible refine w_chain ?_ | with_reducible refine o_none ?_ | with_reducible refine o_some ?_
  | with_reducible refine w_slT ?_ | with_reducible refine w_slL ?_ | with_reducible refine w_catT ?_ | with_reducible refine w_catL ?_ | with_reducible refine w_dget ?_ | with_reducible refine w_din ?_ | with_reducible refine w_dnotin ?_ | with_reducible refine w_sortD ?_ | with_reducible refine w_sortI ?_ | with_reducible refine w_callq ?_ | with_reducible refine w_isB ?_
  | with_reducible refine w_notB ?_ | with_reducible refine g_name ?_ | refine gs_nil rfl ?_ | refine gs_cons rfl ?_ | with_reducible refine s_next ?_ | with_reducible refine s_seq ?_ | with_reducible refine s_asg ?_
  | with_reducible refine s_drop ?_ | with_reducible refine s_ret ?_ | with_reducible refine s_brk ?_ | with_reducible refine s_if ?_)
local macro_rules | `(tactic| walk_at "k28 x") => `(tactic| first
  | refine g_tup ⟨_, rfl, rfl, ?_⟩ | refine ⟨_, _, _, _, rfl, rfl, rfl, rfl, rfl, ?_⟩ | refine ⟨_, _, _, rfl, rfl, rfl, ?_⟩ | refine ⟨_, _, _, rfl, rfl, atI_nat (j := 0) rfl, ?_⟩ | refine ⟨_, _, _, rfl, ?_⟩ | refine ⟨_, _, rfl, rfl, by decide, ?_⟩ | refine ⟨_, _, rfl, rfl, ⟨by decide, by decide⟩, ?_⟩ | refine ⟨_, _, rfl, rfl, ⟨by decide, by decide, by decide⟩, ?_⟩ | refine ⟨_, _, rfl, rfl, .inl ⟨by decide, by decide⟩, ?_⟩ | refine ⟨_, _, rfl, rfl, .inr ⟨by decide, by decide⟩, ?_⟩ | refine ⟨_, _, rfl, rfl, ?_⟩ | refine ⟨_, _, rfl, ?_⟩ | refine ⟨_, (show undats _ = some _ from rfl), by simp, ?_⟩ | refine ⟨_, rfl, ?_⟩ | refine ⟨_, .inl rfl, ?_⟩ | refine ⟨_, .inr rfl, ?_⟩ | refine ⟨_, _, rfl, rfl, ?_, ?_⟩)
local macro_rules | `(tactic| walk_at "k28 t") => `(tactic| first | rw [if_pos (by decide)] | rw [if_neg (by decide)] | rw [if_pos (by simp)] | rw [if_neg (by simp)])
local macro_rules | `(tactic| walk_at "k28") => `(tactic| repeat (first | walk_at "k28 d" | walk_at "k28 x" | exact rfl))
local macro_rules | `(tactic| walk_at "k28 s") => `(tactic| repeat (first | (fail_if_success with_reducible refine s_if ?_); (first | walk_at "k28 d" | walk_at "k28 x" | exact rfl)))
local macro_rules | `(tactic| walk_at "k28 o") => `(tactic| first
  | with_reducible refine w_dnotinO ?_ | with_reducible refine w_dgetO ?_ | with_reducible refine w_dget2O ?_ | with_reducible refine w_lenO ?_ | with_reducible refine w_tupleO ?_ | with_reducible refine w_notInO ?_ | with_reducible refine w_ixO ?_ | with_reducible refine w_fld ?_
  | refine ⟨_, _, _, rfl, rfl, .of (.head _), ?_⟩ | refine ⟨_, _, _, rfl, rfl, .of (.tail _ (.head _)), ?_⟩ | refine ⟨_, _, rfl, .of (.head _), ?_⟩ | refine ⟨_, _, rfl, .of (.tail _ (.head _)), ?_⟩)
local macro_rules | `(tactic| walk_at "k28 w") => `(tactic| first | with_reducible refine m_next ?_ | with_reducible refine m_seq ?_ | with_reducible refine m_asg (x_dnew fun p => ?_) | with_reducible refine m_asg (x_dnewT fun p => ?_) | with_reducible refine m_asg (x_lst ?_) | with_reducible refine m_asgP ?_ | with_reducible refine m_if ?_ | with_reducible refine m_retP ?_)
local macro_rules | `(tactic| walk_at "k28 m") => `(tactic| repeat (first | walk_at "k28 w" | walk_at "k28 o" | walk_at "k28 d" | walk_at "k28 x" | exact rfl))
local macro_rules | `(tactic| walk_at "k28 g") => `(tactic| repeat (first | with_reducible refine w_take ?_ | with_reducible refine w_word ?_ | with_reducible refine w_calld ?_ | with_reducible refine w_callgq ?_ | with_reducible refine w_addS ?_ | with_reducible refine w_ixS ?_ | with_reducible refine w_catL ?_ | walk_at "k28 w" | walk_at "k28 d" | refine ⟨_, _, rfl, .head _, (by first | decide | omega | simp | (simp only [List.length_map]; omega)), fun (r : Int) (r1 : 0 ≤ r) (r2 : r < _) => ?_⟩ | refine ⟨_, rfl, fun (s : Str) (sw : Wdn 60 s) => ?_⟩ | walk_at "k28 x" | exact rfl))
local macro_rules | `(tactic| walk_at "k28 f") => `(tactic| first
  | refine wf (Txt.c_Source (by assumption)) (Txt.n_meter (by assumption)) rfl lk_meter ?_ | refine wf (Txt.c_Source (by assumption)) (Txt.n_offset (by assumption)) rfl lk_offset ?_ | refine wf (Txt.c_Source (by assumption)) (Txt.n_slots (by assumption)) rfl lk_slots ?_ | refine wf (Txt.c_Source (by assumption)) (Txt.n_closed_number (by assumption)) rfl lk_closed_number ?_ | refine wf (Txt.c_Source (by assumption)) (Txt.n_closed_stamp (by assumption)) rfl lk_closed_stamp ?_ | refine wf (Txt.c_Source (by assumption)) (Txt.n_due (by assumption)) rfl lk_due ?_)
local macro_rules | `(tactic| walk_at "k28 n") => `(tactic| repeat (first | walk_at "k28 w" | walk_at "k28 f" | walk_at "k28 d" | walk_at "k28 x" | exact rfl))
local macro_rules | `(tactic| walk_at "k28 p") => `(tactic| first
  | with_reducible refine w_lenO ?_ | with_reducible refine w_tupleO ?_ | with_reducible refine w_ixO ?_
  | refine ⟨_, _, rfl, .of (.tail _ (.head _)), ?_⟩ | refine ⟨_, _, rfl, .of (.tail _ (.tail _ (.head _))), ?_⟩)
local macro_rules | `(tactic| walk_at "k28 q") => `(tactic| repeat (first | walk_at "k28 w" | walk_at "k28 f" | walk_at "k28 p" | walk_at "k28 d" | walk_at "k28 x" | exact rfl))
section
variable {P : Program} {w : World} {K : PySem.W.Frag} {mg : Str → Option Value} {base : Heap}
theorem sc__law_do : FnScope ["_law_source", "_law_deed_here", "_law_e"] ["_law_source", "_law_deed_here"] (defScope s__law_do) := ⟨rfl, rfl, rfl, by decide +kernel, rfl, by decide +kernel, by decide +kernel⟩
/-- the suite's statement, told the error's name -/
def tSu (x : Str) (a : Addr) : TS := tRet (tTup (tCons (fun σ H Q => tCons (tVar 2) tNil σ H fun vs H1 => spZ x a vs H1 Q E0) (tCons (tC .non) tNil)))
def tsDo (K : PySem.W.Frag) (a : Addr) (cls : Value) (d : Option Addr) : TS := fun D σ H => ∃ x, x ∈ err3 ∧ cls = .ref (He.ga K x) ∧ d = none ∧ tSu x a D σ H
def ADo (K : PySem.W.Frag) (g : GDd) (Γ : Gs) (es : List En1) : Prop := SrcIs K g.m g.off g.a g.z g.rest Γ ∧ es = [.raw (.ref g.a), .dat (g.dd.d g.m.name)] ∧ PyData.strOk g.m.name = true ∧ SmSta g.z
def SDo (K : PySem.W.Frag) (g : GDd) (Γ : Gs) (e : En1) : Prop := SrcIs K g.m g.off g.a (aft g.m g.off g.z g.dd).2 g.rest Γ ∧ ∃ d, e = .dat (.tuple [.str (aft g.m g.off g.z g.dd).1, d])
theorem err3_e {K : PySem.W.Frag} {mg : Str → Option Value} (T : Txt K mg) {x : Str} (h : x ∈ err3) : PySem.W.exmOne K (.ref (He.ga K x)) (.ref (He.ga K "GatherError")) = some true := by
  unfold err3 at h
  simp only [List.mem_cons, List.not_mem_nil, or_false] at h
  rcases h with rfl | rfl | rfl
  · exact T.e_InvalidEntry
  · exact T.e_NoSlot
  · exact T.e_Closed
theorem suite_do {x : Str} {a : Addr} {σ : L2.St} {H : Hp} {D : Ends} {Γ : Gs} {KR : Gs → En1 → Prop} (j : JG Γ H) (hn : 2 < σ.length) (h : HitE Γ H KR D.rt) (k : KR Γ (.dat (.tuple [.str x, .none]))) : tSu x a D (σ.set 2 (some (.ref a))) H := by
  refine ⟨.ref a, by rw [List.getElem?_set_self hn], rfl, fun H' s => ?_⟩
  refine ⟨by rw [sizeLine_eq]; simp, fun p hp => ?_⟩
  have l1 : (MG Γ).le H H' := Md.same j s
  have l2 := Md.new (M := MG Γ) (o := .tup [.str x, .non]) l1.2 hp
  exact h _ _ Γ _ (.of (l1.trans l2)) (Is.d (At.tup upd_same (.cons (.str x) (.cons .non .nil)))) k
theorem ok__law_do (T : Txt K mg) : Ok P w K mg base CX0 4 "_law_do" (He.ga K "_law_do") ["_law_source", "_law_deed_here"] (pso (ADo K) (SDo K) noR) := by
  obtain ⟨fd, F⟩ := T.F__law_do
  have om_record := om_record (P := P) (w := w) (base := base) T
  have om_correct := om_correct (P := P) (w := w) (base := base) T
  have om_take_back := om_take_back (P := P) (w := w) (base := base) T
  have om_close := om_close (P := P) (w := w) (base := base) T
  have om_check := om_check (P := P) (w := w) (base := base) T
  have om_acknowledge := om_acknowledge (P := P) (w := w) (base := base) T
  have hc : ∀ {X : Cx}, X.mg = mg → Gl X "GatherError" → Names X "GatherError" (.ref (He.ga K "GatherError")) := fun e g => ⟨g, by decide, .inl (by rw [e]; exact T.g_GatherError)⟩
  refine ⟨⟨fd, ok_meth F sc__law_do (fun g Γ es h => by rw [h.2.1]; rfl) (fun cdv A outer s H E hr => ⟨_, (pss_cons (ps_tryK (K := K) rfl (i := 2) (ts := tsDo K) rfl rfl sc__law_do.nd rfl rfl (hc rfl (by rfl))
      (fun W pn xe tk' => (pss_cons (ps_if (pt_cmpR op_eq (pe_ix (kIxT (K := K) rfl) (pv 1) pe_int (fun _ _ => rfl)) pe_str (nomark _)) (pss_one (ps_ret (pe_tup (pa_cons pe_str (pa_cons (pe_okm om_record (pv 0) T.c_Source T.m_record hr (by decide) (passLen 3 rfl tk') (pa_cons (pe_ix (kIxT (K := K) rfl) (pv 1) pe_int (fun _ _ => rfl)) (pa_cons (pe_ix (kIxT (K := K) rfl) (pv 1) pe_int (fun _ _ => rfl)) pa_nil))) pa_nil))))) pss_nil) (pss_cons (ps_if (pt_cmpR op_eq (pe_ix (kIxT (K := K) rfl) (pv 1) pe_int (fun _ _ => rfl)) pe_str (nomark _)) (pss_one (ps_expr (pe_okm om_correct (pv 0) T.c_Source T.m_correct hr (by decide) (passLen 3 rfl tk') (pa_cons (pe_ix (kIxT (K := K) rfl) (pv 1) pe_int (fun _ _ => rfl)) (pa_cons (pe_ix (kIxT (K := K) rfl) (pv 1) pe_int (fun _ _ => rfl)) pa_nil))))) pss_nil) (pss_cons (ps_if (pt_cmpR op_eq (pe_ix (kIxT (K := K) rfl) (pv 1) pe_int (fun _ _ => rfl)) pe_str (nomark _)) (pss_one (ps_expr (pe_okm om_take_back (pv 0) T.c_Source T.m_take_back hr (by decide) (passLen 3 rfl tk') (pa_cons (pe_ix (kIxT (K := K) rfl) (pv 1) pe_int (fun _ _ => rfl)) pa_nil)))) pss_nil) (pss_cons (ps_if (pt_cmpR op_eq (pe_ix (kIxT (K := K) rfl) (pv 1) pe_int (fun _ _ => rfl)) pe_str (nomark _)) (pss_one (ps_expr (pe_okm om_close (pv 0) T.c_Source T.m_close hr (by decide) (passLen 3 rfl tk') (pa_cons (pe_ix (kIxT (K := K) rfl) (pv 1) pe_int (fun _ _ => rfl)) pa_nil)))) pss_nil) (pss_cons (ps_if (pt_cmpR op_eq (pe_ix (kIxT (K := K) rfl) (pv 1) pe_int (fun _ _ => rfl)) pe_str (nomark _)) (pss_one (ps_expr (pe_okm om_check (pv 0) T.c_Source T.m_check hr (by decide) (passLen 3 rfl tk') (pa_cons (pe_ix (kIxT (K := K) rfl) (pv 1) pe_int (fun _ _ => rfl)) (pa_cons (pe_ix (kIxT (K := K) rfl) (pv 1) pe_int (fun _ _ => rfl)) pa_nil))))) pss_nil) (pss_one (ps_if (pt_cmpR op_eq (pe_ix (kIxT (K := K) rfl) (pv 1) pe_int (fun _ _ => rfl)) pe_str (nomark _)) (pss_one (ps_expr (pe_okm om_acknowledge (pv 0) T.c_Source T.m_acknowledge hr (by decide) pass0 (pa_cons (pe_ix (kIxT (K := K) rfl) (pv 1) pe_int (fun _ _ => rfl)) pa_nil)))) pss_nil))))))))
      (fun a oe cls d pn hz hf => ⟨fun pins s σ H D I ⟨x, hx, ec, ed, h⟩ => by
        subst ec ed
        obtain ⟨fe, Z, bz, kz⟩ := ok__law_error_name (P := P) (w := w) (base := base) T hx
        obtain ⟨v1, e1⟩ := hf
        have hot : ∀ {A : Around}, Hot1 (A.mark (some (.ref a))) (a, oe) := fun {A} => ⟨rfl, v1, e1, hz.2.2 v1 e1⟩
        exact (show PSs _ _ (tSu x a) from (pss_one (ps_ret (pe_tup (pa_cons (pe_callZ (p := (a, oe)) Z ⟨(RoomH.mono (j := 1) (roomH_of hr) (by decide)).dp, (RoomH.mono (j := 1) (roomH_of hr) (by decide)).un⟩ hot hz.zc List.mem_cons_self (by rfl) T.g__law_error_name kz bz (pa_cons (pv 2) pa_nil)) (pa_cons pe_non pa_nil)))))).run pins s σ H D I h⟩))
      (pss_one (ps_ret (pe_tup (pa_cons pe_str (pa_cons pe_non pa_nil)))))), fun g Γ es r => ?_⟩), (F.bindsN fun _ _ _ _ _ _ us hl => match us, hl with | [_, _], _ => rfl)⟩, T.g__law_do, F.kp⟩
  obtain ⟨⟨m, off, a, z, rest⟩, dd⟩ := g
  obtain ⟨h0, rfl, so, sm⟩ := r
  dsimp only at h0 so sm ⊢
  obtain ⟨p, q, dx, vs, xs, ys, rfl⟩ := h0
  refine m_seq (m_try (n := 3) (RDd K ⟨⟨m, off, a, z, rest⟩, dd⟩) (fun W => ?_) ?_)
  · cases dd with
    | record st v =>
      refine k_seq (k_if ?_)
      walk_at "k28"
      rw [if_pos (by decide)]
      refine k_retT (w_var rfl ⟨_, _, _, _, rfl, .head _, lk_none (by decide), ?_⟩)
      walk_at "k28"
      refine ⟨⟨⟨m, off, a, z, rest⟩, .record st v⟩, ⟨⟨p, q, dx, vs, xs, ys, rfl⟩, ⟨st, v, rfl, rfl⟩, so, sm⟩, ?_, fun _ _ h => h⟩
      rintro Γ' e ⟨e1, h1, d, rfl⟩
      exact ⟨d, rfl, h1, d, by rw [e1]⟩
    | correct s v =>
      refine k_seq (k_if ?_)
      walk_at "k28"
      rw [if_neg (by decide)]
      refine k_of (m_next ?_)
      show Wk _ _ _ _ _
      refine k_seq (k_if ?_)
      walk_at "k28"
      rw [if_pos (by decide)]
      refine k_meth (w_var rfl ⟨_, _, _, _, rfl, .head _, lk_none (by decide), ?_⟩)
      walk_at "k28"
      refine ⟨⟨⟨m, off, a, z, rest⟩, .correct s v⟩, ⟨⟨p, q, dx, vs, xs, ys, rfl⟩, ⟨s, v, rfl, rfl⟩, so, sm⟩, ?_, fun _ _ h => h⟩
      rintro Γ' e ⟨e1, h1, d, rfl⟩
      show Wk _ _ _ _ _
      refine k_seq (k_if ?_)
      walk_at "k28"
      rw [if_neg (by decide)]
      refine k_of (m_next ?_)
      show Wk _ _ _ _ _
      refine k_seq (k_if ?_)
      walk_at "k28"
      rw [if_neg (by decide)]
      refine k_of (m_next ?_)
      show Wk _ _ _ _ _
      refine k_seq (k_if ?_)
      walk_at "k28"
      rw [if_neg (by decide)]
      refine k_of (m_next ?_)
      show Wk _ _ _ _ _
      refine k_if ?_
      walk_at "k28"
      rw [if_neg (by decide)]
      refine k_of (m_next ?_)
      show Wm _ _ _ _
      refine m_retP ?_
      walk_at "k28"
      exact ⟨h1, .none, by rw [e1]⟩
    | back s =>
      refine k_seq (k_if ?_)
      walk_at "k28"
      rw [if_neg (by decide)]
      refine k_of (m_next ?_)
      show Wk _ _ _ _ _
      refine k_seq (k_if ?_)
      walk_at "k28"
      rw [if_neg (by decide)]
      refine k_of (m_next ?_)
      show Wk _ _ _ _ _
      refine k_seq (k_if ?_)
      walk_at "k28"
      rw [if_pos (by decide)]
      refine k_meth (w_var rfl ⟨_, _, _, _, rfl, .head _, lk_none (by decide), ?_⟩)
      walk_at "k28"
      refine ⟨⟨⟨m, off, a, z, rest⟩, .back s⟩, ⟨⟨p, q, dx, vs, xs, ys, rfl⟩, ⟨s, rfl, rfl⟩, so, sm⟩, ?_, fun _ _ h => h⟩
      rintro Γ' e ⟨e1, h1, d, rfl⟩
      show Wk _ _ _ _ _
      refine k_seq (k_if ?_)
      walk_at "k28"
      rw [if_neg (by decide)]
      refine k_of (m_next ?_)
      show Wk _ _ _ _ _
      refine k_seq (k_if ?_)
      walk_at "k28"
      rw [if_neg (by decide)]
      refine k_of (m_next ?_)
      show Wk _ _ _ _ _
      refine k_if ?_
      walk_at "k28"
      rw [if_neg (by decide)]
      refine k_of (m_next ?_)
      show Wm _ _ _ _
      refine m_retP ?_
      walk_at "k28"
      exact ⟨h1, .none, by rw [e1]⟩
    | close st =>
      refine k_seq (k_if ?_)
      walk_at "k28"
      rw [if_neg (by decide)]
      refine k_of (m_next ?_)
      show Wk _ _ _ _ _
      refine k_seq (k_if ?_)
      walk_at "k28"
      rw [if_neg (by decide)]
      refine k_of (m_next ?_)
      show Wk _ _ _ _ _
      refine k_seq (k_if ?_)
      walk_at "k28"
      rw [if_neg (by decide)]
      refine k_of (m_next ?_)
      show Wk _ _ _ _ _
      refine k_seq (k_if ?_)
      walk_at "k28"
      rw [if_pos (by decide)]
      refine k_meth (w_var rfl ⟨_, _, _, _, rfl, .head _, lk_none (by decide), ?_⟩)
      walk_at "k28"
      refine ⟨⟨⟨m, off, a, z, rest⟩, .close st⟩, ⟨⟨p, q, dx, vs, xs, ys, rfl⟩, ⟨st, rfl, rfl⟩, so, sm⟩, ?_, fun _ _ h => h⟩
      rintro Γ' e ⟨e1, h1, d, rfl⟩
      show Wk _ _ _ _ _
      refine k_seq (k_if ?_)
      walk_at "k28"
      rw [if_neg (by decide)]
      refine k_of (m_next ?_)
      show Wk _ _ _ _ _
      refine k_if ?_
      walk_at "k28"
      rw [if_neg (by decide)]
      refine k_of (m_next ?_)
      show Wm _ _ _ _
      refine m_retP ?_
      walk_at "k28"
      exact ⟨h1, .none, by rw [e1]⟩
    | check lo hi =>
      refine k_seq (k_if ?_)
      walk_at "k28"
      rw [if_neg (by decide)]
      refine k_of (m_next ?_)
      show Wk _ _ _ _ _
      refine k_seq (k_if ?_)
      walk_at "k28"
      rw [if_neg (by decide)]
      refine k_of (m_next ?_)
      show Wk _ _ _ _ _
      refine k_seq (k_if ?_)
      walk_at "k28"
      rw [if_neg (by decide)]
      refine k_of (m_next ?_)
      show Wk _ _ _ _ _
      refine k_seq (k_if ?_)
      walk_at "k28"
      rw [if_neg (by decide)]
      refine k_of (m_next ?_)
      show Wk _ _ _ _ _
      refine k_seq (k_if ?_)
      walk_at "k28"
      rw [if_pos (by decide)]
      refine k_meth (w_var rfl ⟨_, _, _, _, rfl, .head _, lk_none (by decide), ?_⟩)
      walk_at "k28"
      refine ⟨⟨⟨m, off, a, z, rest⟩, .check lo hi⟩, ⟨⟨p, q, dx, vs, xs, ys, rfl⟩, ⟨lo, hi, rfl, rfl⟩, so, sm⟩, ?_, fun _ _ h => h⟩
      rintro Γ' e ⟨e1, h1, d, rfl⟩
      show Wk _ _ _ _ _
      refine k_if ?_
      walk_at "k28"
      rw [if_neg (by decide)]
      refine k_of (m_next ?_)
      show Wm _ _ _ _
      refine m_retP ?_
      walk_at "k28"
      exact ⟨h1, .none, by rw [e1]⟩
    | ack l =>
      refine k_seq (k_if ?_)
      walk_at "k28"
      rw [if_neg (by decide)]
      refine k_of (m_next ?_)
      show Wk _ _ _ _ _
      refine k_seq (k_if ?_)
      walk_at "k28"
      rw [if_neg (by decide)]
      refine k_of (m_next ?_)
      show Wk _ _ _ _ _
      refine k_seq (k_if ?_)
      walk_at "k28"
      rw [if_neg (by decide)]
      refine k_of (m_next ?_)
      show Wk _ _ _ _ _
      refine k_seq (k_if ?_)
      walk_at "k28"
      rw [if_neg (by decide)]
      refine k_of (m_next ?_)
      show Wk _ _ _ _ _
      refine k_seq (k_if ?_)
      walk_at "k28"
      rw [if_neg (by decide)]
      refine k_of (m_next ?_)
      show Wk _ _ _ _ _
      refine k_if ?_
      walk_at "k28"
      rw [if_pos (by decide)]
      refine k_of (m_drop (x_meth (w_var rfl ⟨_, _, _, _, rfl, .head _, lk_none (by decide), ?_⟩)))
      walk_at "k28"
      refine ⟨⟨⟨m, off, a, z, rest⟩, .ack l⟩, ⟨⟨p, q, dx, vs, xs, ys, rfl⟩, ⟨l, rfl, rfl⟩, so, sm⟩, ?_, fun _ _ h => h⟩
      rintro Γ' e ⟨e1, h1, d, rfl⟩
      show Wm _ _ _ _
      refine m_retP ?_
      walk_at "k28"
      exact ⟨h1, .none, by rw [e1]⟩
  · rintro Γ' cls ⟨h1, x, hx, ea, rfl⟩
    have hx' : x ∈ err3 := by rcases hx with rfl | rfl | rfl <;> decide
    refine ⟨err3_e T hx', fun b σ H D j hb hl hr => ⟨x, hx', rfl, rfl, suite_do j (by omega) hr ?_⟩⟩
    exact ⟨by rw [ea]; exact h1, .none, by rw [ea]⟩
end
end TW
/-! K28W2 -/
/-! K28: the law's history, its read letters, the pairs that are sorted. -/
namespace TW
open PySem PySem.Spec PyProof.Rows L2
theorem hist_names (p : Plan) (m : Meter) (off : Int) (ss : List Slot) : (histOf p m off ss).map Log.name = p.ms.map Meter.name := by
  unfold histOf
  rw [List.map_map]
  refine List.map_congr_left fun o _ => ?_
  show (if o.name = m.name then (⟨m.name, off, ss⟩ : Log) else ⟨o.name, o.err, []⟩).name = o.name
  split
  · rename_i c; exact c.symm
  · rfl
theorem hist_len (p : Plan) (m : Meter) (off : Int) (ss : List Slot) : (histOf p m off ss).length = p.ms.length := by
  unfold histOf
  rw [List.length_map]
theorem hist_find {p : Plan} (pl : PlOk p) {m : Meter} (h : m ∈ p.ms) (off : Int) (ss : List Slot) : (histOf p m off ss).find? (fun l => decide (l.name = m.name)) = some ⟨m.name, off, ss⟩ := by
  unfold histOf
  rw [List.find?_map]
  have e : ((fun l : Log => decide (l.name = m.name)) ∘ fun o : Meter => if o.name = m.name then (⟨m.name, off, ss⟩ : Log) else ⟨o.name, o.err, []⟩) = fun o : Meter => decide (o.name = m.name) := by
    funext o
    show decide ((if o.name = m.name then (⟨m.name, off, ss⟩ : Log) else ⟨o.name, o.err, []⟩).name = m.name) = _
    by_cases c : o.name = m.name
    · rw [if_pos c]; simp [c]
    · rw [if_neg c]
  rw [e, find_name pl.nd h]
  simp
theorem hist_at {p : Plan} (pl : PlOk p) {m : Meter} (h : m ∈ p.ms) {off : Int} {ss : List Slot} (ho : -m.err ≤ off ∧ off ≤ m.err) (S : SsOk m ss) (i : Nat) (l : Log) (o : Meter) (hl : (histOf p m off ss)[i]? = some l) (hm : p.ms[i]? = some o) : -o.err ≤ l.off ∧ l.off ≤ o.err ∧ SsOk o l.ss := by
  unfold histOf at hl
  rw [List.getElem?_map, hm] at hl
  have e : (if o.name = m.name then (⟨m.name, off, ss⟩ : Log) else ⟨o.name, o.err, []⟩) = l := Option.some.inj hl
  have mo := List.mem_of_getElem? hm
  by_cases c : o.name = m.name
  · have f1 := find_name pl.nd h
    have f2 := find_name pl.nd mo
    rw [c, f1] at f2
    obtain rfl := Option.some.inj f2
    rw [if_pos c] at e
    subst e
    exact ⟨ho.1, ho.2, S⟩
  · rw [if_neg c] at e
    subst e
    have er := (pl.ok o mo).2.2
    exact ⟨by show -o.err ≤ o.err; omega, Int.le_refl _, ⟨Nat.zero_le _, fun s hs => (by cases hs), .nil⟩⟩
theorem hist_small {p : Plan} {m : Meter} {off : Int} {ss : List Slot} {k : Nat} (h1 : ss.length ≤ k) (h2 : ∀ s ∈ ss, s.2.length ≤ k) : ∀ l ∈ histOf p m off ss, l.ss.length ≤ k ∧ ∀ s ∈ l.ss, s.2.length ≤ k := by
  intro l hl
  unfold histOf at hl
  obtain ⟨o, _, rfl⟩ := List.mem_map.mp hl
  by_cases c : o.name = m.name
  · rw [if_pos c]; exact ⟨h1, h2⟩
  · rw [if_neg c]; exact ⟨Nat.zero_le _, fun s hs => by cases hs⟩
/-! the read letters of the slots -/
def letsV (k : Nat) (st : Int) : Nat → List (Option Int) → List Let
  | _, [] => []
  | v, x :: r => .read (k + 1) v st x :: letsV k st (v + 1) r
def letsQ : Nat → List Slot → List Let
  | _, [] => []
  | k, s :: r => letsV k s.1 0 s.2 ++ letsQ (k + 1) r
theorem letsV_eq (nm : Str) (k : Nat) (st : Int) : ∀ (v : Nat) (l : List (Option Int)), ((l.zipIdx v).map fun q => Let.d nm (.read (k + 1) q.2 st q.1)) = (letsV k st v l).map (Let.d nm)
  | _, [] => rfl
  | v, x :: r => by
    rw [List.zipIdx_cons, List.map_cons, letsV_eq nm k st (v + 1) r]
    rfl
theorem letsQ_eq (nm : Str) : ∀ (k : Nat) (ss : List Slot), ((ss.zipIdx k).flatMap fun q => rdsV nm q.2 q.1) = (letsQ k ss).map (Let.d nm)
  | _, [] => rfl
  | k, s :: r => by
    rw [List.zipIdx_cons, List.flatMap_cons, letsQ_eq nm (k + 1) r]
    show _ = (letsV k s.1 0 s.2 ++ letsQ (k + 1) r).map (Let.d nm)
    rw [List.map_append, ← letsV_eq]
    rfl
def rdq : Let → Int × Int
  | .read s v _ _ => ((s : Int), (v : Int))
  | _ => (0, 0)
def castP (q : Nat × Nat) : Int × Int := ((q.1 : Int), (q.2 : Int))
theorem letsV_rd (k : Nat) (st : Int) : ∀ (v : Nat) (l : List (Option Int)), (letsV k st v l).map rdq = ((List.range' v l.length).map fun j => (k + 1, j)).map castP
  | _, [] => rfl
  | v, x :: r => by
    rw [List.length_cons, List.range'_succ]
    simp only [letsV, List.map_cons, letsV_rd k st (v + 1) r]
    rfl
theorem letsQ_rd : ∀ (k : Nat) (ss : List Slot), (letsQ k ss).map rdq = (allQ k ss).map castP
  | _, [] => rfl
  | k, s :: r => by
    show (letsV k s.1 0 s.2 ++ letsQ (k + 1) r).map rdq = (((List.range s.2.length).map fun v => (k + 1, v)) ++ allQ (k + 1) r).map castP
    rw [List.map_append, List.map_append, letsQ_rd (k + 1) r, letsV_rd, List.range_eq_range']
theorem letsV_isRd (k : Nat) (st : Int) : ∀ (v : Nat) (l : List (Option Int)), ∀ x ∈ letsV k st v l, isRd x = true
  | _, [], _, h => by cases h
  | v, y :: r, x, h => by
    rcases List.mem_cons.mp h with e | h
    · rw [e]; rfl
    · exact letsV_isRd k st (v + 1) r x h
theorem letsQ_isRd : ∀ (k : Nat) (ss : List Slot), ∀ x ∈ letsQ k ss, isRd x = true
  | _, [], _, h => by cases h
  | k, s :: r, x, h => by
    rcases List.mem_append.mp (show x ∈ letsV k s.1 0 s.2 ++ letsQ (k + 1) r from h) with h | h
    · exact letsV_isRd _ _ _ _ x h
    · exact letsQ_isRd (k + 1) r x h
theorem letsQ_len (k : Nat) (ss : List Slot) : (letsQ k ss).length = (ss.map fun s => s.2.length).sum := by
  have e := congrArg List.length (letsQ_rd k ss)
  rw [List.length_map, List.length_map, allQ_len] at e
  exact e
theorem fm_one {X : List Dt} {m : Meter} : ∀ {l : List Meter}, (l.map Meter.name).Nodup → m ∈ l → l.flatMap (fun o => if o.name = m.name then X else []) = X
  | [], _, h => by cases h
  | a :: r, nd, h => by
    rw [List.map_cons, List.nodup_cons] at nd
    rw [List.flatMap_cons]
    by_cases c : a.name = m.name
    · rw [if_pos c]
      have e : r.flatMap (fun o => if o.name = m.name then X else []) = [] := List.flatMap_eq_nil_iff.mpr fun o ho => by
        rw [if_neg fun z => nd.1 (List.mem_map.mpr ⟨o, ho, by rw [z, c]⟩)]
      rw [e, List.append_nil]
    · rw [if_neg c, List.nil_append]
      rcases List.mem_cons.mp h with e | h
      · rw [e] at c; exact absurd rfl c
      · exact fm_one nd.2 h
theorem rds_hist {p : Plan} (pl : PlOk p) {m : Meter} (h : m ∈ p.ms) (off : Int) (ss : List Slot) : rdsH (histOf p m off ss) = (letsQ 0 ss).map (Let.d m.name) := by
  unfold rdsH histOf
  rw [List.flatMap_map]
  have e : (fun o : Meter => rdsS (if o.name = m.name then (⟨m.name, off, ss⟩ : Log) else ⟨o.name, o.err, []⟩).name (if o.name = m.name then (⟨m.name, off, ss⟩ : Log) else ⟨o.name, o.err, []⟩).ss) = fun o : Meter => if o.name = m.name then rdsS m.name ss else [] := by
    funext o
    by_cases c : o.name = m.name
    · simp only [if_pos c]
    · simp only [if_neg c]; rfl
  rw [e, fm_one pl.nd h]
  exact letsQ_eq m.name 0 ss
theorem reads_rdq (us : List Let) : (us.filter isRd).map rdq = (readsP us).map castP := by
  unfold readsP
  induction us with
  | nil => rfl
  | cons a r ih =>
    cases a with
    | read s v st x =>
      rw [List.filter_cons_of_pos rfl, List.map_cons, ih]
      rfl
    | close n st vs => rw [List.filter_cons_of_neg (by simp [isRd]), ih]; rfl
    | clock lo hi => rw [List.filter_cons_of_neg (by simp [isRd]), ih]; rfl
/-! pairs as data -/
theorem eqv_pair (q : Int × Int) : PyData.eqv (pairD q) (pairD q) = true := by simp [PyData.eqv, PyData.eqvAll, beqI]
theorem eqv_pairs : ∀ ps : List (Int × Int), PyData.eqvAll (ps.map pairD) (ps.map pairD) = true
  | [] => by simp [PyData.eqvAll]
  | q :: ps => by
    rw [List.map_cons]
    unfold PyData.eqvAll
    rw [eqv_pair, eqv_pairs ps]
    rfl
theorem eqv_pairsL (ps : List (Int × Int)) : PyData.eqv (.list (ps.map pairD)) (.list (ps.map pairD)) = true := by
  unfold PyData.eqv
  exact eqv_pairs ps
theorem lay_pairs : ∀ ps : List (Int × Int), PyData.canLayAll0 (ps.map pairD) = true ∧ PyData.depthAll (ps.map pairD) ≤ 3
  | [] => by simp [PyData.canLayAll0, PyData.depthAll]
  | q :: ps => by
    obtain ⟨b1, b2⟩ := lay_pairs ps
    have a1 : PyData.canLay0 (pairD q) = true := by simp [PyData.canLay0, PyData.canLayAll0]
    have a2 : PyData.depth (pairD q) ≤ 2 := by simp [PyData.depth, PyData.depthAll]
    simp only [List.map_cons, PyData.canLayAll0, PyData.depthAll, a1, b1, Bool.and_self, true_and]
    omega
theorem shaped_pairs (ps : List (Int × Int)) : SeqAt.shaped (.list (ps.map pairD)) = true := by
  obtain ⟨a, b⟩ := lay_pairs ps
  show (PyData.canLay0 (.list _) && decide (PyData.depth (.list _) ≤ 64)) = true
  rw [show PyData.canLay0 (.list (ps.map pairD)) = PyData.canLayAll0 (ps.map pairD) from by simp only [PyData.canLay0], a, decide_eq_true (by simp only [PyData.depth]; omega)]
  rfl
theorem addAll_len : ∀ (us ls : List Let), (addAll us ls).length ≤ us.length + ls.length
  | us, [] => Nat.le_refl _
  | us, l :: ls => by
    have q := addAll_len (addDue us l) ls
    have q2 := addDue_len us l
    show (addAll (addDue us l) ls).length ≤ _
    rw [List.length_cons]
    omega
theorem addAll_take {us ls : List Let} {j : Nat} {l : Let} (h : ls[j]? = some l) : addAll us (ls.take (j + 1)) = addDue (addAll us (ls.take j)) l := by
  unfold addAll
  rw [List.take_succ, h, List.foldl_append]
  rfl
end TW
/-! K28P27 -/
/-! K28: law. -/
namespace TW
open PySem PySem.Spec PyProof.Rows L2
local macro_rules | `(tactic| walk_at "k28 d") => `(tactic| first
  | refine w_var rfl ?_ | with_reducible refine w_int ?_ | with_reducible refine w_str ?_ | with_reducible refine w_non ?_ | with_reducible refine w_bl ?_
  | with_reducible refine w_ixT ?_ | with_reducible refine w_ixL ?_ | with_reducible refine w_add ?_ | with_reducible refine w_sub ?_ | with_reducible refine w_eq ?_ | with_reducible refine w_ne ?_ | with_reducible refine w_lt ?_
  | with_reducible refine w_leq ?_ | with_reducible refine w_gt ?_ | with_reducible refine w_ge ?_ | with_reducible refine w_mul ?_ | with_reducible refine w_div ?_ | with_reducible refine w_mod ?_ | with_reducible refine w_pow ?_
  | with_reducible refine w_neg ?_ | with_reducible refine w_isN ?_ | with_reducible refine w_notN ?_ | with_reducible refine a_nil ?_ | with_reducible refine a_cons ?_ | with_reducible refine w_tup ?_ | with_reducible refine w_lst ?_
  | with_reducible refine w_call0 ?_ | with_reducible refine w_len ?_ | with_reducible refine w_sumM ?_ | with_reducible refine w_allM ?_ | with_reducible refine w_tuple ?_ | with_reducible refine w_abs ?_ | with_reducible refine w_toInt ?_ | with_reducible refine w_max2 ?_
  | with_reducible refine w_min2 ?_ | with_reducible refine t_test ?_ | with_reducible refine t_B ?_ | with_reducible refine t_and ?_ | with_reducible refine t_or ?_ | with_reducible refine t_not ?_ | with_reducible refine t_yes ?_
  | with_reducible refine w_andV ?_ | with_reducible refine w_orV ?_ | with_reducible refine w_notV ?_ | with_reducible refine w_if ?_ | with_reducible refine w_chain ?_ | with_reducible refine o_none ?_ | with_reducible refine o_some ?_
  | with_reducible refine w_slT ?_ | with_reducible refine w_slL ?_ | with_reducible refine w_catT ?_ | with_reducible refine w_catL ?_ | with_reducible refine w_dget ?_ | with_reducible refine w_din ?_ | with_reducible refine w_dnotin ?_ | with_reducible refine w_sortD ?_ | with_reducible refine w_sortI ?_ | with_reducible refine w_callq ?_ | with_reducible refine w_isB ?_
  | with_reducible refine w_notB ?_ | with_reducible refine g_name ?_ | refine gs_nil rfl ?_ | refine gs_cons rfl ?_ | with_reducible refine s_next ?_ | with_reducible refine s_seq ?_ | with_reducible refine s_asg ?_
  | with_reducible refine s_drop ?_ | with_reducible refine s_ret ?_ | with_reducible refine s_brk ?_ | with_reducible refine s_if ?_)
local macro_rules | `(tactic| walk_at "k28 x") => `(tactic| first
  | refine g_tup ⟨_, rfl, rfl, ?_⟩ | refine ⟨_, _, _, _, rfl, rfl, rfl, rfl, rfl, ?_⟩ | refine ⟨_, _, _, rfl, rfl, rfl, ?_⟩ | refine ⟨_, _, _, rfl, rfl, atI_nat (j := 0) rfl, ?_⟩ | refine ⟨_, _, _, rfl, ?_⟩ | refine ⟨_, _, rfl, rfl, by decide, ?_⟩ | refine ⟨_, _, rfl, rfl, ⟨by decide, by decide⟩, ?_⟩ | refine ⟨_, _, rfl, rfl, ⟨by decide, by decide, by decide⟩, ?_⟩ | refine ⟨_, _, rfl, rfl, .inl ⟨by decide, by decide⟩, ?_⟩ | refine ⟨_, _, rfl, rfl, .inr ⟨by decide, by decide⟩, ?_⟩ | refine ⟨_, _, rfl, rfl, ?_⟩ | refine ⟨_, _, rfl, ?_⟩ | refine ⟨_, (show undats _ = some _ from rfl), by simp, ?_⟩ | refine ⟨_, rfl, ?_⟩ | refine ⟨_, .inl rfl, ?_⟩ | refine ⟨_, .inr rfl, ?_⟩ | refine ⟨_, _, rfl, rfl, ?_, ?_⟩)
local macro_rules | `(tactic| walk_at "k28 t") => `(tactic| first | rw [if_pos (by decide)] | rw [if_neg (by decide)] | rw [if_pos (by simp)] | rw [if_neg (by simp)])
local macro_rules | `(tactic| walk_at "k28") => `(tactic| repeat (first | walk_at "k28 d" | walk_at "k28 x" | exact rfl))
local macro_rules | `(tactic| walk_at "k28 s") => `(tactic| repeat (first | (fail_if_success with_reducible refine s_if ?_); (first | walk_at "k28 d" | walk_at "k28 x" | exact rfl)))
local macro_rules | `(tactic| walk_at "k28 o") => `(tactic| first
  | with_reducible refine w_dnotinO ?_ | with_reducible refine w_dgetO ?_ | with_reducible refine w_dget2O ?_ | with_reducible refine w_lenO ?_ | with_reducible refine w_tupleO ?_ | with_reducible refine w_notInO ?_ | with_reducible refine w_ixO ?_ | with_reducible refine w_fld ?_
  | refine ⟨_, _, _, rfl, rfl, .of (.head _), ?_⟩ | refine ⟨_, _, _, rfl, rfl, .of (.tail _ (.head _)), ?_⟩ | refine ⟨_, _, rfl, .of (.head _), ?_⟩ | refine ⟨_, _, rfl, .of (.tail _ (.head _)), ?_⟩)
local macro_rules | `(tactic| walk_at "k28 w") => `(tactic| first | with_reducible refine m_next ?_ | with_reducible refine m_seq ?_ | with_reducible refine m_asg (x_dnew fun p => ?_) | with_reducible refine m_asg (x_dnewT fun p => ?_) | with_reducible refine m_asg (x_lst ?_) | with_reducible refine m_asgP ?_ | with_reducible refine m_if ?_ | with_reducible refine m_retP ?_)
local macro_rules | `(tactic| walk_at "k28 m") => `(tactic| repeat (first | walk_at "k28 w" | walk_at "k28 o" | walk_at "k28 d" | walk_at "k28 x" | exact rfl))
local macro_rules | `(tactic| walk_at "k28 g") => `(tactic| repeat (first | with_reducible refine w_take ?_ | with_reducible refine w_word ?_ | with_reducible refine w_calld ?_ | with_reducible refine w_callgq ?_ | with_reducible refine w_addS ?_ | with_reducible refine w_ixS ?_ | with_reducible refine w_catL ?_ | walk_at "k28 w" | walk_at "k28 d" | refine ⟨_, _, rfl, .head _, (by first | decide | omega | simp | (simp only [List.length_map]; omega)), fun (r : Int) (r1 : 0 ≤ r) (r2 : r < _) => ?_⟩ | refine ⟨_, rfl, fun (s : Str) (sw : Wdn 60 s) => ?_⟩ | walk_at "k28 x" | exact rfl))
local macro_rules | `(tactic| walk_at "k28 f") => `(tactic| first
  | refine wf (Txt.c_Source (by assumption)) (Txt.n_meter (by assumption)) rfl lk_meter ?_ | refine wf (Txt.c_Source (by assumption)) (Txt.n_offset (by assumption)) rfl lk_offset ?_ | refine wf (Txt.c_Source (by assumption)) (Txt.n_slots (by assumption)) rfl lk_slots ?_ | refine wf (Txt.c_Source (by assumption)) (Txt.n_closed_number (by assumption)) rfl lk_closed_number ?_ | refine wf (Txt.c_Source (by assumption)) (Txt.n_closed_stamp (by assumption)) rfl lk_closed_stamp ?_ | refine wf (Txt.c_Source (by assumption)) (Txt.n_due (by assumption)) rfl lk_due ?_)
local macro_rules | `(tactic| walk_at "k28 n") => `(tactic| repeat (first | walk_at "k28 w" | walk_at "k28 f" | walk_at "k28 d" | walk_at "k28 x" | exact rfl))
local macro_rules | `(tactic| walk_at "k28 p") => `(tactic| first
  | with_reducible refine w_lenO ?_ | with_reducible refine w_tupleO ?_ | with_reducible refine w_ixO ?_
  | refine ⟨_, _, rfl, .of (.tail _ (.head _)), ?_⟩ | refine ⟨_, _, rfl, .of (.tail _ (.tail _ (.head _))), ?_⟩)
local macro_rules | `(tactic| walk_at "k28 q") => `(tactic| repeat (first | walk_at "k28 w" | walk_at "k28 f" | walk_at "k28 p" | walk_at "k28 d" | walk_at "k28 x" | exact rfl))
section
variable {P : Program} {w : World} {K : PySem.W.Frag} {mg : Str → Option Value} {base : Heap}
theorem sc_law : FnScope ["_law_script", "_law_draws_here", "_law_cell_here", "_law_plan_here", "_law_meter", "_law_offset_here", "_law_source", "_law_model", "_law_made", "_law_k", "_law_deed_here", "_law_letter", "_law_history", "_law_reads", "_law_slot"] ["_law_script"] (defScope s_law) := ⟨rfl, rfl, rfl, by decide +kernel, rfl, by decide +kernel, by decide +kernel⟩
def splaw (K : PySem.W.Frag) : Sp := fun vs H Q _ => ∃ (a : Addr) (ns : List Int), vs = [.ref a] ∧ ns.length ≤ 63 ∧ SqL K H a (ns.map V.int) ∧ ∀ H', Q (.bl true) H'
theorem en_none {M : Md} {H : Hp} : ∀ σ : L2.St, En M H σ (List.replicate σ.length none)
  | [] => .nil
  | _ :: σ => .cons (fun _ e => by cases e) (en_none σ)
theorem go_name {i : Nat} {v : V} {σ : L2.St} {H : Hp} {D : Ends} {t : TS} (h : t D (σ.set i (some v)) H) : gName i v σ H (Ends.nx { D with nx := t D }) := h
def LI (K : PySem.W.Frag) (p : Plan) (m : Meter) (off c : Int) (dr x mk : Addr) (i : Nat) (Γ : Gs) (ρ : Ro) : Prop := ∃ (z : Sta) (us : List Let) (xs : List V) (e9 e10 e11 e12 e13 e14 : Option En1), Good m off i z us ∧ SrcIs K m off x z [(dr, .rnd), (mk, .l xs (us.map (Let.d m.name)))] Γ ∧
  ρ = [none, some (.raw (.ref dr)), some (.dat (.int c)), some (.dat p.d), some (.dat m.d), some (.dat (.int off)), some (.raw (.ref x)), some (.dat (z.d m.name)), some (.raw (.ref mk)), e9, e10, e11, e12, e13, e14]
def LJ (K : PySem.W.Frag) (p : Plan) (m : Meter) (off c : Int) (dr x mk : Addr) (z : Sta) (us : List Let) (j : Nat) (G : List V → Gs) (Γ : Gs) (ρ : Ro) : Prop := ∃ (xs : List V) (e9 e10 e11 e12 e13 e14 : Option En1), Γ = G xs ∧
  ρ = [none, some (.raw (.ref dr)), some (.dat (.int c)), some (.dat p.d), some (.dat m.d), some (.dat (.int off)), some (.raw (.ref x)), some (.dat (z.d m.name)), some (.raw (.ref mk)), e9, e10, e11, e12, e13, e14]
/-- l[2:4] of a read letter -/
theorem pair_of {M : Md} {ρ : Ro} {ta : TE} {nm : Str} {l : Let} (h : We M ta ρ fun e => e = .dat (Let.d nm l)) (hr : isRd l = true) : We M (tSl (rSlA K) ta (tPart (tC (.int 2))) (tPart (tC (.int 4)))) ρ fun e => e = .dat (pairD (rdq l)) := by
  cases l with
  | read s v st y => exact w_slT (h.imp fun e he => o_some (w_int ⟨_, rfl, o_some (w_int ⟨_, rfl, _, he, rfl⟩)⟩))
  | close n st vs => cases hr
  | clock lo hi => cases hr
theorem ok_law (T : Txt K mg) {fd : FuncData} (F : FnP K "law" "law" s_law (He.ga K "law") fd) : FnOk P w K mg base CX0 5 (He.ga K "law") fd ["_law_script"] (splaw K) := by
  have o__law_draws := ok__law_draws (P := P) (w := w) (base := base) T
  have o__law_cell := ok__law_cell (P := P) (w := w) (base := base) T
  have o__law_take := ok__law_take (P := P) (w := w) (base := base) T
  have o__law_plan := ok__law_plan (P := P) (w := w) (base := base) T
  have o__law_offset := ok__law_offset (P := P) (w := w) (base := base) T
  have o__law_deed := ok__law_deed (P := P) (w := w) (base := base) T
  have o__law_do := ok__law_do (P := P) (w := w) (base := base) T
  have o__law_after := ok__law_after (P := P) (w := w) (base := base) T
  have o__law_others := ok__law_others (P := P) (w := w) (base := base) T
  have o__law_all_true := ok__law_all_true (P := P) (w := w) (base := base) T
  have o_is_history := ok_is_history (P := P) (w := w) (base := base) T
  have o_agrees := ok_agrees (P := P) (w := w) (base := base) T
  have o_reads_of := ok_reads_of (P := P) (w := w) (base := base) T
  have o_is_possible := ok_is_possible (P := P) (w := w) (base := base) T
  have om_due := om_due (P := P) (w := w) (base := base) T
  have om_log := om_log (P := P) (w := w) (base := base) T
  obtain ⟨fdI, FI, bI⟩ := (om___init__ (P := P) (w := w) (base := base) T).ex
  refine F.ok sc_law (fun vs H Q E ⟨a, ns, e, _⟩ => by rw [e]; rfl) (fun cdv A outer s H vs Q E hr h => ⟨_, (show PSs (cxOf CX0 P w K mg base _ "law" (defScope s_law) _ cdv A outer s H E).nox (defBody s_law) _ from (pss_cons (ps_set (i := 1) sc_law.nd rfl (Or.inl rfl) (pe_ok o__law_draws hr (by decide) (by rfl) (pa_cons (pv 0) (pa_cons pe_int pa_nil)))) (pss_cons (ps_set (i := 2) sc_law.nd rfl (Or.inl rfl) (pe_ok o__law_cell hr (by decide) (by rfl) (pa_cons (pv 0) (pa_cons (pv 1) pa_nil)))) (pss_cons (ps_set (i := 3) sc_law.nd rfl (Or.inl rfl) (pe_ok o__law_plan hr (by decide) (by rfl) (pa_cons (pv 1) (pa_cons (pv 2) pa_nil)))) (pss_cons (ps_set (i := 4) sc_law.nd rfl (Or.inl rfl) (pe_ix (kIxT (K := K) rfl) (pe_ix (kIxT (K := K) rfl) (pv 3) pe_int (fun _ _ => rfl)) (pe_ok o__law_take hr (by decide) (by rfl) (pa_cons (pv 1) (pa_cons (pe_callB (kLen (K := K) rfl) (by rfl) T.f_len (by decide +kernel) (pa_cons (pe_ix (kIxT (K := K) rfl) (pv 3) pe_int (fun _ _ => rfl)) pa_nil)) pa_nil))) (fun _ _ => rfl))) (pss_cons (ps_set (i := 5) sc_law.nd rfl (Or.inl rfl) (pe_ok o__law_offset hr (by decide) (by rfl) (pa_cons (pv 1) (pa_cons (pv 4) pa_nil)))) (pss_cons (ps_set (i := 6) sc_law.nd rfl (Or.inl rfl) (pe_make T.k_Source FI (hr.mono (by decide)) (by rfl) T.g_Source bI .nil pass0 (pa_cons (pv 3) (pa_cons (pe_ix (kIxT (K := K) rfl) (pv 4) pe_int (fun _ _ => rfl)) (pa_cons (pv 5) pa_nil))))) (pss_cons (ps_set (i := 7) sc_law.nd rfl (Or.inl rfl) (pe_tup (pa_cons (pe_tup pa_nil) (pa_cons pe_int (pa_cons pe_non (pa_cons (pe_tup pa_nil) pa_nil)))))) (pss_cons (ps_set (i := 8) sc_law.nd rfl (Or.inl rfl) (pe_lst pa_nil)) (pss_cons (ps_for PassesOwn.never rfl (pi_range1 (by rfl) T.f_range (pa_cons (pe_ok o__law_take hr (by decide) (by rfl) (pa_cons (pv 1) (pa_cons pe_int pa_nil))) pa_nil)) (pg_name (i := 9) sc_law.nd rfl (Or.inl rfl)) (pss_cons (ps_set (i := 10) sc_law.nd rfl (Or.inl rfl) (pe_ok o__law_deed hr (by decide) (by rfl) (pa_cons (pv 1) (pa_cons (pv 7) (pa_cons (pv 4) (pa_cons (pv 5) (pa_cons (pv 2) pa_nil))))))) (pss_cons (ps_if (pt_cmpR op_ne (pe_ix (kIxT (K := K) rfl) (pe_ok o__law_do hr (by decide) (by rfl) (pa_cons (pv 6) (pa_cons (pv 10) pa_nil))) pe_int (fun _ _ => rfl)) (pe_ix (kIxT (K := K) rfl) (pe_ok o__law_after hr (by decide) (by rfl) (pa_cons (pv 7) (pa_cons (pv 4) (pa_cons (pv 5) (pa_cons (pv 10) pa_nil))))) pe_int (fun _ _ => rfl)) (nomark _)) (pss_one (ps_ret pe_bl)) pss_nil) (pss_cons (ps_set (i := 7) sc_law.nd rfl (Or.inl rfl) (pe_ix (kIxT (K := K) rfl) (pe_ok o__law_after hr (by decide) (by rfl) (pa_cons (pv 7) (pa_cons (pv 4) (pa_cons (pv 5) (pa_cons (pv 10) pa_nil))))) pe_int (fun _ _ => rfl))) (pss_cons (ps_for PassesOwn.never rfl (kiTup (K := K) rfl (pe_okm0 om_due (pv 6) T.c_Source T.m_due hr (by decide) pass0)) (pg_name (i := 11) sc_law.nd rfl (Or.inl rfl)) (pss_one (ps_if (pt_cmpR (kNotInD (K := K) rfl (hu65 hr)) (pv 11) (pv 8) (by rfl)) (pss_one (ps_expr (pe_bm PySem.F.plainAttrs_list PySem.F.slot_list_append PySem.F.type_list_append mt_append (pv 8) (pa_cons (pv 11) pa_nil)))) pss_nil))) (pss_cons (ps_set (i := 12) sc_law.nd rfl (Or.inl rfl) (pe_ok o__law_others hr (by decide) (by rfl) (pa_cons (pv 3) (pa_cons (pv 4) (pa_cons (pe_okm0 om_log (pv 6) T.c_Source T.m_log hr (by decide) pass0) pa_nil))))) (pss_one (ps_if (PW.pt (pw_or (pt_cmpR op_notBl (pe_ok o_is_history hr (by decide) (by rfl) (pa_cons (pv 3) (pa_cons (pv 12) pa_nil))) pe_bl (nomark _)) (pw_or (pt_cmpR op_notBl (pe_ok o_agrees hr (by decide) (by rfl) (pa_cons (pv 12) (pa_cons (pv 8) pa_nil))) pe_bl (nomark _)) (pw_or1 (pt_not (pt_val (pe_ok o__law_all_true hr (by decide) (by rfl) (pa_cons (pv 8) (pa_cons (pv 12) pa_nil))))))))) (pss_one (ps_ret pe_bl)) pss_nil)))))))) (pss_cons (ps_set (i := 12) sc_law.nd rfl (Or.inl rfl) (pe_ok o__law_others hr (by decide) (by rfl) (pa_cons (pv 3) (pa_cons (pv 4) (pa_cons (pe_okm0 om_log (pv 6) T.c_Source T.m_log hr (by decide) pass0) pa_nil))))) (pss_cons (ps_setLc (i := 13) (own := [("_law_letter", 11)]) (by rfl) sc_law.nd rfl rfl (sw_true rfl rfl rfl (by decide +kernel)) (kiList (K := K) rfl (pv 8)) (blkOk_by (own := [("_law_letter", 11)]) (N := ["_law_script", "_law_draws_here", "_law_cell_here", "_law_plan_here", "_law_meter", "_law_offset_here", "_law_source", "_law_model", "_law_made", "_law_k", "_law_deed_here", "_law_letter", "_law_history", "_law_reads", "_law_slot"]) (sc := defScope s_law) (by decide +kernel)) (fun _ _ _ _ _ => (pg_name (i := 11) sc_law.nd rfl (Or.inl rfl))) (fun _ _ _ _ _ => (pts_one (pt_cmpR op_eq (pe_ix (kIxT (K := K) rfl) (pv 11) pe_int (fun _ _ => rfl)) pe_str (nomark _)))) (fun _ _ _ _ _ => (pv 11))) (pss_cons (ps_if (pt_cmpR (kNeD (K := K) rfl hr.units) (pe_callB (kSortP (K := K) rfl) (by rfl) T.f_sorted (by decide +kernel) (pa_cons (pe_lc (own := [("_law_letter", 11)]) (by rfl) sc_law.nd (kiList (K := K) rfl (pv 13)) (blkOk_by (own := [("_law_letter", 11)]) (N := ["_law_script", "_law_draws_here", "_law_cell_here", "_law_plan_here", "_law_meter", "_law_offset_here", "_law_source", "_law_model", "_law_made", "_law_k", "_law_deed_here", "_law_letter", "_law_history", "_law_reads", "_law_slot"]) (sc := defScope s_law) (by decide +kernel)) (fun _ _ _ _ _ => (pg_name (i := 11) sc_law.nd rfl (Or.inl rfl))) (fun _ _ _ _ _ => pts_nil) (fun _ _ _ _ _ => (pe_slice (kSlT (K := K) rfl) (pv 11) (po_some pe_int) (po_some pe_int)))) pa_nil)) (pe_callB (kSortP (K := K) rfl) (by rfl) T.f_sorted (by decide +kernel) (pa_cons (pe_lc (own := [("_law_letter", 11)]) (by rfl) sc_law.nd (kiTup (K := K) rfl (pe_ok o_reads_of hr (by decide) (by rfl) (pa_cons (pv 12) pa_nil))) (blkOk_by (own := [("_law_letter", 11)]) (N := ["_law_script", "_law_draws_here", "_law_cell_here", "_law_plan_here", "_law_meter", "_law_offset_here", "_law_source", "_law_model", "_law_made", "_law_k", "_law_deed_here", "_law_letter", "_law_history", "_law_reads", "_law_slot"]) (sc := defScope s_law) (by decide +kernel)) (fun _ _ _ _ _ => (pg_name (i := 11) sc_law.nd rfl (Or.inl rfl))) (fun _ _ _ _ _ => pts_nil) (fun _ _ _ _ _ => (pe_slice (kSlT (K := K) rfl) (pv 11) (po_some pe_int) (po_some pe_int)))) pa_nil)) (nomark _)) (pss_one (ps_ret pe_bl)) pss_nil) (pss_one (ps_ret (pe_and (pe_cmpR op_isBl (pe_ok o_is_possible hr (by decide) (by rfl) (pa_cons (pv 3) (pa_cons (pv 8) pa_nil))) pe_bl (nomark _)) (pe_one (pe_cmpR op_eq (pe_callB (kLen (K := K) rfl) (by rfl) T.f_len (by decide +kernel) (pa_cons (pv 13) pa_nil)) (pe_callB (kSum (K := K) rfl rfl) (by rfl) T.f_sum (by decide +kernel) (pa_cons (pe_lc (own := [("_law_slot", 14)]) (by rfl) sc_law.nd (kiTup (K := K) rfl (pe_ix (kIxT (K := K) rfl) (pv 7) pe_int (fun _ _ => rfl))) (blkOk_by (own := [("_law_slot", 14)]) (N := ["_law_script", "_law_draws_here", "_law_cell_here", "_law_plan_here", "_law_meter", "_law_offset_here", "_law_source", "_law_model", "_law_made", "_law_k", "_law_deed_here", "_law_letter", "_law_history", "_law_reads", "_law_slot"]) (sc := defScope s_law) (by decide +kernel)) (fun _ _ _ _ _ => (pg_name (i := 14) sc_law.nd rfl (Or.inl rfl))) (fun _ _ _ _ _ => pts_nil) (fun _ _ _ _ _ => (pe_callB (kLen (K := K) rfl) (by rfl) T.f_len (by decide +kernel) (pa_cons (pe_ix (kIxT (K := K) rfl) (pv 14) pe_int (fun _ _ => rfl)) pa_nil)))) pa_nil)) (nomark _))))))))))))))))))).nox, ?_⟩)
  obtain ⟨a, ns, rfl, few, hS, q⟩ := h
  clear F o__law_draws o__law_cell o__law_take o__law_plan o__law_offset o__law_deed o__law_do o__law_after o__law_others o__law_all_true o_is_history o_agrees o_reads_of o_is_possible om_due om_log FI bI
  refine ⟨_, rfl, a, ns, 250, rfl, by omega, by decide, by decide, hS, fun dr H1 s1 hd j1 => ?_⟩
  have keep : ∀ H', Lg [(dr, .rnd)] [(dr, .rnd)] H1 H' → SqL K H' a (ns.map V.int) := fun H' l => by
    have S1 : SqL K H1 a (ns.map V.int) := sq_keep (fun o e => s1 a o e) hS
    rcases hS with (h | ⟨o, h⟩) | h
    · exact sq_keep (fun o e => l.k a o (fun m => by rw [dm_one.mp m, hd] at h; cases h) e) S1
    · exact sq_keep (fun o e => l.k a o (fun m => by rw [dm_one.mp m, hd] at h; cases h) e) S1
    · exact .inr h
  refine ⟨_, rfl, _, rfl, a, dr, ns, rfl, by omega, sq_keep (fun o e => s1 a o e) hS, j1, keep, fun c H2 l2 => ?_⟩
  refine go_name ?_
  refine use_wm (Γ := [(dr, .rnd)]) (ρ := [none, some (.raw (.ref dr)), some (.dat (.int c)), none, none, none, none, none, none, none, none, none, none, none, none]) (P := { nx := fun _ _ => False, rt := fun _ e => e = .dat (.bool true) }) l2.j (((en_none _).set 1 (e := .raw (.ref dr)) rfl).set 2 (e := .dat (.int c)) (At.int c)) (fun _ _ _ _ _ _ k => k.elim) (fun v H' Γ' e l iv ke => by subst ke; obtain rfl := At.of_bl iv; exact q H') (fun _ _ _ _ _ _ k => k.elim) (fun _ _ _ _ _ _ k => k.elim) ?_
  clear q keep l2 j1 s1 hd hS
  -- the plan
  refine m_seq (m_asgP (w_calld ?_))
  walk_at "k28"
  refine ⟨c, dr, .head _, rfl, fun d sd => ?_⟩
  obtain ⟨p, ed, pl, pne⟩ := sd
  obtain rfl : d = p.d := by injection ed
  refine g_name ?_
  show Wm _ _ _ _
  -- the meter
  refine m_seq (m_asgP (w_ixT ?_))
  walk_at "k28"
  refine w_take ?_
  walk_at "k28"
  have pfew := pl.few
  refine ⟨.head _, by rw [List.length_map]; have := List.length_pos_iff.mpr pne; omega, fun r r0 r1 => ?_⟩
  obtain ⟨mi, rfl⟩ : ∃ mi : Nat, r = (mi : Int) := ⟨r.toNat, by omega⟩
  rw [List.length_map] at r1
  obtain ⟨m, hm⟩ : ∃ m, p.ms[mi]? = some m := ⟨p.ms[mi]'(by omega), List.getElem?_eq_getElem (by omega)⟩
  refine ⟨_, _, m.d, rfl, rfl, atI_of (j := mi) rfl (by rw [List.getElem?_map, hm]; rfl), ?_⟩
  refine g_name ?_
  show Wm _ _ _ _
  have mm := List.mem_of_getElem? hm
  obtain ⟨so, lohi, er⟩ := pl.ok m mm
  clear r0 r1 hm
  -- the offset
  refine m_seq (m_asgP (w_calld ?_))
  walk_at "k28"
  refine ⟨m, dr, .head _, ⟨rfl, er⟩, fun d sd => ?_⟩
  obtain ⟨off, ed, o1, o2⟩ := sd
  obtain rfl : d = .int off := by injection ed
  refine g_name ?_
  show Wm _ _ _ _
  -- the source
  refine m_seq (m_asg (x_make ?_))
  walk_at "k28"
  refine fun x dx => ⟨⟨p, m, off, x, [(dr, .rnd)]⟩, ⟨⟨dx, rfl⟩, rfl, by show p.ms.length ≤ 1000; omega, find_name pl.nd mm⟩, ?_, fun _ _ h => h⟩
  rintro Γ1 e ⟨h1, rfl⟩
  refine ⟨rfl, g_name ?_⟩
  obtain ⟨pa, qa, dxa, vsa, xsa, ysa, rfl⟩ := h1
  show Wm _ _ _ _
  -- the model, the letters made
  refine m_seq (m_asgP ?_)
  walk_at "k28"
  refine m_seq (m_asg (x_lst (a_nil ⟨_, rfl, by simp, fun mk xs => g_name ?_⟩)))
  show Wm _ _ _ _
  refine m_seq (m_forR (a_cons (w_take ?_)))
  walk_at "k28"
  refine ⟨.tail _ (.tail _ (.tail _ (.head _))), by decide, fun r r0 r1 => a_nil ⟨r, rfl, r0, by omega, fun i Γ' ρ' => Hid (LI K p m off c dr x mk i Γ' ρ'), hid ⟨⟨[], 0, none, []⟩, [], xs, _, _, _, _, _, _, good0 m off, ⟨pa, qa, dxa, vsa, xsa, ysa, rfl⟩, rfl⟩, ?_, ?_⟩⟩
  · clear pa qa dxa vsa xsa ysa xs
    intro i Γ' ρ' hi hI
    obtain ⟨z, us, xs, e9, e10, e11, e12, e13, e14, g, ⟨pa, qa, dxa, vsa, xsa, ysa, rfl⟩, rfl⟩ := hI.out
    have hk : i ≤ 14 := by omega
    clear hI
    refine g_name ?_
    show Wm _ _ _ _
    -- the deed
    refine m_seq (m_asgP (w_calld ?_))
    walk_at "k28"
    refine ⟨⟨m.name, z, m, off, c⟩, dr, .tail _ (.tail _ (.tail _ (.head _))), ⟨rfl, lohi, rfl⟩, fun d sd => ?_⟩
    obtain ⟨dd, ed⟩ := sd
    obtain rfl : d = dd.d m.name := by injection ed
    refine g_name ?_
    show Wm _ _ _ _
    -- the deed done
    refine m_seq (m_ifx (tx_test (x_neS (x_ixT (x_callo ?_)))))
    walk_at "k28"
    refine ⟨⟨⟨m, off, x, z, [(dr, .rnd), (mk, .l xs (us.map (Let.d m.name)))]⟩, dd⟩, ⟨⟨pa, qa, dxa, vsa, xsa, ysa, rfl⟩, rfl, so, g.sm (by omega)⟩, ?_, fun _ _ h => h⟩
    rintro Γ2 e ⟨h2, ans, rfl⟩
    refine w_int ⟨_, _, _, rfl, rfl, rfl, ?_⟩
    refine w_ixT (w_callgq ?_)
    walk_at "k28"
    refine ⟨⟨m, off, z, dd⟩, _, .cons (.same _) (.cons (.same _) (.cons (.same _) (.cons (.same _) .nil))), ⟨rfl, so, g.sm (by omega)⟩, ?_⟩
    rintro e ⟨ans2, rfl⟩
    refine ⟨trivial, ?_⟩
    refine w_int ⟨_, _, _, rfl, rfl, rfl, ?_⟩
    refine ⟨_, _, rfl, rfl, ?_⟩
    refine ⟨_, rfl, ?_⟩
    rw [if_neg (by simp)]
    refine m_next ?_
    show Wm _ _ _ _
    -- the model behind it
    refine m_seq (m_asgP (w_ixT (w_callgq ?_)))
    walk_at "k28"
    refine ⟨⟨m, off, z, dd⟩, _, .cons (.same _) (.cons (.same _) (.cons (.same _) (.cons (.same _) .nil))), ⟨rfl, so, g.sm (by omega)⟩, ?_⟩
    rintro e ⟨ans3, rfl⟩
    refine ⟨trivial, ?_⟩
    refine w_int ⟨_, _, _, rfl, rfl, rfl, g_name ?_⟩
    show Wm _ _ _ _
    have h2 : SrcIs K m off x (aft m off z dd).2 [(dr, .rnd), (mk, .l xs (us.map (Let.d m.name)))] Γ2 := h2
    have g2 := good_aft g dd
    generalize (aft m off z dd).2 = z' at h2 g2 ⊢
    obtain ⟨pa, qa, dxa, vsa, xsa, ysa, rfl⟩ := h2
    have gl := g.lus
    have gd := g2.ldue
    -- the due letters
    refine m_seq (m_forT (F := Let.d m.name) (w_methd (w_var rfl ⟨_, _, _, _, rfl, .head _, lk_none (by decide), a_nil ⟨⟨⟨m, off, x, z', _⟩, _⟩, ⟨⟨⟨pa, qa, dxa, vsa, xsa, ysa, rfl⟩, rfl⟩, rfl⟩, ?_, fun _ _ h => h⟩⟩)))
    rintro Γ3 e ⟨eG, rfl⟩
    refine ⟨eG, rfl, z'.due, rfl, fun j Γ' ρ' => Hid (LJ K p m off c dr x mk z' us j (fun xs' => (x, .o (He.ga K "Source") dxa vsa (srcF m off pa qa z'.cn z'.cs)) :: (pa, .l xsa (z'.ss.map slotD)) :: (qa, .l ysa (z'.due.map (Let.d m.name))) :: (dr, .rnd) :: (mk, .l xs' ((addAll us (z'.due.take j)).map (Let.d m.name))) :: []) Γ' ρ'), hid ⟨xs, _, _, _, _, _, _, rfl, rfl⟩, ?_, ?_⟩
    · intro j l Γ' ρ' hj hI
      obtain ⟨xs', f9, f10, f11, f12, f13, f14, rfl, rfl⟩ := hI.out
      clear hI
      refine g_name ?_
      refine m_if (t_test (w_notInO ?_))
      walk_at "k28"
      refine ⟨_, _, _, rfl, rfl, .of (.tail _ (.tail _ (.tail _ (.tail _ (.head _))))), shaped_let so l, (shaped_lets so _).2, ?_⟩
      rw [any_let]
      by_cases cl : l ∈ addAll us (z'.due.take j)
      · rw [decide_eq_true cl]
        refine ⟨_, rfl, ?_⟩
        rw [if_neg (by simp)]
        refine m_next (hid ⟨xs', _, _, _, _, _, _, ?_, rfl⟩)
        rw [addAll_take hj, addDue_in cl]
      · rw [decide_eq_false cl]
        refine ⟨_, rfl, ?_⟩
        rw [if_pos (by simp)]
        refine m_drop (x_append 4 (w_var rfl ⟨_, _, _, rfl, rfl, a_cons (w_var rfl (a_nil ⟨_, rfl, ?_, fun xs2 => hid ⟨xs2, _, _, _, _, _, _, ?_, rfl⟩⟩))⟩))
        · rw [List.length_map]
          have q1 := addAll_len us (z'.due.take j)
          have q2 : (z'.due.take j).length ≤ z'.due.length := by rw [List.length_take]; omega
          omega
        · rw [addAll_take hj, addDue_out cl, List.map_append]
          rfl
    · intro Γ' ρ' hI
      obtain ⟨xs', f9, f10, f11, f12, f13, f14, rfl, rfl⟩ := hI.out
      clear hI
      rw [List.take_length]
      generalize addAll us z'.due = us' at g2 ⊢
      have gl2 := g2.lus
      have gs2 := g2.lss
      show Wm _ _ _ _
      -- the history
      refine m_seq (m_asgP (w_callg1 (a_cons (w_var rfl (a_cons (w_var rfl (a_cons (w_methd (w_var rfl ⟨_, _, _, _, rfl, .head _, lk_none (by decide), a_nil ⟨⟨⟨m, off, x, z', _⟩, _⟩, ⟨⟨⟨pa, qa, dxa, vsa, xsa, ysa, rfl⟩, rfl⟩, rfl⟩, ?_, fun _ _ h => h⟩⟩)))))))))
      rintro Γ3 e ⟨eG, rfl⟩
      refine ⟨eG, rfl, a_nil ⟨_, ⟨p, m, off, z'.ss, rfl, by omega, rfl⟩, trivial, g_name ?_⟩⟩
      show Wm _ _ _ _
      have hl : (histOf p m off z'.ss).length ≤ 1000 := by rw [hist_len]; omega
      refine m_if (t_or (t_test (w_notB (w_callg1 (a_cons (w_var rfl (a_cons (w_var rfl (a_nil ⟨_, ⟨p, histOf p m off z'.ss, rfl, pl, hist_names p m off z'.ss, hist_at pl mm ⟨o1, o2⟩ (g2.ok (by omega)), rfl⟩, trivial, ?_⟩)))))))))
      refine w_bl ⟨_, _, rfl, rfl, _, rfl, ?_⟩
      rw [if_neg (by simp)]
      refine t_or (t_test (w_notB (w_callgp (a_cons (w_var rfl (a_cons (w_var rfl (a_nil ⟨_, [.dat (.tuple ((histOf p m off z'.ss).map Log.d)), .lst (us'.map (Let.d m.name))], .cons (.same _) (.cons (.l (xs := xs') (.tail _ (.tail _ (.tail _ (.tail _ (.head _)))))) .nil), ⟨m.name, us', histOf p m off z'.ss, ⟨m.name, off, z'.ss⟩, rfl, by omega, hl, hist_find pl mm off z'.ss, by show z'.ss.length ≤ 1000; omega, g2.tr, rfl⟩, trivial, ?_⟩))))))))
      refine w_bl ⟨_, _, rfl, rfl, _, rfl, ?_⟩
      rw [if_neg (by simp)]
      refine t_not (t_B (w_callgp (a_cons (w_var rfl (a_cons (w_var rfl (a_nil ⟨_, [.lst (us'.map (Let.d m.name)), .dat (.tuple ((histOf p m off z'.ss).map Log.d))], .cons (.l (xs := xs') (.tail _ (.tail _ (.tail _ (.tail _ (.head _)))))) (.cons (.same _) .nil), ⟨m.name, us', histOf p m off z'.ss, ⟨m.name, off, z'.ss⟩, rfl, by omega, hl, hist_find pl mm off z'.ss, by show z'.ss.length ≤ 1000; omega, g2.tr, rfl⟩, trivial, ?_⟩)))))))
      refine ⟨_, rfl, ?_⟩
      rw [if_neg (by simp)]
      exact m_next (hid ⟨z', us', xs', _, _, _, _, _, _, g2, ⟨pa, qa, dxa, vsa, xsa, ysa, rfl⟩, rfl⟩)
  · clear pa qa dxa vsa xsa ysa xs
    intro Γ' ρ' hI
    obtain ⟨z, us, xs, e9, e10, e11, e12, e13, e14, g, ⟨pa, qa, dxa, vsa, xsa, ysa, rfl⟩, rfl⟩ := hI.out
    have hk : r.toNat ≤ 14 := by omega
    clear hI
    have gl := g.lus
    have gs := g.lss
    have gv := g.lvs
    show Wm _ _ _ _
    refine m_seq (m_asgP (w_callg1 (a_cons (w_var rfl (a_cons (w_var rfl (a_cons (w_methd (w_var rfl ⟨_, _, _, _, rfl, .head _, lk_none (by decide), a_nil ⟨⟨⟨m, off, x, z, _⟩, _⟩, ⟨⟨⟨pa, qa, dxa, vsa, xsa, ysa, rfl⟩, rfl⟩, rfl⟩, ?_, fun _ _ h => h⟩⟩)))))))))
    rintro Γ3 e ⟨eG, rfl⟩
    refine ⟨eG, rfl, a_nil ⟨_, ⟨p, m, off, z.ss, rfl, by omega, rfl⟩, trivial, g_name ?_⟩⟩
    show Wm _ _ _ _
    -- the read letters
    refine m_seq (m_asgP (w_lcO (F := Let.d m.name) (w_var rfl ⟨mk, us, rfl, .of (.tail _ (.tail _ (.tail _ (.tail _ (.head _))))), by omega, isRd, Let.d m.name, fun l _ => ?_, fun l _ _ => w_var rfl rfl, g_name ?_⟩)))
    · cases l with
      | read s v st y => walk_at "k28"
      | close n st vs => walk_at "k28"
      | clock lo hi => walk_at "k28"
    show Wm _ _ _ _
    have fl : (us.filter isRd).length ≤ us.length := List.length_filter_le _ _
    have el : (us.filter isRd).length = (z.ss.map fun s => s.2.length).sum := by
      rw [reads_len, g.rds.length_eq, allQ_len]
    -- sorted
    refine m_seq (m_if (t_test (w_neD (w_sortP (a_cons (w_lcL0 (F := Let.d m.name) (w_var rfl ⟨us.filter isRd, rfl, by omega, fun l => pairD (rdq l), fun l hl => ?_, a_nil ⟨(us.filter isRd).map rdq, by rw [List.map_map]; rfl, fun ys py sy => ?_⟩⟩)))))))
    · exact pair_of (w_var rfl rfl) ((List.mem_filter.mp hl).2)
    refine w_sortP (a_cons (w_lcT0 (F := Let.d m.name) (w_callgq (a_cons (w_var rfl (a_nil ⟨histOf p m off z.ss, _, .cons (.same _) .nil, ⟨rfl, by rw [hist_len]; exact pfew, hist_small (k := 60) (by omega) fun s hs => by have := gv s hs; omega⟩, ?_⟩))))))
    rintro e rfl
    refine ⟨trivial, letsQ 0 z.ss, by rw [rds_hist pl mm], by rw [letsQ_len, ← el]; omega, fun l => pairD (rdq l), fun l hl => ?_, a_nil ⟨(letsQ 0 z.ss).map rdq, by rw [List.map_map]; rfl, fun ys' py' sy' => ?_⟩⟩
    · exact pair_of (w_var rfl rfl) (letsQ_isRd 0 z.ss l hl)
    have pp : ((us.filter isRd).map rdq).Perm ((letsQ 0 z.ss).map rdq) := by
      rw [reads_rdq, letsQ_rd]
      exact g.rds.map castP
    obtain rfl : ys = ys' := sorted_uniq (py.trans (pp.trans py'.symm)) sy sy'
    refine ⟨.list (ys.map pairD), .list (ys.map pairD), ⟨.inr ⟨_, rfl, rfl⟩, .inr ⟨_, rfl, rfl⟩⟩, shaped_pairs _, shaped_pairs _, ?_⟩
    rw [eqv_pairsL]
    refine ⟨_, rfl, ?_⟩
    rw [if_neg (by simp)]
    refine m_next ?_
    show Wm _ _ _ _
    -- the bag is possible
    refine m_retP (w_andV (w_isB (w_callgq (a_cons (w_var rfl (a_cons (w_var rfl (a_nil ⟨⟨p, m, us, off, z.ss⟩, [.dat p.d, .lst (us.map (Let.d m.name))], .cons (.same _) (.cons (.l (xs := xs) (.tail _ (.tail _ (.tail _ (.tail _ (.head _)))))) .nil), ⟨rfl, ⟨pl, mm, ⟨o1, o2⟩, by show us.length ≤ 60; omega, g.ok (by omega), g.tr⟩⟩, ?_⟩))))))))
    rintro e rfl
    refine ⟨trivial, w_bl ⟨_, _, rfl, rfl, _, rfl, ?_⟩⟩
    rw [if_pos (by simp)]
    refine w_eq (w_len (a_cons (w_var rfl (a_nil ⟨_, .inr rfl, ?_⟩))))
    refine w_sumM (a_cons (w_lcT0 (F := slotD) (w_ixT ?_)))
    walk_at "k28"
    refine ⟨by omega, fun s => .int s.2.length, fun s _ => ?_, a_nil ⟨_, z.ss, fun s => (s.2.length : Int), rfl, ?_⟩⟩
    · walk_at "k28"
      rw [List.length_map]
    refine ⟨_, _, _, _, rfl, rfl, rfl, rfl, rfl, ?_⟩
    show En1.dat _ = En1.dat _
    rw [List.length_map, el, sum_cast]
    simp
end
end TW
/-! K28End -/
namespace TW
open PySem PySem.Spec PyProof.Rows L2
theorem txt_of {w : World} {h : Heap} {K : PySem.W.Frag} {mg : Str → Option Value} (X : K.In h) (G : h.Ns mainGlobals mg) (c : He.SaysX fa fn [] [] exB w h K) : Txt K mg :=
  ⟨c.t.d, fun x e => He.glo_ok X G e, fun x e => He.free_ok X G e, c.more⟩
end TW
open PySem PySem.W PySem.Calls PyProof.Rows
theorem PySem.Challenge.cw_toldwhensure_k28_whole_letters_stay_true_holds : PySem.Challenge.rw_toldwhensure_k28_whole_letters_stay_true.Holds := by
  w_on; o_law
  refine HandSHeadRun.head_any (r := TW.R) (q := view TW.R.prog [63]) (H := TW.hk) (ob := TW.ob) (M := 6000) (loose := TW.loose) (d := HandSHeadRun.topDef TW.R.prog 63) (kwd := []) TW.ob_eq
    (by kernel_rfl) (fun s => by kernel_rfl) TW.run (by kernel_rfl) (by kernel_rfl) (by kernel_rfl) (by rfl) (by first | assumption | decide +kernel) (by decide +kernel) ⟨rfl, rfl, rfl, rfl, rfl, by decide +kernel⟩ ?hw ?hc
  case hw => w_witness2
  case hc =>
    refine L2.walk_ofE (l := PySem.Challenge.rw_toldwhensure_k28_whole_letters_stay_true) (n := 63) (k := 5) (x := "_law_script") (CX := L2.CX0) rfl (by decide) (by kernel_rfl) ⟨rfl, by decide, by decide⟩ ?F (fun _ _ _ _ z => z)
    intro w mg fa h Y G hmg0
    obtain ⟨K, KX, c⟩ := Y
    have hmg : mg ("law" : PySem.Str) = some (.ref fa) := by
      have e : (HandSHeadRun.topDef TW.R.prog 63).name = ("law" : PySem.Str) := by kernel_rfl
      rw [← e]
      exact hmg0
    have T := TW.txt_of KX G c
    have e := hmg.symm.trans T.g_law
    cases e
    obtain ⟨fd, F⟩ := T.F_law
    have b := L2.FunD.bindsA (ps := ["_law_script"]) F fun _ _ _ _ _ _ us hl => match us, hl with | [_], _ => rfl
    exact ⟨K, fd, TW.splaw K, KX, fun s u => b s [u] rfl, fun H a ns hl _ hS => ⟨a, ns, rfl, hl, hS, fun _ => rfl⟩, fun base _ _ => TW.ok_law T F⟩
