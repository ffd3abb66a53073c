import PyProof.Rows.All
import Wide.All
import OpenK.AllK
import Wide.FinOn
import KE.KStateDown
import KE.KTryMore
import KE.KRevSl
import KE.KDictKeyed
import KE.KeyNested
import KE.KDictDisplayH
import KE.KDictSum
import KE.SortData
import HandS.ForMost
import HandS.Exc
import HandS.TryOnly
import HandS.WordsExc
import HandS.ExcInit
import HandS.Codes
import HandS.Conv
import HandS.Defaults
import HandS.MakeKwOnly
import HandS.Property
import HandS.More
import HandS.Wide
import HandS.Walk
import HandS.Zip
import HandS.Strs
import HandS.TupSets
import HandS.IsInst
import HandS.SetFor
import HandS.Head0
import HandS.Head1
import HandS.Head2
import HandS.HeadEnd
import HandS.HeadHook1
import HandS.HeadHook2
import HandS.HeadNt
import PySem.Challenge.RW_surepresses_k73_whole_rows_by_turns
set_option Elab.async false
set_option linter.all false
set_option maxRecDepth 100000
set_option maxHeartbeats 4000000
/-! ### T0: the text by its places -/
namespace S3
open PySem PySem.Spec PyProof.Rows L2
def top (i : Nat) : Stmt := PySem.Challenge.pw_surepresses_k73_whole_rows_by_turns.main.body.getD i (.Pass ⟨0, 0, 0, 0⟩)
end S3

set_option maxHeartbeats 0
/-! ### H1: what the top leaves, looked at by names -/
namespace S3
open PySem PySem.Spec PyProof.Rows L2
def fn0 : List He5.DefA := [⟨fun K => He.ga K "chosen_lamps", "chosen_lamps", "chosen_lamps", defArgs (top 13), defBody (top 13), defScope (top 13), [], []⟩, ⟨fun K => He.ga K "chosen_buttons", "chosen_buttons", "chosen_buttons", defArgs (top 14), defBody (top 14), defScope (top 14), [], []⟩, ⟨fun K => He.ga K "steps_of", "steps_of", "steps_of", defArgs (top 15), defBody (top 15), defScope (top 15), [], []⟩, ⟨fun K => He.ga K "is_belief", "is_belief", "is_belief", defArgs (top 16), defBody (top 16), defScope (top 16), [], []⟩, ⟨fun K => He.ga K "is_goal", "is_goal", "is_goal", defArgs (top 20), defBody (top 20), defScope (top 20), [], []⟩, ⟨fun K => He.ga K "check_goal", "check_goal", "check_goal", defArgs (top 21), defBody (top 21), defScope (top 21), [], []⟩, ⟨fun K => He.ga K "goal_met", "goal_met", "goal_met", defArgs (top 22), defBody (top 22), defScope (top 22), [], []⟩, ⟨fun K => He.ga K "is_safe_at", "is_safe_at", "is_safe_at", defArgs (top 25), defBody (top 25), defScope (top 25), [], []⟩, ⟨fun K => He.ga K "pressed", "pressed", "pressed", defArgs (top 26), defBody (top 26), defScope (top 26), [], []⟩, ⟨fun K => He.ga K "spread", "spread", "spread", defArgs (top 27), defBody (top 27), defScope (top 27), [], []⟩]
def fn1 : List He5.DefA := [⟨fun K => He.ga K "spread_meets", "spread_meets", "spread_meets", defArgs (top 28), defBody (top 28), defScope (top 28), [], []⟩, ⟨fun K => He.ga K "is_right_row", "is_right_row", "is_right_row", defArgs (top 29), defBody (top 29), defScope (top 29), [], []⟩, ⟨fun K => He.ga K "spread_key", "spread_key", "spread_key", defArgs (top 30), defBody (top 30), defScope (top 30), [], []⟩, ⟨fun K => He.ga K "first_rows", "first_rows", "first_rows", defArgs (top 31), defBody (top 31), defScope (top 31), [], []⟩, ⟨fun K => He.ga K "least_row", "least_row", "least_row", defArgs (top 32), defBody (top 32), defScope (top 32), [], []⟩, ⟨fun K => He.ga K "closed_rows", "closed_rows", "closed_rows", defArgs (top 33), defBody (top 33), defScope (top 33), [], []⟩, ⟨fun K => He.ga K "is_spread", "is_spread", "is_spread", defArgs (top 34), defBody (top 34), defScope (top 34), [], []⟩, ⟨fun K => He.ga K "row_stays_in", "row_stays_in", "row_stays_in", defArgs (top 35), defBody (top 35), defScope (top 35), [], []⟩, ⟨fun K => He.ga K "judge_rows", "judge_rows", "judge_rows", defArgs (top 36), defBody (top 36), defScope (top 36), [], []⟩, ⟨fun K => He.ga K "is_name", "is_name", "is_name", defArgs (top 39), defBody (top 39), defScope (top 39), [], []⟩]
def fn2 : List He5.DefA := [⟨fun K => He.ga K "check_names", "check_names", "check_names", defArgs (top 40), defBody (top 40), defScope (top 40), [], []⟩, ⟨fun K => He.ga K "checked_steps", "checked_steps", "checked_steps", defArgs (top 41), defBody (top 41), defScope (top 41), [], []⟩, ⟨fun K => He.ga K "shown_steps", "shown_steps", "shown_steps", defArgs (top 42), defBody (top 42), defScope (top 42), [], []⟩, ⟨fun K => He.ga K "_law_source", "_law_source", "_law_source", defArgs (top 45), defBody (top 45), defScope (top 45), [], []⟩, ⟨fun K => He.ga K "_law_draw", "_law_draw", "_law_draw", defArgs (top 46), defBody (top 46), defScope (top 46), [], []⟩, ⟨fun K => He.ga K "_law_word", "_law_word", "_law_word", defArgs (top 47), defBody (top 47), defScope (top 47), [], []⟩, ⟨fun K => He.ga K "_law_names", "_law_names", "_law_names", defArgs (top 48), defBody (top 48), defScope (top 48), [], []⟩, ⟨fun K => He.ga K "_law_step_to", "_law_step_to", "_law_step_to", defArgs (top 49), defBody (top 49), defScope (top 49), [], []⟩, ⟨fun K => He.ga K "_law_some", "_law_some", "_law_some", defArgs (top 50), defBody (top 50), defScope (top 50), [], []⟩, ⟨fun K => He.ga K "_law_bits", "_law_bits", "_law_bits", defArgs (top 51), defBody (top 51), defScope (top 51), [], []⟩]
def fn3 : List He5.DefA := [⟨fun K => He.ga K "_law_steps", "_law_steps", "_law_steps", defArgs (top 52), defBody (top 52), defScope (top 52), [], []⟩, ⟨fun K => He.ga K "_law_model", "_law_model", "_law_model", defArgs (top 53), defBody (top 53), defScope (top 53), [], []⟩, ⟨fun K => He.ga K "_law_device", "_law_device", "_law_device", defArgs (top 54), defBody (top 54), defScope (top 54), [], []⟩, ⟨fun K => He.ga K "_law_task", "_law_task", "_law_task", defArgs (top 55), defBody (top 55), defScope (top 55), [], []⟩, ⟨fun K => He.ga K "_law_case", "_law_case", "_law_case", defArgs (top 56), defBody (top 56), defScope (top 56), [], []⟩, ⟨fun K => He.ga K "_law_goal", "_law_goal", "_law_goal", defArgs (top 57), defBody (top 57), defScope (top 57), [], []⟩, ⟨fun K => He.ga K "_law_handed", "_law_handed", "_law_handed", defArgs (top 58), defBody (top 58), defScope (top 58), [], []⟩, ⟨fun K => He.ga K "_law_press", "_law_press", "_law_press", defArgs (top 59), defBody (top 59), defScope (top 59), [], []⟩, ⟨fun K => He.ga K "_law_meets", "_law_meets", "_law_meets", defArgs (top 60), defBody (top 60), defScope (top 60), [], []⟩, ⟨fun K => He.ga K "_law_after", "_law_after", "_law_after", defArgs (top 61), defBody (top 61), defScope (top 61), [], []⟩]
def fn4 : List He5.DefA := [⟨fun K => He.ga K "_law_frozen", "_law_frozen", "_law_frozen", defArgs (top 62), defBody (top 62), defScope (top 62), [], []⟩, ⟨fun K => He.ga K "_law_spread_meets", "_law_spread_meets", "_law_spread_meets", defArgs (top 63), defBody (top 63), defScope (top 63), [], []⟩, ⟨fun K => He.ga K "_law_rows", "_law_rows", "_law_rows", defArgs (top 64), defBody (top 64), defScope (top 64), [.non], []⟩, ⟨fun K => He.ga K "_law_is_spread", "_law_is_spread", "_law_is_spread", defArgs (top 65), defBody (top 65), defScope (top 65), [], []⟩, ⟨fun K => He.ga K "_law_closed_rows", "_law_closed_rows", "_law_closed_rows", defArgs (top 66), defBody (top 66), defScope (top 66), [], []⟩, ⟨fun K => He.ga K "_law_apart", "_law_apart", "_law_apart", defArgs (top 67), defBody (top 67), defScope (top 67), [], []⟩, ⟨fun K => He.ga K "_law_other", "_law_other", "_law_other", defArgs (top 68), defBody (top 68), defScope (top 68), [], []⟩, ⟨fun K => He.ga K "_law_cases", "_law_cases", "_law_cases", defArgs (top 69), defBody (top 69), defScope (top 69), [], []⟩, ⟨fun K => He.ga K "_law_models", "_law_models", "_law_models", defArgs (top 70), defBody (top 70), defScope (top 70), [], []⟩, ⟨fun K => He.ga K "_law_spread_of", "_law_spread_of", "_law_spread_of", defArgs (top 71), defBody (top 71), defScope (top 71), [], []⟩]
def fn5 : List He5.DefA := [⟨fun K => He.ga K "_law_marked", "_law_marked", "_law_marked", defArgs (top 72), defBody (top 72), defScope (top 72), [], []⟩, ⟨fun K => He.ga K "_law_asked", "_law_asked", "_law_asked", defArgs (top 73), defBody (top 73), defScope (top 73), [], []⟩, ⟨fun K => He.ga K "law", "law", "law", defArgs (top 74), defBody (top 74), defScope (top 74), [], []⟩, ⟨fun K => He.ma K (He.ga K "Case") "__init__", "__init__", "Case.__init__", defArgs (inClass (top 23) 0), defBody (inClass (top 23) 0), defScope (inClass (top 23) 0), [], [("lamps", .non), ("buttons", .non)]⟩, ⟨fun K => He5.wf K (He.ga K "Case") "property" "device", "device", "Case.device", defArgs (inClass (top 23) 1), defBody (inClass (top 23) 1), defScope (inClass (top 23) 1), [], []⟩, ⟨fun K => He5.wf K (He.ga K "Case") "property" "states", "states", "Case.states", defArgs (inClass (top 23) 2), defBody (inClass (top 23) 2), defScope (inClass (top 23) 2), [], []⟩, ⟨fun K => He5.wf K (He.ga K "Case") "property" "lamps", "lamps", "Case.lamps", defArgs (inClass (top 23) 3), defBody (inClass (top 23) 3), defScope (inClass (top 23) 3), [], []⟩, ⟨fun K => He5.wf K (He.ga K "Case") "property" "buttons", "buttons", "Case.buttons", defArgs (inClass (top 23) 4), defBody (inClass (top 23) 4), defScope (inClass (top 23) 4), [], []⟩, ⟨fun K => He5.wf K (He.ga K "Case") "property" "start", "start", "Case.start", defArgs (inClass (top 23) 5), defBody (inClass (top 23) 5), defScope (inClass (top 23) 5), [], []⟩, ⟨fun K => He.ma K (He.ga K "Case") "is_harmless", "is_harmless", "Case.is_harmless", defArgs (inClass (top 23) 6), defBody (inClass (top 23) 6), defScope (inClass (top 23) 6), [], []⟩]
def fn6 : List He5.DefA := [⟨fun K => He.ma K (He.ga K "Case") "parts_after", "parts_after", "Case.parts_after", defArgs (inClass (top 23) 7), defBody (inClass (top 23) 7), defScope (inClass (top 23) 7), [], []⟩, ⟨fun K => He.ma K (He.ga K "Case") "with_lamps", "with_lamps", "Case.with_lamps", defArgs (inClass (top 23) 11), defBody (inClass (top 23) 11), defScope (inClass (top 23) 11), [], []⟩, ⟨fun K => He.ma K (He.ga K "Case") "with_buttons", "with_buttons", "Case.with_buttons", defArgs (inClass (top 23) 12), defBody (inClass (top 23) 12), defScope (inClass (top 23) 12), [], []⟩, ⟨fun K => He.ma K (He.ga K "Device") "__init__", "__init__", "Device.__init__", defArgs (inClass (top 43) 0), defBody (inClass (top 43) 0), defScope (inClass (top 43) 0), [], []⟩, ⟨fun K => He.ma K (He.ga K "Device") "__len__", "__len__", "Device.__len__", defArgs (inClass (top 43) 1), defBody (inClass (top 43) 1), defScope (inClass (top 43) 1), [], []⟩, ⟨fun K => He5.wf K (He.ga K "Device") "property" "buttons", "buttons", "Device.buttons", defArgs (inClass (top 43) 3), defBody (inClass (top 43) 3), defScope (inClass (top 43) 3), [], []⟩, ⟨fun K => He5.wf K (He.ga K "Device") "property" "lamps", "lamps", "Device.lamps", defArgs (inClass (top 43) 4), defBody (inClass (top 43) 4), defScope (inClass (top 43) 4), [], []⟩, ⟨fun K => He5.wf K (He.ga K "Device") "property" "states", "states", "Device.states", defArgs (inClass (top 43) 5), defBody (inClass (top 43) 5), defScope (inClass (top 43) 5), [], []⟩, ⟨fun K => He.ma K (He.ga K "UnknownButton") "__init__", "__init__", "PressError.__init__", defArgs (inClass (top 2) 0), defBody (inClass (top 2) 0), defScope (inClass (top 2) 0), [], []⟩, ⟨fun K => He.ma K (He.ga K "Harmful") "__init__", "__init__", "PressError.__init__", defArgs (inClass (top 2) 0), defBody (inClass (top 2) 0), defScope (inClass (top 2) 0), [], []⟩]
def fn : List He5.DefA := fn0 ++ fn1 ++ fn2 ++ fn3 ++ fn4 ++ fn5 ++ fn6
def fa0 : List He.Fa := [.glo "chosen_lamps", .glo "chosen_buttons", .glo "steps_of", .glo "is_belief", .glo "is_goal", .glo "check_goal", .glo "goal_met", .glo "is_safe_at", .glo "pressed", .glo "spread", .glo "spread_meets", .glo "is_right_row", .glo "spread_key", .glo "first_rows", .glo "least_row", .glo "closed_rows", .glo "is_spread", .glo "row_stays_in"]
def fa1 : List He.Fa := [.glo "judge_rows", .glo "is_name", .glo "check_names", .glo "checked_steps", .glo "shown_steps", .glo "_law_source", .glo "_law_draw", .glo "_law_word", .glo "_law_names", .glo "_law_step_to", .glo "_law_some", .glo "_law_bits", .glo "_law_steps", .glo "_law_model", .glo "_law_device", .glo "_law_task", .glo "_law_case", .glo "_law_goal"]
def fa2 : List He.Fa := [.glo "_law_handed", .glo "_law_press", .glo "_law_meets", .glo "_law_after", .glo "_law_frozen", .glo "_law_spread_meets", .glo "_law_rows", .glo "_law_is_spread", .glo "_law_closed_rows", .glo "_law_apart", .glo "_law_other", .glo "_law_cases", .glo "_law_models", .glo "_law_spread_of", .glo "_law_marked", .glo "_law_asked", .glo "law", .glo "Case"]
def fa3 : List He.Fa := [.glo "Device", .glo "UnknownButton", .glo "Harmful", .free "len", .free "all", .free "sorted", .free "list", .free "tuple", .free "int", .free "range", .free "zip", .free "enumerate", .free "min", .free "isinstance", .free "set", .cls "Case", .mkr "Case", .cls "Device"]
def fa4 : List He.Fa := [.mkr "Device", .noat "Case" "whole", .noat "Case" "possible", .noat "Case" "watched", .noat "Case" "usable", .noat "Case" "table", .noat "Device" "button_names", .noat "Device" "lamp_names", .noat "Device" "steps", .meth "Case" "is_harmless", .meth "Case" "parts_after", .meth "Case" "with_lamps", .meth "Case" "with_buttons", .meth "Device" "__len__", .noat "UnknownButton" "value", .noat "Harmful" "value", .str "LETTERS" "abcdefghijklmnopqrstuvwxyz"]
def fa : List He.Fa := fa0 ++ fa1 ++ fa2 ++ fa3 ++ fa4
def names0 : List Str := ["_wall", "__name__", "PressError", "InvalidName", "DoubleName", "UnknownButton", "UnknownLamp", "InvalidStep", "InvalidState", "InvalidBelief", "InvalidGoal", "Harmful", "chosen_lamps", "chosen_buttons", "steps_of", "is_belief", "check_belief", "copied"]
def names1 : List Str := ["copied_goal", "is_goal", "check_goal", "goal_met", "Case", "is_safe_at", "pressed", "spread", "spread_meets", "is_right_row", "spread_key", "first_rows", "least_row", "closed_rows", "is_spread", "row_stays_in", "judge_rows", "LETTERS"]
def names2 : List Str := ["is_name", "check_names", "checked_steps", "shown_steps", "Device", "_law_source", "_law_draw", "_law_word", "_law_names", "_law_step_to", "_law_some", "_law_bits", "_law_steps", "_law_model", "_law_device", "_law_task", "_law_case", "_law_goal"]
def names3 : List Str := ["_law_handed", "_law_press", "_law_meets", "_law_after", "_law_frozen", "_law_spread_meets", "_law_rows", "_law_is_spread", "_law_closed_rows", "_law_apart", "_law_other", "_law_cases", "_law_models", "_law_spread_of", "_law_marked", "_law_asked"]
def names : List Str := names0 ++ names1 ++ names2 ++ names3
def prps : List (Str × Str) := [("Case", "device"), ("Case", "states"), ("Case", "lamps"), ("Case", "buttons"), ("Case", "start"), ("Device", "buttons"), ("Device", "lamps"), ("Device", "states")]
/-- an own error class with an own __init__ -/
def oexB (K : PySem.W.Frag) (C : Addr) : Bool := match K.lookup C with
  | some ⟨.type "type", _, .cls cd, sl⟩ => (match cd.mro, sl.toList with
    | .ref C' :: bm, [_, _, _, _, some (.builtin n), _] => C' == C && n == "ValueError.__new__" && !cd.hasDel && cd.hasDict && PySem.HandSPX.refsVE bm
    | _, _ => false)
  | _ => false
def excB (K : PySem.W.Frag) (x : Str) : Bool := oexB K (He.ga K x) && (He.eqO (PySem.W.findIn K (.ref (He.ga K x)) "__setattr__") (some (some (.builtin "object.__setattr__"))) && (decide (PySem.W.subIn K (.ref (He.ga K x)) (.type "BaseException") = some true) && (decide (PySem.W.typeIn K (.ref (He.ga K x)) = some (.type "type")) &&
  (PySem.W.keepIn K (.ref (He.ga K x)) && (He.eqO (PySem.W.findIn K (.ref (He.ga K x)) "__init__") (some (some (.ref (He.ma K (He.ga K x) "__init__")))) && decide (PySem.W.typeIn K (.ref (He.ma K (He.ga K x) "__init__")) = some (.type "function")))))))
def prB (K : PySem.W.Frag) (p : Str × Str) : Bool := He.eqO (PySem.W.findIn K (.ref (He.ga K p.1)) p.2) (some (some (.ref (He.ma K (He.ga K p.1) p.2)))) && (He.eqO (PySem.W.specialIn K (.ref (He.ma K (He.ga K p.1) p.2)) "__get__") (some (some (.builtin "property.__get__"))) && (decide (PySem.W.takesIn K (.ref (He.ma K (He.ga K p.1) p.2)) = some true) &&
  (match PySem.W.recIn K (He.ma K (He.ga K p.1) p.2) "property" with
    | some (.ref _ :: _) => true
    | _ => false)))
def exB (K : PySem.W.Frag) : Bool := excB K "UnknownButton" && (excB K "Harmful" && (decide (PySem.W.exmAny K (.ref (He.ga K "UnknownButton")) [.ref (He.ga K "UnknownButton"), .ref (He.ga K "Harmful")] = some true) && (decide (PySem.W.exmAny K (.ref (He.ga K "Harmful")) [.ref (He.ga K "UnknownButton"), .ref (He.ga K "Harmful")] = some true) && prps.all fun p => prB K p)))
def obsB (K : PySem.W.Frag) : He.AlD := ((fa.all fun f => f.ok K) && (exB K && fn.all fun d => d.ok K), fn.map fun d => He5.fnA K (d.at_ K))
def valB : He.AlD := (true, fn.map He5.DefA.val)
def SaysB (K : PySem.W.Frag) : Prop := obsB K = valB
/-- the objects that are looked at: the module's values, the classes' tables and what stands in them, getters, code, defaults -/
def oVals (g : Addr → Option Obj) (a : Addr) : List Addr := match g a with
  | some ⟨_, _, .dict es _, _⟩ => es.toList.flatMap fun e => He.refV e.val
  | _ => []
def oTab (g : Addr → Option Obj) (a : Addr) : List Addr := match g a with
  | some ⟨_, _, .cls cd, _⟩ => [cd.ns]
  | _ => []
def oGet (g : Addr → Option Obj) (a : Addr) : List Addr := match g a with
  | some ⟨_, _, .fields vs, _⟩ => He.refV (vs.getD 0 .none)
  | _ => []
def oFn (g : Addr → Option Obj) (a : Addr) : List Addr := match g a with
  | some ⟨_, _, .func fd, _⟩ => He.refV fd.code ++ (He.refV fd.defaults ++ He.refV fd.kwdefaults)
  | _ => []
def asX (g : Addr → Option Obj) : List Addr :=
  (fun l1 => (fun l2 => (fun l3 => (fun l4 => mainGlobals :: (l4 ++ (l2 ++ l4.flatMap (oFn g)))) (l1 ++ (l3 ++ l3.flatMap (oGet g)))) (l2.flatMap (oVals g))) (l1.flatMap (oTab g))) (oVals g mainGlobals)
def obsBG (g : Addr → Option Obj) : He.AlD := obsB (He.frG g (asX g))
def hookB : PySem.W.Hook where
  α := He.AlD
  obs := fun s => obsBG s.heap.get?
  val := fun _ => valB
  says := fun _ h => ∃ K : PySem.W.Frag, K.In h ∧ SaysB K
  of := fun _ _ e => ⟨_, He.frG_in, e⟩
  keeps := fun _ _ _ ⟨K, hK, c⟩ k => ⟨K, PySem.W.Frag.In.keeps hK k, c⟩
theorem obsBG_eq {g : Addr → Option Obj} {s : Shared} (h : ∀ a, g a = s.heap.get? a) : obsBG g = hookB.obs s := by
  have e : g = s.heap.get? := funext h
  rw [e] <;> rfl
abbrev R : PySem.W.OpenRow := PySem.W.OpenLaw.row PySem.Challenge.rw_surepresses_k73_whole_rows_by_turns
def ob (s : PySem.W.SharedT) : He.AlD := obsBG (HandSHeadRun.getT s)
theorem ob_eq (s : PySem.W.SharedT) : ob s = hookB.obs s.abs := obsBG_eq (HandSHeadRun.getT_eq s)
theorem run (w : World) : HandSHeadRun.RunEq R (PySem.W.view R.prog [74]) hookB ob 20000 names w := by
  intro os
  kernel_rfl
end S3

set_option maxHeartbeats 4000000
/-! ### S1: data known to stand, frames -/
namespace S3
open PySem PySem.Spec PyProof.Rows L2

theorem same_rd {H H' : Hp} {a : Addr} {u : HO} (e : Same H H') (h : Rd H a u) : Rd H' a u := by
  rcases h with h | ⟨o, h⟩
  · exact .inl (e _ _ h)
  · exact .inr ⟨o, e _ _ h⟩
theorem same_l {K : PySem.W.Frag} {H H' : Hp} {a : Addr} {xs : List V} (e : Same H H') (h : SqL K H a xs) : SqL K H' a xs := e.seq h
theorem same_t {K : PySem.W.Frag} {H H' : Hp} {a : Addr} {xs : List V} (e : Same H H') (h : SqT K H a xs) : SqT K H' a xs := by
  rcases h with h | h
  · exact .inl (same_rd e h)
  · exact .inr h
mutual
theorem dp_same {K : PySem.W.Frag} {H H' : Hp} (e : Same H H') : ∀ (d : PyData) (v : V), Dp K H v d → Dp K H' v d
  | .none, _, h => by cases h; exact .non
  | .bool b, _, h => by cases h; exact .bl b
  | .int i, _, h => by cases h; exact .int i
  | .str x, _, h => by cases h; exact .str x
  | .list ds, _, h => by
    cases h with
    | lst hs ha => exact .lst (same_l e hs) (dpa_same e ds _ ha)
  | .tuple ds, _, h => by
    cases h with
    | tup hs ha => exact .tup (same_t e hs) (dpa_same e ds _ ha)
  | .dict _, _, h => by cases h
theorem dpa_same {K : PySem.W.Frag} {H H' : Hp} (e : Same H H') : ∀ (ds : List PyData) (vs : List V), DpAll K H vs ds → DpAll K H' vs ds
  | [], _, h => by cases h; exact .nil
  | d :: ds, _, h => by
    cases h with
    | cons h1 h2 => exact .cons (dp_same e d _ h1) (dpa_same e ds _ h2)
end
section
variable {K : PySem.W.Frag} {H H' : Hp} {v : V} {xs : List V} {d : PyData} {ds : List PyData}
theorem Dp.mono (h : Dp K H v d) (e : Same H H') : Dp K H' v d := dp_same e d v h
theorem DpAll.mono (h : DpAll K H xs ds) (e : Same H H') : DpAll K H' xs ds := dpa_same e ds xs h
theorem dpa_len : ∀ {xs : List V} {ds : List PyData}, DpAll K H xs ds → xs.length = ds.length
  | _, _, .nil => rfl
  | _, _, .cons _ t => congrArg Nat.succ (dpa_len t)
theorem dpa_get : ∀ {xs : List V} {ds : List PyData} {i : Nat} {x : V}, DpAll K H xs ds → xs[i]? = some x → ∃ d, ds[i]? = some d ∧ Dp K H x d
  | _, _, _, _, .nil, e => by simp at e
  | _, _, 0, _, .cons r _, e => by simp at e; subst e; exact ⟨_, rfl, r⟩
  | _, _, i + 1, x, .cons _ t, e => by
    obtain ⟨u, h1, h2⟩ := dpa_get (i := i) (x := x) t (by simpa using e)
    exact ⟨u, by simpa using h1, h2⟩
theorem dpa_getD : ∀ {xs : List V} {ds : List PyData} {i : Nat} {d : PyData}, DpAll K H xs ds → ds[i]? = some d → ∃ x, xs[i]? = some x ∧ Dp K H x d
  | _, _, _, _, .nil, e => by simp at e
  | _, _, 0, _, .cons r _, e => by simp at e; subst e; exact ⟨_, rfl, r⟩
  | _, _, i + 1, x, .cons _ t, e => by
    obtain ⟨u, h1, h2⟩ := dpa_getD (i := i) t (by simpa using e)
    exact ⟨u, by simpa using h1, h2⟩
theorem dpa_app : ∀ {xs ys : List V} {ds es : List PyData}, DpAll K H xs ds → DpAll K H ys es → DpAll K H (xs ++ ys) (ds ++ es)
  | _, _, _, _, .nil, s => s
  | _, _, _, _, .cons r t, s => .cons r (dpa_app t s)
theorem dpa_snoc (h : DpAll K H xs ds) (h2 : Dp K H v d) : DpAll K H (xs ++ [v]) (ds ++ [d]) := dpa_app h (.cons h2 .nil)
theorem dpa_map {α : Type} {f : α → V} {g : α → PyData} : ∀ {l : List α}, (∀ a ∈ l, Dp K H (f a) (g a)) → DpAll K H (l.map f) (l.map g)
  | [], _ => .nil
  | a :: l, h => .cons (h a List.mem_cons_self) (dpa_map fun b hb => h b (List.mem_cons_of_mem _ hb))
theorem dpa_ints (ns : List Int) : DpAll K H (ns.map V.int) (ns.map PyData.int) := dpa_map fun a _ => .int a
theorem dpa_strs (ns : List Str) : DpAll K H (ns.map V.str) (ns.map PyData.str) := dpa_map fun a _ => .str a
theorem dpa_ints_inv : ∀ {ns : List Int} {xs : List V}, DpAll K H xs (ns.map PyData.int) → xs = ns.map V.int
  | [], _, h => by cases h; rfl
  | n :: ns, _, h => by
    cases h with
    | cons h1 h2 =>
      cases h1
      rw [dpa_ints_inv h2]; rfl
theorem dpa_strs_inv : ∀ {ns : List Str} {xs : List V}, DpAll K H xs (ns.map PyData.str) → xs = ns.map V.str
  | [], _, h => by cases h; rfl
  | n :: ns, _, h => by
    cases h with
    | cons h1 h2 =>
      cases h1
      rw [dpa_strs_inv h2]; rfl
theorem dp_list (h : Dp K H v (.list ds)) : ∃ a xs, v = .ref a ∧ SqL K H a xs ∧ DpAll K H xs ds := by
  cases h with
  | lst h1 h2 => exact ⟨_, _, rfl, h1, h2⟩
theorem dp_tup (h : Dp K H v (.tuple ds)) : ∃ a xs, v = .ref a ∧ SqT K H a xs ∧ DpAll K H xs ds := by
  cases h with
  | tup h1 h2 => exact ⟨_, _, rfl, h1, h2⟩
theorem dp_int {i : Int} (h : Dp K H v (.int i)) : v = .int i := by cases h; rfl
theorem dp_str {x : Str} (h : Dp K H v (.str x)) : v = .str x := by cases h; rfl
theorem dp_bool {b : Bool} (h : Dp K H v (.bool b)) : v = .bl b := by cases h; rfl
theorem dp_none (h : Dp K H v .none) : v = .non := by cases h; rfl
theorem dp_ints {ns : List Int} (h : Dp K H v (.list (ns.map .int))) : ∃ a, v = .ref a ∧ SqL K H a (ns.map V.int) := by
  obtain ⟨a, xs, e, h1, h2⟩ := dp_list h
  rw [dpa_ints_inv h2] at h1
  exact ⟨a, e, h1⟩
theorem dp_strs {ns : List Str} (h : Dp K H v (.list (ns.map .str))) : ∃ a, v = .ref a ∧ SqL K H a (ns.map V.str) := by
  obtain ⟨a, xs, e, h1, h2⟩ := dp_list h
  rw [dpa_strs_inv h2] at h1
  exact ⟨a, e, h1⟩
theorem dp_strsT {ns : List Str} (h : Dp K H v (.tuple (ns.map .str))) : ∃ a, v = .ref a ∧ SqT K H a (ns.map V.str) := by
  obtain ⟨a, xs, e, h1, h2⟩ := dp_tup h
  rw [dpa_strs_inv h2] at h1
  exact ⟨a, e, h1⟩
theorem dpa_pair {d1 d2 : PyData} (h : DpAll K H xs [d1, d2]) : ∃ x y, xs = [x, y] ∧ Dp K H x d1 ∧ Dp K H y d2 := by
  cases h with
  | cons h1 h2 =>
    cases h2 with
    | cons h3 h4 =>
      cases h4
      exact ⟨_, _, rfl, h1, h3⟩
theorem dpa_one {d1 : PyData} (h : DpAll K H xs [d1]) : ∃ x, xs = [x] ∧ Dp K H x d1 := by
  cases h with
  | cons h1 h2 => cases h2; exact ⟨_, rfl, h1⟩
theorem dpa_all {α : Type} {g : α → PyData} : ∀ {l : List α} {xs : List V}, DpAll K H xs (l.map g) → ∀ x ∈ xs, ∃ a ∈ l, Dp K H x (g a)
  | [], _, h => by cases h; intro x hx; cases hx
  | a :: l, _, h => by
    cases h with
    | cons h1 h2 =>
      intro x hx
      rcases List.mem_cons.mp hx with rfl | hx
      · exact ⟨a, List.mem_cons_self, h1⟩
      · obtain ⟨b, hb, q⟩ := dpa_all h2 x hx
        exact ⟨b, List.mem_cons_of_mem _ hb, q⟩
end

/-! ### frames: F what is known for good, H the heap; S what may be changed -/
structure Gr (S : Addr → Prop) (F H F' H' : Hp) : Prop where
  ff : Same F F'
  fh : Same F' H'
  hh : ∀ a o, ¬ S a → H a = some o → H' a = some o
  dom : ∀ a, H a ≠ none → H' a ≠ none
  no : ∀ a, H a ≠ none → F a = none → F' a = none
abbrev N0 : Addr → Prop := fun _ => False
theorem some_ne {H : Hp} {a : Addr} {o : HO} (h : H a = some o) : H a ≠ none := by rw [h]; exact fun z => nomatch z
section
variable {S T : Addr → Prop} {F H F' H' F1 H1 F2 H2 F0 H0 : Hp} {p : Addr} {o : HO}
theorem Gr.refl (e : Same F H) : Gr S F H F H := ⟨.refl _, e, fun _ _ _ h => h, fun _ h => h, fun _ _ h => h⟩
theorem Gr.trans (a : Gr S F H F1 H1) (b : Gr S F1 H1 F2 H2) : Gr S F H F2 H2 :=
  ⟨a.ff.trans b.ff, b.fh, fun x o ns h => b.hh x o ns (a.hh x o ns h), fun x h => b.dom x (a.dom x h), fun x h n => b.no x (a.dom x h) (a.no x h n)⟩
theorem Gr.weak (a : Gr S F H F1 H1) (h : ∀ x, S x → T x) : Gr T F H F1 H1 := ⟨a.ff, a.fh, fun x o n => a.hh x o fun s => n (h x s), a.dom, a.no⟩
theorem Gr.w0 (a : Gr N0 F H F1 H1) : Gr T F H F1 H1 := a.weak fun _ z => z.elim
theorem Gr.same (a : Gr N0 F H F1 H1) : Same H H1 := fun x o h => a.hh x o (fun z => z) h
theorem same_upd (e : Same F H) (hp : F p = none) : Same F (upd H p o) := fun b u hb => by
  rw [upd_ne (ne_of_none hb hp)]
  exact e b u hb
theorem same_none (e : Same F H) (hp : H p = none) : F p = none := by
  cases q : F p with
  | none => rfl
  | some u => rw [e _ _ q] at hp; cases hp
/-- a new object, known for good -/
theorem Gr.new (g : Gr S F0 H0 F H) (hp : H p = none) : Gr S F0 H0 (upd F p o) (upd H p o) := by
  have fp := same_none g.fh hp
  refine ⟨fun b u hb => ?_, fun b u hb => ?_, fun b u ns hb => ?_, fun b hb => ?_, fun b hb n => ?_⟩
  · rw [upd_ne (ne_of_none (g.ff b u hb) fp)]; exact g.ff b u hb
  · by_cases e : b = p
    · subst e; rw [upd_same] at hb ⊢; exact hb
    · rw [upd_ne e] at hb ⊢; exact g.fh b u hb
  · have z := g.hh b u ns hb
    rw [upd_ne (ne_of_none z hp)]; exact z
  · have z := g.dom b hb
    by_cases e : b = p
    · subst e; exact absurd hp z
    · rw [upd_ne e]; exact z
  · have z := g.dom b hb
    by_cases e : b = p
    · subst e; exact absurd hp z
    · rw [upd_ne e]; exact g.no b hb n
/-- a new object, or one of the changeable ones, or one made since the start: not known for good -/
theorem Gr.set (g : Gr S F0 H0 F H) (fp : F p = none) (hp : S p ∨ H0 p = none) : Gr S F0 H0 F (upd H p o) := by
  refine ⟨g.ff, same_upd g.fh fp, fun b u ns hb => ?_, fun b hb => ?_, g.no⟩
  · by_cases e : b = p
    · subst e
      rcases hp with hp | hp
      · exact absurd hp ns
      · rw [hp] at hb; cases hb
    · rw [upd_ne e]; exact g.hh b u ns hb
  · by_cases e : b = p
    · subst e; rw [upd_same]; exact fun z => nomatch z
    · rw [upd_ne e]; exact g.dom b hb
theorem Gr.lay (g : Gr S F0 H0 F H) (hp : H p = none) : Gr S F0 H0 F (upd H p o) := g.set (same_none g.fh hp) (.inr (by
  cases q : H0 p with
  | none => rfl
  | some u => exact absurd hp (g.dom p (some_ne q))))
theorem Gr.fresh (g : Gr S F0 H0 F H) (hp : H p = none) : H0 p = none := by
  cases q : H0 p with
  | none => rfl
  | some u => exact absurd hp (g.dom p (some_ne q))
/-- what has been made since is known for good from now on -/
theorem Gr.pub (g : Gr S F0 H0 F H) (h : H p = some o) (hp : H0 p = none) : Gr S F0 H0 (upd F p o) H := by
  refine ⟨fun b u hb => ?_, fun b u hb => ?_, g.hh, g.dom, fun b hb n => ?_⟩
  · by_cases e : b = p
    · subst e
      have z := g.fh _ _ (g.ff _ _ hb)
      rw [h] at z
      rw [upd_same]; exact z
    · rw [upd_ne e]; exact g.ff b u hb
  · by_cases e : b = p
    · subst e; rw [upd_same] at hb; rw [h]; exact hb
    · rw [upd_ne e] at hb; exact g.fh b u hb
  · have e : b ≠ p := fun e => hb (e ▸ hp)
    rw [upd_ne e]; exact g.no b hb n
theorem pub_same (fh : Same F H) (h : H p = some o) : Same F (upd F p o) := fun b u hb => by
  by_cases e : b = p
  · subst e
    have z := fh _ _ hb
    rw [h] at z
    rw [upd_same]; exact z
  · rw [upd_ne e]; exact hb
/-- the same growth from a wider frame -/
theorem Gr.lift (g : Gr S F H F' H') (e : Same F F1) (e1 : Same F1 H) (hs : ∀ a, S a → F1 a = none) : ∃ F1', Gr S F1 H F1' H' ∧ Same F' F1' ∧ ∀ a, F1' a = none → F' a = none ∧ F1 a = none := by
  refine ⟨fun a => match F1 a with | some o => some o | none => F' a, ⟨fun b u hb => ?_, fun b u hb => ?_, g.hh, g.dom, fun b hb n => ?_⟩, fun b u hb => ?_, fun a h => ?_⟩
  · show (match F1 b with | some o => some o | none => F' b) = some u
    rw [hb]
  · have hb' : (match F1 b with | some o => some o | none => F' b) = some u := hb
    cases q : F1 b with
    | none => rw [q] at hb'; exact g.fh b u hb'
    | some o' =>
      rw [q] at hb'
      have z : o' = u := Option.some.inj hb'
      subst z
      exact g.hh b o' (fun s => by rw [hs b s] at q; cases q) (e1 b o' q)
  · show (match F1 b with | some o => some o | none => F' b) = none
    rw [n]
    refine g.no b hb ?_
    cases q : F b with
    | none => rfl
    | some o' => rw [e b o' q] at n; cases n
  · show (match F1 b with | some o => some o | none => F' b) = some u
    cases q : F1 b with
    | none => exact hb
    | some o' =>
      have z1 := e1 b o' q
      have z2 := g.fh b u hb
      have z3 := g.hh b o' (fun s => by rw [hs b s] at q; cases q) z1
      rw [z3] at z2
      rw [Option.some.inj z2]
  · have h' : (match F1 a with | some o => some o | none => F' a) = none := h
    cases q : F1 a with
    | none => rw [q] at h'; exact ⟨h', rfl⟩
    | some o' => rw [q] at h'; cases h'
theorem Gr.keep (g : Gr S F H F' H') (h : H p = some o) (ns : ¬ S p) : H' p = some o := g.hh p o ns h
theorem Gr.hid (g : Gr S F H F' H') (h : H p = some o) (n : F p = none) : F' p = none := g.no p (some_ne h) n
end
end S3

/-! ### S2: dicts whose keys are nested tuples -/
namespace S3
open PySem PySem.Spec PyProof.Rows L2

abbrev NK := NestedKey
mutual
theorem nk_is {X : Cx} {pins : List (Addr × Obj)} {σ : L2.St} {H : Hp} {s : Shared} (I : Inv X pins σ H s) : ∀ (k : NK) (v : V) (u : Value), Dp X.K H v k.data → RelV v u → NestedIs s.heap k u
  | .none, v, u, h, r => by
    have h' : Dp X.K H v .none := h
    cases h'
    cases r
    exact .none
  | .num i, v, u, h, r => by
    have h' : Dp X.K H v (.int i) := h
    cases h'
    obtain ⟨t, rfl⟩ := r
    exact .int i t
  | .text x, v, u, h, r => by
    have h' : Dp X.K H v (.str x) := h
    cases h'
    obtain ⟨t, rfl⟩ := r
    exact .text x t
  | .tup ks, v, u, h, r => by
    have h' : Dp X.K H v (.tuple (NestedKey.datas ks)) := h
    cases h' with
    | tup hs ha =>
      cases r
      obtain ⟨its, rv, ⟨o, ho, hc, n, hd⟩, _⟩ := I.tuple hs
      exact .tup ho hc hd (by simpa using nks_is I ks _ _ ha rv)
theorem nks_is {X : Cx} {pins : List (Addr × Obj)} {σ : L2.St} {H : Hp} {s : Shared} (I : Inv X pins σ H s) : ∀ (ks : List NK) (vs : List V) (us : List Value), DpAll X.K H vs (NestedKey.datas ks) → Vals vs us → NestedAll s.heap ks us
  | [], vs, us, h, r => by
    have h' : DpAll X.K H vs [] := h
    cases h'
    cases r
    exact .nil
  | k :: ks, vs, us, h, r => by
    have h' : DpAll X.K H vs (k.data :: NestedKey.datas ks) := h
    cases h' with
    | cons h1 h2 =>
      cases r with
      | cons r1 r2 => exact .cons (nk_is I k _ _ h1 r1) (nks_is I ks _ _ h2 r2)
end

/-! the dict's object: entries (key, the key's own tuple, value) -/
def RelE (p : NK × Addr × V) (q : NK × Addr × Value) : Prop := p.1 = q.1 ∧ p.2.1 = q.2.1 ∧ RelV p.2.2 q.2.2
def dnP (P : Program) (w : World) (a : Addr) (es : List (NK × Addr × V)) : Heap → Prop := fun h =>
  ∃ xs : List (NK × Addr × Value), Paired RelE es xs ∧ ∃ o ees ep, h.get? a = some o ∧ o.ExactDict ∧ o.data = .dict ees ep ∧ ees.toList = xs.map (entryOfKey (nestedKind P w)) ∧ (xs.map (·.1)).Nodup ∧ (a == sysModules) = false ∧ es.length ≤ sizeLine
def dnO (P : Program) (w : World) (a : Addr) (es : List (NK × Addr × V)) : HO := .ext (dnP P w a es)
/-- the keys stand -/
def KeysAt (K : PySem.W.Frag) (F : Hp) (es : List (NK × Addr × V)) : Prop := ∀ e ∈ es, Dp K F (.ref e.2.1) e.1.data ∧ e.1.depth ≤ 8
def atN (es : List (NK × Addr × V)) (k : NK) : Option V := (es.find? fun e => decide (e.1 = k)).map (·.2.2)
section
variable {P : Program} {w : World} {H : Hp} {h : Heap} {a : Addr} {es : List (NK × Addr × V)}
theorem dnO_ok (x : dnP P w a es h) : ObjOk P w H h a (dnO P w a es) := by
  refine ⟨x, ?_, fun h1 h2 z k => ?_⟩
  · obtain ⟨xs, _, o, _, _, e, _⟩ := x
    exact ⟨o, e⟩
  · obtain ⟨xs, r, o, ees, ep, e, c⟩ := z
    exact ⟨xs, r, o, ees, ep, k _ e, c⟩
theorem dn_of (ok : HOk P w H h) (e : H a = some (dnO P w a es)) : dnP P w a es h := by
  have z : ObjOk P w H h a (.ext (dnP P w a es)) := ok a _ e
  exact z.1
theorem paired_atN (k : NK) : ∀ {es : List (NK × Addr × V)} {xs : List (NK × Addr × Value)}, Paired RelE es xs → RelO (atN es k) ((atKey xs k).map (·.2))
  | _, _, .nil => True.intro
  | p :: es, q :: xs, .cons r t => by
    obtain ⟨e1, e2, e3⟩ := r
    by_cases e : p.1 = k
    · have e' : q.1 = k := by rw [← e1]; exact e
      have z1 : atN (p :: es) k = some p.2.2 := by simp [atN, List.find?_cons, e]
      have z2 : (atKey (q :: xs) k).map (·.2) = some q.2.2 := by simp [atKey, List.find?_cons, e']
      rw [z1, z2]
      exact e3
    · have e' : ¬ q.1 = k := by rw [← e1]; exact e
      have z1 : atN (p :: es) k = atN es k := by simp [atN, List.find?_cons, e]
      have z2 : atKey (q :: xs) k = atKey xs k := by simp [atKey, List.find?_cons, e']
      rw [z1, z2]
      exact paired_atN k t
theorem atN_none {k : NK} (h : ∀ e ∈ es, e.1 ≠ k) : atN es k = none := by
  have z : (es.find? fun e => decide (e.1 = k)) = none := List.find?_eq_none.mpr fun e he => by simpa using h e he
  unfold atN
  rw [z]; rfl
theorem atN_none_iff {k : NK} : atN es k = none ↔ k ∉ es.map (·.1) := by
  unfold atN
  rw [Option.map_eq_none_iff, List.find?_eq_none]
  constructor
  · intro h hm
    obtain ⟨e, he, q⟩ := List.mem_map.mp hm
    exact absurd q (by simpa using h e he)
  · intro h e he
    have : e.1 ≠ k := fun q => h (List.mem_map.mpr ⟨e, he, q⟩)
    simpa using this
theorem atN_mem {k : NK} {a : Addr} {v : V} (hn : (es.map (·.1)).Nodup) (h : (k, a, v) ∈ es) : atN es k = some v := by
  induction es with
  | nil => cases h
  | cons p es ih =>
    rw [List.map_cons, List.nodup_cons] at hn
    rcases List.mem_cons.mp h with e | h
    · subst e
      simp [atN, List.find?_cons]
    · have ne : ¬ p.1 = k := fun e => hn.1 (by rw [e]; exact List.mem_map.mpr ⟨_, h, rfl⟩)
      have z := ih hn.2 h
      simpa [atN, List.find?_cons, ne] using z
theorem paired_keys : ∀ {es : List (NK × Addr × V)} {xs : List (NK × Addr × Value)}, Paired RelE es xs → es.map (·.1) = xs.map (·.1)
  | _, _, .nil => rfl
  | _, _, .cons r t => by rw [List.map_cons, List.map_cons, r.1, paired_keys t]
theorem paired_app {α β : Type} {R : α → β → Prop} : ∀ {l₁ : List α} {m₁ : List β} {l₂ : List α} {m₂ : List β}, Paired R l₁ m₁ → Paired R l₂ m₂ → Paired R (l₁ ++ l₂) (m₁ ++ m₂)
  | _, _, _, _, .nil, s => s
  | _, _, _, _, .cons r t, s => .cons r (paired_app t s)
theorem paired_getE {α β : Type} {R : α → β → Prop} : ∀ {l : List α} {m : List β} {i : Nat} {x : α}, Paired R l m → l[i]? = some x → ∃ y, m[i]? = some y ∧ R x y
  | _, _, _, _, .nil, e => by simp at e
  | _, _, 0, _, .cons r _, e => by simp at e; subst e; exact ⟨_, rfl, r⟩
  | _, _, i + 1, x, .cons _ t, e => by
    obtain ⟨u, h1, h2⟩ := paired_getE (i := i) (x := x) t (by simpa using e)
    exact ⟨u, by simpa using h1, h2⟩
end
section
variable {X : Cx} {pins : List (Addr × Obj)} {σ : L2.St} {H : Hp} {s : Shared} {a b : Addr} {es : List (NK × Addr × V)} {k : NK} {A : Around} {E : Value → Shared → Prop}
theorem nk_at (I : Inv X pins σ H s) (h : Dp X.K H (.ref b) k.data) (hd : k.depth ≤ 8) : (nestedKind X.prog X.w).is s.heap k b := ⟨nk_is I k _ _ h rfl, hd⟩
theorem dn_full (I : Inv X pins σ H s) (e : H a = some (dnO X.prog X.w a es)) (hk : KeysAt X.K H es) :
    ∃ xs, Paired RelE es xs ∧ s.heap.DictOfH (nestedKind X.prog X.w) a xs ∧ (a == sysModules) = false ∧ es.length ≤ sizeLine := by
  obtain ⟨xs, r, o, ees, ep, h1, h2, h3, h4, h5, h6, h7⟩ := dn_of I.hok e
  refine ⟨xs, r, ⟨o, ees, ep, h1, h2, h3, h4, ?_, h5⟩, h6, h7⟩
  have all : ∀ {l : List (NK × Addr × V)} {m : List (NK × Addr × Value)}, Paired RelE l m → KeysAt X.K H l → ∀ x ∈ m, (nestedKind X.prog X.w).is s.heap x.1 x.2.1 := by
    intro l m q
    induction q with
    | nil => intro _ x hx; cases hx
    | @cons p q ps qs hq t ih =>
      intro hk x hx
      rcases List.mem_cons.mp hx with e | hx
      · subst e
        obtain ⟨z1, z2⟩ := hk p List.mem_cons_self
        rw [← hq.1, ← hq.2.1]
        exact nk_at I z1 z2
      · exact ih (fun e he => hk e (List.mem_cons_of_mem _ he)) x hx
  exact all r hk
/-- what is asked of a look into the dict at a by the key at y -/
def DN (X : Cx) (H : Hp) (a : Addr) (y : V) (o : Option V) : Prop := ∃ es b k, H a = some (dnO X.prog X.w a es) ∧ KeysAt X.K H es ∧ y = .ref b ∧ Dp X.K H (.ref b) k.data ∧ k.depth ≤ 8 ∧ o = atN es k
theorem dn_get {y v : V} {u : Value} {Q : Value → Shared → Prop} (hu : A.units + 9 < cLine) (I : Inv X pins σ H s) (g : DN X H a y (some v)) (ry : RelV y u) (h : ∀ w' s', Inv X pins σ H s' → RelV v w' → Q w' s') :
    wpAny (model X.prog X.w) A (getItem (.ref a) u) Q E s := by
  obtain ⟨es, b, k, e, hk, rfl, hb, hd, l⟩ := g
  cases (show u = Value.ref b from ry)
  obtain ⟨xs, rel, dd, _, _⟩ := dn_full I e hk
  have z := paired_atN k rel
  rw [← l] at z
  cases q : (atKey xs k).map (·.2) with
  | none => rw [q] at z; exact z.elim
  | some w' =>
    rw [q] at z
    obtain ⟨p, hp, hp2⟩ := Option.map_eq_some_iff.mp q
    refine wpAny_getItem_heap (show A.in1.units + 8 < cLine by show A.units + 1 + 8 < cLine; omega) (nk_at I hb hd) dd hp ?_
    rw [hp2]
    exact h w' _ (I.tok _) z
theorem relO_isSome {o : Option V} {u : Option Value} (r : RelO o u) : o.isSome = u.isSome := r.isSome_eq
theorem dn_in {y : V} {o : Option V} {u : Value} {Q : Value → Shared → Prop} (hu : A.units + 9 < cLine) (I : Inv X pins σ H s) (g : DN X H a y o) (ry : RelV y u) (h : ∀ s', Inv X pins σ H s' → Q (.bool o.isSome) s') :
    wpAny (model X.prog X.w) A (compareOp .In u (.ref a)) Q E s := by
  obtain ⟨es, b, k, e, hk, rfl, hb, hd, l⟩ := g
  cases (show u = Value.ref b from ry)
  obtain ⟨xs, rel, dd, hs, _⟩ := dn_full I e hk
  refine wpAny_in_heap (show A.in1.units + 8 < cLine by show A.units + 1 + 8 < cLine; omega) (nk_at I hb hd) hs dd ?_
  have q := (paired_atN k rel).isSome_eq
  rw [Option.isSome_map] at q
  rw [← q, ← l]
  exact h _ (I.tok _)
theorem dn_notIn {y : V} {o : Option V} {u : Value} {Q : Value → Shared → Prop} (hu : A.units + 9 < cLine) (I : Inv X pins σ H s) (g : DN X H a y o) (ry : RelV y u) (h : ∀ s', Inv X pins σ H s' → Q (.bool (!o.isSome)) s') :
    wpAny (model X.prog X.w) A (compareOp .NotIn u (.ref a)) Q E s := by
  obtain ⟨es, b, k, e, hk, rfl, hb, hd, l⟩ := g
  cases (show u = Value.ref b from ry)
  obtain ⟨xs, rel, dd, hs, _⟩ := dn_full I e hk
  refine wpAny_notIn_heap (show A.in1.units + 8 < cLine by show A.units + 1 + 8 < cLine; omega) (nk_at I hb hd) hs dd ?_
  have q := (paired_atN k rel).isSome_eq
  rw [Option.isSome_map] at q
  rw [← q, ← l]
  exact h _ (I.tok _)
/-- d[y] = v at a key that is not there -/
theorem dn_put {y v : V} {u r : Value} {Q : Unit → Shared → Prop} (hu : A.units + 9 < cLine) (I : Inv X pins σ H s) (e : H a = some (dnO X.prog X.w a es)) (hk : KeysAt X.K H es) (ey : y = .ref b) (hb : Dp X.K H (.ref b) k.data) (hd : k.depth ≤ 8) (hn : atN es k = none) (hz : es.length < sizeLine)
    (ry : RelV y u) (rv : RelV v r) (h : ∀ s', Inv X pins σ (upd H a (dnO X.prog X.w a (es ++ [(k, b, v)]))) s' → Q () s') : wpAny (model X.prog X.w) A (setItem (.ref a) u r) Q E s := by
  subst ey
  cases (show u = Value.ref b from ry)
  obtain ⟨xs, rel, dd, hs, hl⟩ := dn_full I e hk
  have hxl : xs.length = es.length := (Paired.length rel).symm
  refine wpAny_setItem_heap (hsz := by omega) (show A.in1.units + 8 < cLine by show A.units + 1 + 8 < cLine; omega) (nk_at I hb hd) dd fun h' dd' sb => ?_
  have z := paired_atN k rel
  rw [hn] at z
  have hx : atKey xs k = none := by
    cases q : atKey xs k with
    | none => rfl
    | some p => rw [q] at z; exact z.elim
  rw [storedH_new hx] at dd'
  obtain ⟨o, ees, ep, h1, h2, h3, h4, _, h5⟩ := dd'
  refine h _ (I.write (x := a) (e := a) (t' := s.toks + (nestedKind X.prog X.w).draws k) (by rw [e]; exact True.intro) (.inl rfl) (fun c q hc z => (sb.2 c hc).trans z) ⟨_, h1⟩ ?_)
  refine dnO_ok ⟨_, paired_app rel (.cons ⟨rfl, rfl, rv⟩ .nil), o, ees, ep, h1, h2, h3, h4, h5, hs, ?_⟩
  rw [List.length_append, List.length_singleton]
  omega
theorem dn_type (I : Inv X pins σ H s) (e : H a = some (dnO X.prog X.w a es)) : s.TypeIs (.ref a) "dict" := by
  obtain ⟨xs, r, o, ees, ep, h1, h2, _⟩ := dn_of I.hok e
  exact ⟨o, h1, h2.1⟩
end
/-! readings and rules -/
def tNGet (X : Cx) (td ty : TE) : TE := fun σ H Q => td σ H fun x H1 => ty σ H1 fun y H2 => ∃ a v, x = .ref a ∧ DN X H2 a y (some v) ∧ Q v H2
def tNIn (X : Cx) (ty td : TE) : TE := fun σ H Q => ty σ H fun y H1 => td σ H1 fun x H2 => ∃ a o, x = .ref a ∧ DN X H2 a y o ∧ Q (.bl o.isSome) H2
def tNNotIn (X : Cx) (ty td : TE) : TE := fun σ H Q => ty σ H fun y H1 => td σ H1 fun x H2 => ∃ a o, x = .ref a ∧ DN X H2 a y o ∧ Q (.bl (!o.isSome)) H2
def sNPut (X : Cx) (td ty tv : TE) : TS := fun D σ H => tv σ H fun v H1 => td σ H1 fun x H2 => ty σ H2 fun y H3 => ∃ a es b k, x = .ref a ∧ H3 a = some (dnO X.prog X.w a es) ∧ KeysAt X.K H3 es ∧ y = .ref b ∧ Dp X.K H3 (.ref b) k.data ∧ k.depth ≤ 8 ∧
  atN es k = none ∧ es.length < sizeLine ∧ D.nx σ (upd H3 a (dnO X.prog X.w a (es ++ [(k, b, v)])))
def tNNew (X : Cx) : TE := fun _ H Q => ∀ p, H p = none → Q (.ref p) (upd H p (dnO X.prog X.w p []))
section
variable {X : Cx} {o i e value : Expr} {pos pos' tpos : Pos} {td ty tv : TE}
theorem pe_nget (hu : X.A.units + 9 < cLine) (ho : PE X o td) (hi : PE X i ty) (hs : NoSl i) : PE X (.Subscript o i pos) (tNGet X td ty) := by
  refine ⟨fun pins s σ H Q I h => ?_⟩
  refine subD_of PySem.F.slot_dict_getitem.lookup hs (thn (ho.run pins s σ H _ I h) fun u s1 ⟨x, H1, I1, rx, q1⟩ => thn (hi.run pins s1 σ H1 _ I1 q1) fun iv s2 ⟨y, H2, I2, ry, a, v, ex, g, q2⟩ => ?_)
  subst ex
  obtain rfl : u = Value.ref a := rx
  obtain ⟨es, b, k, e, _⟩ := id g
  exact ⟨dn_type I2 e, dn_get hu I2 g ry fun w' s3 I3 rw' => ⟨v, H2, I3, rw', q2⟩⟩
theorem pc_nin (hu : X.A.units + 9 < cLine) (hi : PE X i ty) (ho : PE X o td) : PC X .In i o (tNIn X ty td) := by
  refine ⟨fun pins s σ H Q I h => ?_⟩
  refine thn (hi.run pins s σ H _ I h) fun iv s1 ⟨y, H1, I1, ry, q1⟩ => thn (ho.run pins s1 σ H1 _ I1 q1) fun u s2 ⟨x, H2, I2, rx, a, ov, ex, g, q2⟩ => ?_
  subst ex
  obtain rfl : u = Value.ref a := rx
  exact dn_in hu I2 g ry fun s3 I3 => ⟨.bl ov.isSome, H2, I3, rfl, q2⟩
theorem pc_nnotin (hu : X.A.units + 9 < cLine) (hi : PE X i ty) (ho : PE X o td) : PC X .NotIn i o (tNNotIn X ty td) := by
  refine ⟨fun pins s σ H Q I h => ?_⟩
  refine thn (hi.run pins s σ H _ I h) fun iv s1 ⟨y, H1, I1, ry, q1⟩ => thn (ho.run pins s1 σ H1 _ I1 q1) fun u s2 ⟨x, H2, I2, rx, a, ov, ex, g, q2⟩ => ?_
  subst ex
  obtain rfl : u = Value.ref a := rx
  exact dn_notIn hu I2 g ry fun s3 I3 => ⟨.bl (!ov.isSome), H2, I3, rfl, q2⟩
theorem ps_nput (hu : X.A.units + 9 < cLine) (ho : PE X o td) (hi : PE X i ty) (hv : PE X value tv) (hs : swapsWith value (some (.Subscript o i pos')) pos.line X.env = pure false) :
    PS X (.Assign [.Subscript o i pos'] value pos) (sNPut X td ty tv) := by
  refine ⟨fun pins s σ H D I h => ?_⟩
  refine wpAny_Assign_Subscript (thn (hv.run pins s σ H _ I h) fun r s1 ⟨v, H1, I1, rv, q1⟩ => thn (ho.run pins s1 σ H1 _ I1 q1) fun u s2 ⟨x, H2, I2, rx, q2⟩ => thn (hi.run pins s2 σ H2 _ I2 q2) fun iv s3 ⟨y, H3, I3, ry, a, es, b, k, ex, e, hk, ey, hb, hd, hn, hz, q3⟩ => ?_) hs
  subst ex
  obtain rfl : u = Value.ref a := rx
  exact dn_put hu I3 e hk ey hb hd hn hz ry rv fun s4 I4 => ⟨σ, _, I4, q3⟩
theorem dn_empty {P : Program} {w : World} {H : Hp} (h : Heap) (hb : sysModules < h.objs.size) : ObjOk P w H (h.push { cls := .type "dict", data := .dict #[] }) h.objs.size (dnO P w h.objs.size []) :=
  dnO_ok ⟨[], .nil, _, #[], 0, Heap.get?_push_size _ rfl, ⟨rfl, rfl, rfl⟩, rfl, rfl, List.nodup_nil, beq_eq_false_iff_ne.mpr (Ne.symm (Nat.ne_of_lt hb)), Nat.zero_le _⟩
theorem pe_nnew : PE X (.Dict [] [] pos) (tNNew X) := ⟨fun pins s σ H Q I h =>
  wpAny_Dict_empty ⟨.ref s.heap.objs.size, _, I.laid (a := s.heap.objs.size) (o := dnO X.prog X.w s.heap.objs.size []) (t' := s.toks) (fun _ _ q => Heap.get?_push_of_some _ q) (Nat.le_refl _) (dn_empty s.heap I.big), rfl, h _ (I.hok.fresh (Nat.le_refl _))⟩⟩
/-- {k: v}, one pair -/
def tNDisp (X : Cx) (tk tv : TE) : TE := fun σ H Q => ∀ p, H p = none → tPairs [(tk, tv)] σ (upd H p (dnO X.prog X.w p [])) fun ps H2 => ∃ y v, ps = [(y, v)] ∧ ∃ b k, H2 p = some (dnO X.prog X.w p []) ∧ y = .ref b ∧ Dp X.K H2 (.ref b) k.data ∧ k.depth ≤ 8 ∧ Q (.ref p) (upd H2 p (dnO X.prog X.w p [(k, b, v)]))
end
end S3

/-! ### S3: {k: v} with a nested key; walks over such a dict; sorted of data -/
namespace S3
open PySem PySem.Spec PyProof.Rows L2

theorem pe_ndisp {X : Cx} {pos : Pos} {k v : Expr} {tk tv : TE} (hu : X.A.units + 8 < cLine) (hk : PE X k tk) (hv : PE X v tv) : PE X (.Dict [some k] [v] pos) (tNDisp X tk tv) := by
  refine ⟨fun pins s σ H Q I q => ?_⟩
  have hn := I.hok.fresh (Nat.le_refl s.heap.objs.size)
  have I1 := I.laid (a := s.heap.objs.size) (o := dnO X.prog X.w s.heap.objs.size []) (h' := s.heap.push { cls := .type "dict", data := .dict #[] }) (t' := s.toks) (fun _ _ q => Heap.get?_push_of_some _ q) (Nat.le_refl _) (dn_empty s.heap I.big)
  have pp : PPs X pos [some k] [v] [(tk, tv)] := pps_cons hk hv pps_nil
  rw [arm_eval_Dict, zip_pairTrees [some k] [v] X.env pos rfl rfl, dictDisplay_pairs (pairTrees [some k] [v] X.env pos) (by show [_] ≠ []; exact List.cons_ne_nil _ _) (Nat.le_of_ble_eq_true rfl)]
  refine wpAny_bind (wpAny_standAt (wpAny_bind (wpAny_subDictH (knd := nestedKind X.prog X.w) (Q := fun d s' => wpAny (model X.prog X.w) X.A (pure (Value.ref d)) (EP X pins σ Q) X.xe s') hu (Nat.le_of_ble_eq_true rfl) ?_)))
  refine thn (pp.run pins _ σ _ (fun ps H2 => ∃ y v, ps = [(y, v)] ∧ ∃ b k, H2 s.heap.objs.size = some (dnO X.prog X.w s.heap.objs.size []) ∧ y = .ref b ∧ Dp X.K H2 (.ref b) k.data ∧ k.depth ≤ 8 ∧ Q (.ref s.heap.objs.size) (upd H2 s.heap.objs.size (dnO X.prog X.w s.heap.objs.size [(k, b, v)]))) I1 ?_) fun ws s2 ⟨ps, H2, I2, rel, y, v, ep, b, kk, e, ey, hb, hd, q2⟩ => ?_
  · exact q _ hn
  · subst ep ey
    cases rel with
    | @cons p1 w1 _ _ r1 t1 =>
      cases t1
      obtain ⟨wk, wv⟩ := w1
      obtain ⟨ra, rb⟩ := r1
      have ea : wk = Value.ref b := ra
      subst ea
      obtain ⟨xs, rx, dd, hs, _⟩ := dn_full I2 e (fun _ z => nomatch z)
      cases rx
      refine ⟨[(kk, b, wv)], ⟨rfl, rfl, nk_at I2 hb hd, True.intro⟩, dd, fun h' tk dd' sb => wpAny_pure ?_⟩
      have e1 : storedAllH ([] : List (NK × Addr × Value)) [(kk, b, wv)] = [(kk, b, wv)] := by
        show storedH [] kk b wv = _
        exact storedH_new rfl b wv
      rw [e1] at dd'
      obtain ⟨o, ees, ep, h1, h2, h3, h4, _, h5⟩ := dd'
      refine ⟨.ref s.heap.objs.size, _, I2.write (x := s.heap.objs.size) (e := s.heap.objs.size) (t' := tk) (by rw [e]; exact True.intro) (.inl rfl) (fun c q hc z => (sb.2 c hc).trans z) ⟨_, h1⟩ ?_, rfl, q2⟩
      exact dnO_ok ⟨_, .cons ⟨rfl, rfl, rb⟩ .nil, o, ees, ep, h1, h2, h3, h4, h5, hs, (by show 1 ≤ sizeLine; decide)⟩

/-! for k in d -/
def Itn (P : Program) (w : World) (d : Addr) (o : Obj) (es : List (NK × Addr × V)) : It := ⟨fun i H => H d = some (.frz o (dnO P w d es)) ∧ i < es.length, fun i H x H' => H' = H ∧ ∃ k q v, es[i]? = some (k, q, v) ∧ x = .ref q, fun i H => H d = some (.frz o (dnO P w d es)) ∧ es.length ≤ i⟩
section
variable {X : Cx} {pins : List (Addr × Obj)} {σ : L2.St} {H : Hp} {s : Shared} {d : Addr} {o : Obj} {es : List (NK × Addr × V)}
theorem frzN (I : Inv X pins σ H s) (h : H d = some (.frz o (dnO X.prog X.w d es))) :
    (d == sysModules) = false ∧ s.heap.get? d = some o ∧ o.ExactDict ∧ ∃ (ees : Array DictEntry) (ep : Nat), o.data = .dict ees ep ∧ ees.size = es.length ∧
      ∀ (i : Nat) (k : NK) (q : Addr) (v : V), es[i]? = some (k, q, v) → ∃ (en : DictEntry), ees[i]? = some en ∧ en.key = .ref q := by
  obtain ⟨hd, z⟩ := I.hok d _ h
  have z2 : dnP X.prog X.w d es s.heap := z.1
  obtain ⟨xs, r, o', ees, ep, ho, hx, hdt, he, hnd, hs, hl⟩ := z2
  rw [hd] at ho
  cases ho
  refine ⟨hs, hd, hx, ees, ep, hdt, ?_, fun i k q v e => ?_⟩
  · have l1 : ees.size = xs.length := size_of_entries he
    have l2 : es.length = xs.length := Paired.length r
    omega
  · obtain ⟨b, hb, e1, e2, _⟩ := paired_getE r e
    have q := entry_at he i
    rw [hb] at q
    refine ⟨_, q, ?_⟩
    show Value.ref b.2.1 = _
    rw [← e2]
end
section
variable {P : Program} {w : World} {K : PySem.W.Frag} {tg : Expr} {d : Addr} {o : Obj} {es : List (NK × Addr × V)} {ees : Array DictEntry} {ep : Nat}
theorem turn_keysN (it : Addr) (hod : o.data = .dict ees ep) : Turn P w K tg (Itn P w d o es) [it] it (fun i h => h.IsKeyIter it d i es.length ep) where
  mem := by simp
  obj := fun i h st b hb => by
    have e : b = it := by simpa using hb
    subst e
    obtain ⟨oi, e, c, dd⟩ := st
    exact ⟨oi, e, fun v z => by rw [dd] at z; cases z⟩
  keep := fun i h h' st k => st.at fun oi e => k it (by simp) oi e
  item := by
    intro X hP hw hK hc i pins s σ H E I hf st hg
    subst hP hw hK
    obtain ⟨hd, hi⟩ := hg
    obtain ⟨f0, f1, f2, f3, f4, f5⟩ := hf it (by simp)
    obtain ⟨hs, hgd, hx, es', ep', hdt, hsz, ent⟩ := frzN I hd
    obtain ⟨rfl, rfl⟩ := dict_ep hod hdt
    obtain ⟨⟨k, q, v⟩, hkv⟩ : ∃ p, es[i]? = some p := ⟨es[i], List.getElem?_eq_getElem hi⟩
    obtain ⟨en, hen, hkey⟩ := ent i k q v hkv
    refine next_key_item st hgd hdt hsz hen fun h' st' sb => ?_
    have I1 : Inv X pins σ H { s with heap := h' } := I.turned (t' := s.toks) (fun b ob hb e => (sb.2 b hb).trans e) f0 f1 f3 f4 f5
    obtain ⟨oi, e, c, dd⟩ := id st'
    exact ⟨en.key, rfl, go_of (s := { s with heap := h' }) e c dd (by decide) ⟨.ref q, H, I1, hkey, ⟨rfl, k, q, v, hkv, rfl⟩, st', fun b hb => (hf b hb).1⟩⟩
  done := by
    intro X hP hw hK hc i pins s σ H E I hf st hg
    subst hP hw hK
    obtain ⟨hd, hi⟩ := hg
    obtain ⟨f0, f1, f2, f3, f4, f5⟩ := hf it (by simp)
    obtain ⟨hs, hgd, hx, es', ep', hdt, hsz, ent⟩ := frzN I hd
    obtain ⟨rfl, rfl⟩ := dict_ep hod hdt
    exact next_key_end (I.ok.hd hc) st hgd hdt hsz hi fun h' eb => ⟨rfl, I.turned (t' := s.toks) (fun b ob hb e => eb b ob hb e) f0 f1 f3 f4 f5⟩
  self := fun A i s Q E st h => by
    refine wpAny_pyIter_slot st.typeIs F.slot_dict_keyiterator_iter (wpAny_call_entry F.slot_dict_keyiterator_iter st.typeIs F.entry_dict_keyiterator_iter ?_ (F.args_dict_keyiterator_iter_1 _))
    show wpAny _ _ (ret (.ref it)) _ _ s
    exact wpAny_pure ⟨_, rfl, "dict_keyiterator", _, st.typeIs, F.slot_dict_keyiterator_next.lookup, h⟩
end
/-- the dict is locked -/
def iKeysN (X : Cx) (td : TE) : TI := fun σ H R => td σ H fun x H1 => ∃ d o es, x = .ref d ∧ H1 d = some (.frz o (dnO X.prog X.w d es)) ∧ R (Itn X.prog X.w d o es) H1
theorem pi_keysN {X : Cx} {tg e : Expr} {td : TE} (he : PE X e td) : PI X tg e (iKeysN X td) := by
  refine ⟨fun pins s σ H R I h => ?_⟩
  refine thn (he.run pins s σ H _ I h) fun u s1 ⟨x, H1, I1, rx, d, o, es, ex, hd, q⟩ => ?_
  subst ex
  obtain rfl : u = Value.ref d := rx
  obtain ⟨hs, hgd, hx, ees, ep, hdt, hsz, ent⟩ := frzN I1 hd
  refine iter_keys hs hgd hx hdt (pi_one (tk := s1.toks) I1 _ (turn_keysN _ hdt) ⟨_, Heap.get?_push_size _ rfl, rfl, ?_⟩ q)
  rw [hsz] <;> rfl
theorem walk_keysN {P : Program} {w : World} {d : Addr} {o : Obj} {es : List (NK × Addr × V)} : Walk (Itn P w d o es) es.length (fun H => H d = some (.frz o (dnO P w d es))) (fun i H x H' => H' = H ∧ ∃ k q v, es[i]? = some (k, q, v) ∧ x = .ref q) :=
  ⟨fun _ _ hi q => ⟨q, hi⟩, fun _ q => ⟨q, Nat.le_refl _⟩, fun _ _ _ _ _ _ y => y⟩

/-! sorted of data -/
theorem depth_of_le {d : PyData} {n : Nat} (h : d.depth ≤ n) : d.depth ≤ n := h
/-- sorted(list): the items and what they read as -/
def rSortD (K : PySem.W.Frag) : List V → Hp → VK → Prop := fun vs H Q => ∃ (a : Addr) (bs : List (V × PyData)), vs = [V.ref a] ∧ SqL K H a (bs.map (·.1)) ∧ (∀ b ∈ bs, Dp K H b.1 b.2) ∧ PySem.W.AllAlike (bs.map (·.2)) ∧ PySem.W.Sortable (bs.map (·.2)) ∧ (∀ b ∈ bs, b.2.depth ≤ 20) ∧
  ∀ p, H p = none → Q (.ref p) (upd H p (.lst ((bs.mergeSort (PySem.W.dataLe false Prod.snd)).map (·.1))))
theorem each_vals : ∀ {us : List Value} {bs : List (V × PyData)}, Vals (bs.map (·.1)) us → PySem.W.EachIs (fun u (b : V × PyData) => RelV b.1 u) us bs
  | _, [], r => by
    rw [List.map_nil] at r
    cases r
    exact .nil
  | _, b :: bs, r => by
    rw [List.map_cons] at r
    cases r with
    | cons r1 r2 => exact .cons r1 (each_vals r2)
theorem vals_each : ∀ {us : List Value} {bs : List (V × PyData)}, PySem.W.EachIs (fun u (b : V × PyData) => RelV b.1 u) us bs → Vals (bs.map (·.1)) us
  | _, _, .nil => .nil
  | _, _, .cons h t => .cons h (vals_each t)
theorem each_reads {X : Cx} {pins : List (Addr × Obj)} {σ : L2.St} {H : Hp} {s : Shared} (I : Inv X pins σ H s) : ∀ {us : List Value} {bs : List (V × PyData)}, PySem.W.EachIs (fun u (b : V × PyData) => RelV b.1 u) us bs → (∀ b ∈ bs, Dp X.K H b.1 b.2) → PySem.W.EachIs (fun v b => ∃ as, Reads s.heap v (Prod.snd b) as) us bs
  | _, _, .nil, _ => .nil
  | _, _, .cons (a := u) (b := b) h t, hd => .cons (Dp.reads I b.2 b.1 u (hd b List.mem_cons_self) h) (each_reads I t fun c hc => hd c (List.mem_cons_of_mem _ hc))
theorem cr_sortD {X : Cx} (hu : X.A.units + 40 < cLine) : CallR X (.builtin "sorted") (rSortD X.K) := by
  intro pins s σ H vs us Q I r h
  obtain ⟨a, bs, rfl, hs, hd, hal, hk, hdep, q⟩ := h
  obtain ⟨its, rv, hl, hz⟩ := I.list hs
  rw [Vals.ref1 r]
  have e := each_vals rv
  have hlen : bs.length ≤ sizeLine := by rw [List.length_map] at hz; exact hz
  refine PySem.W.sorted_data (R := fun u (b : V × PyData) => RelV b.1 u) (enc := Prod.snd) hl.isList e (each_reads I e hd) hal hk hlen (fun b hb => ?_) fun out ho he => ?_
  · have := hdep b hb
    show X.A.units + 2 + b.2.depth < cLine
    omega
  · obtain ⟨ep, he'⟩ := PyProof.Rows.sortedAll_at s.heap its (List.toArray out)
    have rr := vals_each he
    refine ⟨.ref _, _, I.laid (t' := s.toks) (o := .lst ((bs.mergeSort (PySem.W.dataLe false Prod.snd)).map (·.1))) (fun _ _ => PyProof.Rows.sortedAll_old) (Nat.le_succ _) ⟨?_, out, ep, rr, he'⟩, rfl, q _ (I.hok.fresh (Nat.le_succ _))⟩
    rw [List.length_map, List.length_mergeSort]
    exact hlen

mutual
theorem nk_noList {h : Heap} : ∀ (k : NK) (v : Value) (as : List Addr), Reads h v k.data as → as = []
  | .none, v, as, r => by
    have r' : Reads h v .none as := r
    cases r'; rfl
  | .num i, v, as, r => by
    have r' : Reads h v (.int i) as := r
    cases r'; rfl
  | .text x, v, as, r => by
    have r' : Reads h v (.str x) as := r
    cases r'; rfl
  | .tup ks, v, as, r => by
    have r' : Reads h v (.tuple (NestedKey.datas ks)) as := r
    cases r' with
    | tuple h1 h2 h3 h4 => exact nks_noList ks _ _ h4
theorem nks_noList {h : Heap} : ∀ (ks : List NK) (vs : List Value) (as : List Addr), ReadsAll h vs (NestedKey.datas ks) as → as = []
  | [], vs, as, r => by
    have r' : ReadsAll h vs [] as := r
    cases r'; rfl
  | k :: ks, vs, as, r => by
    have r' : ReadsAll h vs (k.data :: NestedKey.datas ks) as := r
    cases r' with
    | cons h1 h2 => rw [nk_noList k _ _ h1, nks_noList ks _ _ h2]; rfl
end
/-- sorted(d), d a dict with nested keys: its keys' own tuples, put in order -/
def rSortN (X : Cx) : List V → Hp → VK → Prop := fun vs H Q => ∃ (a : Addr) (es : List (NK × Addr × V)), vs = [V.ref a] ∧ H a = some (dnO X.prog X.w a es) ∧ KeysAt X.K H es ∧ PySem.W.AllAlike (es.map fun e => e.1.data) ∧ PySem.W.Sortable (es.map fun e => e.1.data) ∧ (∀ e ∈ es, e.1.data.depth ≤ 20) ∧
  ∀ p, H p = none → Q (.ref p) (upd H p (.lst ((es.mergeSort (PySem.W.dataLe false fun e => e.1.data)).map fun e => .ref e.2.1)))
theorem cr_sortN {X : Cx} (hcalm : X.calm = true) (hu : X.A.units + 40 < cLine) : CallR X (.builtin "sorted") (rSortN X) := by
  intro pins s σ H xs us Q I r q
  obtain ⟨a, es, ex, he, hk, hal, hs, hdep, q⟩ := q
  subst ex
  obtain ⟨u, eu, rx⟩ := vals1 r
  subst eu
  cases rx
  obtain ⟨xs, rel, dd, lo, h16⟩ := dn_full I he hk
  obtain ⟨ees, ep, hraw, hsz, hent⟩ := dd.raw
  have hxl : es.length = xs.length := Paired.length rel
  refine Calls.call_function_entry PyProof.Rows.kind_sorted PyProof.Rows.plain_sorted PyProof.Rows.entry_sorted (PyProof.Rows.args_sorted1 _) ?_
  unfold Builtin.«sorted»
  refine wpAny_bind (m := checkCount "sorted" 1 1 _) (wpAny_pure ?_)
  refine wpAny_bind (PySem.W.kdu_collect (A := X.A.in1) (KdlSrc.rawDict (prog := X.prog) (w := X.w) (d := a) (es := ees) (ep := ep) lo) (I.ok.hd hcalm) hraw (by omega) fun h' tk acc hk' hacc => ?_)
  have hal' : acc.toList = es.map fun e => Value.ref e.2.1 := by
    refine List.ext_getElem? fun j => ?_
    have hl0 : acc.toList.length = es.length := by rw [Array.length_toList, hacc.1]; omega
    by_cases hj : j < es.length
    · have hj' : j < acc.toList.length := by omega
      rw [List.getElem?_map, List.getElem?_eq_getElem hj, List.getElem?_eq_getElem hj']
      obtain ⟨hi, ev⟩ := hacc.2 j acc.toList[j] (by rw [← Array.getElem?_toList]; exact List.getElem?_eq_getElem hj')
      obtain ⟨y, hy, h1, _, _⟩ := hent j hi
      obtain ⟨b, hb, _, e2, _⟩ := paired_getE rel (List.getElem?_eq_getElem hj)
      rw [hy] at hb
      cases hb
      rw [ev, h1, ← e2]
      rfl
    · rw [List.getElem?_eq_none (by omega), List.getElem?_eq_none (by rw [List.length_map]; omega)]
  have hl0 : acc.toList.length = es.length := by rw [hal', List.length_map]
  have I1 : Inv X pins σ H { s with heap := h', toks := tk } := I.kept hk'
  refine wpAny_bind (wpAny_newList ?_ (by rw [hl0]; exact h16))
  have hoL : (h'.push (seqObj "list" acc.toList.toArray 0)).get? h'.objs.size = some (seqObj "list" acc.toList.toArray 0) := Heap.get?_push_size _ rfl
  show wpAny _ _ _ _ _ { s with heap := h'.push (seqObj "list" acc.toList.toArray 0), toks := tk }
  have I2 : Inv X pins σ H { s with heap := h'.push (seqObj "list" acc.toList.toArray 0), toks := tk } := I1.kept (t' := tk) fun b u e => Heap.get?_push_of_some _ e
  have each1 : ∀ {l : List (NK × Addr × V)}, PySem.W.EachIs (fun u (e : NK × Addr × V) => RelV (V.ref e.2.1) u) (l.map fun e => Value.ref e.2.1) l := by
    intro l
    induction l with
    | nil => exact .nil
    | cons e l ih => exact .cons rfl ih
  have each2 : ∀ {l : List (NK × Addr × V)}, KeysAt X.K H l → PySem.W.EachIs (fun v (e : NK × Addr × V) => ∃ as, Reads (h'.push (seqObj "list" (List.map (fun e => Value.ref e.2.1) es).toArray 0)) v e.1.data as ∧ h'.objs.size ∉ as) (l.map fun e => Value.ref e.2.1) l := by
    intro l
    induction l with
    | nil => intro _; exact .nil
    | cons e l ih =>
      intro hk
      refine .cons ?_ (ih fun c hc => hk c (List.mem_cons_of_mem _ hc))
      obtain ⟨as, hr⟩ := Dp.reads I1 e.1.data (.ref e.2.1) (.ref e.2.1) (hk e List.mem_cons_self).1 rfl
      refine ⟨as, PyProof.Rows.Reads.keeps (fun _ _ => Heap.get?_push_of_some _) hr, ?_⟩
      rw [nk_noList e.1 _ _ hr]
      simp
  refine wpAny_bind (wpAny_holding (PySem.W.list_sort_data (R := fun u (e : NK × Addr × V) => RelV (V.ref e.2.1) u) (enc := fun e : NK × Addr × V => e.1.data) (bs := es) hoL (by rw [hal']; exact each1) (by rw [hal']; exact each2 hk) hal hs h16 (fun b hb => ?_) fun out ho heo => ?_))
  · have := hdep b hb
    show X.A.units + 1 + 1 + b.1.data.depth < cLine
    omega
  · obtain ⟨e', he'⟩ := PyProof.Rows.sortedHeap_at (vs := acc.toList) (out := List.toArray out) hoL
    refine wpAny_pure ⟨_, rfl, .ref h'.objs.size, upd H h'.objs.size (.lst ((es.mergeSort (PySem.W.dataLe false fun e => e.1.data)).map fun e => .ref e.2.1)), ?_, rfl, q _ (I1.hok.fresh (Nat.le_refl _))⟩
    have vv : Vals ((es.mergeSort (PySem.W.dataLe false fun e => e.1.data)).map fun e => V.ref e.2.1) out := by
      have go : ∀ {us : List Value} {l : List (NK × Addr × V)}, PySem.W.EachIs (fun u (e : NK × Addr × V) => RelV (V.ref e.2.1) u) us l → Vals (l.map fun e => V.ref e.2.1) us := by
        intro us l h
        induction h with
        | nil => exact .nil
        | cons h _ ih => exact .cons h ih
      exact go heo
    refine I1.laid (t' := tk) (fun b u e => ?_) (Nat.le_refl _) ⟨by rw [List.length_map, List.length_mergeSort]; exact h16, out, e', vv, he'⟩
    rw [PyProof.Rows.sortedHeap_old (Nat.ne_of_lt (Heap.lt_size e)) (Nat.lt_of_lt_of_le (show b < h'.objs.size from Heap.lt_size e) (by rw [Heap.size_push]; exact Nat.le_succ _))]
    exact Heap.get?_push_of_some _ e
end S3

/-! ### S4: set(list of ints), steps in slices, len by an own def, except with two classes -/
namespace S3
open PySem PySem.Spec PyProof.Rows L2

section
variable {P : Program} {w : World} {A : Around} {E : Value → Shared → Prop} {s : Shared}
/-- the empty set's object -/
abbrev set0 (w : World) : Obj := { cls := .type "set", dict := none, data := .set #[] 0 (.fresh 0 0 (!w.params.followText "set-order")) }
theorem set_of_ints {l : Addr} {items : Array Value} (ns : List Int) {Q : Value → Shared → Prop} (hh : A.handled = none) (hl : s.heap.IsList l items) (hit : IntsAre items.toList ns) (hb : ns.length + 1 < scanBound)
    (h : ∀ (h' : Heap) (tk c : Nat), SetR w h' s.heap.objs.size (fun j => decide (j ∈ ns)) c → c ≤ ns.length → (∀ b o, s.heap.get? b = some o → h'.get? b = some o) → Q (.ref s.heap.objs.size) { s with heap := h', toks := tk }) :
    wpAny (model P w) A (call (.type "set") [.ref l]) Q E s := by
  have hisz : items.size = ns.length := (Array.length_toList (xs := items)).symm.trans (IntsAre.length hit)
  obtain ⟨c0, tl, hmro⟩ := F.called_set.mro
  have hmade := F.called_set.made
  have hsub := F.called_set.sub
  refine wpAny_call (codeAny_of_tree ?_)
  show wpAny _ _ (callAny (.type "set") _) _ _ _
  refine wpAny_pure ⟨Code.quiet_builtin _ (by decide +kernel), codeAny_builtin F.entry_type_call ?_⟩
  rw [Around.under_plain (weight_type_call_type "set" [.ref l] []) rfl]
  have h1 := F.called_set.notType
  have h2 := F.called_set.canCreate
  have hct := F.typeCall_set_1 (.ref l)
  repeat (any_goals (first | assumption | wp_step))
  refine codeAny_mono (code_set_led1 (.ref l) (E := E) (Q₁ := fun obj s₁ => obj = .ref s.heap.objs.size ∧ s₁ = { s with heap := s.heap.push (set0 w) }) ⟨rfl, rfl⟩) fun r s₁ hr => ?_
  rcases r with e | fl
  · exact hr
  cases fl with
  | next => exact hr.elim
  | brk => exact hr.elim
  | cont => exact hr.elim
  | ret obj =>
    obtain ⟨rfl, rfl⟩ := hr
    have hS : (s.heap.push (set0 w)).get? s.heap.objs.size = some (set0 w) := Heap.get?_push_size _ rfl
    have hT : Shared.TypeIs { s with heap := s.heap.push (set0 w) } (.ref s.heap.objs.size) "set" := ⟨_, hS, rfl⟩
    have hli := F.called_set.init.lookup
    have hbi := F.called_set.init.bind (.ref s.heap.objs.size)
    repeat (any_goals (first | assumption | wp_step))
    refine codeAny_mono (codeAny_call_builtin (R := wants (fun r s₂ => r = .none ∧ ∃ h' tk c, s₂ = { s with heap := h', toks := tk } ∧ SetR w h' s.heap.objs.size (fun j => decide (j ∈ ns)) c ∧ c ≤ ns.length ∧ (∀ b o, s.heap.get? b = some o → h'.get? b = some o)) E) F.called_set.init.plain F.entry_set_init (check_set_init_1 hT ?_)) fun r₂ s₂ hr₂ => ?_
    · obtain ⟨⟨ocls, odict, odata, oslots⟩, hol, hcl, nl, hdl⟩ := id hl
      simp only at hcl hdl
      subst hcl hdl
      have hol' : (s.heap.push (set0 w)).get? l = some { cls := .type "list", dict := odict, data := .seq items nl, slots := oslots } := Heap.get?_push_of_some _ hol
      have hsls := F.sub_list_set
      have hslf := F.sub_list_frozenset
      have hne : (Value.type "list" == Value.type "dict") = false := by decide
      have hl1 : (s.heap.push (set0 w)).IsList l items := ⟨_, hol', rfl, nl, rfl⟩
      unfold Builtin.«set.__init__» noKeywords Builtin.Frozenset.updateFrom
      generalize hPI : pyIter = PI
      wp_walk
      subst hPI
      refine wpAny_pyIter_list hl1 (wpAny_bind (wpAny_runValue ?_))
      have hlS : l < s.heap.objs.size := Heap.lt_size hol
      have hz1 : (s.heap.push (set0 w)).objs.size = s.heap.objs.size + 1 := Heap.size_push ..
      have hh3 : A.in1.in1.in1.handled = none := by simp [hh]
      have hval : ∀ (i : Nat) (v : Value), items[i]? = some v → ∃ k t, ns[i]? = some k ∧ v = .int k t := fun i v hv => by
        have hi : i < ns.length := by rw [← hisz]; exact (Array.getElem?_eq_some_iff.mp hv).1
        obtain ⟨t, e⟩ := PyProof.Rows.IntsAre.int_at hit i v (by rw [Array.getElem?_toList]; exact hv)
        exact ⟨ns[i], t, List.getElem?_eq_getElem hi, by rw [e, List.getD_eq_getElem?_getD, List.getElem?_eq_getElem hi] <;> rfl⟩
      refine set_update_ints ((Walks.list hh3 _ l (by rw [hz1]; exact Nat.ne_of_lt (Nat.lt_succ_of_lt hlS)) items).toS) s.heap.objs.size (by rw [hz1]; simp only [List.mem_cons, List.not_mem_nil, or_false, not_or]; exact ⟨Nat.ne_of_lt (Nat.lt_succ_self _), Nat.ne_of_gt hlS⟩)
        ns hisz hb hval (items.size - 0) 0 _ (by omega) (Nat.zero_le _) ⟨⟨_, Heap.get?_push_size _ rfl, rfl, rfl⟩, hl1.push _⟩ ⟨0, Nat.le_refl 0, setR_new_at (Heap.get?_push_of_some _ hS)⟩ ?_
      rintro ⟨h', g2, d', tk', os'⟩ c' hm hc' hS'
      have eg : g2 = s.gens := hm.gens
      have ed : d' = s.drawn := hm.drawn
      have eo : os' = s.os := hm.os
      subst eg ed eo
      refine wpAny_pure ?_
      show wpAny _ _ (ret Value.none) _ _ _
      refine wpAny_pure ⟨rfl, h', tk', c', rfl, hS', by omega, fun b o e => ?_⟩
      have hb0 : b < s.heap.objs.size := Heap.lt_size e
      refine hm.heap b o ?_ (Heap.get?_push_of_some _ (Heap.get?_push_of_some _ e))
      rw [hz1]
      simp only [List.mem_cons, List.not_mem_nil, or_false, not_or]
      exact ⟨Nat.ne_of_lt hb0, Nat.ne_of_lt (Nat.lt_succ_of_lt hb0)⟩
    · rcases r₂ with e | fl₂
      · exact hr₂
      cases fl₂ with
      | next => exact hr₂.elim
      | brk => exact hr₂.elim
      | cont => exact hr₂.elim
      | ret r =>
        obtain ⟨rfl, h', tk, c', rfl, hS', hc', hk'⟩ := hr₂
        repeat (any_goals (first | assumption | wp_step))
        exact h _ _ _ hS' hc' hk'
end
/-- set(xs), xs a list of ints -/
def rSetL (K : PySem.W.Frag) (w : World) : List V → Hp → VK → Prop := fun xs H Q => ∃ (l : Addr) (ns : List Int), xs = [.ref l] ∧ SqL K H l (ns.map V.int) ∧ ns.length < 64 ∧ ∀ p c, H p = none → c ≤ ns.length → Q (.ref p) (upd H p (SetO w p (fun j => decide (j ∈ ns)) c))
theorem cr_setL {X : Cx} (hc : X.calm = true) : CallR X (.type "set") (rSetL X.K X.w) := by
  intro pins s σ H xs us Q I r h
  obtain ⟨l, ns, rfl, hs, hn, q⟩ := h
  obtain ⟨its, rv, pl, hz⟩ := I.list hs
  rw [Vals.ref1 r]
  refine set_of_ints ns (I.ok.hd hc) pl.isList (by simpa using rv.ints) (by unfold scanBound; omega) fun h' tk c hR hcn hk => ?_
  exact ⟨.ref s.heap.objs.size, _, I.laid (t' := tk) hk (Nat.le_refl _) (setO_new hR), rfl, q _ c (I.hok.fresh (Nat.le_refl _)) hcn⟩
/-- len(s) of a set of ints: its members, once each -/
def rLenS (w : World) : List V → Hp → VK → Prop := fun xs H Q => ∃ (a : Addr) (S : Int → Bool) (n : Nat), xs = [.ref a] ∧ H a = some (SetO w a S n) ∧ ∀ out : List Int, out.Nodup → (∀ k, k ∈ out ↔ S k = true) → Q (.int out.length) H
theorem cr_lenS {X : Cx} : CallR X (.builtin "len") (rLenS X.w) := by
  intro pins s σ H xs us Q I r h
  obtain ⟨a, S, n, rfl, ha, q⟩ := h
  rw [Vals.ref1 r]
  obtain ⟨o, es, ep, t, ho, hex, hd, _, hnd, hm, hsz, hf, hn, _, _⟩ := setO_get I ha
  have q' := q (es.toList.map keyOf) hnd fun k => (hm k).symm
  rw [List.length_map, Array.length_toList] at q'
  refine call_len_set ho hex hd hf (by unfold scanBound at hsz; omega) ⟨.int es.size, H, I.tok _, ⟨_, rfl⟩, q'⟩

/-! slices -/
section
variable {X : Cx} {e st : Expr} {te tst : TE} {p3 pos : Pos}
/-- xs[::step], the step 1 or -1 -/
def tStepL (K : PySem.W.Frag) (te tst : TE) : TE := fun σ H Q => te σ H fun x H1 => tst σ H1 fun y H2 => ∃ a xs, x = .ref a ∧ SqL K H2 a xs ∧
  ((y = .int 1 ∧ ∀ p, H2 p = none → Q (.ref p) (upd H2 p (.lst xs))) ∨ (y = .int (-1) ∧ ∀ p, H2 p = none → Q (.ref p) (upd H2 p (.lst xs.reverse))))
theorem pick_one (items : Array Value) : slicePick items none none (some 1) = items := by
  have e : slicePick items none none (some 1) = slicePick items none none none := rfl
  rw [e]
  have z := slicePick_cut items.toList none none
  rw [Array.toArray_toList] at z
  rw [z]
  show ((items.toList.drop 0).take (items.toList.length - 0)).toArray = items
  rw [List.drop_zero, Nat.sub_zero, List.take_length, Array.toArray_toList]
theorem pe_stepL (he : PE X e te) (hst : PE X st tst) : PE X (.Subscript e (.Slice none none (some st) p3) pos) (tStepL X.K te tst) := by
  refine ⟨fun pins s σ H Q I h => ?_⟩
  refine Subscript_ (thn (he.run pins s σ H _ I h) fun v s1 ⟨x, H1, I1, r1, q1⟩ => ?_)
  refine wpAny_Slice (thn (po_none.run pins s1 σ H1 (fun o H2 => o = none ∧ H2 = H1) I1 ⟨rfl, rfl⟩) fun vl s2 ⟨l, H2, I2, pl, el, e2⟩ => ?_)
  subst el e2
  refine thn (po_none.run pins s2 σ H2 (fun o H3 => o = none ∧ H3 = H2) I2 ⟨rfl, rfl⟩) fun vu s3 ⟨u, H3, I3, pu, eu, e3⟩ => ?_
  subst eu e3
  rw [evalPart_some]
  refine thn (hst.run pins s3 σ H3 _ I3 q1) fun vs s4 ⟨y, H4, I4, ry, a, xs, ex, hx, q⟩ => ?_
  subst ex
  cases r1
  have I5 : Inv X pins σ H4 { s4 with heap := s4.heap.push { cls := .type "slice", data := .fields #[vl, vu, vs] } } := I4.kept (t' := s4.toks) fun b ob q => Heap.get?_push_of_some _ q
  obtain ⟨its, r, ht, hz⟩ := I5.list hx
  have hlen := r.length
  show wpAny (model X.prog X.w) X.A (subscriptTail e (.Slice none none (some st) p3) (.ref a) (.ref s4.heap.objs.size)) (EP X pins σ Q) X.xe { s4 with heap := s4.heap.push { cls := .type "slice", data := .fields #[vl, vu, vs] } }
  refine tail_any (ops := [.ref a, .ref s4.heap.objs.size]) ht.isList.typeIs (PySem.slot_list_getitem.lookup) ?_ (by with_unfolding_all rfl)
  rcases q with ⟨ey, q⟩ | ⟨ey, q⟩
  · subst ey
    obtain ⟨t, rfl⟩ := ry
    refine wpAny_getItem_list_slice ht.isList (Heap.IsSliceOf.new _ vl vu _) pl pu (.int 1 t) (by decide) ?_ (by rw [List.size_toArray]; omega)
    rw [pick_one]
    exact ⟨.ref _, _, I5.laid (t' := s4.toks) (o := .lst xs) (fun b ob q => Heap.get?_push_of_some _ q) (Nat.le_refl _) ⟨hz, _, 0, r, Heap.get?_push_size _ rfl⟩, rfl, q _ (I5.hok.fresh (Nat.le_refl _))⟩
  · subst ey
    obtain ⟨t, rfl⟩ := ry
    refine wpAny_getItem_list_slice ht.isList (Heap.IsSliceOf.new _ vl vu _) pl pu (.int (-1) t) (by decide) ?_ (by rw [List.size_toArray]; omega)
    rw [PySem.W.krv_pick]
    exact ⟨.ref _, _, I5.laid (t' := s4.toks) (o := .lst xs.reverse) (fun b ob q => Heap.get?_push_of_some _ q) (Nat.le_refl _) ⟨by rw [List.length_reverse]; exact hz, _, 0, r.reverse, Heap.get?_push_size _ rfl⟩, rfl, q _ (I5.hok.fresh (Nat.le_refl _))⟩

end
end S3

/-! ### S5: a text turned about, len by an own def, except with two classes -/
namespace S3
open PySem PySem.Spec PyProof.Rows L2
section
variable {X : Cx} {e st : Expr} {te tst : TE} {p1 p2 p3 pos : Pos} {k : Nat}
/-- a text's slice with the step -1 -/
def revS (z : Str) : Str := ⟨z.cps.toList.reverse.toArray⟩
def tRevS (te : TE) : TE := fun σ H Q => te σ H fun x H1 => ∃ z, x = .str z ∧ z.length ≤ sizeLine ∧ Q (.str (revS z)) H1
theorem picked_rev (z : Str) : (Builtin.Str.strSliceIndices none none (-1) z.length).filterMap (z.cps[·]?) = z.cps.toList.reverse := by
  have e : Builtin.Str.strSliceIndices none none (-1) z.length = sliceRange ((z.cps.size : Int) - 1) (-1) (-1) := by
    unfold Builtin.Str.strSliceIndices
    rfl
  rw [e, PySem.W.krv_sliceRange, PySem.W.krv_range, List.filterMap_reverse, PySem.W.krv_all]
theorem revS_len (z : Str) : (revS z).length = z.length := by simp [revS, Str.length]
theorem pe_revS (he : PE X e te) : PE X (.Subscript e (.Slice none none (some (.UnaryOp .USub (.Constant (.int 1) k p1) p2)) p3) pos) (tRevS te) := by
  refine ⟨fun pins s σ H Q I h => ?_⟩
  refine Subscript_ (thn (he.run pins s σ H _ I h) fun v s1 ⟨x, H1, I1, r1, z, ex, hz, q⟩ => ?_)
  subst ex
  obtain ⟨tz, rfl⟩ := r1
  have hst : PO X (some (.UnaryOp .USub (.Constant (.int 1) k p1) p2)) (tPart (tUn (rU fun i => .int (-i)) (tC (.int 1)))) := po_some (pe_un un_neg pe_int)
  refine wpAny_Slice (thn (po_none.run pins s1 σ H1 (fun o H2 => o = none ∧ H2 = H1) I1 ⟨rfl, rfl⟩) fun vl s2 ⟨l, H2, I2, pl, el, e2⟩ => ?_)
  subst el e2
  refine thn (po_none.run pins s2 σ H2 (fun o H3 => o = none ∧ H3 = H2) I2 ⟨rfl, rfl⟩) fun vu s3 ⟨u, H3, I3, pu, eu, e3⟩ => ?_
  subst eu e3
  refine thn (hst.run pins s3 σ H3 (fun o H4 => o = some (-1) ∧ H4 = H3) I3 ⟨1, rfl, -1, rfl, rfl, rfl⟩) fun vs s4 ⟨o, H4, I4, ps, eo, e4⟩ => ?_
  subst eo e4
  have I5 : Inv X pins σ H4 { s4 with heap := s4.heap.push { cls := .type "slice", data := .fields #[vl, vu, vs] } } := I4.kept (t' := s4.toks) fun b ob q => Heap.get?_push_of_some _ q
  show wpAny (model X.prog X.w) X.A (subscriptTail e (.Slice none none (some (.UnaryOp .USub (.Constant (.int 1) k p1) p2)) p3) (.str z tz) (.ref s4.heap.objs.size)) (EP X pins σ Q) X.xe { s4 with heap := s4.heap.push { cls := .type "slice", data := .fields #[vl, vu, vs] } }
  cases pl
  cases pu
  cases ps with
  | int i t =>
    refine tail_any (ops := [.ref s4.heap.objs.size, .str z tz]) (typeIs_str _ z tz) PySem.F.slot_str_getitem.lookup ?_ (by with_unfolding_all rfl)
    refine wpAny_getItem_str_slice (l := none) (u := none) (st := some (-1, t)) ⟨_, Heap.get?_push_size _ rfl, rfl, rfl⟩ rfl ?_
    have hp : ((slicePicked z none none (some (-1, t))).filterMap (z.cps[·]?)) = z.cps.toList.reverse := picked_rev z
    unfold sliceMade
    rw [if_neg (show ¬ ((((some (-1, t) : Option (Int × Tok)).map (·.1)).getD 1 == 1 && (slicePicked z none none (some (-1, t))).length == z.length) = true) by
      show ¬ ((((-1 : Int) == 1) && _) = true)
      rw [show ((-1 : Int) == 1) = false by decide, Bool.false_and]
      exact Bool.false_ne_true)]
    rw [hp]
    exact ⟨by show (revS z).length ≤ sizeLine; rw [revS_len]; exact hz, .str (revS z), H4, I5.tok _, ⟨_, rfl⟩, q⟩
end

/-! len(o), o an instance of an own class with __len__ -/
def rLenO (K : PySem.W.Frag) (C : Addr) (sp : Sp) : List V → Hp → VK → Prop := fun xs H Q => ∃ a dx fs, xs = [.ref a] ∧ H a = some (.ins C dx fs) ∧ sp [.ref a] H (fun v H' => ∃ n : Nat, v = .int n ∧ n < 1000000 ∧ Q (.int n) H') fun _ _ _ => False
theorem call_lenO {X : Cx} {CX : CXT} {k : Nat} {C f : Addr} {fd : FuncData} {ps : List Str} {sp : Sp} (m : Meth X.K C "__len__" f) (F : FnOk X.prog X.w X.K X.mg X.base CX k f fd ps sp) (hr : Room (k + 1) X.A) (hb : Binds X.K fd ps []) (hx : Passes CX X fun _ _ _ => False) :
    CallR X (.builtin "len") (rLenO X.K C sp) := by
  intro pins s σ H xs us Q I r h
  obtain ⟨a, dx, fs, rfl, ha, h⟩ := h
  rw [Vals.ref1 r]
  obtain ⟨mA, O, _⟩ := ins_get I.hok ha
  obtain ⟨od, J, _⟩ := O.look
  obtain ⟨mm, fr⟩ := I.fr
  refine PySem.W.len_K fr I.mod.kin J m.at_ m.fn (wpAny_call ?_)
  have hl : ([Value.ref a] ++ []).length = ps.length := by
    rw [← F.len _ _ _ _ h]
    rfl
  refine codeAny_mono (F.run X.A.in1 X.stack s H ⟨[.ref a], []⟩ ([Value.ref a] ++ []) [.ref a] _ (fun _ _ _ => False) hr.in1 I.env0.in1 (hb _ [.ref a] I.kIn hl) (show Vals [V.ref a] ([Value.ref a] ++ []) from .cons (show RelV (.ref a) (.ref a) from rfl) .nil) h) fun r s' hq => ?_
  cases r with
  | error er => exact hx pins σ H s er s' I hq
  | ok fl =>
    cases fl with
    | ret u =>
      obtain ⟨v, H', I3, rv, n, ev, hn, q3⟩ := I.after hq
      subst ev
      obtain ⟨t, rfl⟩ := rv
      exact ⟨⟨by omega, by omega⟩, .int n, H', I3.tok _, ⟨_, rfl⟩, q3⟩
    | next => exact False.elim hq
    | brk => exact False.elim hq
    | cont => exact False.elim hq

theorem flyingZ_keep {base h h' : Heap} {l : List Env} {e : Addr} {Z : Obj → Prop} (x : HandSPX.FlyingZ base l e Z h) (k : ∀ b o, h.get? b = some o → h'.get? b = some o) : HandSPX.FlyingZ base l e Z h' := by
  obtain ⟨f1, f2, f3, oe, vs, T, oT, ts, h1, h2, h3, h4, h5, h6, h7, h8, h9⟩ := x
  exact ⟨fun b o q => k b o (f1 b o q), f2, f3.of_keeps fun b o q _ => ⟨o, k b o q, rfl⟩, oe, vs, T, oT, ts, k _ _ h1, h2, h3, h4, h5, h6, k _ _ h7, h8, h9⟩
/-! try: .. except (A, B): suite -/
/-- what the clause wishes: one of the two takes it -/
def wTwo (K : PySem.W.Frag) (c1 c2 : Value) (ts : Addr → Value → Option Addr → TS) (D : Ends) : WX := fun cls d σ H => PySem.W.exmAny K cls [c1, c2] = some true ∧ ∀ a, H a = none → ts a cls d D σ H
section
variable {X : Cx} {x1 x2 : Str} {c1 c2 : Value} {body suite : List Stmt} {b₀ : Stmt} {np1 np2 tpos pos pos' : Pos} {kk : Nat} {tb : WX → TS} {ts : Addr → Value → Option Addr → TS}
theorem ps_try_two (hs : X.stack = X.env :: X.outer) (hf : X.env.frame = some X.env.locals) (hc1 : Names X x1 c1) (hc2 : Names X x2 c2)
    (hb : ∀ (W : WX) (pn : List (Addr × Obj)) (xe : Value → Shared → Prop), Takes (X.tr pn xe) W → PassesOwn (model X.prog X.w) X.A X.env xe → PSs (X.tr pn xe) body (tb W))
    (hsu : ∀ (a : Addr) (oe : Obj) (cls : Value) (d : Option Addr) (pn : List (Addr × Obj)), Zc cls d oe → (∃ vs, oe.data = .fields vs) → PSs (X.suite a ((a, oe) :: pn)) (b₀ :: suite) (ts a cls d)) :
    PS X (.Try body [.ExceptHandler (some (.Tuple [.Name x1 np1, .Name x2 np2] kk tpos)) none (b₀ :: suite) pos'] [] [] pos) (fun D σ H => tb (wTwo X.K c1 c2 ts D) D σ H) := by
  refine ⟨fun pins s σ H D I h => ?_⟩
  have ok := I.ok
  have hfr : X.A.frames = some (X.env :: X.outer) := by rw [ok.frames, hs]
  refine wpAny_Try_except ?_
  refine wpAny_mono ((hb (wTwo X.K c1 c2 ts D) (X.pn ++ pins) _ (fun u s' xx => ?_) PassesOwn.looking).run [] s σ H D (I.toTry _) h) (fun f s1 hsp => ?_) (fun e s1 he => he)
  · obtain ⟨a, B, sI, pins', σ', H', cls, d, rfl, J', nb, up, sky, na, os, ag, hb1, hyes⟩ := xx
    have J : Inv X pins σ' H' sI := J'.ofTry ok
    have sky' : Sky B (X.env :: X.outer) a (Zc cls d) X.env.locals s'.heap := by rw [← hs]; exact sky
    show wpAny (model X.prog X.w) X.A (noteFrame (.ref a) X.env) _ _ _
    refine Sky.land Zc.steady hfr hf sky' fun h3 fl3 up3 => ?_
    have J3 : Inv X pins σ' H' { s' with heap := h3 } := J.landed nb fl3.1 (up.trans up3) os ag
    obtain ⟨oe3, vs3, he3, hz3, hd3⟩ := fl3.there
    have nfr : a ∉ frs (X.env :: X.outer) := fun hm => by
      obtain ⟨_, o', e', hnf⟩ := fl3.2.2.1.mem hm
      rw [he3] at e'; cases e'
      exact hnf _ hd3
    have nL : a ≠ X.env.locals := fun z => nfr (List.mem_filterMap.mpr ⟨X.env, List.mem_cons_self, by rw [hf, z]⟩)
    have nF : a ∉ X.fs := fun hm => by
      obtain ⟨e, he, q⟩ := List.mem_filterMap.mp hm
      exact nfr (List.mem_filterMap.mpr ⟨e, List.mem_cons_of_mem _ he, q⟩)
    have S3 := J3.suite he3 hd3 na nL nF
    refine wpAny_handleBy_cons (codeAny_handlers_test ?_) (by intro q; cases q)
    have nm : ∀ {x : Str} {c : Value} {np : Pos} {Q : Value → Shared → Prop} {E : Value → Shared → Prop}, Names X x c → Q c { s' with heap := h3 } → wpAny (model X.prog X.w) (X.A.mark (some (.ref a))) (eval (.Name x np) X.env) Q E { s' with heap := h3 } := fun {x c np Q E} hc q => by
      obtain ⟨hg, hdbg, hm | ⟨hm, hv, hnn⟩⟩ := hc
      · exact ld_glob (X := X.suite a ((a, oe3) :: (X.pn ++ pins))) S3 hg hm q hdbg
      · exact ld_blt (X := X.suite a ((a, oe3) :: (X.pn ++ pins))) S3 hg hm hv q hnn hdbg
    refine Tuple_ (spliced_more (nm hc1 (spliced_more (nm hc2 (spliced_none ?_)))))
    refine wpAny_newObj_type ?_ (by show 2 ≤ sizeLine; decide)
    have kp : ∀ b o, h3.get? b = some o → (h3.push { cls := .type "tuple", data := .seq [c1, c2].toArray }).get? b = some o := fun b o q => Heap.get?_push_of_some _ q
    have fl4 := flyingZ_keep fl3 kp
    have K4 : X.K.In (h3.push { cls := .type "tuple", data := .seq [c1, c2].toArray }) := fun b o q => kp b o (J3.kIn b o q)
    have LT : PySem.W.Looks (model X.prog X.w) (h3.push { cls := .type "tuple", data := .seq [c1, c2].toArray }) (typeOf (.ref a)) cls := fun A Q E s k q => wpAny_typeOf_ref (k _ _ (kp _ _ he3)) (by rw [hz3.1]; exact q)
    have LM := PySem.W.exm_tup2 (M := model X.prog X.w) K4 LT (tp := h3.objs.size) (Heap.get?_push_size _ rfl) hb1
    refine LM.here ?_
    refine codeAny_handlers_suite ?_
    refine HandSPX.lands_againZ fl4 fun h4 fl5 up4 => ?_
    have J4 : Inv X pins σ' H' { s' with heap := h4 } := J.landed nb fl5.1 (((up.trans up3).trans (.of_keeps kp)).trans up4) os ag
    obtain ⟨oe4, vs4, he4, hz4, hd4⟩ := fl5.there
    have S4 := J4.suite he4 hd4 na nL nF
    refine wpAny_mono ((hsu a oe4 cls d (X.pn ++ pins) hz4 ⟨_, hd4⟩).run [] _ _ H' _ S4 (hyes a na)) (fun f s6 hsp => ?_) (fun _ _ z => False.elim z)
    cases f with
    | next =>
      obtain ⟨σ6, H6, S6, q6⟩ := hsp
      exact ⟨_, _, S6.unsuite ok, q6⟩
    | brk =>
      obtain ⟨σ6, H6, S6, q6⟩ := hsp
      exact ⟨_, _, S6.unsuite ok, q6⟩
    | cont =>
      obtain ⟨σ6, H6, S6, q6⟩ := hsp
      exact ⟨_, _, S6.unsuite ok, q6⟩
    | ret u =>
      obtain ⟨v6, σ6, H6, S6, r6, q6⟩ := hsp
      exact ⟨_, _, _, S6.unsuite ok, r6, q6⟩
  · cases f with
    | next =>
      obtain ⟨σ', H', J', q⟩ := hsp
      exact wpAny_execs_nil ⟨σ', H', J'.ofTry ok, q⟩
    | brk =>
      obtain ⟨σ', H', J', q⟩ := hsp
      exact ⟨σ', H', J'.ofTry ok, q⟩
    | cont =>
      obtain ⟨σ', H', J', q⟩ := hsp
      exact ⟨σ', H', J'.ofTry ok, q⟩
    | ret u =>
      obtain ⟨v, σ', H', J', r, q⟩ := hsp
      exact ⟨v, σ', H', J'.ofTry ok, r, q⟩
end
end S3

/-! ### M0: the data and what is reckoned with them -/
namespace S3
open PySem PySem.Spec PyProof.Rows L2

abbrev Bel := List (Int × Int)
abbrev Sprd := List Bel
abbrev Ans := List Str
def pP (p : Int × Int) : PyData := .tuple [.int p.1, .int p.2]
def pB (b : Bel) : PyData := .list (b.map pP)
def pS (s : Sprd) : PyData := .list (s.map pB)
def pT (b : Bel) : PyData := .tuple (b.map pP)
def pK (s : Sprd) : PyData := .tuple (s.map pT)
def pW (ws : List Str) : PyData := .list (ws.map .str)
def pA (a : Ans) : PyData := .tuple (a.map .str)
def kP (p : Int × Int) : NK := .tup [.num p.1, .num p.2]
def kT (b : Bel) : NK := .tup (b.map kP)
def kS (s : Sprd) : NK := .tup (s.map kT)
def kA (a : Ans) : NK := .tup (a.map .text)
theorem datas_map {α : Type} {f : α → NK} {g : α → PyData} (h : ∀ a, (f a).data = g a) : ∀ l : List α, NestedKey.datas (l.map f) = l.map g
  | [] => rfl
  | a :: l => by
    show (f a).data :: NestedKey.datas (l.map f) = g a :: l.map g
    rw [h a, datas_map h l]
theorem kP_data (p : Int × Int) : (kP p).data = pP p := rfl
theorem kT_data (b : Bel) : (kT b).data = pT b := by
  show PyData.tuple (NestedKey.datas (b.map kP)) = _
  rw [datas_map kP_data]; rfl
theorem kS_data (s : Sprd) : (kS s).data = pK s := by
  show PyData.tuple (NestedKey.datas (s.map kT)) = _
  rw [datas_map kT_data]; rfl
theorem kA_data (a : Ans) : (kA a).data = pA a := by
  show PyData.tuple (NestedKey.datas (a.map .text)) = _
  rw [datas_map (g := PyData.str) (fun _ => rfl)]; rfl
theorem depthAll_map {α : Type} {f : α → NK} {n : Nat} (h : ∀ a, (f a).depth ≤ n) : ∀ l : List α, NestedKey.depthAll (l.map f) ≤ n
  | [] => Nat.zero_le _
  | a :: l => by
    show max (f a).depth (NestedKey.depthAll (l.map f)) ≤ n
    exact Nat.max_le.mpr ⟨h a, depthAll_map h l⟩
theorem kP_depth (p : Int × Int) : (kP p).depth ≤ 1 := by simp [kP, NestedKey.depth, NestedKey.depthAll]
theorem kT_depth (b : Bel) : (kT b).depth ≤ 2 := by
  have := depthAll_map kP_depth b
  simp only [kT, NestedKey.depth]; omega
theorem kS_depth (s : Sprd) : (kS s).depth ≤ 8 := by
  have := depthAll_map kT_depth s
  simp only [kS, NestedKey.depth]; omega
theorem kA_depth (a : Ans) : (kA a).depth ≤ 8 := by
  have := depthAll_map (f := NestedKey.text) (n := 0) (fun x => by simp [NestedKey.depth]) a
  simp only [kA, NestedKey.depth]; omega
theorem map_inj {α β : Type} {f : α → β} (h : ∀ a b, f a = f b → a = b) : ∀ {l m : List α}, l.map f = m.map f → l = m
  | [], [], _ => rfl
  | [], _ :: _, e => by simp at e
  | _ :: _, [], e => by simp at e
  | a :: l, b :: m, e => by
    rw [List.map_cons, List.map_cons] at e
    injection e with e1 e2
    rw [h a b e1, map_inj h e2]
theorem kP_inj (a b : Int × Int) (h : kP a = kP b) : a = b := by
  obtain ⟨a1, a2⟩ := a
  obtain ⟨b1, b2⟩ := b
  simp only [kP, NestedKey.tup.injEq, List.cons.injEq, NestedKey.num.injEq] at h
  rw [h.1, h.2.1]
theorem kT_inj (a b : Bel) (h : kT a = kT b) : a = b := map_inj kP_inj (by injection h)
theorem kS_inj (a b : Sprd) (h : kS a = kS b) : a = b := map_inj kT_inj (by injection h)
theorem kA_inj (a b : Ans) (h : kA a = kA b) : a = b := map_inj (f := NestedKey.text) (fun x y e => by injection e) (by injection h)

/-! goals -/
inductive Goal where
  | now | first
  | inn (xs : List Int)
  | grp (gs : List (List Int))
def pG : Goal → PyData
  | .now => .tuple [.str "now"]
  | .first => .tuple [.str "first"]
  | .inn xs => .tuple [.str "in", .list (xs.map .int)]
  | .grp gs => .tuple [.str "group", .list (gs.map fun g => .list (g.map .int))]
/-- what a case is -/
structure CS where
  n : Nat
  poss : List Int
  lamps : List Str
  usable : List Str
  step : Int → Str → Option (Int × Ans)
/-- all nows stand -/
def NowOk (n : Nat) (b : Bel) : Prop := ∀ p ∈ b, 0 ≤ p.2 ∧ p.2 < (n : Int)
def GoalOk (n : Nat) (poss : List Int) : Goal → Prop
  | .now => True
  | .first => True
  | .inn xs => ∀ x ∈ xs, 0 ≤ x ∧ x < (n : Int)
  | .grp gs => ∀ s ∈ poss, gs.flatten.count s = 1
def meetsB : Goal → Bel → Bool
  | .now, b => b.all fun p => p.2 == (b.headD (0, 0)).2
  | .first, b => b.length == 1
  | .inn xs, b => b.all fun p => xs.contains p.2
  | .grp gs, b => match gs.filter fun g => g.contains (b.headD (0, 0)).1 with
    | g :: _ => b.all fun p => g.contains p.1
    | [] => false
def meetsS (g : Goal) (s : Sprd) : Bool := s.all (meetsB g)
/-! presses -/
def harmB (st : Int → Option (Int × Ans)) (b : Bel) : Bool := b.all fun p => (st p.2).isSome
def harmS (st : Int → Option (Int × Ans)) (s : Sprd) : Bool := s.all (harmB st)
def ensureP (ps : List (Ans × Bel)) (a : Ans) : List (Ans × Bel) := if a ∈ ps.map (·.1) then ps else ps ++ [(a, [])]
def pushP (ps : List (Ans × Bel)) (a : Ans) (x : Int × Int) : List (Ans × Bel) := ps.map fun q => if q.1 = a then (q.1, q.2 ++ [x]) else q
def addPart (ps : List (Ans × Bel)) (a : Ans) (x : Int × Int) : List (Ans × Bel) := pushP (ensureP ps a) a x
def partStep (st : Int → Option (Int × Ans)) (ps : List (Ans × Bel)) (p : Int × Int) : List (Ans × Bel) := match st p.2 with
  | some (af, a) => addPart ps a (p.1, af)
  | none => ps
def partsOf (st : Int → Option (Int × Ans)) (b : Bel) : List (Ans × Bel) := b.foldl (partStep st) []
def sortA (ps : List (Ans × Bel)) : List (Ans × Bel) := ps.mergeSort (PySem.W.dataLe false fun q => pA q.1)
def sortS (s : Sprd) : Sprd := s.mergeSort (PySem.W.dataLe false pB)
def partsB (st : Int → Option (Int × Ans)) (b : Bel) : Sprd := (sortA (partsOf st b)).map (·.2)
def pressS (st : Int → Option (Int × Ans)) (s : Sprd) : Sprd := sortS (s.flatMap (partsB st))
def CS.st (c : CS) (b : Str) : Int → Option (Int × Ans) := fun i => c.step i b
def CS.start (c : CS) : Bel := c.poss.map fun s => (s, s)
/-! the search by breadth -/
def expand (c : CS) (s : Sprd) (row : List Str) (rows : List (Sprd × List Str)) : List Str → List (Sprd × List Str)
  | [] => rows
  | b :: bs => expand c s row (if harmS (c.st b) s = true then (if pressS (c.st b) s ∈ rows.map (·.1) then rows else rows ++ [(pressS (c.st b) s, row ++ [b])]) else rows) bs
def bfs (c : CS) (g : Goal) : Nat → List (Sprd × List Str) → Nat → Option (List Str) × List (Sprd × List Str)
  | 0, rows, _ => (none, rows)
  | f + 1, rows, i => match rows[i]? with
    | none => (none, rows)
    | some (s, row) => if meetsS g s = true then (some row, rows) else bfs c g f (expand c s row rows c.usable) (i + 1)
def rows0 (c : CS) : List (Sprd × List Str) := [([c.start], [])]
def most : Nat := 1000000
def search (c : CS) (g : Goal) : Option (List Str) × List (Sprd × List Str) := bfs c g most (rows0 c) 0

/-! dicts and tables that are known for good -/
def OptR (K : PySem.W.Frag) (F : Hp) : Option V → Option PyData → Prop
  | none, none => True
  | some v, some d => Dp K F v d
  | _, _ => False
def DictF (K : PySem.W.Frag) (F : Hp) (d : Addr) (f : Str → Option PyData) : Prop := ∃ kvs, F d = some (.dK kvs) ∧ ∀ b : Str, OptR K F (valV kvs (Sum.inr b)) (f b)
def TabF (K : PySem.W.Frag) (F : Hp) (v : V) (fs : List (Str → Option PyData)) : Prop := ∃ a xs, v = .ref a ∧ SqL K F a xs ∧ xs.length = fs.length ∧ ∀ (i : Nat) x, xs[i]? = some x → ∃ d f, x = .ref d ∧ fs[i]? = some f ∧ DictF K F d f
section
variable {K : PySem.W.Frag} {F F' : Hp} {d : Addr} {f : Str → Option PyData} {fs : List (Str → Option PyData)} {v : V}
theorem OptR.mono (e : Same F F') : ∀ {o : Option V} {p : Option PyData}, OptR K F o p → OptR K F' o p
  | none, none, _ => True.intro
  | some _, some _, h => dp_same e _ _ h
  | some _, none, h => h.elim
  | none, some _, h => h.elim
theorem DictF.mono (h : DictF K F d f) (e : Same F F') : DictF K F' d f := let ⟨kvs, h1, h2⟩ := h; ⟨kvs, e _ _ h1, fun b => (h2 b).mono e⟩
theorem TabF.mono (h : TabF K F v fs) (e : Same F F') : TabF K F' v fs := by
  obtain ⟨a, xs, h1, h2, h3, h4⟩ := h
  refine ⟨a, xs, h1, same_l e h2, h3, fun i x hx => ?_⟩
  obtain ⟨d, f, a1, a2, a3⟩ := h4 i x hx
  exact ⟨d, f, a1, a2, a3.mono e⟩
/-- the i-th dict of a table -/
theorem TabF.at (h : TabF K F v fs) {i : Nat} {f : Str → Option PyData} (hf : fs[i]? = some f) : ∃ a xs d, v = .ref a ∧ SqL K F a xs ∧ xs[i]? = some (.ref d) ∧ DictF K F d f := by
  obtain ⟨a, xs, h1, h2, h3, h4⟩ := h
  have hi : i < xs.length := by rw [h3]; exact (List.getElem?_eq_some_iff.mp hf).1
  obtain ⟨d, f', a1, a2, a3⟩ := h4 i xs[i] (List.getElem?_eq_getElem hi)
  rw [hf] at a2
  cases a2
  exact ⟨a, xs, d, h1, h2, by rw [List.getElem?_eq_getElem hi, a1], a3⟩
/-- a key is asked for -/
theorem DictF.get {H : Hp} (h : DictF K F d f) (e : Same F H) (b : Str) : ∃ o, DGet H d (.str b) o ∧ OptR K F o (f b) := by
  obtain ⟨kvs, h1, h2⟩ := h
  exact ⟨_, DGet.k (k := Sum.inr b) (e _ _ h1), h2 b⟩
end
/-- a step as the program keeps it -/
def pStep (o : Option (Int × Ans)) : Option PyData := o.map fun p => .tuple [.int p.1, pA p.2]
def CS.tab (c : CS) : List (Str → Option PyData) := (List.range c.n).map fun (i : Nat) (b : Str) => pStep (c.step (i : Int) b)
theorem CS.tab_at (c : CS) {i : Nat} (h : i < c.n) : c.tab[i]? = some fun b => pStep (c.step (i : Int) b) := by
  unfold CS.tab
  rw [List.getElem?_map, List.getElem?_range h]
  rfl
/-! the objects of the classes -/
/-- a device: its names, for each state its steps -/
structure DV where
  btn : List Str
  lmp : List Str
  steps : List (Str → Option PyData)
def DevAt (K : PySem.W.Frag) (DC : Addr) (F : Hp) (v : V) (d : DV) : Prop := ∃ a dx b l t, v = .ref a ∧ F a = some (.ins DC dx [("button_names", b), ("lamp_names", l), ("steps", t)]) ∧ Dp K F b (pW d.btn) ∧ Dp K F l (pW d.lmp) ∧ TabF K F t d.steps
def CaseAt (K : PySem.W.Frag) (CC DC : Addr) (F : Hp) (v : V) (c : CS) (dv : DV) : Prop := ∃ a dx w p l u t, v = .ref a ∧ F a = some (.ins CC dx [("whole", w), ("possible", p), ("watched", l), ("usable", u), ("table", t)]) ∧
  DevAt K DC F w dv ∧ dv.steps.length = c.n ∧ Dp K F p (.list (c.poss.map .int)) ∧ Dp K F l (pW c.lamps) ∧ Dp K F u (pW c.usable) ∧ TabF K F t c.tab
section
variable {K : PySem.W.Frag} {CC DC : Addr} {F F' : Hp} {v : V} {c : CS} {dv : DV}
theorem DevAt.mono (h : DevAt K DC F v dv) (e : Same F F') : DevAt K DC F' v dv := by
  obtain ⟨a, dx, b, l, t, h1, h2, h3, h4, h5⟩ := h
  exact ⟨a, dx, b, l, t, h1, e _ _ h2, dp_same e _ _ h3, dp_same e _ _ h4, h5.mono e⟩
theorem CaseAt.mono (h : CaseAt K CC DC F v c dv) (e : Same F F') : CaseAt K CC DC F' v c dv := by
  obtain ⟨a, dx, w, p, l, u, t, h1, h2, h3, h4, h5, h6, h7, h8⟩ := h
  exact ⟨a, dx, w, p, l, u, t, h1, e _ _ h2, h3.mono e, h4, dp_same e _ _ h5, dp_same e _ _ h6, dp_same e _ _ h7, h8.mono e⟩
end
end S3

/-! ### P0: the text by its places, what stands behind the top -/
namespace S3
open PySem PySem.Spec PyProof.Rows L2
/-- built-in names, the two classes, their attributes -/
structure Tx (K : PySem.W.Frag) (mg : Str → Option Value) (CC DC : Addr) : Prop where
  len : mg "len" = none
  all : mg "all" = none
  sorted : mg "sorted" = none
  list : mg "list" = none
  tuple : mg "tuple" = none
  int : mg "int" = none
  range : mg "range" = none
  zip : mg "zip" = none
  enumerate : mg "enumerate" = none
  min : mg "min" = none
  isinstance : mg "isinstance" = none
  set : mg "set" = none
  cc : Cls K CC
  dc : Cls K DC
  whole : NoAttr K CC "whole"
  possible : NoAttr K CC "possible"
  watched : NoAttr K CC "watched"
  usable : NoAttr K CC "usable"
  table : NoAttr K CC "table"
  button_names : NoAttr K DC "button_names"
  lamp_names : NoAttr K DC "lamp_names"
  steps : NoAttr K DC "steps"
abbrev FunT (K : PySem.W.Frag) (x qual : Str) (st : Stmt) (f : Addr) (fd : FuncData) : Prop := FunD K x qual (defArgs st) (defBody st) (defScope st) [] [] f fd
/-- a def of the top; a method; a property's getter -/
structure DefX (K : PySem.W.Frag) (mg : Str → Option Value) (x : Str) (st : Stmt) : Prop where
  ex : ∃ f fd, FunT K x x st f fd ∧ mg x = some (.ref f)
structure MetX (K : PySem.W.Frag) (C : Addr) (m qual : Str) (st : Stmt) : Prop where
  ex : ∃ f fd, FunT K m qual st f fd ∧ Meth K C m f ∧ Cls K C
structure PropX (K : PySem.W.Frag) (C : Addr) (m qual : Str) (st : Stmt) : Prop where
  ex : ∃ p f fd, FunT K m qual st f fd ∧ PropOf K C m p f ∧ Cls K C
/-- a property that may be read; sp: its getter -/
structure Prp (P : Program) (w : World) (K : PySem.W.Frag) (mg : Str → Option Value) (base : Heap) (k : Nat) (C : Addr) (m : Str) (sp : Sp) : Prop where
  ex : ∃ (p g : Addr) (fd : FuncData) (ps : List Str), Cls K C ∧ PropOf K C m p g ∧ FnOk P w K mg base CX0 k g fd ps sp ∧ Binds K fd ps []
/-- as C8.Cal, of any exceptions -/
structure CalX (CX : CXT) (P : Program) (w : World) (K : PySem.W.Frag) (mg : Str → Option Value) (base : Heap) (k : Nat) (x : Str) (sp : Sp) : Prop where
  ex : ∃ (f : Addr) (fd : FuncData) (ps : List Str), FnOk P w K mg base CX k f fd ps sp ∧ mg x = some (.ref f) ∧ PySem.W.keepIn K (.ref f) = true ∧ Binds K fd ps []
section
variable {P : Program} {w : World} {K : PySem.W.Frag} {mg : Str → Option Value} {base : Heap} {x m qual : Str} {C : Addr} {st : Stmt} {N ps : List Str} {k : Nat} {sp : Sp}
/-- how the arguments of a def without defaults bind -/
def BindsBy (x qual : Str) (st : Stmt) (ps : List Str) : Prop := ∀ (kV doc pm : Value) (an : Option Addr) (cdv ct : Value) (us : List Value), us.length = ps.length → bindArgs (PySem.W.fnOf x qual (defArgs st) (defBody st) (defScope st) .none kV doc pm an cdv ct) ⟨us, []⟩ = pure (ps.zip us)
/-- a body that keeps a promise -/
def BodyOk (P : Program) (w : World) (K : PySem.W.Frag) (mg : Str → Option Value) (base : Heap) (qual : Str) (st : Stmt) (N : List Str) (k : Nat) (sp : Sp) : Prop :=
  ∀ (f : Addr) (cdv : Value) (A : Around) (outer : List Env) (s : Shared) (H : Hp) (vs : List V) (Q : VK) (E : XK), Room k (A.deeper (envOfC qual (defScope st) s.heap.objs.size f cdv)) → sp vs H Q E →
    ∃ t, PSs (cxOf CX0 P w K mg base N qual (defScope st) f cdv A outer s H E).nox (defBody st) t ∧ t { nx := fun _ H' => Q .non H', rt := Q } (start N vs) H
theorem FunT.ok {f : Addr} {fd : FuncData} (F : FunT K x qual st f fd) (S : FnScope N ps (defScope st)) (len : ∀ vs H Q E, sp vs H Q E → vs.length = ps.length) (hb : BodyOk P w K mg base qual st N k sp) : FnOk P w K mg base CX0 (k + 1) f fd ps sp :=
  FunD.ok F S len fun cdv A outer s H vs Q E hr h => by
    obtain ⟨t, h1, h2⟩ := hb f cdv A outer s H vs Q E hr h
    exact ⟨t, h1.nox, h2⟩
theorem calD (D : DefX K mg x st) (b : BindsBy x x st ps) (S : FnScope N ps (defScope st)) (len : ∀ vs H Q E, sp vs H Q E → vs.length = ps.length) (hb : BodyOk P w K mg base x st N k sp) : C8.Cal P w K mg base (k + 1) x sp [] := by
  obtain ⟨f, fd, F, hm⟩ := D.ex
  exact ⟨f, fd, ps, [], FunT.ok F S len hb, hm, F.kp, F.bindsN b, .nil⟩
theorem metD (D : MetX K C m qual st) (b : BindsBy m qual st ps) (S : FnScope N ps (defScope st)) (len : ∀ vs H Q E, sp vs H Q E → vs.length = ps.length) (hb : BodyOk P w K mg base qual st N k sp) : C8.Met P w K mg base (k + 1) C m sp [] := by
  obtain ⟨f, fd, F, hm, hc⟩ := D.ex
  exact ⟨f, fd, ps, [], hc, hm, FunT.ok F S len hb, F.bindsN b, .nil⟩
theorem prpD (D : PropX K C m qual st) (b : BindsBy m qual st ps) (S : FnScope N ps (defScope st)) (len : ∀ vs H Q E, sp vs H Q E → vs.length = ps.length) (hb : BodyOk P w K mg base qual st N k sp) : Prp P w K mg base (k + 1) C m sp := by
  obtain ⟨p, f, fd, F, hm, hc⟩ := D.ex
  exact ⟨p, f, fd, ps, hc, hm, FunT.ok F S len hb, F.bindsN b⟩
end
section
variable {X : Cx} {k j : Nat} {C : Addr} {m : Str} {sp : Sp} {pos : Pos} {e : Expr} {ta : TE}
theorem pe_pr (c : Prp X.prog X.w X.K X.mg X.base k C m sp) (hr : Room j X.A) (hk : k + 1 ≤ j) (he : PE X e ta) (hab : attributeBase e m X.env (eval e X.env) = eval e X.env := by rfl) : PE X (.Attribute e m pos) (tProp C sp [] E0 ta) := by
  obtain ⟨p, g, fd, ps, hc, hp, F, b⟩ := c.ex
  exact pe_prop he hc hp F (hr.mono hk) b .nil pass0 hab
end
theorem up {A : Around} {k : Nat} (n : Nat) (hr : Room k A) (h : n ≤ 64 := by decide) : A.units + n < cLine := Nat.lt_of_le_of_lt (Nat.add_le_add_left h _) hr.units
/-- frames: what a call without a tracked answer leaves -/
theorem Gr.ext {S : Addr → Prop} {F H F' H1 H2 : Hp} (g : Gr S F H F' H1) (e : Same H1 H2) : Gr S F H F' H2 :=
  ⟨g.ff, g.fh.trans e, fun a o n h => e _ _ (g.hh a o n h), fun a h => by
    have z := g.dom a h
    cases q : H1 a with
    | none => exact absurd q z
    | some o => exact some_ne (e _ _ q), g.no⟩
theorem same_new {H : Hp} {p : Addr} {o : HO} (hp : H p = none) : Same H (upd H p o) := same_upd (.refl _) hp
theorem same_same {H H' : Hp} {p : Addr} {o : HO} (e : Same H H') (hp : H p = none) : Same H (upd H' p o) := same_upd e hp
end S3

/-! ### S6: rules that name the written part, for the bodies of comprehensions -/
namespace S3
open PySem PySem.Spec PyProof.Rows L2
section
variable {X : Cx} (P : Program) (w : World) (K : PySem.W.Frag)
theorem pg_tupK (hK : X.K = K) {es : List Expr} {k : Nat} {pos : Pos} {t : TGs} (n : Nat) (hc : X.calm = true) (h : PGs X es t)
    (hn : (assignEach es X.env).length = n := by rfl) (hst : (assignEach es X.env).findIdx? (·.1) = none := by rfl) : PG X (.Tuple es k pos) (gTup K n t) := by subst hK; exact pg_tup hc h hn hst
theorem pe_fldK (hK : X.K = K) {e : Expr} {ta : TE} {f : Str} {pos : Pos} (he : PE X e ta) (hb : attributeBase e f X.env (eval e X.env) = eval e X.env) : PE X (.Attribute e f pos) (tFld K ta f) := by subst hK; exact pe_fld he hb
theorem ix_listK (hK : X.K = K) : IxR X (rIxL K) := by subst hK; exact ix_list
theorem ix_tupK (hK : X.K = K) : IxR X (rIxT K) := by subst hK; exact ix_tup
def rLenK (K : PySem.W.Frag) : List V → Hp → VK → Prop := fun xs H Q => ∃ p ys, xs = [.ref p] ∧ (SqL K H p ys ∨ SqT K H p ys) ∧ Q (.int ys.length) H
theorem call_len_seqK (hK : X.K = K) : CallR X (.builtin "len") (rLenK K) := by subst hK; exact call_len_seq
theorem op_in_seqK (hK : X.K = K) : OpR X (compareOp .In) (rIn K false) := by subst hK; exact op_in_seq
theorem op_notIn_seqK (hK : X.K = K) : OpR X (compareOp .NotIn) (rIn K true) := by subst hK; exact op_notIn_seq
theorem op_eqDK (hK : X.K = K) (hu : X.A.units + 64 < cLine) : OpR X (compareOp .Eq) (rEqD K) := by subst hK; exact op_eqD hu
theorem op_neDK (hK : X.K = K) (hu : X.A.units + 64 < cLine) : OpR X (compareOp .NotEq) (rNeD K) := by subst hK; exact op_neD hu
def rListOf (K : PySem.W.Frag) : List V → Hp → VK → Prop := fun xs H Q => ∃ p ys, xs = [.ref p] ∧ (SqL K H p ys ∨ SqT K H p ys) ∧ ∀ l, H l = none → Q (.ref l) (upd H l (.lst ys))
theorem call_list_ofK (hK : X.K = K) : CallR X (.type "list") (rListOf K) := by subst hK; exact call_list_of
def rTupOf (K : PySem.W.Frag) : List V → Hp → VK → Prop := fun xs H Q => ∃ p ys, xs = [.ref p] ∧ ((SqL K H p ys ∧ ∀ l, H l = none → Q (.ref l) (upd H l (.tup ys))) ∨ (SqT K H p ys ∧ Q (.ref p) H))
theorem call_tuple_ofK (hK : X.K = K) : CallR X (.type "tuple") (rTupOf K) := by subst hK; exact call_tuple_of
theorem cr_allK (hK : X.K = K) (hc : X.calm = true) : CallR X (.builtin "all") (rAll K) := by subst hK; exact cr_all hc
theorem sl_listK (hK : X.K = K) : SlR X (rSlL K) := by subst hK; exact sl_list
theorem pi_listK (hK : X.K = K) {tg l : Expr} {tl : TE} (hl : PE X l tl) : PI X tg l (iList K tl) := by subst hK; exact pi_list hl
theorem pi_tupK (hK : X.K = K) {tg l : Expr} {tl : TE} (hl : PE X l tl) : PI X tg l (iTup K tl) := by subst hK; exact pi_tup hl
theorem mt_lcountK (hK : X.K = K) : MtR X "list.count" (rCntI K) := by subst hK; exact mt_lcount
theorem call_isiK (hK : X.K = K) : CallR X (.builtin "isinstance") (rIsi K) := by subst hK; exact call_isi
theorem pe_stepLK (hK : X.K = K) {e st : Expr} {te tst : TE} {p3 pos : Pos} (he : PE X e te) (hst : PE X st tst) : PE X (.Subscript e (.Slice none none (some st) p3) pos) (tStepL K te tst) := by subst hK; exact pe_stepL he hst
theorem cr_sortDK (hK : X.K = K) (hu : X.A.units + 40 < cLine) : CallR X (.builtin "sorted") (rSortD K) := by subst hK; exact cr_sortD hu
theorem cr_sortedK (hK : X.K = K) : CallR X (.builtin "sorted") (rSorted K) := by subst hK; exact cr_sorted
theorem cr_setLK (hK : X.K = K) (hw : X.w = w) (hc : X.calm = true) : CallR X (.type "set") (rSetL K w) := by subst hK hw; exact cr_setL hc
theorem cr_lenSK (hw : X.w = w) : CallR X (.builtin "len") (rLenS w) := by subst hw; exact cr_lenS
theorem pe_bmK (hK : X.K = K) {T : String} {name : Str} {id : String} {r : V → List V → Hp → VK → Prop} {o e : Expr} {es : List Expr} {to : TE} {t : TA} {apos cpos : Pos} (pa : PlainAttrs T) (slot : Slot T name id) (hty : typeOf (.builtin id) = pure (.type "method_descriptor")) (hm : MtR X id r) (ho : PE X o to) (ha : PA X (e :: es) t)
    (hbase : attributeBase o name X.env (eval o X.env) = eval o X.env := by rfl)
    (hfew : ((backTo cpos (starEach (e :: es) X.env)).all (fun x => !x.1) && (backToKw cpos (keywordEach [] X.env)).all (fun x => x.1.isSome)
      && decide ((e :: es).length + ([] : List Keyword).length + (if ([] : List Keyword).isEmpty then 0 else 1) < 30)) = true := by rfl)
    (hline : (apos.endLine == cpos.line) = true := by rfl) (hs : starEach (e :: es) X.env = (false, eval e X.env) :: starEach es X.env := by rfl) (hplain : (backTo cpos (starEach es X.env)).any (·.1) = false := by rfl) :
    PE X (.Call (.Attribute o name apos) (e :: es) [] cpos) (tBM K T r to t) := by subst hK; exact pe_bm pa slot hty hm ho ha hbase hfew hline hs hplain
end
/-! dicts whose keys are nested, by their parts -/
section
variable (P : Program) (w : World) (K : PySem.W.Frag)
def DNK (P : Program) (w : World) (K : PySem.W.Frag) (H : Hp) (a : Addr) (y : V) (o : Option V) : Prop := ∃ es b k, H a = some (dnO P w a es) ∧ KeysAt K H es ∧ y = .ref b ∧ Dp K H (.ref b) k.data ∧ k.depth ≤ 8 ∧ o = atN es k
def tNGetK (P : Program) (w : World) (K : PySem.W.Frag) (td ty : TE) : TE := fun σ H Q => td σ H fun x H1 => ty σ H1 fun y H2 => ∃ a v, x = .ref a ∧ DNK P w K H2 a y (some v) ∧ Q v H2
def tNInK (P : Program) (w : World) (K : PySem.W.Frag) (ty td : TE) : TE := fun σ H Q => ty σ H fun y H1 => td σ H1 fun x H2 => ∃ a o, x = .ref a ∧ DNK P w K H2 a y o ∧ Q (.bl o.isSome) H2
def tNNotInK (P : Program) (w : World) (K : PySem.W.Frag) (ty td : TE) : TE := fun σ H Q => ty σ H fun y H1 => td σ H1 fun x H2 => ∃ a o, x = .ref a ∧ DNK P w K H2 a y o ∧ Q (.bl (!o.isSome)) H2
variable {X : Cx} {o i : Expr} {td ty : TE} {pos : Pos}
theorem pe_ngetK (hP : X.prog = P) (hw : X.w = w) (hK : X.K = K) (hu : X.A.units + 9 < cLine) (ho : PE X o td) (hi : PE X i ty) (hs : NoSl i) : PE X (.Subscript o i pos) (tNGetK P w K td ty) := by subst hP hw hK; exact pe_nget hu ho hi hs
theorem pc_ninK (hP : X.prog = P) (hw : X.w = w) (hK : X.K = K) (hu : X.A.units + 9 < cLine) (hi : PE X i ty) (ho : PE X o td) : PC X .In i o (tNInK P w K ty td) := by subst hP hw hK; exact pc_nin hu hi ho
theorem pc_nnotinK (hP : X.prog = P) (hw : X.w = w) (hK : X.K = K) (hu : X.A.units + 9 < cLine) (hi : PE X i ty) (ho : PE X o td) : PC X .NotIn i o (tNNotInK P w K ty td) := by subst hP hw hK; exact pc_nnotin hu hi ho
end
end S3

/-! ### S7: sorting tuples some of which are empty -/
namespace PySem.SeqAt
open PySem
theorem call_tuple_lt {A : Around} {s : Shared} {prog : Program} {w : World} {E : Value → Shared → Prop} {Q : Value → Shared → Prop} {l b : Addr} {items items2 : Array Value} {e r : Nat → Bool} (hl : s.heap.IsTuple l items) (hb : s.heap.IsTuple b items2)
    (he : ∀ j (h1 : j < items.size) (h2 : j < items2.size), EqAt A.in1 s items[j] items2[j] (e j)) (hr : ∀ j (h1 : j < items.size) (h2 : j < items2.size), e j = false → RcLt A.in1 s items[j] items2[j] (r j))
    (h : Q (.bool (firstLt e r (decide (items.size < items2.size)) (List.range (min items.size items2.size)))) s) : wpAny (model prog w) A (call (.builtin "tuple.__lt__") [.ref l, .ref b]) Q E s := by
  obtain ⟨⟨cls, dd, data, sl⟩, ho, hc, n, hd⟩ := id hl
  obtain ⟨⟨cls2, dd2, data2, sl2⟩, ho2, hc2, n2, hd2⟩ := id hb
  simp only at hc hd hc2 hd2
  subst hc hd hc2 hd2
  exact call_meets F.slot_tuple_lt ⟨_, ho, rfl⟩ F.entry_tuple_lt (F.args_tuple_lt_2 _ _) (tuple_ltAt l b items items2 n n2 dd dd2 sl sl2 e r) ⟨ho, ho2, he, hr, h⟩
end PySem.SeqAt
namespace PySem.W
open PySem PySem.Calls PyProof.Rows PySem.SeqAt
section
variable {prog : Program} {w : World} {A : Around} {E : Value → Shared → Prop} {s : Shared}
/-- one tuple against another, both known to be tuples -/
theorem oneLt_tup {xs ys : List PyData} {a b : Value} {as bs : List Addr} {Q : Bool → Shared → Prop} (ra : Reads s.heap a (.tuple xs) as) (rb : Reads s.heap b (.tuple ys) bs) (hal : alikeAll xs ys = true)
    (hu : A.units + min (PyData.tuple xs).depth (PyData.tuple ys).depth < cLine) (hq : Q (dataLt (.tuple xs) (.tuple ys)) s) : wpAny (model prog w) A (oneLt' true a b) Q E s := by
  cases ra with
  | @tuple l o vs n _ as₁ h1 h2 h3 h4 =>
    cases rb with
    | @tuple l' o' vs' n' _ bs₁ k1 k2 k3 k4 =>
      have n1 : vs.size = xs.length := by simpa using SeqAt.ReadsAll.length _ _ _ h4
      have n2 : vs'.size = ys.length := by simpa using SeqAt.ReadsAll.length _ _ _ k4
      rw [dataLt_tuple, ← firstLt_toks xs ys hal, ← n1, ← n2] at hq
      rw [oneLt'_eq]
      simp only [if_true]
      refine wpAny_bind (wpAny_cRoomFor (SeqAt.room_here hu) ?_)
      refine wpAny_bind (wpAny_callSpecialIfBound?_slot (T := "tuple") ⟨_, h1, h2⟩ F.slot_tuple_lt (call_tuple_lt (e := pairEq xs ys) (r := fun j => dataLt (xs.getD j .none) (ys.getD j .none)) ⟨_, h1, h2, _, h3⟩ ⟨_, k1, k2, _, k3⟩ (fun j j1 j2 => ?_) (fun j j1 j2 hj => ?_) ?_))
      · have := eqAt_alikeAll xs ys A.in1 s vs.toList vs'.toList _ _ h4 k4 hal (SeqAt.room_in hu) j (by simpa using j1) (by simpa using j2)
        simpa using this
      · have := rcLt_alikeAll xs ys A.in1 s vs.toList vs'.toList _ _ h4 k4 hal (SeqAt.room_in hu) j (by simpa using j1) (by simpa using j2) hj
        simpa using this
      · exact wpAny_truthy_bool hq
def neT : PyData → Bool
  | .tuple (_ :: _) => true
  | _ => false
theorem firsts_tups {M : Model} : ∀ {vs : List Value} {ds : List PyData}, EachIs (fun v d => ∃ as, Reads s.heap v d as) vs ds → (∀ d ∈ ds, ∃ xs, d = .tuple xs) →
    ∃ os : List (Option Value), os.map (·.isSome) = ds.map neT ∧ ∀ {Q : List (Option Value) → Shared → Prop}, Q os s → wpAny M A (vs.mapM firstOfTuple') Q E s
  | _, _, .nil, _ => ⟨[], rfl, fun h => by rw [List.mapM_nil]; exact wpAny_pure h⟩
  | _, _, .cons (b := d) ⟨as, r⟩ t, ht => by
    obtain ⟨os, h1, h2⟩ := firsts_tups t fun d hd => ht d (List.mem_cons_of_mem _ hd)
    obtain ⟨xs, rfl⟩ := ht d (List.mem_cons_self ..)
    cases r with
    | @tuple a o items n _ _ ho hc hd hr =>
      refine ⟨items[0]? :: os, ?_, fun {Q} h => ?_⟩
      · rw [List.map_cons, List.map_cons, h1]
        congr 1
        have e : items[0]? = items.toList[0]? := by simp
        rw [e]
        cases q : items.toList with
        | nil =>
          rw [q] at hr
          cases hr
          rfl
        | cons f fr =>
          rw [q] at hr
          cases hr with
          | cons r1 r2 => rfl
      · rw [List.mapM_cons]
        refine wpAny_bind ?_
        rw [kas_first_eq]
        refine wpAny_bind (Looks.here (show Looks M s.heap (typeOf (.ref a)) o.cls from (Looks.ld ho).andThen .now) ?_)
        rw [hc, if_neg (by first | decide | simp)]
        refine wpAny_bind (listItems_at ho hd (wpAny_pure ?_))
        exact wpAny_bind (h2 (Q := fun bs s' => wpAny M A (pure (items[0]? :: bs)) Q E s') (wpAny_pure h))
theorem mixed_kind {M : Model} {vs : List Value} {ds : List PyData} {Q : SortKind → Shared → Prop} (h2 : 2 ≤ vs.length) (e : EachIs (fun v d => ∃ as, Reads s.heap v d as) vs ds) (ht : ∀ d ∈ ds, ∃ xs, d = .tuple xs) (hn : (ds.map neT).all id = false)
    (h : Q (if (ds.headD .none |> neT) = true then general' else oneType') s) : wpAny M A (keyKind' vs.toArray) Q E s := by
  obtain ⟨os, ho, hf⟩ := firsts_tups (M := M) (A := A) (E := E) e ht
  have hl : os.length = ds.length := by simpa using congrArg List.length ho
  have hl2 : vs.length = ds.length := e.length
  rw [keyKind'_eq, List.mapM_toArray, map_eq_pure_bind]
  refine wpAny_bind (wpAny_bind (hf (wpAny_pure ?_)))
  have hall : os.toArray.all (fun x => x.isSome) = false := by
    rw [List.all_toArray]
    have : (os.map (·.isSome)).all id = false := by rw [ho]; exact hn
    rw [List.all_map] at this
    exact this
  rw [if_neg (by rw [hall]; exact Bool.false_ne_true)]
  match ds, os, vs, h2, hl, hl2 with
  | d₀ :: dr, o₀ :: or, v₀ :: vr, h2, hl, hl2 =>
    have h0 : o₀.isSome = neT d₀ := by
      rw [List.map_cons, List.map_cons] at ho
      exact (List.cons.inj ho).1
    have e1 : ((o₀ :: or).toArray[0]?.bind id) = o₀ := by simp
    rw [e1]
    have h' : Q (if neT d₀ = true then general' else oneType') s := h
    by_cases q : neT d₀ = true
    · rw [if_pos (by rw [h0]; exact q)]
      rw [if_pos q] at h'
      exact wpAny_pure h'
    · rw [if_neg (by rw [h0]; exact q)]
      rw [if_neg q] at h'
      rw [oneTypeOnly'_eq, List.mapM_toArray, map_eq_pure_bind]
      have hT : ∀ v ∈ v₀ :: vr, ∀ (Q' : Value → Shared → Prop), Q' (.type "tuple") s → wpAny M A (typeOf v) Q' E s := fun v hv Q' hq => by
        obtain ⟨d, hd, as, r⟩ := e.left v hv
        obtain ⟨xs, rfl⟩ := ht d hd
        exact (looks_reads r).here hq
      refine wpAny_bind (wpAny_bind (wpAny_bind (kas_mapM (r := Value.type "tuple") _ hT (wpAny_pure ?_))))
      have hall2 : ((List.map (fun _ => Value.type "tuple") (v₀ :: vr)).toArray.all fun x => x == Value.type "tuple") = true := by
        simp only [List.all_toArray, List.all_map, List.all_eq_true]
        intro _ _
        rfl
      have h00 : (List.map (fun _ => Value.type "tuple") (v₀ :: vr)).toArray[0]? = some (Value.type "tuple") := by simp
      rw [h00]
      simp only [hall2, if_true]
      exact wpAny_pure (wpAny_pure h')
theorem neT_all {ds : List PyData} (ht : ∀ d ∈ ds, ∃ xs, d = .tuple xs) (h : (ds.map neT).all id = true) : ∀ d, d ∈ ds → ∃ x r, d = .tuple (x :: r) := fun d hd => by
  obtain ⟨xs, rfl⟩ := ht d hd
  have z : neT (.tuple xs) = true := by
    rw [List.all_map, List.all_eq_true] at h
    exact h _ hd
  cases xs with
  | nil => cases z
  | cons x r => exact ⟨x, r, rfl⟩
/-- tuples that are alike can be sorted, empty ones among them too -/
theorem SortsAt.tups {vs : List Value} {ds : List PyData} (e : EachIs (fun v d => ∃ as, Reads s.heap v d as) vs ds) (hal : AllAlike ds) (ht : ∀ d ∈ ds, ∃ xs, d = .tuple xs) (hu : ∀ d, d ∈ ds → A.units + d.depth < cLine) : SortsAt prog w A s (dataKind s.heap ds) vs := by
  cases hn : (ds.map neT).all id with
  | true => exact SortsAt.data e hal (.inl (neT_all ht hn)) hu
  | false =>
    have room : ∀ {d d' : PyData}, d ∈ ds → A.units + min d.depth d'.depth < cLine := fun {d d'} hd => Nat.lt_of_le_of_lt (Nat.add_le_add_left (Nat.min_le_left _ _) _) (hu d hd)
    refine ⟨fun v hv => ?_, if (ds.headD .none |> neT) = true then general' else oneType', ?_, fun h2 E Q hq => mixed_kind h2 e ht hn hq⟩
    · obtain ⟨d, hd, as, r⟩ := e.left v hv
      exact ⟨_, dataKind_some hal hd r⟩
    · intro E x y a b Q ha hb hq
      obtain ⟨d, as, hd, ra, rfl⟩ := dataKind_inv ha
      obtain ⟨d', as', hd', rb, rfl⟩ := dataKind_inv hb
      have hdd := hal d hd d' hd'
      have hroom := room (d' := d') hd
      obtain ⟨xs, rfl⟩ := ht d hd
      obtain ⟨ys, rfl⟩ := ht d' hd'
      by_cases q : neT (ds.headD .none) = true
      · rw [if_pos q]
        exact oneLt_alike (f := false) (fun z => nomatch z) ra rb hdd (fun z => nomatch z) hroom hq
      · rw [if_neg q, keyLt'_oneType]
        exact oneLt_tup ra rb (by simpa [alike] using hdd) hroom hq
section
variable {β : Type} {vs : List Value} {bs : List β} {enc : β → PyData} {R : Value → β → Prop}
/-- xs.sort(), tuples -/
theorem list_sort_tupsD {a : Addr} {n : Nat} {Q : Value → Shared → Prop} (ho : s.heap.get? a = some (seqObj "list" vs.toArray n)) (e : EachIs R vs bs) (er : EachIs (fun v b => ∃ as, Reads s.heap v (enc b) as ∧ a ∉ as) vs bs) (hal : AllAlike (bs.map enc)) (ht : ∀ d ∈ bs.map enc, ∃ xs, d = .tuple xs) (hL : bs.length ≤ sizeLine)
    (hu : ∀ b, b ∈ bs → A.units + 1 + (enc b).depth < cLine) (h : ∀ out, out.length = bs.length → EachIs R out (bs.mergeSort (dataLe false enc)) → Q .none { s with heap := sortedHeap s.heap a vs (List.toArray out) }) :
    wpAny (model prog w) A (call (.builtin "list.sort") [.ref a]) Q E s := by
  have er' : EachIs (fun v b => ∃ as, Reads (sortingHeap s.heap a vs) v (enc b) as) vs bs := each_keepBut (h' := sortingHeap s.heap a vs) (fun _ _ hb q => sortingHeap_old hb q) (fun o q => by rw [ho] at q; rw [← Option.some.inj q]) hal er
  refine wpAny_call_entry slot_list_sort ⟨_, ho, rfl⟩ entry_list_sort (list_sort_vals (κ := dataKind (sortingHeap s.heap a vs) (bs.map enc)) ho (SortsAt.tups (s := { s with heap := sortingHeap s.heap a vs }) (each_map (R := fun v d => ∃ as, Reads (sortingHeap s.heap a vs) v d as) enc er') hal ht (bound_map hu)) (by rw [e.length]; exact hL) ⟨.none, rfl, ?_⟩) (args_list_sort _)
  exact h _ (by rw [sortVals_length false rfl]; exact e.length) (sortVals_data false e er' hal)
end
end
end PySem.W
namespace S3
open PySem PySem.Spec PyProof.Rows L2
/-- sorted(d), d a dict with nested keys: its keys' own tuples, put in order -/
def rSortNT (P : Program) (w : World) (K : PySem.W.Frag) : List V → Hp → VK → Prop := fun vs H Q => ∃ (a : Addr) (es : List (NK × Addr × V)), vs = [V.ref a] ∧ H a = some (dnO P w a es) ∧ KeysAt K H es ∧ PySem.W.AllAlike (es.map fun e => e.1.data) ∧ (∀ d ∈ es.map (fun e => e.1.data), ∃ xs, d = PyData.tuple xs) ∧ (∀ e ∈ es, e.1.data.depth ≤ 20) ∧
  ∀ p, H p = none → Q (.ref p) (upd H p (.lst ((es.mergeSort (PySem.W.dataLe false fun e => e.1.data)).map fun e => .ref e.2.1)))
theorem cr_sortNT {X : Cx} (P : Program) (w : World) (K : PySem.W.Frag) (hP : X.prog = P) (hw : X.w = w) (hK : X.K = K) (hcalm : X.calm = true) (hu : X.A.units + 40 < cLine) : CallR X (.builtin "sorted") (rSortNT P w K) := by
  subst hP hw hK
  intro pins s σ H xs us Q I r q
  obtain ⟨a, es, ex, he, hk, hal, hs, hdep, q⟩ := q
  subst ex
  obtain ⟨u, eu, rx⟩ := vals1 r
  subst eu
  cases rx
  obtain ⟨xs, rel, dd, lo, h16⟩ := dn_full I he hk
  obtain ⟨ees, ep, hraw, hsz, hent⟩ := dd.raw
  have hxl : es.length = xs.length := Paired.length rel
  refine Calls.call_function_entry PyProof.Rows.kind_sorted PyProof.Rows.plain_sorted PyProof.Rows.entry_sorted (PyProof.Rows.args_sorted1 _) ?_
  unfold Builtin.«sorted»
  refine wpAny_bind (m := checkCount "sorted" 1 1 _) (wpAny_pure ?_)
  refine wpAny_bind (PySem.W.kdu_collect (A := X.A.in1) (KdlSrc.rawDict (prog := X.prog) (w := X.w) (d := a) (es := ees) (ep := ep) lo) (I.ok.hd hcalm) hraw (by omega) fun h' tk acc hk' hacc => ?_)
  have hal' : acc.toList = es.map fun e => Value.ref e.2.1 := by
    refine List.ext_getElem? fun j => ?_
    have hl0 : acc.toList.length = es.length := by rw [Array.length_toList, hacc.1]; omega
    by_cases hj : j < es.length
    · have hj' : j < acc.toList.length := by omega
      rw [List.getElem?_map, List.getElem?_eq_getElem hj, List.getElem?_eq_getElem hj']
      obtain ⟨hi, ev⟩ := hacc.2 j acc.toList[j] (by rw [← Array.getElem?_toList]; exact List.getElem?_eq_getElem hj')
      obtain ⟨y, hy, h1, _, _⟩ := hent j hi
      obtain ⟨b, hb, _, e2, _⟩ := paired_getE rel (List.getElem?_eq_getElem hj)
      rw [hy] at hb
      cases hb
      rw [ev, h1, ← e2]
      rfl
    · rw [List.getElem?_eq_none (by omega), List.getElem?_eq_none (by rw [List.length_map]; omega)]
  have hl0 : acc.toList.length = es.length := by rw [hal', List.length_map]
  have I1 : Inv X pins σ H { s with heap := h', toks := tk } := I.kept hk'
  refine wpAny_bind (wpAny_newList ?_ (by rw [hl0]; exact h16))
  have hoL : (h'.push (seqObj "list" acc.toList.toArray 0)).get? h'.objs.size = some (seqObj "list" acc.toList.toArray 0) := Heap.get?_push_size _ rfl
  show wpAny _ _ _ _ _ { s with heap := h'.push (seqObj "list" acc.toList.toArray 0), toks := tk }
  have I2 : Inv X pins σ H { s with heap := h'.push (seqObj "list" acc.toList.toArray 0), toks := tk } := I1.kept (t' := tk) fun b u e => Heap.get?_push_of_some _ e
  have each1 : ∀ {l : List (NK × Addr × V)}, PySem.W.EachIs (fun u (e : NK × Addr × V) => RelV (V.ref e.2.1) u) (l.map fun e => Value.ref e.2.1) l := by
    intro l
    induction l with
    | nil => exact .nil
    | cons e l ih => exact .cons rfl ih
  have each2 : ∀ {l : List (NK × Addr × V)}, KeysAt X.K H l → PySem.W.EachIs (fun v (e : NK × Addr × V) => ∃ as, Reads (h'.push (seqObj "list" (List.map (fun e => Value.ref e.2.1) es).toArray 0)) v e.1.data as ∧ h'.objs.size ∉ as) (l.map fun e => Value.ref e.2.1) l := by
    intro l
    induction l with
    | nil => intro _; exact .nil
    | cons e l ih =>
      intro hk
      refine .cons ?_ (ih fun c hc => hk c (List.mem_cons_of_mem _ hc))
      obtain ⟨as, hr⟩ := Dp.reads I1 e.1.data (.ref e.2.1) (.ref e.2.1) (hk e List.mem_cons_self).1 rfl
      refine ⟨as, PyProof.Rows.Reads.keeps (fun _ _ => Heap.get?_push_of_some _) hr, ?_⟩
      rw [nk_noList e.1 _ _ hr]
      simp
  refine wpAny_bind (wpAny_holding (PySem.W.list_sort_tupsD (R := fun u (e : NK × Addr × V) => RelV (V.ref e.2.1) u) (enc := fun e : NK × Addr × V => e.1.data) (bs := es) hoL (by rw [hal']; exact each1) (by rw [hal']; exact each2 hk) hal hs h16 (fun b hb => ?_) fun out ho heo => ?_))
  · have := hdep b hb
    show X.A.units + 1 + 1 + b.1.data.depth < cLine
    omega
  · obtain ⟨e', he'⟩ := PyProof.Rows.sortedHeap_at (vs := acc.toList) (out := List.toArray out) hoL
    refine wpAny_pure ⟨_, rfl, .ref h'.objs.size, upd H h'.objs.size (.lst ((es.mergeSort (PySem.W.dataLe false fun e => e.1.data)).map fun e => .ref e.2.1)), ?_, rfl, q _ (I1.hok.fresh (Nat.le_refl _))⟩
    have vv : Vals ((es.mergeSort (PySem.W.dataLe false fun e => e.1.data)).map fun e => V.ref e.2.1) out := by
      have go : ∀ {us : List Value} {l : List (NK × Addr × V)}, PySem.W.EachIs (fun u (e : NK × Addr × V) => RelV (V.ref e.2.1) u) us l → Vals (l.map fun e => V.ref e.2.1) us := by
        intro us l h
        induction h with
        | nil => exact .nil
        | cons h _ ih => exact .cons h ih
      exact go heo
    refine I1.laid (t' := tk) (fun b u e => ?_) (Nat.le_refl _) ⟨by rw [List.length_map, List.length_mergeSort]; exact h16, out, e', vv, he'⟩
    rw [PyProof.Rows.sortedHeap_old (Nat.ne_of_lt (Heap.lt_size e)) (Nat.lt_of_lt_of_le (show b < h'.objs.size from Heap.lt_size e) (by rw [Heap.size_push]; exact Nat.le_succ _))]
    exact Heap.get?_push_of_some _ e
end S3

/-! ### S8: walks over a list or a tuple -/
namespace S3
open PySem PySem.Spec PyProof.Rows L2
abbrev SqE (K : PySem.W.Frag) (H : Hp) (a : Addr) (xs : List V) : Prop := SqL K H a xs ∨ SqT K H a xs
theorem same_e {K : PySem.W.Frag} {H H' : Hp} {a : Addr} {xs : List V} (e : Same H H') (h : SqE K H a xs) : SqE K H' a xs := h.imp (same_l e) (same_t e)
def iSeq (K : PySem.W.Frag) (tl : TE) : TI := fun σ H R => tl σ H fun x H1 => ∃ a, x = .ref a ∧ (((∃ xs, SqL K H1 a xs) ∧ R (Itl K a) H1) ∨ ((∃ xs, SqT K H1 a xs) ∧ R (Itt K a) H1))
theorem pi_seqK {X : Cx} {tg : Expr} (K : PySem.W.Frag) (hK : X.K = K) {l : Expr} {tl : TE} (hl : PE X l tl) : PI X tg l (iSeq K tl) := by
  subst hK
  refine ⟨fun pins s σ H R I h => ?_⟩
  refine thn (hl.run pins s σ H _ I h) fun v s1 ⟨x, H1, I1, r1, q1⟩ => ?_
  obtain ⟨a, e, q⟩ := q1
  subst e
  cases r1
  rcases q with ⟨⟨xs, hq⟩, q⟩ | ⟨⟨xs, hq⟩, q⟩
  · obtain ⟨its, rv, p, hz⟩ := I1.list hq
    refine wpAny_pyIter_list p.isList ?_
    refine ⟨s1.heap.objs.size, [s1.heap.objs.size], _, _, H1, rfl, I1.kept (t' := s1.toks) fun b o e => Heap.get?_push_of_some _ e, turn_list a _, ⟨_, Heap.get?_push_size _ rfl, rfl, rfl⟩, fun b hb => ?_, q⟩
    have e : b = s1.heap.objs.size := by simpa using hb
    subst e
    exact I1.fpOk (Nat.le_refl _) (I1.hok.fresh (Nat.le_refl _))
  · obtain ⟨its, rv, p, hz⟩ := I1.tuple hq
    refine wpAny_pyIter_tuple (show s1.heap.IsTuple a its.toArray from p) ?_
    refine ⟨s1.heap.objs.size, [s1.heap.objs.size], _, _, H1, rfl, I1.kept (t' := s1.toks) fun b o e => Heap.get?_push_of_some _ e, turn_tuple a _, ⟨_, Heap.get?_push_size _ rfl, rfl, rfl⟩, fun b hb => ?_, q⟩
    have e : b = s1.heap.objs.size := by simpa using hb
    subst e
    exact I1.fpOk (Nat.le_refl _) (I1.hok.fresh (Nat.le_refl _))
/-- what a comprehension asks behind its iterable -/
def LcT (g : TG) (tt : TT) (te : TE) (vs : List Nat) (σ : L2.St) (Q : Addr → Hp → Prop) (J : It) (H1 : Hp) : Prop := ∀ D, H1 D = none → ∃ W : Nat → Nat → Hp → Prop, (∃ m, W 0 m (upd H1 D (.lst []))) ∧ ∀ i m H, W i m H →
  (J.stop i H ∧ Q D H) ∨ (J.go i H ∧ ∃ Nx : Hp → Prop, (∀ H', Nx H' → ∃ m', m' < m ∧ W (i + 1) m' H') ∧ ∀ x H', J.yld i H x H' → g x (wipe σ vs) H' fun σ2 H2 => wipe σ2 vs = wipe σ vs ∧ tt σ2 H2 fun b H3 =>
    if b = true then te σ2 H3 fun y H4 => ∃ acc, H4 D = some (.lst acc) ∧ acc.length < sizeLine ∧ Nx (upd H4 D (.lst (acc ++ [y]))) else Nx H3)
theorem lc_seq {K : PySem.W.Frag} {a : Addr} {xs : List V} {g : TG} {tt : TT} {te : TE} {vs : List Nat} {σ : L2.St} {H1 : Hp} {Q : Addr → Hp → Prop} (h : SqE K H1 a xs) (Pv : Addr → Nat → Hp → Prop) (h0 : ∀ D, H1 D = none → Pv D 0 (upd H1 D (.lst []))) (hl : ∀ D, H1 D = none → ∀ i H, Pv D i H → Same H1 H)
    (hs : ∀ D, H1 D = none → ∀ i x H, xs[i]? = some x → Pv D i H → g x (wipe σ vs) H fun σ2 H2 => wipe σ2 vs = wipe σ vs ∧ tt σ2 H2 fun b H3 =>
      if b = true then te σ2 H3 fun y H4 => ∃ acc, H4 D = some (.lst acc) ∧ acc.length < sizeLine ∧ Pv D (i + 1) (upd H4 D (.lst (acc ++ [y]))) else Pv D (i + 1) H3) (hd : ∀ D, H1 D = none → ∀ H, Pv D xs.length H → Q D H) :
    ((∃ xs, SqL K H1 a xs) ∧ LcT g tt te vs σ Q (Itl K a) H1) ∨ ((∃ xs, SqT K H1 a xs) ∧ LcT g tt te vs σ Q (Itt K a) H1) := by
  rcases h with h | h
  · exact .inl ⟨⟨_, h⟩, fun D hD => lc_list (Pv D) (h0 D hD) (fun i H _ p => same_l (hl D hD i H p) h) (hs D hD) (hd D hD)⟩
  · exact .inr ⟨⟨_, h⟩, fun D hD => lc_tup (Pv D) (h0 D hD) (fun i H _ p => same_t (hl D hD i H p) h) (hs D hD) (hd D hD)⟩
/-- what a loop asks behind its iterable -/
def ForT (g : TG) (tb : TS) (D : Ends) (σ : L2.St) (J : It) (H : Hp) : Prop := ∃ W : Nat → Nat → L2.St → Hp → Prop, (∃ m, W 0 m σ H) ∧ ∀ i m σ H, W i m σ H →
  (J.stop i H ∧ D.nx σ H) ∨ (J.go i H ∧ ∃ N : L2.St → Hp → Prop, (∀ σ' H', N σ' H' → ∃ m', m' < m ∧ W (i + 1) m' σ' H') ∧ ∀ x H', J.yld i H x H' → g x σ H' fun σ2 H2 => tb { D with nx := N, ct := N, bk := D.nx } σ2 H2)
theorem for_seq {K : PySem.W.Frag} {a : Addr} {xs : List V} {g : TG} {tb : TS} {D : Ends} {σ : L2.St} {H : Hp} (h : SqE K H a xs) (Pv : Nat → L2.St → Hp → Prop) (h0 : Pv 0 σ H) (hl : ∀ i σ H', Pv i σ H' → Same H H')
    (hs : ∀ i x σ H, xs[i]? = some x → Pv i σ H → g x σ H fun σ2 H2 => tb { D with nx := Pv (i + 1), ct := Pv (i + 1), bk := D.nx } σ2 H2) (hd : ∀ σ H, Pv xs.length σ H → D.nx σ H) :
    ((∃ xs, SqL K H a xs) ∧ ForT g tb D σ (Itl K a) H) ∨ ((∃ xs, SqT K H a xs) ∧ ForT g tb D σ (Itt K a) H) := by
  rcases h with h | h
  · exact .inl ⟨⟨_, h⟩, for_list Pv h0 (fun i σ H _ p => same_l (hl i σ H p) h) hs hd⟩
  · exact .inr ⟨⟨_, h⟩, for_tup Pv h0 (fun i σ H _ p => same_t (hl i σ H p) h) hs hd⟩
end S3
namespace S3
open PySem PySem.Spec PyProof.Rows L2
/-- any walk over a list within a comprehension -/
theorem walkL {K : PySem.W.Frag} {a : Addr} {xs : List V} {H1 : Hp} {T : V → Hp → (Hp → Prop) → Prop} {Qd : Hp → Prop} (Pv : Nat → Hp → Prop) (h0 : Pv 0 H1) (hl : ∀ i H, i ≤ xs.length → Pv i H → SqL K H a xs)
    (hs : ∀ i x H, xs[i]? = some x → Pv i H → T x H (Pv (i + 1))) (hd : ∀ H, Pv xs.length H → Qd H) :
    ∃ W : Nat → Nat → Hp → Prop, (∃ m, W 0 m H1) ∧ ∀ i m H, W i m H →
      ((Itl K a).stop i H ∧ Qd H) ∨ ((Itl K a).go i H ∧ ∃ N1 : Hp → Prop, (∀ H', N1 H' → ∃ m', m' < m ∧ W (i + 1) m' H') ∧ ∀ x H', (Itl K a).yld i H x H' → T x H' N1) := by
  refine ⟨fun i m H => m = xs.length - i ∧ i ≤ xs.length ∧ Pv i H, ⟨xs.length, by simp, Nat.zero_le _, h0⟩, ?_⟩
  rintro i m H ⟨rfl, hi, p⟩
  have q := hl i H hi p
  by_cases hlt : i < xs.length
  · refine .inr ⟨⟨xs, xs[i], q, by simp [hlt]⟩, Pv (i + 1), fun H' p' => ⟨xs.length - (i + 1), by omega, rfl, hlt, p'⟩, fun x H' y => ?_⟩
    obtain ⟨e, y⟩ := y
    subst e
    exact hs i x _ (y xs q) p
  · have e : i = xs.length := by omega
    subst e
    exact .inl ⟨⟨xs, q, Nat.le_refl _⟩, hd H p⟩
end S3

/-! ### S9: equality of data, membership -/
namespace S3
open PySem PySem.Spec PyProof.Rows L2
mutual
/-- whole numbers, texts, None, lists and tuples of these -/
def dq : PyData → Bool
  | .none => true
  | .int _ => true
  | .str x => PyData.canLay0 (.str x)
  | .list xs => dqs xs
  | .tuple xs => dqs xs
  | _ => false
def dqs : List PyData → Bool
  | [] => true
  | x :: xs => dq x && dqs xs
end
mutual
theorem eqv_dq : ∀ (d e : PyData), dq d = true → dq e = true → (PyData.eqv d e = true ↔ d = e)
  | .none, e, h1, h2 => by cases e <;> simp_all [PyData.eqv, dq]
  | .int _, e, h1, h2 => by cases e <;> simp_all [PyData.eqv, dq]
  | .str _, e, h1, h2 => by cases e <;> simp_all [PyData.eqv, dq]
  | .bool _, e, h1, h2 => by simp [dq] at h1
  | .dict _, e, h1, h2 => by simp [dq] at h1
  | .list xs, e, h1, h2 => by
    cases e with
    | list ys =>
      simp only [PyData.eqv, PyData.list.injEq]
      exact eqvs_dq xs ys (by simpa [dq] using h1) (by simpa [dq] using h2)
    | _ => simp_all [PyData.eqv, dq]
  | .tuple xs, e, h1, h2 => by
    cases e with
    | tuple ys =>
      simp only [PyData.eqv, PyData.tuple.injEq]
      exact eqvs_dq xs ys (by simpa [dq] using h1) (by simpa [dq] using h2)
    | _ => simp_all [PyData.eqv, dq]
theorem eqvs_dq : ∀ (ds es : List PyData), dqs ds = true → dqs es = true → (PyData.eqvAll ds es = true ↔ ds = es)
  | [], [], _, _ => by simp [PyData.eqvAll]
  | [], _ :: _, _, _ => by simp [PyData.eqvAll]
  | _ :: _, [], _, _ => by simp [PyData.eqvAll]
  | x :: xs, y :: ys, h1, h2 => by
    simp only [dqs, Bool.and_eq_true] at h1 h2
    simp only [PyData.eqvAll, Bool.and_eq_true, List.cons.injEq]
    rw [eqv_dq x y h1.1 h2.1, eqvs_dq xs ys h1.2 h2.2]
end
mutual
theorem lay_dq : ∀ d : PyData, dq d = true → d.canLay0 = true
  | .none, _ => by simp [PyData.canLay0]
  | .int _, _ => by simp [PyData.canLay0]
  | .str _, h => by simpa [dq] using h
  | .bool _, h => by simp [dq] at h
  | .dict _, h => by simp [dq] at h
  | .list xs, h => by simp only [PyData.canLay0]; exact lays_dq xs (by simpa [dq] using h)
  | .tuple xs, h => by simp only [PyData.canLay0]; exact lays_dq xs (by simpa [dq] using h)
theorem lays_dq : ∀ ds : List PyData, dqs ds = true → PyData.canLayAll0 ds = true
  | [], _ => by simp [PyData.canLayAll0]
  | x :: xs, h => by
    simp only [dqs, Bool.and_eq_true] at h
    simp only [PyData.canLayAll0, Bool.and_eq_true]
    exact ⟨lay_dq x h.1, lays_dq xs h.2⟩
end
theorem shaped_dq {d : PyData} (h : dq d = true) (h2 : d.depth ≤ 64) : SeqAt.shaped d = true := by
  unfold SeqAt.shaped
  rw [lay_dq d h]
  simpa using h2
theorem dqs_map {α : Type} {f : α → PyData} : ∀ {l : List α}, (∀ a ∈ l, dq (f a) = true) → dqs (l.map f) = true
  | [], _ => by simp [dqs]
  | a :: l, h => by
    simp only [List.map_cons, dqs, Bool.and_eq_true]
    exact ⟨h a List.mem_cons_self, dqs_map fun b hb => h b (List.mem_cons_of_mem _ hb)⟩
theorem depths_map {α : Type} {f : α → PyData} {n : Nat} : ∀ {l : List α}, (∀ a ∈ l, (f a).depth ≤ n) → PyData.depthAll (l.map f) ≤ n
  | [], _ => by simp [PyData.depthAll]
  | a :: l, h => by
    simp only [List.map_cons, PyData.depthAll]
    exact Nat.max_le.mpr ⟨h a List.mem_cons_self, depths_map fun b hb => h b (List.mem_cons_of_mem _ hb)⟩
theorem dq_ints (ns : List Int) : dq (.list (ns.map .int)) = true := by simp only [dq]; exact dqs_map fun _ _ => by simp [dq]
theorem dep_ints (ns : List Int) : (PyData.list (ns.map .int)).depth ≤ 64 := by
  simp only [PyData.depth]
  have := depths_map (f := PyData.int) (n := 0) (l := ns) fun _ _ => by simp [PyData.depth]
  omega
theorem dq_pP (p : Int × Int) : dq (pP p) = true := by simp [pP, dq, dqs]
theorem dq_pB (b : Bel) : dq (pB b) = true := by simp only [pB, dq]; exact dqs_map fun _ _ => dq_pP _
theorem dq_pS (s : Sprd) : dq (pS s) = true := by simp only [pS, dq]; exact dqs_map fun _ _ => dq_pB _
theorem dep_pP (p : Int × Int) : (pP p).depth ≤ 1 := by simp [pP, PyData.depth, PyData.depthAll]
theorem dep_pB (b : Bel) : (pB b).depth ≤ 2 := by
  simp only [pB, PyData.depth]
  have := depths_map (f := pP) (n := 1) (l := b) fun _ _ => dep_pP _
  omega
theorem dep_pS (s : Sprd) : (pS s).depth ≤ 3 := by
  simp only [pS, PyData.depth]
  have := depths_map (f := pB) (n := 2) (l := s) fun _ _ => dep_pB _
  omega
theorem dq_pW {ws : List Str} (h : ∀ x ∈ ws, PyData.canLay0 (.str x) = true) : dq (pW ws) = true := by
  simp only [pW, dq]
  exact dqs_map fun a ha => by simpa [dq] using h a ha
theorem dep_pW (ws : List Str) : (pW ws).depth ≤ 64 := by
  simp only [pW, PyData.depth]
  have := depths_map (f := PyData.str) (n := 0) (l := ws) fun _ _ => by simp [PyData.depth]
  omega
theorem pP_inj (a b : Int × Int) (h : pP a = pP b) : a = b := by
  obtain ⟨a1, a2⟩ := a
  obtain ⟨b1, b2⟩ := b
  simp only [pP, PyData.tuple.injEq, List.cons.injEq, PyData.int.injEq] at h
  rw [h.1, h.2.1]
theorem pB_inj (a b : Bel) (h : pB a = pB b) : a = b := map_inj pP_inj (by injection h)
theorem pS_inj (a b : Sprd) (h : pS a = pS b) : a = b := map_inj pB_inj (by injection h)
theorem pW_inj (a b : List Str) (h : pW a = pW b) : a = b := map_inj (f := PyData.str) (fun x y e => by injection e) (by injection h)
theorem ints_inj (a b : List Int) (h : PyData.list (a.map .int) = .list (b.map .int)) : a = b := map_inj (f := PyData.int) (fun x y e => by injection e) (by injection h)
theorem eqv_dec {α : Type} [DecidableEq α] {f : α → PyData} (hf : ∀ a b, f a = f b → a = b) (a b : α) (ha : dq (f a) = true) (hb : dq (f b) = true) : PyData.eqv (f a) (f b) = decide (a = b) := by
  have h := eqv_dq _ _ ha hb
  by_cases e : a = b
  · rw [e]; rw [e] at h; simpa using h.mpr rfl
  · have : PyData.eqv (f a) (f b) ≠ true := fun q => e (hf _ _ (h.mp q))
    simp [e, this]
theorem eqv_pS (a b : Sprd) : PyData.eqv (pS a) (pS b) = decide (a = b) := eqv_dec pS_inj a b (dq_pS a) (dq_pS b)
theorem eqv_pB (a b : Bel) : PyData.eqv (pB a) (pB b) = decide (a = b) := eqv_dec pB_inj a b (dq_pB a) (dq_pB b)
theorem eqv_ints (a b : List Int) : PyData.eqv (.list (a.map .int)) (.list (b.map .int)) = decide (a = b) := eqv_dec (f := fun a : List Int => PyData.list (a.map .int)) ints_inj a b (dq_ints a) (dq_ints b)
theorem eqv_pW {a b : List Str} (ha : ∀ x ∈ a, PyData.canLay0 (.str x) = true) (hb : ∀ x ∈ b, PyData.canLay0 (.str x) = true) : PyData.eqv (pW a) (pW b) = decide (a = b) := eqv_dec pW_inj a b (dq_pW ha) (dq_pW hb)
theorem inV_int (n : Int) (ns : List Int) : inV (.int n) (ns.map .int) = decide (n ∈ ns) := by
  unfold inV
  rw [List.any_map, Bool.eq_iff_iff, List.any_eq_true, decide_eq_true_eq]
  constructor
  · rintro ⟨x, hx, e⟩
    have : x = n := by simpa [eqV] using e
    exact this ▸ hx
  · intro h
    exact ⟨n, h, by simp [eqV]⟩
theorem inV_str (n : Str) (ns : List Str) : inV (.str n) (ns.map .str) = decide (n ∈ ns) := by
  unfold inV
  rw [List.any_map, Bool.eq_iff_iff, List.any_eq_true, decide_eq_true_eq]
  constructor
  · rintro ⟨x, hx, e⟩
    have : x = n := by simpa [eqV] using e
    exact this ▸ hx
  · intro h
    exact ⟨n, h, by simp [eqV]⟩
theorem flat_ints (ns : List Int) : (ns.map V.int).all flatV = true := by rw [List.all_map, List.all_eq_true]; intro _ _; rfl
theorem flat_strs (ns : List Str) : (ns.map V.str).all flatV = true := by rw [List.all_map, List.all_eq_true]; intro _ _; rfl
end S3

/-! ### S10: a dict with nested keys that stands locked from a walk on -/
namespace S3
open PySem PySem.Spec PyProof.Rows L2
section
variable {X : Cx} {pins : List (Addr × Obj)} {σ : L2.St} {H : Hp} {s : Shared} {a b : Addr} {es : List (NK × Addr × V)} {k : NK} {A : Around} {E : Value → Shared → Prop}
theorem dn_fullR (I : Inv X pins σ H s) (e : Rd H a (dnO X.prog X.w a es)) (hk : KeysAt X.K H es) :
    ∃ xs, Paired RelE es xs ∧ s.heap.DictOfH (nestedKind X.prog X.w) a xs ∧ (a == sysModules) = false ∧ es.length ≤ sizeLine := by
  have z := e.ok I.hok
  have z2 : dnP X.prog X.w a es s.heap := z.1
  obtain ⟨xs, r, o, ees, ep, h1, h2, h3, h4, h5, h6, h7⟩ := z2
  refine ⟨xs, r, ⟨o, ees, ep, h1, h2, h3, h4, ?_, h5⟩, h6, h7⟩
  have all : ∀ {l : List (NK × Addr × V)} {m : List (NK × Addr × Value)}, Paired RelE l m → KeysAt X.K H l → ∀ x ∈ m, (nestedKind X.prog X.w).is s.heap x.1 x.2.1 := by
    intro l m q
    induction q with
    | nil => intro _ x hx; cases hx
    | @cons p q ps qs hq t ih =>
      intro hk x hx
      rcases List.mem_cons.mp hx with e | hx
      · subst e
        obtain ⟨z1, z2⟩ := hk p List.mem_cons_self
        rw [← hq.1, ← hq.2.1]
        exact nk_at I z1 z2
      · exact ih (fun e he => hk e (List.mem_cons_of_mem _ he)) x hx
  exact all r hk
end
def DNR (P : Program) (w : World) (K : PySem.W.Frag) (H : Hp) (a : Addr) (y : V) (o : Option V) : Prop := ∃ es b k, Rd H a (dnO P w a es) ∧ KeysAt K H es ∧ y = .ref b ∧ Dp K H (.ref b) k.data ∧ k.depth ≤ 8 ∧ o = atN es k
def tNGetR (P : Program) (w : World) (K : PySem.W.Frag) (td ty : TE) : TE := fun σ H Q => td σ H fun x H1 => ty σ H1 fun y H2 => ∃ a v, x = .ref a ∧ DNR P w K H2 a y (some v) ∧ Q v H2
section
variable {X : Cx} {pins : List (Addr × Obj)} {σ : L2.St} {H : Hp} {s : Shared} {a b : Addr} {es : List (NK × Addr × V)} {k : NK} {A : Around} {E : Value → Shared → Prop}
theorem dn_getR {y v : V} {u : Value} {Q : Value → Shared → Prop} (hu : A.units + 9 < cLine) (I : Inv X pins σ H s) (g : DNR X.prog X.w X.K H a y (some v)) (ry : RelV y u) (h : ∀ w' s', Inv X pins σ H s' → RelV v w' → Q w' s') :
    wpAny (model X.prog X.w) A (getItem (.ref a) u) Q E s := by
  obtain ⟨es, b, k, e, hk, rfl, hb, hd, l⟩ := g
  cases (show u = Value.ref b from ry)
  obtain ⟨xs, rel, dd, _, _⟩ := dn_fullR I e hk
  have z := paired_atN k rel
  rw [← l] at z
  cases q : (atKey xs k).map (·.2) with
  | none => rw [q] at z; exact z.elim
  | some w' =>
    rw [q] at z
    obtain ⟨p, hp, hp2⟩ := Option.map_eq_some_iff.mp q
    refine wpAny_getItem_heap (show A.in1.units + 8 < cLine by show A.units + 1 + 8 < cLine; omega) (nk_at I hb hd) dd hp ?_
    rw [hp2]
    exact h w' _ (I.tok _) z
theorem dn_typeR (I : Inv X pins σ H s) (e : Rd H a (dnO X.prog X.w a es)) : s.TypeIs (.ref a) "dict" := by
  have z := e.ok I.hok
  have z2 : dnP X.prog X.w a es s.heap := z.1
  obtain ⟨xs, r, o, ees, ep, h1, h2, h3, h4, h5, h6, h7⟩ := z2
  exact ⟨o, h1, h2.1⟩
end
section
variable {X : Cx} {o i e : Expr} {td ty : TE} {pos : Pos} {tg : Expr}
theorem pe_ngetR (P : Program) (w : World) (K : PySem.W.Frag) (hP : X.prog = P) (hw : X.w = w) (hK : X.K = K) (hu : X.A.units + 9 < cLine) (ho : PE X o td) (hi : PE X i ty) (hs : NoSl i) : PE X (.Subscript o i pos) (tNGetR P w K td ty) := by
  subst hP hw hK
  refine ⟨fun pins s σ H Q I h => ?_⟩
  refine subD_of PySem.F.slot_dict_getitem.lookup hs (thn (ho.run pins s σ H _ I h) fun u s1 ⟨x, H1, I1, rx, q1⟩ => thn (hi.run pins s1 σ H1 _ I1 q1) fun iv s2 ⟨y, H2, I2, ry, a, v, ex, g, q2⟩ => ?_)
  subst ex
  obtain rfl : u = Value.ref a := rx
  have g' := g
  obtain ⟨es, b, k, e, _⟩ := g'
  exact ⟨dn_typeR I2 e, dn_getR hu I2 g ry fun w' s3 I3 rw' => ⟨v, H2, I3, rw', q2⟩⟩
/-- for k in d: d is read only from then on -/
def iKeysF (P : Program) (w : World) (td : TE) : TI := fun σ H R => td σ H fun x H1 => ∃ d es, x = .ref d ∧ H1 d = some (dnO P w d es) ∧ ∀ od, R (Itn P w d od es) (upd H1 d (.frz od (dnO P w d es)))
theorem pi_keysF (P : Program) (w : World) (hP : X.prog = P) (hw : X.w = w) (he : PE X e td) : PI X tg e (iKeysF P w td) := by
  subst hP hw
  refine ⟨fun pins s σ H R I h => ?_⟩
  refine thn (he.run pins s σ H _ I h) fun u s1 ⟨x, H1, I1, rx, d, es, ex, hd, q⟩ => ?_
  subst ex
  obtain rfl : u = Value.ref d := rx
  obtain ⟨od, I2⟩ := I1.lock hd trivial
  obtain ⟨hs, hgd, hx, ees, ep, hdt, hsz, ent⟩ := frzN I2 (upd_same ..)
  refine iter_keys hs hgd hx hdt (pi_one (tk := s1.toks) I2 _ (turn_keysN _ hdt) ⟨_, Heap.get?_push_size _ rfl, rfl, ?_⟩ (q od))
  rw [hsz] <;> rfl
end
end S3

/-! ### P1: walks in frames; a case's presses -/
namespace S3
open PySem PySem.Spec PyProof.Rows L2
theorem dp_pP {K : PySem.W.Frag} {H : Hp} {x : V} {p : Int × Int} (h : Dp K H x (pP p)) : ∃ t, x = .ref t ∧ SqT K H t [.int p.1, .int p.2] := by
  obtain ⟨t, xs, rfl, h1, h2⟩ := dp_tup h
  obtain ⟨a, b, rfl, h3, h4⟩ := dpa_pair h2
  rw [dp_int h3, dp_int h4] at h1
  exact ⟨t, rfl, h1⟩
theorem get_map {α β : Type} {f : α → β} {l : List α} {i : Nat} {y : β} (h : (l.map f)[i]? = some y) : ∃ a, l[i]? = some a ∧ y = f a := by
  rw [List.getElem?_map] at h
  cases e : l[i]? with
  | none => rw [e] at h; cases h
  | some a => rw [e] at h; exact ⟨a, rfl, (Option.some.inj h).symm⟩
theorem dpa_at {K : PySem.W.Frag} {H : Hp} {xs : List V} {α : Type} {g : α → PyData} {l : List α} {i : Nat} {x : V} (h : DpAll K H xs (l.map g)) (e : xs[i]? = some x) : ∃ a, l[i]? = some a ∧ Dp K H x (g a) := by
  obtain ⟨d, h1, h2⟩ := dpa_get h e
  obtain ⟨a, h3, rfl⟩ := get_map h1
  exact ⟨a, h3, h2⟩
theorem mem_at {α : Type} {l : List α} {i : Nat} {a : α} (h : l[i]? = some a) : a ∈ l := List.mem_of_getElem? h
theorem lt_at {α : Type} {l : List α} {i : Nat} {a : α} (h : l[i]? = some a) : i < l.length := (List.getElem?_eq_some_iff.mp h).1
theorem take_at {α : Type} {l : List α} {i : Nat} {a : α} (h : l[i]? = some a) : l.take (i + 1) = l.take i ++ [a] := by
  rw [List.take_add_one, h]; rfl
theorem map_take_at {α β : Type} {f : α → β} {l : List α} {i : Nat} {a : α} (h : l[i]? = some a) : (l.take (i + 1)).map f = (l.take i).map f ++ [f a] := by
  rw [take_at h, List.map_append]; rfl
/-- a comprehension that changes nothing that stood: what holds behind i turns -/
def PvS (H1 : Hp) (D : Addr) (R : Nat → List V → Prop) (i : Nat) (H : Hp) : Prop := Same H1 H ∧ ∃ acc, H D = some (.lst acc) ∧ acc.length ≤ i ∧ R i acc
section
variable {H1 H H4 F Fi F4 : Hp} {D : Addr} {R : Nat → List V → Prop} {i : Nat} {y : V} {acc : List V}
theorem PvS.zero (hD : H1 D = none) (h0 : R 0 []) : PvS H1 D R 0 (upd H1 D (.lst [])) := ⟨same_new hD, [], upd_same .., Nat.le_refl _, h0⟩
theorem PvS.snoc (hD : H1 D = none) (e : Same H1 H) (hacc : H D = some (.lst acc)) (hl : acc.length ≤ i) (hi : i < 10000000) (e4 : Same H H4) (r : R (i + 1) (acc ++ [y])) : ∃ acc, H4 D = some (.lst acc) ∧ acc.length < sizeLine ∧ PvS H1 D R (i + 1) (upd H4 D (.lst (acc ++ [y]))) :=
  ⟨acc, e4 _ _ hacc, Nat.lt_of_le_of_lt (Nat.le_trans hl (Nat.le_of_lt hi)) (by decide), same_same (e.trans e4) hD, _, upd_same .., by rw [List.length_append]; exact Nat.succ_le_succ hl, r⟩
theorem PvS.skip (e : Same H1 H) (hacc : H D = some (.lst acc)) (hl : acc.length ≤ i) (e4 : Same H H4) (r : R (i + 1) acc) : PvS H1 D R (i + 1) H4 := ⟨e.trans e4, acc, e4 _ _ hacc, Nat.le_succ_of_le hl, r⟩
/-- .. whose answer's parts are known for good -/
def PvF (F H1 : Hp) (D : Addr) (R : Nat → List V → Hp → Prop) (i : Nat) (H : Hp) : Prop := ∃ Fi acc, Gr N0 F H1 Fi H ∧ Fi D = none ∧ H D = some (.lst acc) ∧ acc.length ≤ i ∧ R i acc Fi
variable {R' : Nat → List V → Hp → Prop}
theorem PvF.skip (g : Gr N0 F H1 Fi H) (hn : Fi D = none) (hacc : H D = some (.lst acc)) (hl : acc.length ≤ i) (g4 : Gr N0 Fi H F4 H4) (r : R' (i + 1) acc F4) : PvF F H1 D R' (i + 1) H4 := ⟨F4, acc, g.trans g4, g4.hid hacc hn, g4.same _ _ hacc, Nat.le_succ_of_le hl, r⟩
theorem PvF.zero (e : Same F H1) (hD : H1 D = none) (h0 : R' 0 [] F) : PvF F H1 D R' 0 (upd H1 D (.lst [])) := ⟨F, [], (Gr.refl e).lay hD, same_none e hD, upd_same .., Nat.le_refl _, h0⟩
theorem PvF.snoc (hD : H1 D = none) (g : Gr N0 F H1 Fi H) (hn : Fi D = none) (hacc : H D = some (.lst acc)) (hl : acc.length ≤ i) (hi : i < 10000000) (g4 : Gr N0 Fi H F4 H4) (r : R' (i + 1) (acc ++ [y]) F4) : ∃ acc, H4 D = some (.lst acc) ∧ acc.length < sizeLine ∧ PvF F H1 D R' (i + 1) (upd H4 D (.lst (acc ++ [y]))) :=
  ⟨acc, g4.same _ _ hacc, Nat.lt_of_le_of_lt (Nat.le_trans hl (Nat.le_of_lt hi)) (by decide), F4, _, (g.trans g4).set (g4.hid hacc hn) (.inr hD), g4.hid hacc hn, upd_same .., by rw [List.length_append]; exact Nat.succ_le_succ hl, r⟩
end
/-! ### is_harmless -/
section
variable {P : Program} {w : World} {K : PySem.W.Frag} {mg : Str → Option Value} {base : Heap} {CC DC : Addr}
abbrev s_har : Stmt := inClass (top 23) 6
abbrev nm_har : List Str := ["self", "belief", "button", "first", "now"]
theorem sc_har : FnScope nm_har ["self", "belief", "button"] (defScope s_har) := ⟨rfl, rfl, rfl, by decide +kernel, rfl, by decide +kernel, by decide +kernel⟩
def spHar (K : PySem.W.Frag) (CC DC : Addr) : Sp := fun vs H Q _ => ∃ s b btn c dv bel, vs = [s, b, .str btn] ∧ CaseAt K CC DC H s c dv ∧ Dp K H b (pB bel) ∧ NowOk c.n bel ∧ bel.length < 1000 ∧ ∀ H', Same H H' → Q (.bl (harmB (c.st btn) bel)) H'
theorem optR_some {K : PySem.W.Frag} {F : Hp} {o : Option V} {p : Option PyData} (h : OptR K F o p) : o.isSome = p.isSome := by
  cases o <;> cases p <;> first | rfl | exact h.elim
theorem pStep_some (o : Option (Int × Ans)) : (pStep o).isSome = o.isSome := by cases o <;> rfl
theorem all_id_map {α : Type} (f : α → Bool) (l : List α) : (l.map f).all id = l.all f := by rw [List.all_map]; rfl
theorem met_har (D : MetX K CC "is_harmless" "Case.is_harmless" s_har) (T : Tx K mg CC DC) : C8.Met P w K mg base 1 CC "is_harmless" (spHar K CC DC) [] := by
  refine metD (ps := ["self", "belief", "button"]) D (fun _ _ _ _ _ _ us hl => match us, hl with | [_, _, _], _ => rfl) sc_har ?_ ?_
  · rintro vs H Q E ⟨s, b, btn, c, dv, bel, rfl, _⟩; rfl
  rintro f cdv A outer s0 H vs Q E hr ⟨s, b, btn, c, dv, bel, rfl, hs, hb, hok, hz, hQ⟩
  have hu := up 1 hr
  refine ⟨_, (pss_one (ps_ret (pe_callB (cr_allK K rfl rfl) (by rfl) T.all (by decide +kernel) (pa_cons (pe_lc (own := [("first", 3), ("now", 4)])  rfl sc_har.nd (pi_listK K rfl (pv 1)) (blkOk_by (own := [("first", 3), ("now", 4)]) (N := nm_har) (sc := defScope s_har) (by decide +kernel)) (fun _ _ _ _ _ => (pg_tupK K rfl 2 rfl (pgs_cons (pg_name (i := 3) sc_har.nd rfl (.inl rfl)) (pgs_cons (pg_name (i := 4) sc_har.nd rfl (.inl rfl)) pgs_nil)))) (fun _ _ _ _ _ => pts_nil) (fun _ _ _ _ _ => (pe_cmp (pc_din hu (pv 2) (pe_ix (ix_listK K rfl) (pe_fldK K rfl (pv 0) rfl) (pv 4) (fun _ _ => rfl))) rfl))) pa_nil)))), ?_⟩
  obtain ⟨ab, xs, rfl, sb, db⟩ := dp_list hb
  obtain ⟨as, dx, w1, p1, l1, u1, t1, rfl, hi, _, _, _, _, _, ht⟩ := hs
  have hlen := dpa_len db
  rw [List.length_map] at hlen
  refine ⟨_, rfl, ab, rfl, ⟨_, sb⟩, fun L hL => lc_list (K := K) (a := ab) (xs := xs) (PvS H L fun i acc => acc = (bel.take i).map fun p => V.bl (c.step p.2 btn).isSome) (PvS.zero hL rfl) (fun i H' _ h => same_l h.1 sb) ?_ ?_⟩
  · rintro i x H' hx ⟨e, acc, hacc, hl, r⟩
    obtain ⟨p, hp, dp⟩ := dpa_at db hx
    obtain ⟨t, rfl, st⟩ := dp_pP dp
    refine ⟨t, _, rfl, same_t e st, rfl, _, _, rfl, _, _, rfl, rfl, rfl, ?_⟩
    obtain ⟨h0, h1⟩ := hok p (mem_at hp)
    obtain ⟨at_, ts, d, rfl, hts, htd, hd⟩ := ht.at (CS.tab_at c (i := p.2.toNat) (by omega))
    obtain ⟨o, hg, ho⟩ := hd.get e btn
    rw [Int.toNat_of_nonneg h0] at ho
    refine ⟨_, rfl, _, rfl, as, CC, dx, _, _, rfl, e _ _ hi, T.cc, T.table, rfl, _, rfl, at_, ts, p.2, .ref d, rfl, rfl, same_l e hts, ?_, d, o, rfl, hg, ?_⟩
    · have z := atI_nat htd
      rwa [Int.toNat_of_nonneg h0] at z
    · refine PvS.snoc hL e hacc hl (by have := lt_at hx; omega) (.refl _) ?_
      rw [r, map_take_at hp, optR_some ho, pStep_some]
  · rintro H' ⟨e, acc, hacc, hl, r⟩
    rw [hlen, List.take_length] at r
    refine ⟨L, bel.map fun p => (c.step p.2 btn).isSome, rfl, ?_, ?_⟩
    · rw [List.map_map]; exact .inl (.inl (by rw [hacc, r]; rfl))
    · rw [all_id_map]; exact hQ _ e
end
end S3

/-! ### P2: the parts of a belief after a press -/
namespace S3
open PySem PySem.Spec PyProof.Rows L2
abbrev Zt := Addr × Addr × Ans × Bel
def entZ (z : Zt) : NK × Addr × V := (kA z.2.2.1, z.1, .ref z.2.1)
/-- the dict of parts: keys known for good, lists still growing -/
structure PartsAt (P : Program) (w : World) (K : PySem.W.Frag) (F H0 H : Hp) (d : Addr) (zs : List Zt) : Prop where
  dict : H d = some (dnO P w d (zs.map entZ))
  fd : F d = none
  key : ∀ z ∈ zs, Dp K F (.ref z.1) (pA z.2.2.1)
  lst : ∀ z ∈ zs, F z.2.1 = none ∧ H0 z.2.1 = none ∧ z.2.1 ≠ d ∧ ∃ xs, H z.2.1 = some (.lst xs) ∧ DpAll K F xs (z.2.2.2.map pP)
  nd : (zs.map (·.2.1)).Nodup
  nk : (zs.map (·.2.2.1)).Nodup
theorem nodup_inj {α β : Type} {f : α → β} (hf : ∀ x y, f x = f y → x = y) {l : List α} (h : l.Nodup) : (l.map f).Nodup := List.pairwise_map.mpr (h.imp fun hne e => hne (hf _ _ e))
def pushZ (zs : List Zt) (a : Ans) (x : Int × Int) : List Zt := zs.map fun z => if z.2.2.1 = a then (z.1, z.2.1, z.2.2.1, z.2.2.2 ++ [x]) else z
theorem pushZ_ps (zs : List Zt) (a : Ans) (x : Int × Int) : (pushZ zs a x).map (·.2.2) = pushP (zs.map (·.2.2)) a x := by
  unfold pushZ pushP
  rw [List.map_map, List.map_map]
  refine List.map_congr_left fun z _ => ?_
  show (if z.2.2.1 = a then (z.1, z.2.1, z.2.2.1, z.2.2.2 ++ [x]) else z).2.2 = if z.2.2.1 = a then (z.2.2.1, z.2.2.2 ++ [x]) else z.2.2
  split <;> rfl
theorem pushZ_snd (zs : List Zt) (a : Ans) (x : Int × Int) : (pushZ zs a x).map (·.2.1) = zs.map (·.2.1) := by
  unfold pushZ
  rw [List.map_map]
  refine List.map_congr_left fun z _ => ?_
  show (if z.2.2.1 = a then (z.1, z.2.1, z.2.2.1, z.2.2.2 ++ [x]) else z).2.1 = z.2.1
  split <;> rfl
theorem pushZ_key (zs : List Zt) (a : Ans) (x : Int × Int) : (pushZ zs a x).map (·.2.2.1) = zs.map (·.2.2.1) := by
  unfold pushZ
  rw [List.map_map]
  refine List.map_congr_left fun z _ => ?_
  show (if z.2.2.1 = a then (z.1, z.2.1, z.2.2.1, z.2.2.2 ++ [x]) else z).2.2.1 = z.2.2.1
  split <;> rfl
theorem pushZ_ent (zs : List Zt) (a : Ans) (x : Int × Int) : (pushZ zs a x).map entZ = zs.map entZ := by
  unfold pushZ
  rw [List.map_map]
  refine List.map_congr_left fun z _ => ?_
  show entZ (if z.2.2.1 = a then (z.1, z.2.1, z.2.2.1, z.2.2.2 ++ [x]) else z) = entZ z
  split <;> rfl
section
variable {P : Program} {w : World} {K : PySem.W.Frag} {F H0 H F' H' : Hp} {d l b : Addr} {zs : List Zt} {a : Ans} {v : V}
theorem PartsAt.new (hd : F d = none) : PartsAt P w K F H0 (upd H d (dnO P w d [])) d [] :=
  ⟨upd_same .., hd, (fun z h => by cases h), (fun z h => by cases h), List.nodup_nil, List.nodup_nil⟩
theorem PartsAt.ext (h : PartsAt P w K F H0 H d zs) (g : Gr N0 F H F' H') : PartsAt P w K F' H0 H' d zs :=
  ⟨g.same _ _ h.dict, g.hid h.dict h.fd, fun z hz => dp_same g.ff _ _ (h.key z hz), fun z hz => by
    obtain ⟨h1, h2, h3, xs, h4, h5⟩ := h.lst z hz
    exact ⟨g.hid h4 h1, h2, h3, xs, g.same _ _ h4, dpa_same g.ff _ _ h5⟩, h.nd, h.nk⟩
theorem PartsAt.keys (h : PartsAt P w K F H0 H d zs) (e : Same F F') : KeysAt K F' (zs.map entZ) := fun x hx => by
  obtain ⟨z, hz, rfl⟩ := List.mem_map.mp hx
  exact ⟨dp_same e _ _ (by rw [show (entZ z).1.data = pA z.2.2.1 from kA_data _]; exact h.key z hz), kA_depth _⟩
theorem PartsAt.look (h : PartsAt P w K F H0 H d zs) (e : Same F H) (hv : Dp K H v (pA a)) : DNK P w K H d v (atN (zs.map entZ) (kA a)) := by
  obtain ⟨b, xs, rfl, h1, h2⟩ := dp_tup hv
  exact ⟨_, b, kA a, h.dict, h.keys e, rfl, by rw [kA_data]; exact .tup h1 h2, kA_depth _, rfl⟩
theorem PartsAt.no (ha : a ∉ zs.map (·.2.2.1)) : atN (zs.map entZ) (kA a) = none := by
  rw [atN_none_iff, List.map_map]
  intro hm
  obtain ⟨z, hz, e⟩ := List.mem_map.mp hm
  exact ha (List.mem_map.mpr ⟨z, hz, kA_inj _ _ e⟩)
theorem PartsAt.yes (h : PartsAt P w K F H0 H d zs) {z : Zt} (hz : z ∈ zs) : atN (zs.map entZ) (kA z.2.2.1) = some (.ref z.2.1) := by
  refine atN_mem (a := z.1) ?_ (List.mem_map.mpr ⟨z, hz, rfl⟩)
  rw [List.map_map]
  have e : ((fun x : NK × Addr × V => x.1) ∘ entZ) = kA ∘ fun z : Zt => z.2.2.1 := rfl
  rw [e, ← List.map_map]
  exact nodup_inj (fun x y q => kA_inj x y q) h.nk
theorem PartsAt.put (h : PartsAt P w K F H0 H d zs) (e : Same F H) (hl : H l = none) (h0 : H0 l = none) (hb : Dp K F (.ref b) (pA a)) (ha : a ∉ zs.map (·.2.2.1)) :
    PartsAt P w K F H0 (upd (upd H l (.lst [])) d (dnO P w d (zs.map entZ ++ [(kA a, b, .ref l)]))) d (zs ++ [(b, l, a, [])]) := by
  have ld : l ≠ d := (ne_of_none h.dict hl).symm
  refine ⟨?_, h.fd, fun z hz => ?_, fun z hz => ?_, ?_, ?_⟩
  · rw [List.map_append]; exact upd_same ..
  · rcases List.mem_append.mp hz with hz | hz
    · exact h.key z hz
    · rw [List.mem_singleton.mp hz]; exact hb
  · rcases List.mem_append.mp hz with hz | hz
    · obtain ⟨h1, h2, h3, xs, h4, h5⟩ := h.lst z hz
      exact ⟨h1, h2, h3, xs, by rw [upd_ne h3, upd_ne (ne_of_none h4 hl)]; exact h4, h5⟩
    · rw [List.mem_singleton.mp hz]
      exact ⟨same_none e hl, h0, ld, [], by rw [upd_ne ld]; exact upd_same .., .nil⟩
  · rw [List.map_append, List.nodup_append]
    refine ⟨h.nd, List.nodup_cons.mpr ⟨by simp, List.nodup_nil⟩, fun x hx y hy => ?_⟩
    obtain ⟨z, hz, rfl⟩ := List.mem_map.mp hx
    obtain rfl : y = l := by simpa using hy
    obtain ⟨_, _, _, xs, h4, _⟩ := h.lst z hz
    exact ne_of_none h4 hl
  · rw [List.map_append, List.nodup_append]
    refine ⟨h.nk, List.nodup_cons.mpr ⟨by simp, List.nodup_nil⟩, fun x hx y hy => ?_⟩
    obtain rfl : y = a := by simpa using hy
    exact fun e => ha (e ▸ hx)
theorem nodup_eq {α β : Type} {f : α → β} : ∀ {l : List α}, (l.map f).Nodup → ∀ {x y : α}, x ∈ l → y ∈ l → f x = f y → x = y
  | [], _, _, _, hx, _, _ => by cases hx
  | z :: l, h, x, y, hx, hy, e => by
    rw [List.map_cons, List.nodup_cons] at h
    rcases List.mem_cons.mp hx with e1 | hx
    · rcases List.mem_cons.mp hy with e2 | hy
      · rw [e1, e2]
      · exact absurd (List.mem_map.mpr ⟨y, hy, by rw [← e1, e]⟩) h.1
    · rcases List.mem_cons.mp hy with e2 | hy
      · exact absurd (List.mem_map.mpr ⟨x, hx, by rw [← e2, e]⟩) h.1
      · exact nodup_eq h.2 hx hy e
theorem PartsAt.push (h : PartsAt P w K F H0 H d zs) {z : Zt} {x : Int × Int} {y : V} {xs : List V} (hz : z ∈ zs) (hx : H z.2.1 = some (.lst xs)) (hy : Dp K F y (pP x)) :
    PartsAt P w K F H0 (upd H z.2.1 (.lst (xs ++ [y]))) d (pushZ zs z.2.2.1 x) := by
  obtain ⟨z1, z2, z3, zx, z4, z5⟩ := h.lst z hz
  rw [hx] at z4
  injection z4 with z4
  injection z4 with z4
  subst z4
  refine ⟨?_, h.fd, fun u hu => ?_, fun u hu => ?_, by rw [pushZ_snd]; exact h.nd, by rw [pushZ_key]; exact h.nk⟩
  · rw [pushZ_ent, upd_ne (Ne.symm z3)]; exact h.dict
  · obtain ⟨q, hq, rfl⟩ := List.mem_map.mp hu
    have e1 := h.key q hq
    split
    · exact e1
    · exact e1
  · obtain ⟨q, hq, rfl⟩ := List.mem_map.mp hu
    obtain ⟨q1, q2, q3, qs, q4, q5⟩ := h.lst q hq
    by_cases e : q.2.2.1 = z.2.2.1
    · have e2 := nodup_eq h.nk hq hz e
      subst e2
      rw [if_pos rfl]
      refine ⟨q1, q2, q3, xs ++ [y], upd_same .., ?_⟩
      show DpAll K F (xs ++ [y]) ((q.2.2.2 ++ [x]).map pP)
      rw [List.map_append]
      exact dpa_snoc z5 hy
    · rw [if_neg e]
      have n : q.2.1 ≠ z.2.1 := fun q' => e (by rw [nodup_eq h.nd hq hz q'])
      exact ⟨q1, q2, q3, qs, by rw [upd_ne n]; exact q4, q5⟩
theorem PartsAt.at (h : a ∈ zs.map (·.2.2.1)) : ∃ z ∈ zs, z.2.2.1 = a := by
  obtain ⟨z, hz, e⟩ := List.mem_map.mp h
  exact ⟨z, hz, e⟩
end
theorem partStep_none {st : Int → Option (Int × Ans)} {ps : List (Ans × Bel)} {p : Int × Int} (h : st p.2 = none) : partStep st ps p = ps := by unfold partStep; rw [h]
theorem partStep_some {st : Int → Option (Int × Ans)} {ps : List (Ans × Bel)} {p : Int × Int} {af : Int} {a : Ans} (h : st p.2 = some (af, a)) : partStep st ps p = pushP (ensureP ps a) a (p.1, af) := by unfold partStep; rw [h]; rfl
theorem foldl_take {α β : Type} {f : β → α → β} {b : β} {l : List α} {i : Nat} {x : α} (h : l[i]? = some x) : (l.take (i + 1)).foldl f b = f ((l.take i).foldl f b) x := by
  rw [take_at h, List.foldl_append]; rfl
theorem partStep_len (st : Int → Option (Int × Ans)) (ps : List (Ans × Bel)) (p : Int × Int) : (partStep st ps p).length ≤ ps.length + 1 := by
  unfold partStep
  cases st p.2 with
  | none => exact Nat.le_succ _
  | some q =>
    show (pushP (ensureP ps q.2) q.2 (p.1, q.1)).length ≤ _
    unfold pushP ensureP
    rw [List.length_map]
    split
    · exact Nat.le_succ _
    · rw [List.length_append]; exact Nat.le_refl _
theorem partFold_len (st : Int → Option (Int × Ans)) : ∀ (b : Bel) (ps : List (Ans × Bel)), (b.foldl (partStep st) ps).length ≤ ps.length + b.length
  | [], ps => Nat.le_refl _
  | p :: b, ps => by
    have h1 := partFold_len st b (partStep st ps p)
    have h2 := partStep_len st ps p
    rw [List.foldl_cons, List.length_cons]
    omega
theorem parts_len (st : Int → Option (Int × Ans)) (b : Bel) : (partsOf st b).length ≤ b.length := by
  have := partFold_len st b []
  simpa [partsOf] using this
end S3

/-! ### P3: parts_after -/
namespace S3
open PySem PySem.Spec PyProof.Rows L2
/-- lists of beliefs that are still their maker's own -/
structure OwnB (K : PySem.W.Frag) (F H0 H : Hp) (bs : List Addr) (s : Sprd) : Prop where
  len : bs.length = s.length
  nd : bs.Nodup
  at_ : ∀ (i : Nat) b bel, bs[i]? = some b → s[i]? = some bel → F b = none ∧ H0 b = none ∧ ∃ xs, H b = some (.lst xs) ∧ DpAll K F xs (bel.map pP)
section
variable {K : PySem.W.Frag} {F H0 H F' H' : Hp} {bs bs2 : List Addr} {s s2 : Sprd} {p : Addr}
theorem OwnB.nil : OwnB K F H0 H [] [] := ⟨rfl, List.nodup_nil, fun i b bel h => by simp at h⟩
theorem OwnB.ext (h : OwnB K F H0 H bs s) (g : Gr N0 F H F' H') : OwnB K F' H0 H' bs s := ⟨h.len, h.nd, fun i b bel h1 h2 => by
  obtain ⟨a1, a2, xs, a3, a4⟩ := h.at_ i b bel h1 h2
  exact ⟨g.hid a3 a1, a2, xs, g.same _ _ a3, dpa_same g.ff _ _ a4⟩⟩
theorem OwnB.old (h : OwnB K F H0 H bs s) (e : ∀ a, H0 a = none → H' a = none) : OwnB K F H' H bs s := ⟨h.len, h.nd, fun i b bel h1 h2 => by
  obtain ⟨a1, a2, xs, a3, a4⟩ := h.at_ i b bel h1 h2
  exact ⟨a1, e _ a2, xs, a3, a4⟩⟩
theorem OwnB.mem (h : OwnB K F H0 H bs s) {b : Addr} (hb : b ∈ bs) : F b = none ∧ H0 b = none ∧ H b ≠ none := by
  obtain ⟨i, hi⟩ := List.getElem?_of_mem hb
  have hl := lt_at hi
  rw [h.len] at hl
  obtain ⟨a1, a2, xs, a3, a4⟩ := h.at_ i b s[i] hi (List.getElem?_eq_getElem hl)
  exact ⟨a1, a2, some_ne a3⟩
theorem dpa_of : ∀ {bs : List Addr} {s : Sprd}, bs.length = s.length → (∀ (i : Nat) b bel, bs[i]? = some b → s[i]? = some bel → Dp K H (.ref b) (pB bel)) → DpAll K H (bs.map V.ref) (s.map pB)
  | [], [], _, _ => .nil
  | b :: bs, bel :: s, hl, h => .cons (h 0 b bel rfl rfl) (dpa_of (Nat.succ.inj hl) fun i => h (i + 1))
  | [], _ :: _, hl, _ => by cases hl
  | _ :: _, [], hl, _ => by cases hl
theorem OwnB.dpa (h : OwnB K F H0 H bs s) (e : Same F H) : DpAll K H (bs.map V.ref) (s.map pB) := dpa_of h.len fun i b bel h1 h2 => by
  obtain ⟨a1, a2, xs, a3, a4⟩ := h.at_ i b bel h1 h2
  exact .lst (.inl (.inl a3)) (dpa_same e _ _ a4)
theorem OwnB.dp (h : OwnB K F H0 H bs s) (e : Same F H) (hp : SqL K H p (bs.map V.ref)) : Dp K H (.ref p) (pS s) := .lst hp (h.dpa e)
theorem OwnB.app (h : OwnB K F H0 H bs s) (h2 : OwnB K F H0 H bs2 s2) (hd : ∀ b ∈ bs, b ∉ bs2) : OwnB K F H0 H (bs ++ bs2) (s ++ s2) := by
  refine ⟨by rw [List.length_append, List.length_append, h.len, h2.len], List.nodup_append.mpr ⟨h.nd, h2.nd, fun x hx y hy e => hd x hx (e ▸ hy)⟩, fun i b bel h1 h3 => ?_⟩
  by_cases hi : i < bs.length
  · rw [List.getElem?_append_left hi] at h1
    rw [List.getElem?_append_left (by rw [← h.len]; exact hi)] at h3
    exact h.at_ i b bel h1 h3
  · rw [List.getElem?_append_right (by omega)] at h1
    rw [List.getElem?_append_right (by rw [← h.len]; omega), ← h.len] at h3
    exact h2.at_ _ b bel h1 h3
end
/-- tuples (.., list) -/
abbrev TsAt (K : PySem.W.Frag) (F : Hp) : List V → List Addr → Prop := Paired fun v b => ∃ t al, v = V.ref t ∧ SqT K F t [al, .ref b]
theorem paired_mono {α β : Type} {R S : α → β → Prop} (h : ∀ a b, R a b → S a b) : ∀ {l : List α} {m : List β}, Paired R l m → Paired S l m
  | _, _, .nil => .nil
  | _, _, .cons r t => .cons (h _ _ r) (paired_mono h t)
theorem TsAt.mono {K : PySem.W.Frag} {F F' : Hp} {vs : List V} {bs : List Addr} (h : TsAt K F vs bs) (e : Same F F') : TsAt K F' vs bs := paired_mono (fun v b ⟨t, al, h1, h2⟩ => ⟨t, al, h1, same_t e h2⟩) h
section
variable {P : Program} {w : World} {K : PySem.W.Frag} {F H0 H : Hp} {d : Addr} {zs : List Zt}
def srtZ (zs : List Zt) : List Zt := zs.mergeSort (PySem.W.dataLe false fun z => pA z.2.2.1)
theorem srtZ_ent (zs : List Zt) : (zs.map entZ).mergeSort (PySem.W.dataLe false fun e : NK × Addr × V => e.1.data) = (srtZ zs).map entZ := by
  refine (List.map_mergeSort (fun a _ b _ => ?_)).symm
  show PySem.W.dataLe false (fun z : Zt => pA z.2.2.1) a b = PySem.W.dataLe false (fun e : NK × Addr × V => e.1.data) (entZ a) (entZ b)
  rw [PySem.W.dataLe_eq, PySem.W.dataLe_eq]
  show (!PySem.W.dataLt (pA b.2.2.1) (pA a.2.2.1)) = !PySem.W.dataLt (kA b.2.2.1).data (kA a.2.2.1).data
  rw [kA_data, kA_data]
theorem srtZ_ps (zs : List Zt) : (srtZ zs).map (·.2.2) = sortA (zs.map (·.2.2)) := by
  refine List.map_mergeSort (fun a _ b _ => ?_)
  rfl
theorem srtZ_mem {zs : List Zt} {z : Zt} : z ∈ srtZ zs ↔ z ∈ zs := (List.mergeSort_perm zs _).mem_iff
theorem PartsAt.own (h : PartsAt P w K F H0 H d zs) : OwnB K F H0 H ((srtZ zs).map (·.2.1)) ((srtZ zs).map (·.2.2.2)) := by
  refine ⟨by rw [List.length_map, List.length_map], ?_, fun i b bel h1 h2 => ?_⟩
  · exact ((List.mergeSort_perm zs _).map _).nodup_iff.mpr h.nd
  · obtain ⟨z, hz, rfl⟩ := get_map h1
    obtain ⟨z2, hz2, rfl⟩ := get_map h2
    rw [hz] at hz2
    obtain rfl := Option.some.inj hz2
    obtain ⟨a1, a2, a3, xs, a4, a5⟩ := h.lst z (srtZ_mem.mp (mem_at hz))
    exact ⟨a1, a2, xs, a4, a5⟩
theorem alike_strs : ∀ xs ys : List Str, PySem.W.alikeAll (xs.map .str) (ys.map .str) = true
  | [], _ => by simp [PySem.W.alikeAll]
  | _ :: _, [] => by simp [PySem.W.alikeAll]
  | x :: xs, y :: ys => by
    show PySem.W.alikeAll (.str x :: xs.map .str) (.str y :: ys.map .str) = true
    rw [PySem.W.alikeAll, alike_strs xs ys]
    simp [PySem.W.alike]
theorem depth_strs : ∀ xs : List Str, PyData.depthAll (xs.map .str) = 0
  | [] => by simp [PyData.depthAll]
  | x :: xs => by
    show PyData.depthAll (.str x :: xs.map .str) = 0
    rw [PyData.depthAll, depth_strs xs]
    simp [PyData.depth]
theorem zs_alike (zs : List Zt) : PySem.W.AllAlike ((zs.map entZ).map fun e => e.1.data) := by
  intro d hd d' hd'
  rw [List.map_map] at hd hd'
  obtain ⟨z, _, rfl⟩ := List.mem_map.mp hd
  obtain ⟨z', _, rfl⟩ := List.mem_map.mp hd'
  show PySem.W.alike (kA z.2.2.1).data (kA z'.2.2.1).data = true
  rw [kA_data, kA_data]
  unfold pA
  simpa [PySem.W.alike] using alike_strs z.2.2.1 z'.2.2.1
theorem zs_tup (zs : List Zt) : ∀ d ∈ ((zs.map entZ).map fun e => e.1.data), ∃ xs, d = PyData.tuple xs := by
  intro d hd
  rw [List.map_map] at hd
  obtain ⟨z, _, rfl⟩ := List.mem_map.mp hd
  exact ⟨_, kA_data _⟩
theorem zs_depth (zs : List Zt) : ∀ e ∈ zs.map entZ, e.1.data.depth ≤ 20 := by
  intro e he
  obtain ⟨z, _, rfl⟩ := List.mem_map.mp he
  show (kA z.2.2.1).data.depth ≤ 20
  rw [kA_data]
  unfold pA
  rw [PyData.depth, depth_strs]
  decide
end
theorem ensureP_bound {ps : List (Ans × Bel)} {n : Nat} (a : Ans) (h : ∀ q ∈ ps, q.2.length ≤ n) : ∀ q ∈ ensureP ps a, q.2.length ≤ n := by
  unfold ensureP
  split
  · exact h
  · intro q hq
    rcases List.mem_append.mp hq with hq | hq
    · exact h q hq
    · rw [List.mem_singleton.mp hq]; exact Nat.zero_le _
theorem partStep_bound {st : Int → Option (Int × Ans)} {ps : List (Ans × Bel)} {n : Nat} (p : Int × Int) (h : ∀ q ∈ ps, q.2.length ≤ n) : ∀ q ∈ partStep st ps p, q.2.length ≤ n + 1 := by
  unfold partStep
  cases st p.2 with
  | none => exact fun q hq => Nat.le_succ_of_le (h q hq)
  | some r =>
    intro q hq
    obtain ⟨u, hu, rfl⟩ := List.mem_map.mp hq
    have := ensureP_bound r.2 h u hu
    split
    · show (u.2 ++ [(p.1, r.1)]).length ≤ _
      rw [List.length_append]
      exact Nat.succ_le_succ this
    · exact Nat.le_succ_of_le this
theorem partFold_bound (st : Int → Option (Int × Ans)) : ∀ (b : Bel) (ps : List (Ans × Bel)) (n : Nat), (∀ q ∈ ps, q.2.length ≤ n) → ∀ q ∈ b.foldl (partStep st) ps, q.2.length ≤ n + b.length
  | [], ps, n, h => h
  | p :: b, ps, n, h => by
    intro q hq
    have := partFold_bound st b (partStep st ps p) (n + 1) (partStep_bound p h) q hq
    rw [List.length_cons]
    omega
section
variable {P : Program} {w : World} {K : PySem.W.Frag} {mg : Str → Option Value} {base : Heap} {CC DC : Addr}
abbrev s_pts : Stmt := inClass (top 23) 7
abbrev nm_pts : List Str := ["self", "belief", "button", "parts", "first", "now", "after", "answer"]
theorem sc_pts : FnScope nm_pts ["self", "belief", "button"] (defScope s_pts) := ⟨rfl, rfl, rfl, by decide +kernel, rfl, by decide +kernel, by decide +kernel⟩
/- slots: 0 self 1 belief 2 button 3 parts 4 first 5 now 6 after 7 answer -/
def spPts (K : PySem.W.Frag) (CC DC : Addr) : Sp := fun vs H Q _ => ∃ F s b btn c dv bel, vs = [s, b, .str btn] ∧ Same F H ∧ CaseAt K CC DC F s c dv ∧ Dp K H b (pB bel) ∧ NowOk c.n bel ∧ bel.length < 1000 ∧ harmB (c.st btn) bel = true ∧
  ∀ p ts bs F' H', Gr N0 F H F' H' → H p = none → F' p = none → H' p = some (.lst ts) → TsAt K F' ts bs → OwnB K F' H H' bs (partsB (c.st btn) bel) → Q (.ref p) H'
/-- a step of the table -/
theorem tab_step {F : Hp} {t : V} {c : CS} (ht : TabF K F t c.tab) {i : Int} (h0 : 0 ≤ i) (h1 : i < (c.n : Int)) {H : Hp} (e : Same F H) (btn : Str) : ∃ a xs d, t = .ref a ∧ SqL K F a xs ∧ atI xs i = some (.ref d) ∧ ∃ o, DGet H d (.str btn) o ∧ OptR K F o (pStep (c.step i btn)) := by
  obtain ⟨a, ts, d, rfl, hts, htd, hd⟩ := ht.at (CS.tab_at c (i := i.toNat) (by omega))
  obtain ⟨o, hg, ho⟩ := hd.get e btn
  rw [Int.toNat_of_nonneg h0] at ho
  have z := atI_nat htd
  rw [Int.toNat_of_nonneg h0] at z
  exact ⟨a, ts, d, rfl, hts, z, o, hg, ho⟩
theorem met_pts (D : MetX K CC "parts_after" "Case.parts_after" s_pts) (T : Tx K mg CC DC) : C8.Met P w K mg base 1 CC "parts_after" (spPts K CC DC) [] := by
  refine metD (ps := ["self", "belief", "button"]) D (fun _ _ _ _ _ _ us hl => match us, hl with | [_, _, _], _ => rfl) sc_pts ?_ ?_
  · rintro vs H Q E ⟨F, s, b, btn, c, dv, bel, rfl, _⟩; rfl
  rintro f cdv A outer s0 H vs Q E hr ⟨F, s, b, btn, c, dv, bel, rfl, hF, hs, hb, hok, hz, hharm, hQ⟩
  have hu := up 1 hr
  have hu9 := up 9 hr
  have hu40 := up 40 hr
  refine ⟨_, (pss_cons (ps_set (i := 3) sc_pts.nd rfl (.inr rfl) pe_nnew)
      (pss_cons (ps_for PassesOwn.never rfl (pi_listK K rfl (pv 1)) (pg_tupK K rfl 2 rfl (pgs_cons (pg_name (i := 4) sc_pts.nd rfl (.inl rfl)) (pgs_cons (pg_name (i := 5) sc_pts.nd rfl (.inl rfl)) pgs_nil)))
      (pss_cons (ps_asg (pe_dget hu (pe_ix (ix_listK K rfl) (pe_fldK K rfl (pv 0) rfl) (pv 5) (fun _ _ => rfl)) (pv 2) (fun _ _ => rfl)) (pg_tupK K rfl 2 rfl (pgs_cons (pg_name (i := 6) sc_pts.nd rfl (.inl rfl)) (pgs_cons (pg_name (i := 7) sc_pts.nd rfl (.inl rfl)) pgs_nil))))
        (C8.pss_cut (ps_if (pt_cmp (pc_nnotinK P w K rfl rfl rfl hu9 (pv 7) (pv 3)) rfl)
        (pss_one (ps_nput hu9 (pv 3) (pv 7) (pe_lst pa_nil) rfl))
        pss_nil)
        (pss_one (ps_expr (pe_bmK K rfl PySem.F.plainAttrs_list PySem.F.slot_list_append PySem.F.type_list_append mt_append (pe_ngetK P w K rfl rfl rfl hu9 (pv 3) (pv 7) (fun _ _ => rfl)) (pa_cons (pe_tup (pa_cons (pv 4) (pa_cons (pv 6) pa_nil))) pa_nil)))))))
      (pss_one (ps_ret (pe_lc (own := [("answer", 7)]) (g := (gName 7))  rfl sc_pts.nd (pi_listK K rfl (pe_callB (cr_sortNT P w K rfl rfl rfl rfl hu40) (by rfl) T.sorted (by decide +kernel) (pa_cons (pv 3) pa_nil))) (blkOk_by (own := [("answer", 7)]) (N := nm_pts) (sc := defScope s_pts) (by decide +kernel)) (fun _ _ _ _ _ => (pg_name (i := 7) sc_pts.nd rfl (.inl rfl))) (fun _ _ _ _ _ => pts_nil) (fun _ _ _ _ _ => (pe_tup (pa_cons (pe_callTy (call_list_ofK K rfl) (by rfl) T.list (by decide +kernel) (pa_cons (pv 7) pa_nil)) (pa_cons (pe_ngetK P w K rfl rfl rfl hu9 (pv 3) (pv 7) (fun _ _ => rfl)) pa_nil))))))))), ?_⟩
  obtain ⟨ab, xs, rfl, sb, db⟩ := dp_list hb
  obtain ⟨as, dx, w1, p1, l1, u1, t1, rfl, hi, _, _, _, _, _, ht⟩ := hs
  have hlen := dpa_len db
  rw [List.length_map] at hlen
  refine fun d hd => ⟨_, rfl, ab, rfl, ⟨_, same_l (same_new hd) sb⟩, for_list (K := K) (a := ab) (xs := xs) (fun i σ Hi => ∃ Fi zs x1 x2 x3 x4, σ = [some (.ref as), some (.ref ab), some (.str btn), some (.ref d), x1, x2, x3, x4] ∧ Gr N0 F H Fi Hi ∧ PartsAt P w K Fi H Hi d zs ∧ zs.map (·.2.2) = (bel.take i).foldl (partStep (c.st btn)) []) ?_ ?_ ?_ ?_⟩
  · exact ⟨F, [], none, none, none, none, rfl, (Gr.refl hF).lay hd, PartsAt.new (same_none hF hd), rfl⟩
  · rintro i σ Hi _ ⟨Fi, zs, x1, x2, x3, x4, rfl, g, hp, he⟩
    exact same_l g.same sb
  · rintro i x σ Hi hx ⟨Fi, zs, x1, x2, x3, x4, rfl, g, hp, he⟩
    obtain ⟨p, hp1, dp⟩ := dpa_at db hx
    obtain ⟨t, rfl, st⟩ := dp_pP dp
    obtain ⟨h0, h1⟩ := hok p (mem_at hp1)
    obtain ⟨at_, ts, dd, rfl, hts, hat, o, hg, ho⟩ := tab_step ht h0 h1 (g.ff.trans g.fh) btn
    have hsafe : (c.step p.2 btn).isSome = true := List.all_eq_true.mp hharm p (mem_at hp1)
    obtain ⟨⟨af, ans⟩, hst⟩ := Option.isSome_iff_exists.mp hsafe
    rw [hst] at ho
    cases o with
    | none => exact ho.elim
    | some v =>
    have hv : Dp K F v (.tuple [.int af, pA ans]) := ho
    obtain ⟨tv, ys, rfl, sv, dv2⟩ := dp_tup hv
    obtain ⟨y1, y2, rfl, hy1, hy2⟩ := dpa_pair dv2
    obtain rfl := dp_int hy1
    have e2 : Same F Hi := g.ff.trans g.fh
    refine ⟨t, _, rfl, same_t g.same st, rfl, _, _, rfl, _, _, rfl, rfl, ?_⟩
    refine ⟨_, rfl, as, CC, dx, _, _, rfl, e2 _ _ hi, T.cc, T.table, rfl, _, rfl, at_, ts, p.2, .ref dd, rfl, rfl, same_l e2 hts, hat, _, rfl, dd, _, rfl, hg, tv, _, rfl, same_t e2 sv, rfl, _, _, rfl, _, _, rfl, rfl, ?_⟩
    have hans : Dp K Hi y2 (pA ans) := dp_same e2 _ _ hy2
    refine ⟨fun σ' H' => ∃ zs', σ' = [some (.ref as), some (.ref ab), some (.str btn), some (.ref d), some (.int p.1), some (.int p.2), some (.int af), some y2] ∧ Gr N0 F H Fi H' ∧ PartsAt P w K Fi H H' d zs' ∧ zs'.map (·.2.2) = ensureP (zs.map (·.2.2)) ans ∧ ans ∈ zs'.map (·.2.2.1), ?_, ?_⟩
    · refine ⟨_, rfl, _, rfl, d, _, rfl, hp.look g.fh hans, _, rfl, ?_⟩
      have hps : (zs.map (·.2.2)).map (·.1) = zs.map (·.2.2.1) := by rw [List.map_map]; rfl
      by_cases hm : ans ∈ zs.map (·.2.2.1)
      · obtain ⟨z, hzm, hza⟩ := PartsAt.at hm
        have hy := hp.yes hzm
        rw [hza] at hy
        rw [hy]
        refine iteF ⟨zs, rfl, g, hp, ?_, hm⟩
        unfold ensureP
        rw [if_pos (by rw [hps]; exact hm)]
      · rw [PartsAt.no hm]
        refine iteT ⟨Nat.zero_le _, fun l hl => ?_⟩
        obtain ⟨b2, zz, hb2, _, _⟩ := dp_tup hy2
        subst hb2
        have hdl := ne_of_none hp.dict hl
        refine ⟨_, rfl, _, rfl, d, zs.map entZ, b2, kA ans, rfl, by rw [upd_ne hdl]; exact hp.dict, hp.keys (g.fh.trans (same_new hl)), rfl, by rw [kA_data]; exact dp_same (same_new hl) _ _ hans, kA_depth _, PartsAt.no hm, ?_, ?_⟩
        · have h1 := congrArg List.length he
          have h2 := partFold_len (c.st btn) (bel.take i) []
          rw [← he] at h2
          rw [List.length_map, List.length_take] at h2
          rw [List.length_map]
          exact Nat.lt_of_le_of_lt (m := 1000) (by simp at h2; omega) (by decide)
        · refine ⟨zs ++ [(b2, l, ans, [])], rfl, (g.lay hl).set (by exact hp.fd) (.inr hd), hp.put g.fh hl (g.fresh hl) (dp_same g.ff _ _ hy2) hm, ?_, by simp⟩
          unfold ensureP
          rw [if_neg (by rw [hps]; exact hm), List.map_append]
          rfl
    · rintro σ' H' ⟨zs', rfl, g', hp', he', hm⟩
      obtain ⟨z, hzm, hza⟩ := PartsAt.at hm
      have hy := hp'.yes hzm
      rw [hza] at hy
      obtain ⟨_, l0, _, xs', hx', dx'⟩ := hp'.lst z hzm
      have e3 : Same F H' := g'.ff.trans g'.fh
      refine ⟨_, rfl, _, rfl, d, .ref z.2.1, rfl, (by have q := hp'.look g'.fh (dp_same e3 _ _ hy2); rw [hy] at q; exact q), .inl ⟨rfl, _, .inl (.inl hx')⟩, _, rfl, _, rfl, (by show 2 ≤ sizeLine; decide), fun t2 ht2 => ?_⟩
      have hne : z.2.1 ≠ t2 := ne_of_none hx' ht2
      refine ⟨z.2.1, xs', .ref t2, rfl, rfl, by rw [upd_ne hne]; exact hx', ?_, ?_⟩
      · have h1 := dpa_len dx'
        rw [List.length_map] at h1
        rw [h1]
        have b1 : ∀ q ∈ zs'.map (·.2.2), q.2.length ≤ i := by
          rw [he', he]
          exact ensureP_bound _ (fun q hq => Nat.le_trans (partFold_bound (c.st btn) (bel.take i) [] 0 (by simp) q hq) (by rw [List.length_take]; omega))
        have b2 := b1 z.2.2 (List.mem_map.mpr ⟨z, hzm, rfl⟩)
        have b3 := lt_at hx
        exact Nat.lt_of_le_of_lt (m := 1000) (by omega) (by decide)
      · have g2 : Gr N0 Fi H' (upd Fi t2 (.tup [.int p.1, .int af])) (upd H' t2 (.tup [.int p.1, .int af])) := (Gr.refl g'.fh).new ht2
        have hp2 := hp'.ext g2
        have hd2 : Dp K (upd Fi t2 (.tup [.int p.1, .int af])) (.ref t2) (pP (p.1, af)) := .tup (.inl (.inl (upd_same ..))) (.cons (.int _) (.cons (.int _) .nil))
        have hp3 := hp2.push hzm (by rw [upd_ne hne]; exact hx') hd2
        rw [hza] at hp3
        obtain ⟨u1, u2, u3, us, u4, u5⟩ := hp2.lst z hzm
        refine ⟨_, _, _, _, _, _, rfl, (g'.trans g2).set u1 (.inr l0), hp3, ?_⟩
        rw [pushZ_ps, he', he, foldl_take hp1, partStep_some hst]
  · rintro σ Hi ⟨Fi, zs, x1, x2, x3, x4, rfl, g, hp, he⟩
    rw [hlen, List.take_length] at he
    have hzl : zs.length ≤ bel.length := by
      have h1 := parts_len (c.st btn) bel
      have h2 := congrArg List.length he
      rw [List.length_map] at h2
      unfold partsOf at h1
      omega
    refine ⟨_, rfl, d, zs.map entZ, rfl, hp.dict, hp.keys g.fh, zs_alike zs, zs_tup zs, zs_depth zs, fun p hp0 => ?_⟩
    rw [srtZ_ent, List.map_map, show ((fun e : NK × Addr × V => V.ref e.2.1) ∘ entZ) = fun z => V.ref z.1 from rfl]
    have gp : Gr N0 F H (upd Fi p (.lst ((srtZ zs).map fun z => V.ref z.1))) (upd Hi p (.lst ((srtZ zs).map fun z => V.ref z.1))) := g.new hp0
    have g1 : Gr N0 Fi Hi (upd Fi p (.lst ((srtZ zs).map fun z => V.ref z.1))) (upd Hi p (.lst ((srtZ zs).map fun z => V.ref z.1))) := (Gr.refl g.fh).new hp0
    have hp1 := hp.ext g1
    have hs1 : (upd Hi p (.lst ((srtZ zs).map fun z => V.ref z.1))) p = some (.lst ((srtZ zs).map fun z => V.ref z.1)) := upd_same ..
    refine ⟨p, rfl, ⟨_, .inl (.inl hs1)⟩, ?_⟩
    generalize hF1 : upd Fi p (.lst ((srtZ zs).map fun z => V.ref z.1)) = F1 at *
    generalize hH1 : (upd Hi p (.lst ((srtZ zs).map fun z => V.ref z.1))) = H1 at *
    intro L hL
    refine lc_list (K := K) (a := p) (xs := (srtZ zs).map fun z => .ref z.1) (PvF F1 H1 L fun i acc F' => TsAt K F' acc (((srtZ zs).take i).map (·.2.1))) (PvF.zero gp.fh hL .nil) ?_ ?_ ?_
    · rintro i H' _ ⟨F', acc, g', _⟩
      exact same_l g'.same (.inl (.inl hs1))
    · rintro i x H' hx ⟨F', acc, g', hn, hacc, hl, r⟩
      obtain ⟨z, hz, rfl⟩ := get_map hx
      have hzm : z ∈ zs := srtZ_mem.mp (mem_at hz)
      have hk := hp1.key z hzm
      obtain ⟨b2, ys, e, hk1, hk2⟩ := dp_tup hk
      injection e with e
      subst e
      have e1 : Same F1 H' := g'.ff.trans g'.fh
      have hp2 := hp1.ext g'
      have hy := hp2.yes hzm
      refine ⟨rfl, ?_⟩
      refine ⟨_, rfl, z.1, ys, rfl, .inr (same_t e1 hk1), fun l hl2 => ⟨_, rfl, _, rfl, d, .ref z.2.1, rfl, ?_, (by show 2 ≤ sizeLine; decide), fun t ht2 => ?_⟩⟩
      · have q := (hp2.ext ((Gr.refl g'.fh).lay (o := .lst ys) hl2)).look (g'.fh.trans (same_new hl2)) (dp_same (e1.trans (same_new hl2)) _ _ hk)
        rw [hy] at q
        exact q
      · have g4 : Gr N0 F' H' (upd F' t (.tup [.ref l, .ref z.2.1])) (upd (upd H' l (.lst ys)) t (.tup [.ref l, .ref z.2.1])) := ((Gr.refl g'.fh).lay hl2).new ht2
        refine PvF.snoc hL g' hn hacc hl ?_ g4 ?_
        · have := lt_at hz
          have h3 : (srtZ zs).length = zs.length := List.length_mergeSort _
          omega
        · rw [map_take_at hz]
          exact paired_app (TsAt.mono r g4.ff) (.cons ⟨t, _, rfl, .inl (.inl (upd_same ..))⟩ .nil)
    · rintro H' ⟨F', acc, g', hn, hacc, hl, r⟩
      rw [List.length_map, List.take_length] at r
      have h3 := (hp1.ext g').own
      have h4 : ((srtZ zs).map (·.2.2.2)) = partsB (c.st btn) bel := by
        unfold partsB partsOf
        rw [← he, ← srtZ_ps, List.map_map]
        rfl
      rw [h4] at h3
      exact hQ L acc _ F' H' (gp.trans g') (gp.fresh hL) hn hacc r h3
end
end S3

/-! ### P4: is_safe_at, pressed, spread_key -/
namespace S3
open PySem PySem.Spec PyProof.Rows L2
def SpOk (n : Nat) (s : Sprd) : Prop := s.length < 1000 ∧ ∀ b ∈ s, NowOk n b ∧ b.length < 1000
theorem big {n : Nat} (h : n ≤ 10000000) : n ≤ sizeLine := Nat.le_trans h (by decide)
theorem bigS {n : Nat} (h : n ≤ 10000000) : n < sizeLine := Nat.lt_of_le_of_lt h (by decide)
theorem parts_bound (st : Int → Option (Int × Ans)) (b : Bel) : (partsB st b).length ≤ b.length := by
  unfold partsB sortA
  rw [List.length_map, List.length_mergeSort]
  exact parts_len st b
theorem flat_bound {α β : Type} {f : α → List β} {n : Nat} : ∀ {l : List α}, (∀ a ∈ l, (f a).length ≤ n) → (l.flatMap f).length ≤ l.length * n
  | [], _ => Nat.zero_le _
  | a :: l, h => by
    rw [List.flatMap_cons, List.length_append, List.length_cons, Nat.succ_mul]
    have h1 := h a List.mem_cons_self
    have h2 := flat_bound (l := l) fun b hb => h b (List.mem_cons_of_mem _ hb)
    omega
theorem OwnB.perm {K : PySem.W.Frag} {F H0 H : Hp} {zs zs' : List (Addr × Bel)} (h : OwnB K F H0 H (zs.map (·.1)) (zs.map (·.2))) (p : zs'.Perm zs) : OwnB K F H0 H (zs'.map (·.1)) (zs'.map (·.2)) := by
  refine ⟨by rw [List.length_map, List.length_map], (p.map _).nodup_iff.mpr h.nd, fun i b bel h1 h2 => ?_⟩
  obtain ⟨z, hz, rfl⟩ := get_map h1
  obtain ⟨z2, hz2, rfl⟩ := get_map h2
  rw [hz] at hz2
  obtain rfl := Option.some.inj hz2
  obtain ⟨j, hj⟩ := List.getElem?_of_mem (p.mem_iff.mp (mem_at hz))
  exact h.at_ j z.1 z.2 (by rw [List.getElem?_map, hj]; rfl) (by rw [List.getElem?_map, hj]; rfl)
theorem alike_pP : ∀ xs ys : Bel, PySem.W.alikeAll (xs.map pP) (ys.map pP) = true
  | [], _ => by simp [PySem.W.alikeAll]
  | _ :: _, [] => by simp [PySem.W.alikeAll]
  | x :: xs, y :: ys => by
    show PySem.W.alikeAll (pP x :: xs.map pP) (pP y :: ys.map pP) = true
    rw [PySem.W.alikeAll, alike_pP xs ys]
    simp [pP, PySem.W.alike, PySem.W.alikeAll]
theorem depth_pP : ∀ xs : Bel, PyData.depthAll (xs.map pP) ≤ 1
  | [] => by simp [PyData.depthAll]
  | x :: xs => by
    show PyData.depthAll (pP x :: xs.map pP) ≤ 1
    rw [PyData.depthAll]
    have := depth_pP xs
    simp [pP, PyData.depth, PyData.depthAll]
    omega
theorem depth_pB (b : Bel) : (pB b).depth ≤ 2 := by
  unfold pB
  rw [PyData.depth]
  have := depth_pP b
  omega
section
variable {P : Program} {w : World} {K : PySem.W.Frag} {mg : Str → Option Value} {base : Heap} {CC DC : Addr}
abbrev s_isa : Stmt := top 25
abbrev nm_isa : List Str := ["case", "beliefs", "button", "belief"]
theorem sc_isa : FnScope nm_isa ["case", "beliefs", "button"] (defScope s_isa) := ⟨rfl, rfl, rfl, by decide +kernel, rfl, by decide +kernel, by decide +kernel⟩
/- slots: 0 case 1 beliefs 2 button 3 belief -/
def spIsa (K : PySem.W.Frag) (CC DC : Addr) : Sp := fun vs H Q _ => ∃ s bs btn c dv sp, vs = [s, bs, .str btn] ∧ CaseAt K CC DC H s c dv ∧ Dp K H bs (pS sp) ∧ SpOk c.n sp ∧ ∀ H', Same H H' → Q (.bl (harmS (c.st btn) sp)) H'
theorem cal_isa (D : DefX K mg "is_safe_at" s_isa) (T : Tx K mg CC DC) (cHarm : C8.Met P w K mg base 1 CC "is_harmless" (spHar K CC DC) []) : C8.Cal P w K mg base 2 "is_safe_at" (spIsa K CC DC) [] := by
  refine calD (ps := ["case", "beliefs", "button"]) D (fun _ _ _ _ _ _ us hl => match us, hl with | [_, _, _], _ => rfl) sc_isa ?_ ?_
  · rintro vs H Q E ⟨s, bs, btn, c, dv, sp, rfl, _⟩; rfl
  rintro f cdv A outer s0 H vs Q E hr ⟨s, bs, btn, c, dv, sp, rfl, hs, hb, ⟨hz, hok⟩, hQ⟩
  refine ⟨_, (pss_one (ps_ret (pe_callB (cr_allK K rfl rfl) (by rfl) T.all (by decide +kernel) (pa_cons (pe_lc (own := [("belief", 3)]) (g := (gName 3))  rfl sc_isa.nd (pi_listK K rfl (pv 1)) (blkOk_by (own := [("belief", 3)]) (N := nm_isa) (sc := defScope s_isa) (by decide +kernel)) (fun _ _ _ _ _ => (pg_name (i := 3) sc_isa.nd rfl (.inl rfl))) (fun _ _ _ _ _ => pts_nil) (fun _ _ _ _ _ => (C8.pe_mt cHarm hr (by decide) (pv 0) (pa_cons (pv 3) (pa_cons (pv 2) pa_nil))))) pa_nil)))), ?_⟩
  obtain ⟨ab, xs, rfl, sb, db⟩ := dp_list hb
  have hs' := hs
  obtain ⟨as, dx, w1, p1, l1, u1, t1, rfl, hi, _⟩ := hs'
  have hlen := dpa_len db
  rw [List.length_map] at hlen
  refine ⟨_, rfl, ab, rfl, ⟨_, sb⟩, fun L hL => lc_list (K := K) (a := ab) (xs := xs) (PvS H L fun i acc => acc = (sp.take i).map fun b => V.bl (harmB (c.st btn) b)) (PvS.zero hL rfl) (fun i H' _ h => same_l h.1 sb) ?_ ?_⟩
  · rintro i x H' hx ⟨e, acc, hacc, hl, r⟩
    obtain ⟨b, hp, dp⟩ := dpa_at db hx
    obtain ⟨o1, o2⟩ := hok b (mem_at hp)
    refine ⟨rfl, _, rfl, as, dx, _, rfl, e _ _ hi, rfl, _, rfl, _, rfl, _, _, btn, c, dv, b, rfl, hs.mono e, dp_same e _ _ dp, o1, o2, fun H4 e4 => PvS.snoc hL e hacc hl (by have := lt_at hx; omega) e4 ?_⟩
    rw [r, map_take_at hp]
  · rintro H' ⟨e, acc, hacc, hl, r⟩
    rw [hlen, List.take_length] at r
    refine ⟨L, sp.map fun b => harmB (c.st btn) b, rfl, ?_, ?_⟩
    · rw [List.map_map]; exact .inl (.inl (by rw [hacc, r]; rfl))
    · rw [all_id_map]; exact hQ _ e
abbrev s_prs : Stmt := top 26
abbrev nm_prs : List Str := ["case", "beliefs", "button", "found", "belief", "answer", "after"]
theorem sc_prs : FnScope nm_prs ["case", "beliefs", "button"] (defScope s_prs) := ⟨rfl, rfl, rfl, by decide +kernel, rfl, by decide +kernel, by decide +kernel⟩
/- slots: 0 case 1 beliefs 2 button 3 found 4 belief 5 answer 6 after -/
def spPrs (K : PySem.W.Frag) (CC DC : Addr) : Sp := fun vs H Q _ => ∃ F s bs btn c dv sp, vs = [s, bs, .str btn] ∧ Same F H ∧ CaseAt K CC DC F s c dv ∧ Dp K H bs (pS sp) ∧ SpOk c.n sp ∧ harmS (c.st btn) sp = true ∧
  ∀ p as F' H', Gr N0 F H F' H' → H p = none → F' p = none → H' p = some (.lst (as.map V.ref)) → p ∉ as → OwnB K F' H H' as (pressS (c.st btn) sp) → Q (.ref p) H'
theorem cal_prs (D : DefX K mg "pressed" s_prs) (T : Tx K mg CC DC) (cParts : C8.Met P w K mg base 1 CC "parts_after" (spPts K CC DC) []) : C8.Cal P w K mg base 2 "pressed" (spPrs K CC DC) [] := by
  refine calD (ps := ["case", "beliefs", "button"]) D (fun _ _ _ _ _ _ us hl => match us, hl with | [_, _, _], _ => rfl) sc_prs ?_ ?_
  · rintro vs H Q E ⟨F, s, bs, btn, c, dv, sp, rfl, _⟩; rfl
  rintro f cdv A outer s0 H vs Q E hr ⟨F, s, bs, btn, c, dv, sp, rfl, hF, hs, hb, ⟨hz, hok⟩, hharm, hQ⟩
  have hu40 := up 40 hr
  refine ⟨_, (pss_cons (ps_set (i := 3) sc_prs.nd rfl (.inl rfl) (pe_lst pa_nil))
      (pss_cons (ps_for PassesOwn.never rfl (pi_listK K rfl (pv 1)) (pg_name (i := 4) sc_prs.nd rfl (.inl rfl))
      (pss_one (ps_expr (pe_bmK K rfl PySem.F.plainAttrs_list PySem.F.slot_list_extend PySem.F.type_list_extend mt_extend (pv 3) (pa_cons (pe_lc (own := [("answer", 5), ("after", 6)])  rfl sc_prs.nd (pi_listK K rfl (C8.pe_mt cParts hr (by decide) (pv 0) (pa_cons (pv 4) (pa_cons (pv 2) pa_nil)))) (blkOk_by (own := [("answer", 5), ("after", 6)]) (N := nm_prs) (sc := defScope s_prs) (by decide +kernel)) (fun _ _ _ _ _ => (pg_tupK K rfl 2 rfl (pgs_cons (pg_name (i := 5) sc_prs.nd rfl (.inl rfl)) (pgs_cons (pg_name (i := 6) sc_prs.nd rfl (.inl rfl)) pgs_nil)))) (fun _ _ _ _ _ => pts_nil) (fun _ _ _ _ _ => (pv 6))) pa_nil)))))
      (pss_one (ps_ret (pe_callB (cr_sortDK K rfl hu40) (by rfl) T.sorted (by decide +kernel) (pa_cons (pv 3) pa_nil)))))), ?_⟩
  obtain ⟨ab, xs, rfl, sb, db⟩ := dp_list hb
  have hs' := hs
  obtain ⟨as, dx, w1, p1, l1, u1, t1, rfl, hi, _⟩ := hs'
  have hlen := dpa_len db
  rw [List.length_map] at hlen
  have hbnd : ∀ i, ((sp.take i).flatMap (partsB (c.st btn))).length ≤ 1000000 := fun i => by
    have h1 := flat_bound (f := partsB (c.st btn)) (n := 1000) (l := sp.take i) fun b hb => by
      have := (hok b (List.mem_of_mem_take hb)).2
      have := parts_bound (c.st btn) b
      omega
    have h2 : (sp.take i).length < 1000 := by rw [List.length_take]; omega
    omega
  refine ⟨Nat.zero_le _, fun fo hfo => ⟨_, rfl, ab, rfl, ⟨_, same_l (same_new hfo) sb⟩, for_list (K := K) (a := ab) (xs := xs) (fun i σ Hi => ∃ Fi bs x1 x2 x3, σ = [some (.ref as), some (.ref ab), some (.str btn), some (.ref fo), x1, x2, x3] ∧ Gr N0 F H Fi Hi ∧ Fi fo = none ∧ Hi fo = some (.lst (bs.map V.ref)) ∧ fo ∉ bs ∧ OwnB K Fi H Hi bs ((sp.take i).flatMap (partsB (c.st btn)))) ?_ ?_ ?_ ?_⟩⟩
  · exact ⟨F, [], none, none, none, rfl, (Gr.refl hF).lay hfo, same_none hF hfo, upd_same .., by simp, OwnB.nil⟩
  · rintro i σ Hi _ ⟨Fi, bs, x1, x2, x3, rfl, g, _⟩
    exact same_l g.same sb
  · rintro i x σ Hi hx ⟨Fi, bs, x1, x2, x3, rfl, g, hn, hfo1, hnb, hown⟩
    obtain ⟨b, hp, dp⟩ := dpa_at db hx
    obtain ⟨o1, o2⟩ := hok b (mem_at hp)
    have e2 : Same F Hi := g.ff.trans g.fh
    refine ⟨_, rfl, .inl ⟨rfl, _, .inl (.inl hfo1)⟩, ?_⟩
    refine ⟨_, rfl, as, dx, _, rfl, e2 _ _ hi, rfl, _, rfl, _, rfl, Fi, _, _, btn, c, dv, b, rfl, g.fh, hs.mono g.ff, dp_same g.same _ _ dp, o1, o2, List.all_eq_true.mp hharm b (mem_at hp), fun p ts bs2 F2 H2 g2 hp0 hp2 hp3 hts hown2 => ?_⟩
    refine ⟨p, rfl, ⟨_, .inl (.inl hp3)⟩, fun L hL => lc_list (K := K) (a := p) (xs := ts) (PvS H2 L fun i acc => acc = (bs2.take i).map V.ref) (PvS.zero hL rfl) (fun i H' _ h => .inl (.inl (h.1 _ _ hp3))) ?_ ?_⟩
    · rintro j y H' hy ⟨e, acc, hacc, hl, r⟩
      obtain ⟨b2, hb2, t, al, rfl, hst⟩ := paired_getE hts hy
      refine ⟨t, _, rfl, same_t (g2.fh.trans e) hst, rfl, _, _, rfl, _, _, rfl, rfl, rfl, _, rfl, PvS.snoc hL e hacc hl ?_ (.refl _) ?_⟩
      · have h1 := lt_at hb2
        rw [hown2.len] at h1
        have h2 := parts_bound (c.st btn) b
        omega
      · rw [r, map_take_at hb2]
    · rintro H' ⟨e, acc, hacc, hl, r⟩
      rw [hts.length, List.take_length] at r
      subst r
      have hfo2 : H' fo = some (.lst (bs.map V.ref)) := e _ _ (g2.same _ _ hfo1)
      have gg := (g.trans g2).ext e
      have hn2 : F2 fo = none := g2.hid hfo1 hn
      have w1 := (hown.ext g2).ext ((Gr.refl g2.fh).ext e)
      have w2 : OwnB K F2 H H' bs2 (partsB (c.st btn) b) := (hown2.ext ((Gr.refl g2.fh).ext e)).old fun a ha => g.fresh ha
      have hdis : ∀ z ∈ bs, z ∉ bs2 := fun z h1 h2 => by
        have q1 := (hown2.mem h2).2.1
        exact (hown.mem h1).2.2 q1
      have w3 := w1.app w2 hdis
      have hfb2 : fo ∉ bs2 := fun h2 => by
        have q1 := (hown2.mem h2).2.1
        rw [hfo1] at q1; cases q1
      refine ⟨fo, L, _, _, rfl, rfl, hfo2, hacc, ?_, F2, bs ++ bs2, _, _, _, rfl, gg.set hn2 (.inr hfo), hn2, by rw [List.map_append]; exact upd_same .., by simp [hnb, hfb2], ?_⟩
      · rw [List.length_map, List.length_map, hown.len, hown2.len]
        have h1 := hbnd i
        have h2 := parts_bound (c.st btn) b
        exact big (by omega)
      · rw [take_at hp, List.flatMap_append, List.flatMap_cons, List.flatMap_nil, List.append_nil]
        refine ⟨w3.len, w3.nd, fun k a bel h1 h2 => ?_⟩
        obtain ⟨a1, a2, ys, a3, a4⟩ := w3.at_ k a bel h1 h2
        have hne : a ≠ fo := fun z => by
          rcases List.mem_append.mp (mem_at h1) with q | q
          · exact hnb (z ▸ q)
          · exact hfb2 (z ▸ q)
        exact ⟨a1, a2, ys, by rw [upd_ne hne]; exact a3, a4⟩
  · rintro σ Hi ⟨Fi, bs, x1, x2, x3, rfl, g, hn, hfo1, hnb, hown⟩
    rw [hlen, List.take_length] at hown
    have hz2 : ∃ zs : List (Addr × Bel), bs = zs.map (·.1) ∧ sp.flatMap (partsB (c.st btn)) = zs.map (·.2) := ⟨bs.zip (sp.flatMap (partsB (c.st btn))), (List.map_fst_zip (Nat.le_of_eq hown.len)).symm, (List.map_snd_zip (Nat.le_of_eq hown.len.symm)).symm⟩
    obtain ⟨zs, rfl, hzs⟩ := hz2
    rw [hzs] at hown
    have hmp : ((zs.map fun z => (V.ref z.1, pB z.2)).mergeSort (PySem.W.dataLe false Prod.snd)) = (zs.mergeSort (PySem.W.dataLe false fun z => pB z.2)).map fun z => (V.ref z.1, pB z.2) := by
      refine (List.map_mergeSort (f := fun z : Addr × Bel => (V.ref z.1, pB z.2)) (r := PySem.W.dataLe false fun z : Addr × Bel => pB z.2) (s := PySem.W.dataLe false Prod.snd) fun a _ b _ => ?_).symm
      rfl
    have hms : sortS (zs.map (·.2)) = (zs.mergeSort (PySem.W.dataLe false fun z => pB z.2)).map (·.2) := by
      refine (List.map_mergeSort (f := fun z : Addr × Bel => z.2) (r := PySem.W.dataLe false fun z : Addr × Bel => pB z.2) (s := PySem.W.dataLe false pB) fun a _ b _ => ?_).symm
      rfl
    refine ⟨_, rfl, fo, zs.map fun z => (V.ref z.1, pB z.2), rfl, .inl (.inl ?_), ?_, ?_, ?_, ?_, fun p hp0 => ?_⟩
    · rw [hfo1, List.map_map, List.map_map]; rfl
    · intro b hb
      obtain ⟨z, hz, rfl⟩ := List.mem_map.mp hb
      obtain ⟨k, hk⟩ := List.getElem?_of_mem hz
      obtain ⟨a1, a2, ys, a3, a4⟩ := hown.at_ k z.1 z.2 (by rw [List.getElem?_map, hk]; rfl) (by rw [List.getElem?_map, hk]; rfl)
      exact .lst (.inl (.inl a3)) (dpa_same g.fh _ _ a4)
    · rw [List.map_map]
      exact PySem.W.AllAlike.of (enc := fun z : Addr × Bel => pB z.2) fun a b => by simpa [pB, PySem.W.alike] using alike_pP a.2 b.2
    · rw [List.map_map]
      exact PySem.W.Sortable.others (enc := fun z : Addr × Bel => pB z.2) fun a => ⟨(fun q => nomatch q), fun ys q => nomatch q⟩
    · intro b hb
      obtain ⟨z, hz, rfl⟩ := List.mem_map.mp hb
      exact Nat.le_trans (depth_pB z.2) (by decide)
    · rw [hmp, List.map_map]
      have g2 : Gr N0 Fi Hi Fi (upd Hi p (.lst ((zs.mergeSort (PySem.W.dataLe false fun z => pB z.2)).map ((fun x : V × PyData => x.1) ∘ fun z : Addr × Bel => (V.ref z.1, pB z.2))))) := (Gr.refl g.fh).lay hp0
      have hpm := List.mergeSort_perm zs (PySem.W.dataLe false fun z => pB z.2)
      have o2 := (hown.ext g2).perm hpm
      refine hQ p ((zs.mergeSort (PySem.W.dataLe false fun z => pB z.2)).map (·.1)) Fi _ (g.trans g2) (g.fresh hp0) (same_none g.fh hp0) ?_ ?_ ?_
      · rw [upd_same, List.map_map]; rfl
      · intro hm
        obtain ⟨z, hz, e⟩ := List.mem_map.mp hm
        have q := (hown.mem (List.mem_map.mpr ⟨z, hpm.mem_iff.mp hz, rfl⟩)).2.2
        rw [e] at q
        exact q hp0
      · unfold pressS
        rw [hzs, hms]
        exact o2
end
end S3

/-! ### P5: spreads as keys; goals -/
namespace S3
open PySem PySem.Spec PyProof.Rows L2
/-- a belief, a spread: lists or tuples -/
def BelV (K : PySem.W.Frag) (H : Hp) (v : V) (b : Bel) : Prop := ∃ a xs, v = .ref a ∧ SqE K H a xs ∧ DpAll K H xs (b.map pP)
def SpV (K : PySem.W.Frag) (H : Hp) (v : V) (s : Sprd) : Prop := ∃ a xs, v = .ref a ∧ SqE K H a xs ∧ Paired (BelV K H) xs s
/-- a list of lists whose entries are known for good -/
def SpAt (K : PySem.W.Frag) (F H : Hp) (v : V) (s : Sprd) : Prop := ∃ a xs, v = .ref a ∧ SqL K H a xs ∧ Paired (fun x b => ∃ a ys, x = .ref a ∧ SqL K H a ys ∧ DpAll K F ys (b.map pP)) xs s
section
variable {K : PySem.W.Frag} {F H F' H' : Hp} {v : V} {b : Bel} {s : Sprd}
theorem BelV.mono (h : BelV K H v b) (e : Same H H') : BelV K H' v b := let ⟨a, xs, h1, h2, h3⟩ := h; ⟨a, xs, h1, same_e e h2, dpa_same e _ _ h3⟩
theorem SpV.mono (h : SpV K H v s) (e : Same H H') : SpV K H' v s := let ⟨a, xs, h1, h2, h3⟩ := h; ⟨a, xs, h1, same_e e h2, paired_mono (fun _ _ q => BelV.mono q e) h3⟩
theorem BelV.ofB (h : Dp K H v (pB b)) : BelV K H v b := let ⟨a, xs, h1, h2, h3⟩ := dp_list h; ⟨a, xs, h1, .inl h2, h3⟩
theorem BelV.ofT (h : Dp K H v (pT b)) : BelV K H v b := let ⟨a, xs, h1, h2, h3⟩ := dp_tup h; ⟨a, xs, h1, .inr h2, h3⟩
theorem paired_dpa {R : V → Bel → Prop} {g : Bel → PyData} (h : ∀ v b, Dp K H v (g b) → R v b) : ∀ {xs : List V} {s : Sprd}, DpAll K H xs (s.map g) → Paired R xs s
  | _, [], q => by cases q; exact .nil
  | _, b :: s, q => by
    cases q with
    | cons q1 q2 => exact .cons (h _ _ q1) (paired_dpa h q2)
theorem SpV.ofS (h : Dp K H v (pS s)) : SpV K H v s := let ⟨a, xs, h1, h2, h3⟩ := dp_list h; ⟨a, xs, h1, .inl h2, paired_dpa (fun _ _ => BelV.ofB) h3⟩
theorem SpV.ofK (h : Dp K H v (pK s)) : SpV K H v s := let ⟨a, xs, h1, h2, h3⟩ := dp_tup h; ⟨a, xs, h1, .inr h2, paired_dpa (fun _ _ => BelV.ofT) h3⟩
theorem SpAt.ofS (h : Dp K F v (pS s)) (e : Same F H) : SpAt K F H v s := let ⟨a, xs, h1, h2, h3⟩ := dp_list h
  ⟨a, xs, h1, same_l e h2, paired_dpa (fun x b q => let ⟨a, ys, q1, q2, q3⟩ := dp_list q; ⟨a, ys, q1, same_l e q2, q3⟩) h3⟩
theorem paired_of {α β : Type} {R : α → β → Prop} : ∀ {l : List α} {m : List β}, l.length = m.length → (∀ (i : Nat) a b, l[i]? = some a → m[i]? = some b → R a b) → Paired R l m
  | [], [], _, _ => .nil
  | a :: l, b :: m, hl, h => .cons (h 0 a b rfl rfl) (paired_of (Nat.succ.inj hl) fun i => h (i + 1))
  | [], _ :: _, hl, _ => by cases hl
  | _ :: _, [], hl, _ => by cases hl
theorem SpAt.own {H0 : Hp} {bs : List Addr} {p : Addr} (h : OwnB K F H0 H bs s) (hp : SqL K H p (bs.map V.ref)) : SpAt K F H (.ref p) s :=
  ⟨p, _, rfl, hp, paired_of (by rw [List.length_map, h.len]) fun i a b h1 h2 => by
    obtain ⟨c, hc, rfl⟩ := get_map h1
    obtain ⟨_, _, ys, h3, h4⟩ := h.at_ i c b hc h2
    exact ⟨c, ys, rfl, .inl (.inl h3), h4⟩⟩
theorem SpAt.ext (h : SpAt K F H v s) (g : Gr N0 F H F' H') : SpAt K F' H' v s := let ⟨a, xs, h1, h2, h3⟩ := h
  ⟨a, xs, h1, same_l g.same h2, paired_mono (fun _ _ ⟨a, ys, q1, q2, q3⟩ => ⟨a, ys, q1, same_l g.same q2, dpa_same g.ff _ _ q3⟩) h3⟩
theorem SpAt.spv (h : SpAt K F H v s) (e : Same F H) : SpV K H v s := let ⟨a, xs, h1, h2, h3⟩ := h
  ⟨a, xs, h1, .inl h2, paired_mono (fun _ _ ⟨a, ys, q1, q2, q3⟩ => ⟨a, ys, q1, .inl q2, dpa_same e _ _ q3⟩) h3⟩
theorem dpa_of_paired {g : Bel → PyData} : ∀ {xs : List V} {s : Sprd}, Paired (fun x b => Dp K H x (g b)) xs s → DpAll K H xs (s.map g)
  | _, _, .nil => .nil
  | _, _, .cons h t => .cons h (dpa_of_paired t)
theorem SpAt.dp (h : SpAt K F H v s) (e : Same F H) : Dp K H v (pS s) := by
  obtain ⟨a, xs, rfl, h2, h3⟩ := h
  refine .lst h2 (dpa_of_paired (paired_mono (fun x b ⟨c, ys, q1, q2, q3⟩ => ?_) h3))
  subst q1
  exact .lst q2 (dpa_same e _ _ q3)
end
def spKey (K : PySem.W.Frag) : Sp := fun vs H Q _ => ∃ F v s, vs = [v] ∧ Same F H ∧ SpAt K F H v s ∧ s.length < 1000 ∧ ∀ p F' H', Gr N0 F H F' H' → Dp K F' (.ref p) (pK s) → Q (.ref p) H'
section
variable {P : Program} {w : World} {K : PySem.W.Frag} {mg : Str → Option Value} {base : Heap} {CC DC : Addr}
abbrev s_key : Stmt := top 30
abbrev nm_key : List Str := ["beliefs", "belief"]
theorem sc_key : FnScope nm_key ["beliefs"] (defScope s_key) := ⟨rfl, rfl, rfl, by decide +kernel, rfl, by decide +kernel, by decide +kernel⟩
/- slots: 0 beliefs 1 belief -/
theorem cal_key (D : DefX K mg "spread_key" s_key) (T : Tx K mg CC DC) : C8.Cal P w K mg base 1 "spread_key" (spKey K) [] := by
  refine calD (ps := ["beliefs"]) D (fun _ _ _ _ _ _ us hl => match us, hl with | [_], _ => rfl) sc_key ?_ ?_
  · rintro vs H Q E ⟨F, v, s, rfl, _⟩; rfl
  rintro f cdv A outer s0 H vs Q E hr ⟨F, v, s, rfl, hF, hs, hz, hQ⟩
  refine ⟨_, (pss_one (ps_ret (pe_callTy (call_tuple_ofK K rfl) (by rfl) T.tuple (by decide +kernel) (pa_cons (pe_lc (own := [("belief", 1)]) (g := (gName 1))  rfl sc_key.nd (pi_listK K rfl (pv 0)) (blkOk_by (own := [("belief", 1)]) (N := nm_key) (sc := defScope s_key) (by decide +kernel)) (fun _ _ _ _ _ => (pg_name (i := 1) sc_key.nd rfl (.inl rfl))) (fun _ _ _ _ _ => pts_nil) (fun _ _ _ _ _ => (pe_callTy (call_tuple_ofK K rfl) (by rfl) T.tuple (by decide +kernel) (pa_cons (pv 1) pa_nil)))) pa_nil)))), ?_⟩
  obtain ⟨ab, xs, rfl, sb, db⟩ := hs
  have hlen := db.length
  refine ⟨_, rfl, ab, rfl, ⟨_, sb⟩, fun L hL => lc_list (K := K) (a := ab) (xs := xs) (PvF F H L fun i acc F' => DpAll K F' acc ((s.take i).map pT)) (PvF.zero hF hL .nil) (fun i H' _ ⟨_, _, g, _⟩ => same_l g.same sb) ?_ ?_⟩
  · rintro i x H' hx ⟨Fi, acc, g, hn, hacc, hl, r⟩
    obtain ⟨b, hb, a, ys, rfl, q2, q3⟩ := paired_getE db hx
    refine ⟨rfl, _, rfl, a, ys, rfl, .inl ⟨same_l g.same q2, fun t ht => ?_⟩⟩
    have g4 : Gr N0 Fi H' (upd Fi t (.tup ys)) (upd H' t (.tup ys)) := (Gr.refl g.fh).new ht
    refine PvF.snoc hL g hn hacc hl (by have := lt_at hx; omega) g4 ?_
    rw [map_take_at hb]
    exact dpa_snoc (dpa_same g4.ff _ _ r) (.tup (.inl (.inl (upd_same ..))) (dpa_same (g.ff.trans g4.ff) _ _ q3))
  · rintro H' ⟨Fi, acc, g, hn, hacc, hl, r⟩
    rw [hlen, List.take_length] at r
    refine ⟨L, acc, rfl, .inl ⟨.inl (.inl hacc), fun t ht => ?_⟩⟩
    have g4 : Gr N0 F H (upd Fi t (.tup acc)) (upd H' t (.tup acc)) := g.new ht
    exact hQ t _ _ g4 (.tup (.inl (.inl (upd_same ..))) (dpa_same (same_upd (.refl _) (same_none g.fh ht)) _ _ r))
abbrev s_lfr : Stmt := top 62
abbrev nm_lfr : List Str := ["_law_beliefs", "_law_belief"]
theorem sc_lfr : FnScope nm_lfr ["_law_beliefs"] (defScope s_lfr) := ⟨rfl, rfl, rfl, by decide +kernel, rfl, by decide +kernel, by decide +kernel⟩
/- slots: 0 _law_beliefs 1 _law_belief -/
theorem cal_lfr (D : DefX K mg "_law_frozen" s_lfr) (T : Tx K mg CC DC) : C8.Cal P w K mg base 1 "_law_frozen" (spKey K) [] := by
  refine calD (ps := ["_law_beliefs"]) D (fun _ _ _ _ _ _ us hl => match us, hl with | [_], _ => rfl) sc_lfr ?_ ?_
  · rintro vs H Q E ⟨F, v, s, rfl, _⟩; rfl
  rintro f cdv A outer s0 H vs Q E hr ⟨F, v, s, rfl, hF, hs, hz, hQ⟩
  refine ⟨_, (pss_one (ps_ret (pe_callTy (call_tuple_ofK K rfl) (by rfl) T.tuple (by decide +kernel) (pa_cons (pe_lc (own := [("_law_belief", 1)]) (g := (gName 1))  rfl sc_lfr.nd (pi_listK K rfl (pv 0)) (blkOk_by (own := [("_law_belief", 1)]) (N := nm_lfr) (sc := defScope s_lfr) (by decide +kernel)) (fun _ _ _ _ _ => (pg_name (i := 1) sc_lfr.nd rfl (.inl rfl))) (fun _ _ _ _ _ => pts_nil) (fun _ _ _ _ _ => (pe_callTy (call_tuple_ofK K rfl) (by rfl) T.tuple (by decide +kernel) (pa_cons (pv 1) pa_nil)))) pa_nil)))), ?_⟩
  obtain ⟨ab, xs, rfl, sb, db⟩ := hs
  have hlen := db.length
  refine ⟨_, rfl, ab, rfl, ⟨_, sb⟩, fun L hL => lc_list (K := K) (a := ab) (xs := xs) (PvF F H L fun i acc F' => DpAll K F' acc ((s.take i).map pT)) (PvF.zero hF hL .nil) (fun i H' _ ⟨_, _, g, _⟩ => same_l g.same sb) ?_ ?_⟩
  · rintro i x H' hx ⟨Fi, acc, g, hn, hacc, hl, r⟩
    obtain ⟨b, hb, a, ys, rfl, q2, q3⟩ := paired_getE db hx
    refine ⟨rfl, _, rfl, a, ys, rfl, .inl ⟨same_l g.same q2, fun t ht => ?_⟩⟩
    have g4 : Gr N0 Fi H' (upd Fi t (.tup ys)) (upd H' t (.tup ys)) := (Gr.refl g.fh).new ht
    refine PvF.snoc hL g hn hacc hl (by have := lt_at hx; omega) g4 ?_
    rw [map_take_at hb]
    exact dpa_snoc (dpa_same g4.ff _ _ r) (.tup (.inl (.inl (upd_same ..))) (dpa_same (g.ff.trans g4.ff) _ _ q3))
  · rintro H' ⟨Fi, acc, g, hn, hacc, hl, r⟩
    rw [hlen, List.take_length] at r
    refine ⟨L, acc, rfl, .inl ⟨.inl (.inl hacc), fun t ht => ?_⟩⟩
    have g4 : Gr N0 F H (upd Fi t (.tup acc)) (upd H' t (.tup acc)) := g.new ht
    exact hQ t _ _ g4 (.tup (.inl (.inl (upd_same ..))) (dpa_same (same_upd (.refl _) (same_none g.fh ht)) _ _ r))
end
end S3

/-! ### P6: goals met -/
namespace S3
open PySem PySem.Spec PyProof.Rows L2
def GoalFor (g : Goal) (b : Bel) : Prop := b ≠ [] ∧ match g with
  | .grp gs => gs.length < 1000 ∧ ∃ x ∈ gs, (b.headD (0, 0)).1 ∈ x
  | _ => True
theorem yesV {v : V} {A B : Prop} (h : A) : if decide (v = v) = true then A else B := by rw [if_pos (decide_eq_true rfl)]; exact h
theorem noV {v u : V} {A B : Prop} (n : v ≠ u) (h : B) : if decide (v = u) = true then A else B := by rw [if_neg (by rw [decide_eq_true_eq]; exact n)]; exact h
theorem str_ne {a b : Str} (h : a ≠ b) : V.str a ≠ V.str b := fun e => h (by injection e)
theorem filter_take_at {α : Type} {p : α → Bool} {l : List α} {i : Nat} {a : α} (h : l[i]? = some a) : (l.take (i + 1)).filter p = (l.take i).filter p ++ (if p a = true then [a] else []) := by
  rw [take_at h, List.filter_append, List.filter_cons]
  rfl
theorem dpa_head {K : PySem.W.Frag} {H : Hp} {xs : List V} {b : Bel} (h : DpAll K H xs (b.map pP)) (hb : b ≠ []) : ∃ t, xs[0]? = some (.ref t) ∧ SqT K H t [.int (b.headD (0, 0)).1, .int (b.headD (0, 0)).2] := by
  cases b with
  | nil => exact absurd rfl hb
  | cons p b =>
    cases h with
    | cons h1 h2 =>
      obtain ⟨t, rfl, st⟩ := dp_pP h1
      exact ⟨t, rfl, st⟩
section
variable {P : Program} {w : World} {K : PySem.W.Frag} {mg : Str → Option Value} {base : Heap} {CC DC : Addr}
abbrev s_gm : Stmt := top 22
abbrev nm_gm : List Str := ["belief", "goal", "own", "group", "first", "now"]
theorem sc_gm : FnScope nm_gm ["belief", "goal"] (defScope s_gm) := ⟨rfl, rfl, rfl, by decide +kernel, rfl, by decide +kernel, by decide +kernel⟩
/- slots: 0 belief 1 goal 2 own 3 group 4 first 5 now -/
def spGm (K : PySem.W.Frag) : Sp := fun vs H Q _ => ∃ b g bel goal, vs = [b, g] ∧ Dp K H b (pB bel) ∧ Dp K H g (pG goal) ∧ GoalFor goal bel ∧ bel.length < 1000 ∧ ∀ H', Same H H' → Q (.bl (meetsB goal bel)) H'
theorem cal_gm (D : DefX K mg "goal_met" s_gm) (T : Tx K mg CC DC) : C8.Cal P w K mg base 1 "goal_met" (spGm K) [] := by
  refine calD (ps := ["belief", "goal"]) D (fun _ _ _ _ _ _ us hl => match us, hl with | [_, _], _ => rfl) sc_gm ?_ ?_
  · rintro vs H Q E ⟨b, g, bel, goal, rfl, _⟩; rfl
  rintro f cdv A outer s0 H vs Q E hr ⟨b, g, bel, goal, rfl, hb, hg, ⟨hne, hgo⟩, hz, hQ⟩
  refine ⟨_, (pss_cons (ps_if (pt_cmpR op_eq (pe_ix (ix_tupK K rfl) (pv 1) pe_int (fun _ _ => rfl)) pe_str (nomark _))
      (pss_one (ps_ret (pe_callB (cr_allK K rfl rfl) (by rfl) T.all (by decide +kernel) (pa_cons (pe_lc (own := [("first", 4), ("now", 5)])  rfl sc_gm.nd (pi_listK K rfl (pv 0)) (blkOk_by (own := [("first", 4), ("now", 5)]) (N := nm_gm) (sc := defScope s_gm) (by decide +kernel)) (fun _ _ _ _ _ => (pg_tupK K rfl 2 rfl (pgs_cons (pg_name (i := 4) sc_gm.nd rfl (.inl rfl)) (pgs_cons (pg_name (i := 5) sc_gm.nd rfl (.inl rfl)) pgs_nil)))) (fun _ _ _ _ _ => pts_nil) (fun _ _ _ _ _ => (pe_cmpR op_eq (pv 5) (pe_ix (ix_tupK K rfl) (pe_ix (ix_listK K rfl) (pv 0) pe_int (fun _ _ => rfl)) pe_int (fun _ _ => rfl)) (nomark _)))) pa_nil))))
      pss_nil)
      (pss_cons (ps_if (pt_cmpR op_eq (pe_ix (ix_tupK K rfl) (pv 1) pe_int (fun _ _ => rfl)) pe_str (nomark _))
      (pss_one (ps_ret (pe_cmpR op_eq (pe_callB (call_len_seqK K rfl) (by rfl) T.len (by decide +kernel) (pa_cons (pv 0) pa_nil)) pe_int (nomark _))))
      pss_nil)
      (pss_cons (ps_if (pt_cmpR op_eq (pe_ix (ix_tupK K rfl) (pv 1) pe_int (fun _ _ => rfl)) pe_str (nomark _))
      (pss_one (ps_ret (pe_callB (cr_allK K rfl rfl) (by rfl) T.all (by decide +kernel) (pa_cons (pe_lc (own := [("first", 4), ("now", 5)])  rfl sc_gm.nd (pi_listK K rfl (pv 0)) (blkOk_by (own := [("first", 4), ("now", 5)]) (N := nm_gm) (sc := defScope s_gm) (by decide +kernel)) (fun _ _ _ _ _ => (pg_tupK K rfl 2 rfl (pgs_cons (pg_name (i := 4) sc_gm.nd rfl (.inl rfl)) (pgs_cons (pg_name (i := 5) sc_gm.nd rfl (.inl rfl)) pgs_nil)))) (fun _ _ _ _ _ => pts_nil) (fun _ _ _ _ _ => (pe_cmpR (op_in_seqK K rfl) (pv 5) (pe_ix (ix_tupK K rfl) (pv 1) pe_int (fun _ _ => rfl)) rfl))) pa_nil))))
      pss_nil)
      (pss_cons (ps_set (i := 2) sc_gm.nd rfl (.inr rfl) (pe_ix (ix_listK K rfl) (pe_lc (own := [("group", 3)]) (g := (gName 3))  rfl sc_gm.nd (pi_listK K rfl (pe_ix (ix_tupK K rfl) (pv 1) pe_int (fun _ _ => rfl))) (blkOk_by (own := [("group", 3)]) (N := nm_gm) (sc := defScope s_gm) (by decide +kernel)) (fun _ _ _ _ _ => (pg_name (i := 3) sc_gm.nd rfl (.inl rfl))) (fun _ _ _ _ _ => pts_one (pt_cmpR (op_in_seqK K rfl) (pe_ix (ix_tupK K rfl) (pe_ix (ix_listK K rfl) (pv 0) pe_int (fun _ _ => rfl)) pe_int (fun _ _ => rfl)) (pv 3) rfl)) (fun _ _ _ _ _ => (pv 3))) pe_int (fun _ _ => rfl)))
      (pss_one (ps_ret (pe_callB (cr_allK K rfl rfl) (by rfl) T.all (by decide +kernel) (pa_cons (pe_lc (own := [("first", 4), ("now", 5)])  rfl sc_gm.nd (pi_listK K rfl (pv 0)) (blkOk_by (own := [("first", 4), ("now", 5)]) (N := nm_gm) (sc := defScope s_gm) (by decide +kernel)) (fun _ _ _ _ _ => (pg_tupK K rfl 2 rfl (pgs_cons (pg_name (i := 4) sc_gm.nd rfl (.inl rfl)) (pgs_cons (pg_name (i := 5) sc_gm.nd rfl (.inl rfl)) pgs_nil)))) (fun _ _ _ _ _ => pts_nil) (fun _ _ _ _ _ => (pe_cmpR (op_in_seqK K rfl) (pv 4) (pv 2) rfl))) pa_nil)))))))), ?_⟩
  obtain ⟨ab, xs, rfl, sb, db⟩ := dp_list hb
  have hlen := dpa_len db
  rw [List.length_map] at hlen
  obtain ⟨t0, hx0, st0⟩ := dpa_head db hne
  cases goal with
  | now =>
    obtain ⟨ag, gs, rfl, sg, dg⟩ := dp_tup hg
    obtain ⟨g1, rfl, hg1⟩ := dpa_one dg
    obtain rfl := dp_str hg1
    refine ⟨_, rfl, ag, _, 0, _, rfl, rfl, sg, rfl, rfl, _, rfl, yesV ?_⟩
    refine ⟨_, rfl, ab, rfl, ⟨_, sb⟩, fun L hL => lc_list (K := K) (a := ab) (xs := xs) (PvS H L fun i acc => acc = (bel.take i).map fun p => V.bl (decide (p.2 = (bel.headD (0, 0)).2))) (PvS.zero hL rfl) (fun i H' _ h => same_l h.1 sb) ?_ ?_⟩
    · rintro i x H' hx ⟨e, acc, hacc, hl, r⟩
      obtain ⟨p, hp, dp⟩ := dpa_at db hx
      obtain ⟨t, rfl, st⟩ := dp_pP dp
      refine ⟨t, _, rfl, same_t e st, rfl, _, _, rfl, _, _, rfl, rfl, rfl, _, rfl, _, rfl, ab, xs, 0, _, rfl, rfl, same_l e sb, atI_nat (j := 0) hx0, t0, _, 1, _, rfl, rfl, same_t e st0, rfl, rfl, PvS.snoc hL e hacc hl (by have := lt_at hx; omega) (.refl _) ?_⟩
      rw [r, map_take_at hp]
      simp
    · rintro H' ⟨e, acc, hacc, hl, r⟩
      rw [hlen, List.take_length] at r
      refine ⟨L, bel.map fun p => decide (p.2 = (bel.headD (0, 0)).2), rfl, ?_, ?_⟩
      · rw [List.map_map]; exact .inl (.inl (by rw [hacc, r]; rfl))
      · rw [all_id_map]; exact hQ _ e
  | first =>
    obtain ⟨ag, gs, rfl, sg, dg⟩ := dp_tup hg
    obtain ⟨g1, rfl, hg1⟩ := dpa_one dg
    obtain rfl := dp_str hg1
    refine ⟨_, rfl, ag, _, 0, _, rfl, rfl, sg, rfl, rfl, _, rfl, noV (str_ne (by decide)) ?_⟩
    refine ⟨_, rfl, ag, _, 0, _, rfl, rfl, sg, rfl, rfl, _, rfl, yesV ?_⟩
    refine ⟨_, rfl, ab, xs, rfl, .inl sb, rfl, ?_⟩
    have := hQ H (.refl _)
    have e : decide (V.int xs.length = V.int 1) = meetsB .first bel := by
      unfold meetsB
      rw [hlen, Bool.eq_iff_iff, decide_eq_true_eq, beq_iff_eq]
      constructor
      · intro h; injection h with h; omega
      · intro h; rw [h]; rfl
    rw [e]; exact this
  | inn ns =>
    obtain ⟨ag, gs, rfl, sg, dg⟩ := dp_tup hg
    obtain ⟨g1, g2, rfl, hg1, hg2⟩ := dpa_pair dg
    obtain rfl := dp_str hg1
    obtain ⟨an, rfl, sn⟩ := dp_ints hg2
    refine ⟨_, rfl, ag, _, 0, _, rfl, rfl, sg, rfl, rfl, _, rfl, noV (str_ne (by decide)) ?_⟩
    refine ⟨_, rfl, ag, _, 0, _, rfl, rfl, sg, rfl, rfl, _, rfl, noV (str_ne (by decide)) ?_⟩
    refine ⟨_, rfl, ag, _, 0, _, rfl, rfl, sg, rfl, rfl, _, rfl, yesV ?_⟩
    refine ⟨_, rfl, ab, rfl, ⟨_, sb⟩, fun L hL => lc_list (K := K) (a := ab) (xs := xs) (PvS H L fun i acc => acc = (bel.take i).map fun p => V.bl (ns.contains p.2)) (PvS.zero hL rfl) (fun i H' _ h => same_l h.1 sb) ?_ ?_⟩
    · rintro i x H' hx ⟨e, acc, hacc, hl, r⟩
      obtain ⟨p, hp, dp⟩ := dpa_at db hx
      obtain ⟨t, rfl, st⟩ := dp_pP dp
      refine ⟨t, _, rfl, same_t e st, rfl, _, _, rfl, _, _, rfl, rfl, rfl, _, rfl, _, rfl, ag, _, 1, _, rfl, rfl, same_t e sg, rfl, an, _, rfl, .inl (same_l e sn), rfl, flat_ints ns, PvS.snoc hL e hacc hl (by have := lt_at hx; omega) (.refl _) ?_⟩
      rw [r, map_take_at hp]
      simp [inV_int]
    · rintro H' ⟨e, acc, hacc, hl, r⟩
      rw [hlen, List.take_length] at r
      refine ⟨L, bel.map fun p => ns.contains p.2, rfl, ?_, ?_⟩
      · rw [List.map_map]; exact .inl (.inl (by rw [hacc, r]; rfl))
      · rw [all_id_map]; exact hQ _ e
  | grp ns =>
    obtain ⟨ag, gs, rfl, sg, dg⟩ := dp_tup hg
    obtain ⟨g1, g2, rfl, hg1, hg2⟩ := dpa_pair dg
    obtain rfl := dp_str hg1
    obtain ⟨an, zs, rfl, sn, dn⟩ := dp_list hg2
    have hlz := dpa_len dn
    rw [List.length_map] at hlz
    refine ⟨_, rfl, ag, _, 0, _, rfl, rfl, sg, rfl, rfl, _, rfl, noV (str_ne (by decide)) ?_⟩
    refine ⟨_, rfl, ag, _, 0, _, rfl, rfl, sg, rfl, rfl, _, rfl, noV (str_ne (by decide)) ?_⟩
    refine ⟨_, rfl, ag, _, 0, _, rfl, rfl, sg, rfl, rfl, _, rfl, noV (str_ne (by decide)) ?_⟩
    refine ⟨_, rfl, ag, _, 1, _, rfl, rfl, sg, rfl, an, rfl, ⟨_, sn⟩, fun L hL => lc_list (K := K) (a := an) (xs := zs) (PvS H L fun i acc => DpAll K H acc (((ns.take i).filter fun g => g.contains (bel.headD (0, 0)).1).map fun g => .list (g.map .int))) (PvS.zero hL .nil) (fun i H' _ h => same_l h.1 sn) ?_ ?_⟩
    · rintro i x H' hx ⟨e, acc, hacc, hl, r⟩
      obtain ⟨g, hg0, dg0⟩ := dpa_at dn hx
      obtain ⟨a0, rfl, sa0⟩ := dp_ints dg0
      refine ⟨rfl, _, rfl, ab, xs, 0, _, rfl, rfl, same_l e sb, atI_nat (j := 0) hx0, t0, _, 0, _, rfl, rfl, same_t e st0, rfl, _, rfl, a0, _, rfl, .inl (same_l e sa0), rfl, flat_ints g, _, rfl, ?_⟩
      have hin : (if false = true then !inV (.int (bel.headD (0, 0)).1) (g.map V.int) else inV (.int (bel.headD (0, 0)).1) (g.map V.int)) = g.contains (bel.headD (0, 0)).1 := by
        rw [if_neg Bool.false_ne_true, inV_int]; simp
      rw [hin]
      refine ite2 (fun hc => ?_) (fun hc => ?_)
      · refine ⟨_, rfl, PvS.snoc hL e hacc hl (by have := lt_at hx; have := hgo.1; omega) (.refl _) ?_⟩
        rw [filter_take_at hg0, if_pos hc, List.map_append]
        exact dpa_snoc r dg0
      · refine PvS.skip e hacc hl (.refl _) ?_
        rw [filter_take_at hg0, if_neg hc, List.append_nil]
        exact r
    · rintro H' ⟨e, acc, hacc, hl, r⟩
      rw [hlz, List.take_length] at r
      obtain ⟨_, x, hx, hxm⟩ := hgo
      have hf : x ∈ ns.filter fun g => g.contains (bel.headD (0, 0)).1 := List.mem_filter.mpr ⟨hx, by simpa using hxm⟩
      cases hfe : ns.filter fun g => g.contains (bel.headD (0, 0)).1 with
      | nil => rw [hfe] at hf; cases hf
      | cons g0 rest =>
      rw [hfe] at r
      cases r with
      | cons r1 r2 =>
      obtain ⟨a0, rfl, sa0⟩ := dp_ints r1
      refine ⟨L, _, 0, _, rfl, rfl, .inl (.inl hacc), atI_nat (j := 0) rfl, ?_⟩
      have e0 : ∀ p : Int × Int, True := fun _ => trivial
      refine ⟨_, rfl, ab, rfl, ⟨_, same_l e sb⟩, fun L2 hL2 => lc_list (K := K) (a := ab) (xs := xs) (PvS H' L2 fun i acc => acc = (bel.take i).map fun p => V.bl (g0.contains p.1)) (PvS.zero hL2 rfl) (fun i H2 _ h => same_l (e.trans h.1) sb) ?_ ?_⟩
      · rintro i x H2 hx ⟨e2, acc2, hacc2, hl2, r3⟩
        obtain ⟨p, hp, dp⟩ := dpa_at db hx
        obtain ⟨t, rfl, st⟩ := dp_pP dp
        refine ⟨t, _, rfl, same_t (e.trans e2) st, rfl, _, _, rfl, _, _, rfl, rfl, rfl, _, rfl, _, rfl, a0, _, rfl, .inl (same_l (e.trans e2) sa0), rfl, flat_ints g0, PvS.snoc hL2 e2 hacc2 hl2 (by have := lt_at hx; omega) (.refl _) ?_⟩
        rw [r3, map_take_at hp]
        simp [inV_int]
      · rintro H2 ⟨e2, acc2, hacc2, hl2, r3⟩
        rw [hlen, List.take_length] at r3
        refine ⟨L2, bel.map fun p => g0.contains p.1, rfl, ?_, ?_⟩
        · rw [List.map_map]; exact .inl (.inl (by rw [hacc2, r3]; rfl))
        · rw [all_id_map]
          have := hQ H2 (e.trans e2)
          have e3 : meetsB (.grp ns) bel = bel.all fun p => g0.contains p.1 := by simp only [meetsB, hfe]
          rw [e3] at this
          exact this
abbrev s_sm : Stmt := top 28
abbrev nm_sm : List Str := ["goal", "beliefs", "belief"]
theorem sc_sm : FnScope nm_sm ["goal", "beliefs"] (defScope s_sm) := ⟨rfl, rfl, rfl, by decide +kernel, rfl, by decide +kernel, by decide +kernel⟩
/- slots: 0 goal 1 beliefs 2 belief -/
def spSm (K : PySem.W.Frag) : Sp := fun vs H Q _ => ∃ g bs goal sp, vs = [g, bs] ∧ Dp K H bs (pS sp) ∧ Dp K H g (pG goal) ∧ sp.length < 1000 ∧ (∀ b ∈ sp, GoalFor goal b ∧ b.length < 1000) ∧ ∀ H', Same H H' → Q (.bl (meetsS goal sp)) H'
theorem cal_sm (D : DefX K mg "spread_meets" s_sm) (T : Tx K mg CC DC) (cMet : C8.Cal P w K mg base 1 "goal_met" (spGm K) []) : C8.Cal P w K mg base 2 "spread_meets" (spSm K) [] := by
  refine calD (ps := ["goal", "beliefs"]) D (fun _ _ _ _ _ _ us hl => match us, hl with | [_, _], _ => rfl) sc_sm ?_ ?_
  · rintro vs H Q E ⟨g, bs, goal, sp, rfl, _⟩; rfl
  rintro f cdv A outer s0 H vs Q E hr ⟨g, bs, goal, sp, rfl, hb, hg, hz, hok, hQ⟩
  refine ⟨_, (pss_one (ps_ret (pe_callB (cr_allK K rfl rfl) (by rfl) T.all (by decide +kernel) (pa_cons (pe_lc (own := [("belief", 2)]) (g := (gName 2))  rfl sc_sm.nd (pi_listK K rfl (pv 1)) (blkOk_by (own := [("belief", 2)]) (N := nm_sm) (sc := defScope s_sm) (by decide +kernel)) (fun _ _ _ _ _ => (pg_name (i := 2) sc_sm.nd rfl (.inl rfl))) (fun _ _ _ _ _ => pts_nil) (fun _ _ _ _ _ => (C8.pe_c cMet hr (by decide) rfl (pa_cons (pv 2) (pa_cons (pv 0) pa_nil))))) pa_nil)))), ?_⟩
  obtain ⟨ab, xs, rfl, sb, db⟩ := dp_list hb
  have hlen := dpa_len db
  rw [List.length_map] at hlen
  refine ⟨_, rfl, ab, rfl, ⟨_, sb⟩, fun L hL => lc_list (K := K) (a := ab) (xs := xs) (PvS H L fun i acc => acc = (sp.take i).map fun b => V.bl (meetsB goal b)) (PvS.zero hL rfl) (fun i H' _ h => same_l h.1 sb) ?_ ?_⟩
  · rintro i x H' hx ⟨e, acc, hacc, hl, r⟩
    obtain ⟨b, hp, dp⟩ := dpa_at db hx
    obtain ⟨o1, o2⟩ := hok b (mem_at hp)
    refine ⟨rfl, _, rfl, _, rfl, _, _, b, goal, rfl, dp_same e _ _ dp, dp_same e _ _ hg, o1, o2, fun H4 e4 => PvS.snoc hL e hacc hl (by have := lt_at hx; omega) e4 ?_⟩
    rw [r, map_take_at hp]
  · rintro H' ⟨e, acc, hacc, hl, r⟩
    rw [hlen, List.take_length] at r
    refine ⟨L, sp.map fun b => meetsB goal b, rfl, ?_, ?_⟩
    · rw [List.map_map]; exact .inl (.inl (by rw [hacc, r]; rfl))
    · rw [all_id_map]; exact hQ _ e
end
end S3

/-! ### P7: goals met, as the law asks it -/
namespace S3
open PySem PySem.Spec PyProof.Rows L2
def LawFor (g : Goal) (b : Bel) : Prop := b ≠ [] ∧ b.length < 60 ∧ match g with
  | .grp gs => gs.length < 1000 ∧ ∀ p ∈ b, gs.flatten.count p.1 = 1
  | _ => True
/-! the plain laws -/
theorem set_one {b : Bel} (hb : b ≠ []) {out : List Int} (hn : out.Nodup) (ho : ∀ k, k ∈ out ↔ decide (k ∈ b.map (·.2)) = true) : decide (V.int out.length = V.int 1) = meetsB .now b := by
  unfold meetsB
  cases b with
  | nil => exact absurd rfl hb
  | cons p b =>
  rw [Bool.eq_iff_iff, decide_eq_true_eq, List.all_eq_true]
  constructor
  · intro h
    injection h with h
    have h1 : out.length = 1 := by omega
    obtain ⟨x, rfl⟩ := List.length_eq_one_iff.mp h1
    intro q hq
    have e1 : q.2 ∈ [x] := (ho _).mpr (decide_eq_true (List.mem_map.mpr ⟨q, hq, rfl⟩))
    have e2 : p.2 ∈ [x] := (ho _).mpr (by simp)
    simp at e1 e2 ⊢
    rw [e1, e2]
  · intro h
    have h1 : ∀ k ∈ out, k = p.2 := by
      intro k hk
      have := (ho k).mp hk
      rw [decide_eq_true_eq, List.mem_map] at this
      obtain ⟨q, hq, rfl⟩ := this
      simpa using h q hq
    have h2 : p.2 ∈ out := (ho _).mpr (by simp)
    cases out with
    | nil => cases h2
    | cons x out =>
      cases out with
      | nil => rfl
      | cons y out =>
        rw [List.nodup_cons] at hn
        have e1 := h1 x (by simp)
        have e2 := h1 y (by simp)
        exact absurd (by rw [e1, e2]; simp) hn.1
theorem in_empty (b : Bel) (ns : List Int) : decide (((b.map (·.2)).filter fun x => !decide (x ∈ ns)) = []) = meetsB (.inn ns) b := by
  unfold meetsB
  rw [Bool.eq_iff_iff, decide_eq_true_eq, List.filter_eq_nil_iff, List.all_eq_true]
  simp
  exact ⟨fun h a b hb => h b a hb, fun h a b hb => h b a hb⟩
theorem count_two {gs : List (List Int)} : ∀ {x : Int} {g g' : List Int} {as bs cs : List (List Int)}, gs = as ++ g :: bs → x ∈ g → (x ∈ as.flatten ∨ x ∈ bs.flatten) → gs.flatten.count x ≥ 2 := by
  intro x g g' as bs cs e hx h
  subst e
  rw [List.flatten_append, List.flatten_cons, List.count_append, List.count_append]
  have h1 := List.count_pos_iff.mpr hx
  rcases h with h | h
  · have := List.count_pos_iff.mpr h; omega
  · have := List.count_pos_iff.mpr h; omega
/-- no state of the belief in the groups ahead: then this group decides -/
theorem grp_step {gs as bs : List (List Int)} {g : List Int} {b : Bel} (hb : b ≠ []) (e : gs = as ++ g :: bs) (hc : ∀ p ∈ b, gs.flatten.count p.1 = 1) (hn : ∀ p ∈ b, p.1 ∉ as.flatten) (hi : (b.map (·.1)).filter (fun x => decide (x ∈ g)) ≠ []) :
    decide (V.int ((b.map (·.1)).filter (fun x => decide (x ∈ g))).length = V.int b.length) = meetsB (.grp gs) b := by
  cases b with
  | nil => exact absurd rfl hb
  | cons p b =>
  have hlen : (((p :: b).map (·.1)).filter (fun x => decide (x ∈ g))).length = (p :: b).length ↔ ∀ q ∈ p :: b, q.1 ∈ g := by
    have : (p :: b).length = ((p :: b).map (·.1)).length := by rw [List.length_map]
    rw [this, List.length_filter_eq_length_iff]
    simp
  have hpf : ∀ h ∈ gs, p.1 ∈ h → ∃ as' bs', gs = as' ++ h :: bs' ∧ p.1 ∉ as'.flatten ∧ p.1 ∉ bs'.flatten := by
    intro h hh hp
    obtain ⟨as', bs', e'⟩ := List.append_of_mem hh
    refine ⟨as', bs', e', fun z => ?_, fun z => ?_⟩
    · have := count_two (g' := h) (cs := []) e' hp (.inl z); have := hc p (by simp); omega
    · have := count_two (g' := h) (cs := []) e' hp (.inr z); have := hc p (by simp); omega
  unfold meetsB
  simp only [List.headD_cons]
  rw [Bool.eq_iff_iff, decide_eq_true_eq]
  by_cases hp : p.1 ∈ g
  · have hf : gs.filter (fun h => h.contains p.1) = [g] := by
      obtain ⟨as', bs', e', n1, n2⟩ := hpf g (by rw [e]; simp) hp
      rw [e', List.filter_append, List.filter_cons, if_pos (by simpa using hp)]
      have f1 : as'.filter (fun h => h.contains p.1) = [] := by
        rw [List.filter_eq_nil_iff]
        intro h hh hc
        exact n1 (List.mem_flatten.mpr ⟨h, hh, by simpa using hc⟩)
      have f2 : bs'.filter (fun h => h.contains p.1) = [] := by
        rw [List.filter_eq_nil_iff]
        intro h hh hc
        exact n2 (List.mem_flatten.mpr ⟨h, hh, by simpa using hc⟩)
      rw [f1, f2]; rfl
    rw [hf]
    simp only [List.all_eq_true]
    constructor
    · intro h
      injection h with h
      intro q hq
      simpa using hlen.mp (by omega) q hq
    · intro h
      rw [hlen.mpr (fun q hq => by simpa using h q hq)]
  · constructor
    · intro h
      injection h with h
      exact absurd (hlen.mp (by omega) p (by simp)) hp
    · intro h
      exfalso
      obtain ⟨x, hx⟩ := List.exists_mem_of_ne_nil _ hi
      rw [List.mem_filter] at hx
      obtain ⟨hx1, hx2⟩ := hx
      obtain ⟨q, hq, rfl⟩ := List.mem_map.mp hx1
      have hx3 : q.1 ∈ g := by simpa using hx2
      cases hf : gs.filter (fun h => h.contains p.1) with
      | nil => rw [hf] at h; cases h
      | cons k ks =>
        rw [hf] at h
        have h' := List.all_eq_true.mp h
        have hk : k ∈ gs.filter (fun h => h.contains p.1) := by rw [hf]; simp
        rw [List.mem_filter] at hk
        have hqk : q.1 ∈ k := by simpa using h' q hq
        have hpk : p.1 ∈ k := by simpa using hk.2
        have hkg : k ≠ g := fun z => hp (z ▸ hpk)
        have hk2 : k ∈ as ∨ k ∈ bs := by
          have := hk.1
          rw [e, List.mem_append, List.mem_cons] at this
          rcases this with h | h | h
          · exact .inl h
          · exact absurd h hkg
          · exact .inr h
        rcases hk2 with hk2 | hk2
        · exact hn q hq (List.mem_flatten.mpr ⟨k, hk2, hqk⟩)
        · have := count_two (g' := g) (cs := []) e hx3 (.inr (List.mem_flatten.mpr ⟨k, hk2, hqk⟩))
          have := hc q hq
          omega
section
variable {P : Program} {w : World} {K : PySem.W.Frag} {mg : Str → Option Value} {base : Heap} {CC DC : Addr}
abbrev s_lme : Stmt := top 60
abbrev nm_lme : List Str := ["_law_belief", "_law_wish", "_law_part", "_law_inside", "_law_first", "_law_now"]
theorem sc_lme : FnScope nm_lme ["_law_belief", "_law_wish"] (defScope s_lme) := ⟨rfl, rfl, rfl, by decide +kernel, rfl, by decide +kernel, by decide +kernel⟩
/- slots: 0 _law_belief 1 _law_wish 2 _law_part 3 _law_inside 4 _law_first 5 _law_now -/
def spLme (K : PySem.W.Frag) : Sp := fun vs H Q _ => ∃ b g bel goal, vs = [b, g] ∧ BelV K H b bel ∧ Dp K H g (pG goal) ∧ LawFor goal bel ∧ ∀ H', Same H H' → Q (.bl (meetsB goal bel)) H'
theorem cal_lme (D : DefX K mg "_law_meets" s_lme) (T : Tx K mg CC DC) : C8.Cal P w K mg base 1 "_law_meets" (spLme K) [] := by
  refine calD (ps := ["_law_belief", "_law_wish"]) D (fun _ _ _ _ _ _ us hl => match us, hl with | [_, _], _ => rfl) sc_lme ?_ ?_
  · rintro vs H Q E ⟨b, g, bel, goal, rfl, _⟩; rfl
  rintro f cdv A outer s0 H vs Q E hr ⟨b, g, bel, goal, rfl, hb, hg, ⟨hne, hz, hgo⟩, hQ⟩
  have hu64 := up 64 hr
  refine ⟨_, (pss_cons (ps_if (pt_cmpR op_eq (pe_ix (ix_tupK K rfl) (pv 1) pe_int (fun _ _ => rfl)) pe_str (nomark _))
      (pss_one (ps_ret (pe_cmpR op_eq (pe_callB (cr_lenSK w rfl) (by rfl) T.len (by decide +kernel) (pa_cons (pe_callTy (cr_setLK w K rfl rfl rfl) (by rfl) T.set (by decide +kernel) (pa_cons (pe_lc (own := [("_law_first", 4), ("_law_now", 5)])  rfl sc_lme.nd (pi_seqK K rfl (pv 0)) (blkOk_by (own := [("_law_first", 4), ("_law_now", 5)]) (N := nm_lme) (sc := defScope s_lme) (by decide +kernel)) (fun _ _ _ _ _ => (pg_tupK K rfl 2 rfl (pgs_cons (pg_name (i := 4) sc_lme.nd rfl (.inl rfl)) (pgs_cons (pg_name (i := 5) sc_lme.nd rfl (.inl rfl)) pgs_nil)))) (fun _ _ _ _ _ => pts_nil) (fun _ _ _ _ _ => (pv 5))) pa_nil)) pa_nil)) pe_int (nomark _))))
      pss_nil)
      (pss_cons (ps_if (pt_cmpR op_eq (pe_ix (ix_tupK K rfl) (pv 1) pe_int (fun _ _ => rfl)) pe_str (nomark _))
      (pss_one (ps_ret (pe_cmpR op_eq (pe_callB (call_len_seqK K rfl) (by rfl) T.len (by decide +kernel) (pa_cons (pv 0) pa_nil)) pe_int (nomark _))))
      pss_nil)
      (pss_cons (ps_if (pt_cmpR op_eq (pe_ix (ix_tupK K rfl) (pv 1) pe_int (fun _ _ => rfl)) pe_str (nomark _))
      (pss_one (ps_ret (pe_cmpR (op_eqDK K rfl hu64) (pe_lc (own := [("_law_first", 4), ("_law_now", 5)])  rfl sc_lme.nd (pi_seqK K rfl (pv 0)) (blkOk_by (own := [("_law_first", 4), ("_law_now", 5)]) (N := nm_lme) (sc := defScope s_lme) (by decide +kernel)) (fun _ _ _ _ _ => (pg_tupK K rfl 2 rfl (pgs_cons (pg_name (i := 4) sc_lme.nd rfl (.inl rfl)) (pgs_cons (pg_name (i := 5) sc_lme.nd rfl (.inl rfl)) pgs_nil)))) (fun _ _ _ _ _ => pts_one (pt_cmpR (op_notIn_seqK K rfl) (pv 5) (pe_ix (ix_tupK K rfl) (pv 1) pe_int (fun _ _ => rfl)) rfl)) (fun _ _ _ _ _ => (pv 5))) (pe_lst pa_nil) (nomark _))))
      pss_nil)
      (pss_cons (ps_for PassesOwn.never rfl (pi_listK K rfl (pe_ix (ix_tupK K rfl) (pv 1) pe_int (fun _ _ => rfl))) (pg_name (i := 2) sc_lme.nd rfl (.inr rfl))
      (pss_cons (ps_setLc (i := 3) (own := [("_law_first", 4), ("_law_now", 5)])  rfl sc_lme.nd rfl rfl (sw_true rfl rfl rfl (by decide +kernel)) (pi_seqK K rfl (pv 0)) (blkOk_by (own := [("_law_first", 4), ("_law_now", 5)]) (N := nm_lme) (sc := defScope s_lme) (by decide +kernel)) (fun _ _ _ _ _ => (pg_tupK K rfl 2 rfl (pgs_cons (pg_name (i := 4) sc_lme.nd rfl (.inl rfl)) (pgs_cons (pg_name (i := 5) sc_lme.nd rfl (.inl rfl)) pgs_nil)))) (fun _ _ _ _ _ => pts_one (pt_cmpR (op_in_seqK K rfl) (pv 4) (pv 2) rfl)) (fun _ _ _ _ _ => (pv 4)))
        (pss_one (ps_if (pt_cmpR (op_neDK K rfl hu64) (pv 3) (pe_lst pa_nil) (nomark _))
        (pss_one (ps_ret (pe_cmpR op_eq (pe_callB (call_len_seqK K rfl) (by rfl) T.len (by decide +kernel) (pa_cons (pv 3) pa_nil)) (pe_callB (call_len_seqK K rfl) (by rfl) T.len (by decide +kernel) (pa_cons (pv 0) pa_nil)) (nomark _))))
        pss_nil))))
      (pss_one (ps_ret pe_bl)))))), ?_⟩
  obtain ⟨ab, xs, rfl, sb, db⟩ := hb
  have hlen := dpa_len db
  rw [List.length_map] at hlen
  cases goal with
  | now =>
    obtain ⟨ag, gs, rfl, sg, dg⟩ := dp_tup hg
    obtain ⟨g1, rfl, hg1⟩ := dpa_one dg
    obtain rfl := dp_str hg1
    refine ⟨_, rfl, ag, _, 0, _, rfl, rfl, sg, rfl, rfl, _, rfl, yesV ?_⟩
    refine ⟨_, rfl, ab, rfl, lc_seq sb (fun L => PvS H L fun i acc => acc = (bel.take i).map fun p => V.int p.2) (fun L hL => PvS.zero hL rfl) (fun L hL i H' h => h.1) ?_ ?_⟩
    · rintro L hL i x H' hx ⟨e, acc, hacc, hl, r⟩
      obtain ⟨p, hp, dp⟩ := dpa_at db hx
      obtain ⟨t, rfl, st⟩ := dp_pP dp
      refine ⟨t, _, rfl, same_t e st, rfl, _, _, rfl, _, _, rfl, rfl, rfl, _, rfl, PvS.snoc hL e hacc hl (by have := lt_at hx; omega) (.refl _) ?_⟩
      rw [r, map_take_at hp]
    · rintro L hL H' ⟨e, acc, hacc, hl, r⟩
      rw [hlen, List.take_length] at r
      refine ⟨L, bel.map (·.2), rfl, .inl (.inl (by rw [hacc, r, List.map_map]; rfl)), by rw [List.length_map]; omega, fun p c hp hc => ?_⟩
      refine ⟨p, _, c, rfl, upd_same .., fun out ho1 ho2 => ⟨rfl, ?_⟩⟩
      rw [set_one hne ho1 ho2]
      exact hQ _ (same_same e (same_none e hp))
  | first =>
    obtain ⟨ag, gs, rfl, sg, dg⟩ := dp_tup hg
    obtain ⟨g1, rfl, hg1⟩ := dpa_one dg
    obtain rfl := dp_str hg1
    refine ⟨_, rfl, ag, _, 0, _, rfl, rfl, sg, rfl, rfl, _, rfl, noV (str_ne (by decide)) ?_⟩
    refine ⟨_, rfl, ag, _, 0, _, rfl, rfl, sg, rfl, rfl, _, rfl, yesV ?_⟩
    refine ⟨_, rfl, ab, xs, rfl, sb, rfl, ?_⟩
    have := hQ H (.refl _)
    have e : decide (V.int xs.length = V.int 1) = meetsB .first bel := by
      unfold meetsB
      rw [hlen, Bool.eq_iff_iff, decide_eq_true_eq, beq_iff_eq]
      constructor
      · intro h; injection h with h; omega
      · intro h; rw [h]; rfl
    rw [e]; exact this
  | inn ns =>
    obtain ⟨ag, gs, rfl, sg, dg⟩ := dp_tup hg
    obtain ⟨g1, g2, rfl, hg1, hg2⟩ := dpa_pair dg
    obtain rfl := dp_str hg1
    obtain ⟨an, rfl, sn⟩ := dp_ints hg2
    refine ⟨_, rfl, ag, _, 0, _, rfl, rfl, sg, rfl, rfl, _, rfl, noV (str_ne (by decide)) ?_⟩
    refine ⟨_, rfl, ag, _, 0, _, rfl, rfl, sg, rfl, rfl, _, rfl, noV (str_ne (by decide)) ?_⟩
    refine ⟨_, rfl, ag, _, 0, _, rfl, rfl, sg, rfl, rfl, _, rfl, yesV ?_⟩
    refine ⟨_, rfl, ab, rfl, lc_seq sb (fun L => PvS H L fun i acc => acc = (((bel.take i).map (·.2)).filter fun x => !decide (x ∈ ns)).map V.int) (fun L hL => PvS.zero hL rfl) (fun L hL i H' h => h.1) ?_ ?_⟩
    · rintro L hL i x H' hx ⟨e, acc, hacc, hl, r⟩
      obtain ⟨p, hp, dp⟩ := dpa_at db hx
      obtain ⟨t, rfl, st⟩ := dp_pP dp
      refine ⟨t, _, rfl, same_t e st, rfl, _, _, rfl, _, _, rfl, rfl, rfl, _, rfl, _, rfl, ag, _, 1, _, rfl, rfl, same_t e sg, rfl, an, _, rfl, .inl (same_l e sn), rfl, flat_ints ns, _, rfl, ?_⟩
      have hin : (if true = true then !inV (.int p.2) (ns.map V.int) else inV (.int p.2) (ns.map V.int)) = !decide (p.2 ∈ ns) := by
        rw [if_pos rfl, inV_int]
      rw [hin]
      refine ite2 (fun hc => ?_) (fun hc => ?_)
      · refine ⟨_, rfl, PvS.snoc hL e hacc hl (by have := lt_at hx; omega) (.refl _) ?_⟩
        rw [r, map_take_at hp, List.filter_append, List.map_append, List.filter_cons, if_pos hc]
        rfl
      · refine PvS.skip e hacc hl (.refl _) ?_
        rw [r, map_take_at hp, List.filter_append, List.filter_cons, if_neg hc, List.filter_nil, List.append_nil]
    · rintro L hL H' ⟨e, acc, hacc, hl, r⟩
      rw [hlen, List.take_length] at r
      refine ⟨Nat.zero_le _, fun q hq => ⟨.list (((bel.map (·.2)).filter fun x => !decide (x ∈ ns)).map .int), .list (([] : List Int).map .int), .lst (.inl (.inl ?_)) (dpa_ints _), .lst (.inl (.inl (upd_same ..))) .nil, shaped_dq (dq_ints _) (dep_ints _), shaped_dq (dq_ints _) (dep_ints _), ?_⟩⟩
      · rw [upd_ne (ne_of_none hacc hq), hacc, r]
      · rw [eqv_ints, in_empty]
        exact hQ _ (same_same e (same_none e hq))
  | grp ns =>
    obtain ⟨ag, gs, rfl, sg, dg⟩ := dp_tup hg
    obtain ⟨g1, g2, rfl, hg1, hg2⟩ := dpa_pair dg
    obtain rfl := dp_str hg1
    obtain ⟨an, zs, rfl, sn, dn⟩ := dp_list hg2
    have hlz := dpa_len dn
    rw [List.length_map] at hlz
    obtain ⟨hgz, hgc⟩ := hgo
    refine ⟨_, rfl, ag, _, 0, _, rfl, rfl, sg, rfl, rfl, _, rfl, noV (str_ne (by decide)) ?_⟩
    refine ⟨_, rfl, ag, _, 0, _, rfl, rfl, sg, rfl, rfl, _, rfl, noV (str_ne (by decide)) ?_⟩
    refine ⟨_, rfl, ag, _, 0, _, rfl, rfl, sg, rfl, rfl, _, rfl, noV (str_ne (by decide)) ?_⟩
    refine ⟨_, rfl, ag, _, 1, _, rfl, rfl, sg, rfl, an, rfl, ⟨_, sn⟩, for_list (K := K) (a := an) (xs := zs) (fun i σ H' => ∃ x1 x2 x3 x4, σ = [some (.ref ab), some (.ref ag), x1, x2, x3, x4] ∧ Same H H' ∧ ∀ p ∈ bel, p.1 ∉ (ns.take i).flatten) ?_ ?_ ?_ ?_⟩
    · exact ⟨none, none, none, none, rfl, .refl _, fun p _ => by simp⟩
    · rintro i σ H' _ ⟨x1, x2, x3, x4, rfl, e, hn⟩
      exact same_l e sn
    · rintro i x σ H' hx ⟨x1, x2, x3, x4, rfl, e, hn⟩
      obtain ⟨g, hg0, dg0⟩ := dpa_at dn hx
      obtain ⟨a0, rfl, sa0⟩ := dp_ints dg0
      refine ⟨_, rfl, ab, rfl, lc_seq (same_e e sb) (fun L => PvS H' L fun i acc => acc = (((bel.take i).map (·.1)).filter fun x => decide (x ∈ g)).map V.int) (fun L hL => PvS.zero hL rfl) (fun L hL i H' h => h.1) ?_ ?_⟩
      · rintro L hL j x H2 hx ⟨e2, acc, hacc, hl, r⟩
        obtain ⟨p, hp, dp⟩ := dpa_at db hx
        obtain ⟨t, rfl, st⟩ := dp_pP dp
        refine ⟨t, _, rfl, same_t (e.trans e2) st, rfl, _, _, rfl, _, _, rfl, rfl, rfl, _, rfl, _, rfl, a0, _, rfl, .inl (same_l (e.trans e2) sa0), rfl, flat_ints g, _, rfl, ?_⟩
        have hin : (if false = true then !inV (.int p.1) (g.map V.int) else inV (.int p.1) (g.map V.int)) = decide (p.1 ∈ g) := by
          rw [if_neg Bool.false_ne_true, inV_int]
        rw [hin]
        refine ite2 (fun hc => ?_) (fun hc => ?_)
        · refine ⟨_, rfl, PvS.snoc hL e2 hacc hl (by have := lt_at hx; omega) (.refl _) ?_⟩
          rw [r, map_take_at hp, List.filter_append, List.map_append, List.filter_cons, if_pos hc]
          rfl
        · refine PvS.skip e2 hacc hl (.refl _) ?_
          rw [r, map_take_at hp, List.filter_append, List.filter_cons, if_neg hc, List.filter_nil, List.append_nil]
      · rintro L hL H2 ⟨e2, acc, hacc, hl, r⟩
        rw [hlen, List.take_length] at r
        refine ⟨_, rfl, Nat.zero_le _, fun q hq => ⟨.list (((bel.map (·.1)).filter fun x => decide (x ∈ g)).map .int), .list (([] : List Int).map .int), .lst (.inl (.inl ?_)) (dpa_ints _), .lst (.inl (.inl (upd_same ..))) .nil, shaped_dq (dq_ints _) (dep_ints _), shaped_dq (dq_ints _) (dep_ints _), _, rfl, ?_⟩⟩
        · rw [upd_ne (ne_of_none hacc hq), hacc, r]
        · rw [eqv_ints]
          have e3 : Same H (upd H2 q (.lst [])) := e.trans (same_same e2 (same_none e2 hq))
          refine ite2 (fun hc => ?_) (fun hc => ?_)
          · have hc' : (bel.map (·.1)).filter (fun x => decide (x ∈ g)) ≠ [] := by simpa using hc
            refine ⟨_, rfl, L, acc, rfl, .inl (.inl (.inl ?_)), _, rfl, ab, xs, rfl, same_e e3 sb, rfl, ?_⟩
            · rw [upd_ne (ne_of_none hacc hq)]; exact hacc
            · have hs : ns = ns.take i ++ g :: ns.drop (i + 1) := by
                have h1 := List.getElem?_eq_some_iff.mp hg0
                obtain ⟨h1, h2⟩ := h1
                rw [← h2, List.getElem_cons_drop, List.take_append_drop]
              rw [r, List.length_map, hlen, grp_step hne hs hgc hn hc']
              exact hQ _ e3
          · have hc' : (bel.map (·.1)).filter (fun x => decide (x ∈ g)) = [] := by simpa using hc
            refine ⟨_, _, _, _, rfl, e3, fun p hp => ?_⟩
            rw [take_at hg0, List.flatten_append, List.mem_append, not_or]
            refine ⟨hn p hp, fun hm => ?_⟩
            rw [List.filter_eq_nil_iff] at hc'
            exact hc' p.1 (List.mem_map.mpr ⟨p, hp, rfl⟩) (by simpa using hm)
    · rintro σ H' ⟨x1, x2, x3, x4, rfl, e, hn⟩
      exfalso
      rw [hlz, List.take_length] at hn
      cases bel with
      | nil => exact hne rfl
      | cons p b =>
        have h1 := hgc p (by simp)
        have h2 := List.count_eq_zero.mpr (hn p (by simp))
        omega
abbrev s_lsm : Stmt := top 63
abbrev nm_lsm : List Str := ["_law_beliefs", "_law_wish", "_law_belief"]
theorem sc_lsm : FnScope nm_lsm ["_law_beliefs", "_law_wish"] (defScope s_lsm) := ⟨rfl, rfl, rfl, by decide +kernel, rfl, by decide +kernel, by decide +kernel⟩
/- slots: 0 _law_beliefs 1 _law_wish 2 _law_belief -/
def spLsm (K : PySem.W.Frag) : Sp := fun vs H Q _ => ∃ bs g goal sp, vs = [bs, g] ∧ SpV K H bs sp ∧ Dp K H g (pG goal) ∧ sp.length < 1000 ∧ (∀ b ∈ sp, LawFor goal b) ∧ ∀ H', Same H H' → Q (.bl (meetsS goal sp)) H'
theorem cal_lsm (D : DefX K mg "_law_spread_meets" s_lsm) (T : Tx K mg CC DC) (cLMet : C8.Cal P w K mg base 1 "_law_meets" (spLme K) []) : C8.Cal P w K mg base 2 "_law_spread_meets" (spLsm K) [] := by
  refine calD (ps := ["_law_beliefs", "_law_wish"]) D (fun _ _ _ _ _ _ us hl => match us, hl with | [_, _], _ => rfl) sc_lsm ?_ ?_
  · rintro vs H Q E ⟨bs, g, goal, sp, rfl, _⟩; rfl
  rintro f cdv A outer s0 H vs Q E hr ⟨bs, g, goal, sp, rfl, hb, hg, hz, hok, hQ⟩
  have hu64 := up 64 hr
  refine ⟨_, (pss_one (ps_ret (pe_cmpR (op_eqDK K rfl hu64) (pe_lc (own := [("_law_belief", 2)]) (g := (gName 2))  rfl sc_lsm.nd (pi_seqK K rfl (pv 0)) (blkOk_by (own := [("_law_belief", 2)]) (N := nm_lsm) (sc := defScope s_lsm) (by decide +kernel)) (fun _ _ _ _ _ => (pg_name (i := 2) sc_lsm.nd rfl (.inl rfl))) (fun _ _ _ _ _ => pts_one (pt_not (pt_val (C8.pe_c cLMet hr (by decide) rfl (pa_cons (pv 2) (pa_cons (pv 1) pa_nil)))))) (fun _ _ _ _ _ => (pv 2))) (pe_lst pa_nil) (nomark _)))), ?_⟩
  obtain ⟨ab, xs, rfl, sb, db⟩ := hb
  have hlen := db.length
  refine ⟨_, rfl, ab, rfl, lc_seq sb (fun L => PvS H L fun i acc => ∃ ds, DpAll K H acc ds ∧ (∀ d ∈ ds, dq d = true ∧ d.depth ≤ 3) ∧ (ds = [] ↔ (sp.take i).all (meetsB goal) = true)) (fun L hL => PvS.zero hL ⟨[], .nil, fun d hd => (by cases hd), by simp⟩) (fun L hL i H' h => h.1) ?_ ?_⟩
  · rintro L hL i x H' hx ⟨e, acc, hacc, hl, ds, hds, hdq, hall⟩
    obtain ⟨b, hp, dp⟩ := paired_getE db hx
    have ho := hok b (mem_at hp)
    refine ⟨rfl, _, rfl, _, rfl, x, _, b, goal, rfl, dp.mono e, dp_same e _ _ hg, ho, fun H4 e4 => ⟨_, rfl, ?_⟩⟩
    refine ite2 (fun hc => ?_) (fun hc => ?_)
    · refine ⟨_, rfl, PvS.snoc hL e hacc hl (by have := lt_at hx; omega) e4 ?_⟩
      have hd : ∃ d, Dp K H x d ∧ dq d = true ∧ d.depth ≤ 3 := by
        obtain ⟨a, ys, rfl, h1, h2⟩ := dp
        rcases h1 with h1 | h1
        · exact ⟨pB b, .lst h1 h2, dq_pB b, Nat.le_trans (dep_pB b) (by decide)⟩
        · refine ⟨pT b, .tup h1 h2, ?_, ?_⟩
          · have := dq_pB b
            simp only [pB, dq] at this
            simp only [pT, dq]
            exact this
          · have := dep_pB b
            simp only [pB, PyData.depth] at this
            simp only [pT, PyData.depth]
            omega
      obtain ⟨d, d1, d2, d3⟩ := hd
      refine ⟨ds ++ [d], dpa_snoc hds d1, fun d' hd' => ?_, ?_⟩
      · rcases List.mem_append.mp hd' with h | h
        · exact hdq d' h
        · rw [List.mem_singleton.mp h]; exact ⟨d2, d3⟩
      · have hc' : meetsB goal b = false := by simpa using hc
        rw [take_at hp, List.all_append]
        simp [hc']
    · refine PvS.skip e hacc hl e4 ⟨ds, hds, hdq, ?_⟩
      have hc' : meetsB goal b = true := by simpa using hc
      rw [hall, take_at hp, List.all_append]
      simp [hc']
  · rintro L hL H' ⟨e, acc, hacc, hl, ds, hds, hdq, hall⟩
    rw [hlen, List.take_length] at hall
    have e2 : ∀ {q}, H' q = none → Same H (upd H' q (.lst [])) := fun hq => same_same e (same_none e hq)
    refine ⟨Nat.zero_le _, fun q hq => ⟨.list ds, .list [], .lst (.inl (.inl (by rw [upd_ne (ne_of_none hacc hq)]; exact hacc))) (dpa_same (e2 hq) _ _ hds), .lst (.inl (.inl (upd_same ..))) .nil, shaped_dq ?_ ?_, rfl, ?_⟩⟩
    · have := dqs_map (f := id) (l := ds) fun d hd => (hdq d hd).1
      rw [List.map_id] at this
      simpa [dq] using this
    · have := depths_map (f := id) (l := ds) (n := 3) fun d hd => (hdq d hd).2
      rw [List.map_id] at this
      simp only [PyData.depth]
      omega
    · have ee : PyData.eqv (.list ds) (.list []) = meetsS goal sp := by
        unfold meetsS
        rw [Bool.eq_iff_iff, ← hall]
        cases ds <;> simp [PyData.eqv, PyData.eqvAll]
      rw [ee]
      exact hQ _ (e2 hq)
end
end S3

/-! ### M1: spreads of a case, and what a press keeps -/
namespace S3
open PySem PySem.Spec PyProof.Rows L2
section
variable {β : Type} {f : β → PyData}
theorem le_trans' (a b c : β) (h1 : PySem.W.dataLe false f a b = true) (h2 : PySem.W.dataLe false f b c = true) : PySem.W.dataLe false f a c = true := by
  rw [PySem.W.dataLe_eq] at *
  simp only [cond_false, Bool.not_eq_true'] at *
  cases h : PySem.W.dataLt (f c) (f a) with
  | false => rfl
  | true =>
    rcases PyProof.Rows.lex_negTrans (O := PyProof.Rows.itemOrd) (PySem.W.keyToks (f c)) (PySem.W.keyToks (f b)) (PySem.W.keyToks (f a)) h with q | q
    · exact absurd (show PySem.W.dataLt (f c) (f b) = true from q) (by rw [h2]; exact Bool.false_ne_true)
    · exact absurd (show PySem.W.dataLt (f b) (f a) = true from q) (by rw [h1]; exact Bool.false_ne_true)
theorem le_total' (a b : β) : (PySem.W.dataLe false f a b || PySem.W.dataLe false f b a) = true := by
  rw [PySem.W.dataLe_eq]
  simp only [cond_false]
  cases h1 : PySem.W.dataLt (f b) (f a) with
  | false => rfl
  | true =>
    cases h2 : PySem.W.dataLt (f a) (f b) with
    | false => rfl
    | true =>
      have q := PyProof.Rows.lex_trans (O := PyProof.Rows.itemOrd) (PySem.W.keyToks (f a)) (PySem.W.keyToks (f b)) (PySem.W.keyToks (f a)) h2 h1
      rw [PyProof.Rows.lex_irrefl] at q
      cases q
theorem sort_idem (l : List β) : (l.mergeSort (PySem.W.dataLe false f)).mergeSort (PySem.W.dataLe false f) = l.mergeSort (PySem.W.dataLe false f) := List.mergeSort_of_pairwise (List.pairwise_mergeSort le_trans' le_total' l)
end
theorem sortS_idem (s : Sprd) : sortS (sortS s) = sortS s := sort_idem s
structure CaseOk (c : CS) : Prop where
  asc : c.poss.Pairwise (· < ·)
  rng : ∀ s ∈ c.poss, 0 ≤ s ∧ s < (c.n : Int)
  ne : c.poss ≠ []
  len : c.poss.length ≤ 3
  nn : c.n ≤ 4
  us : c.usable.length ≤ 10
  lm : c.lamps.length ≤ 10
  st : ∀ i b af a, c.step i b = some (af, a) → 0 ≤ af ∧ af < (c.n : Int)
def BelOk (c : CS) (b : Bel) : Prop := b ≠ [] ∧ (b.map (·.1)).Pairwise (· < ·) ∧ ∀ p ∈ b, p.1 ∈ c.poss ∧ 0 ≤ p.2 ∧ p.2 < (c.n : Int)
structure SprdOk (c : CS) (s : Sprd) : Prop where
  srt : sortS s = s
  bel : ∀ b ∈ s, BelOk c b
  prm : (s.flatMap fun b => b.map (·.1)).Perm c.poss
def firsts (s : Sprd) : List Int := s.flatMap fun b => b.map (·.1)
theorem start_bel {c : CS} (h : CaseOk c) : BelOk c c.start := by
  have e : c.start.map (·.1) = c.poss := by
    unfold CS.start
    rw [List.map_map]
    exact List.map_id _
  refine ⟨fun z => h.ne (by rw [← e, z]; rfl), by rw [e]; exact h.asc, fun p hp => ?_⟩
  obtain ⟨s, hs, rfl⟩ := List.mem_map.mp hp
  exact ⟨hs, h.rng s hs⟩
theorem start_ok {c : CS} (h : CaseOk c) : SprdOk c [c.start] := by
  refine ⟨by unfold sortS; rw [List.mergeSort_singleton], fun b hb => ?_, ?_⟩
  · rw [List.mem_singleton.mp hb]; exact start_bel h
  · have e : c.start.map (·.1) = c.poss := by
      unfold CS.start
      rw [List.map_map]
      exact List.map_id _
    simp [e]
/-! the parts of a belief -/
structure PartsOk (c : CS) (pre : Bel) (ps : List (Ans × Bel)) : Prop where
  nk : (ps.map (·.1)).Nodup
  el : ∀ q ∈ ps, q.2 ≠ [] ∧ (q.2.map (·.1)).Pairwise (· < ·) ∧ ∀ p ∈ q.2, p.1 ∈ pre.map (·.1) ∧ 0 ≤ p.2 ∧ p.2 < (c.n : Int)
  prm : (ps.flatMap fun q => q.2.map (·.1)).Perm (pre.map (·.1))
theorem push_other {ps : List (Ans × Bel)} {a : Ans} {x : Int × Int} (h : a ∉ ps.map (·.1)) : pushP ps a x = ps := by
  unfold pushP
  conv => rhs; rw [← List.map_id ps]
  refine List.map_congr_left fun q hq => ?_
  rw [if_neg (fun e => h (List.mem_map.mpr ⟨q, hq, e⟩))]
  rfl
theorem push_perm {a : Ans} {x : Int × Int} : ∀ {ps : List (Ans × Bel)}, (ps.map (·.1)).Nodup → a ∈ ps.map (·.1) → ((pushP ps a x).flatMap fun q => q.2.map (·.1)).Perm ((ps.flatMap fun q => q.2.map (·.1)) ++ [x.1])
  | [], _, h => by cases h
  | q :: ps, hn, h => by
    rw [List.map_cons, List.nodup_cons] at hn
    have e : pushP (q :: ps) a x = (if q.1 = a then (q.1, q.2 ++ [x]) else q) :: pushP ps a x := rfl
    rw [e]
    by_cases hq : q.1 = a
    · rw [if_pos hq, push_other (by rw [← hq]; exact hn.1), List.flatMap_cons, List.flatMap_cons]
      show ((q.2 ++ [x]).map (·.1) ++ _).Perm _
      rw [List.map_append, List.append_assoc, List.append_assoc]
      exact List.Perm.append_left _ List.perm_append_comm
    · rw [if_neg hq, List.flatMap_cons, List.flatMap_cons, List.append_assoc]
      refine List.Perm.append_left _ (push_perm hn.2 ?_)
      rw [List.map_cons] at h
      rcases List.mem_cons.mp h with h | h
      · exact absurd h.symm hq
      · exact h
theorem ensure_in (ps : List (Ans × Bel)) (a : Ans) : a ∈ (ensureP ps a).map (·.1) := by
  unfold ensureP
  split
  · assumption
  · simp
theorem ensure_nd {ps : List (Ans × Bel)} (a : Ans) (h : (ps.map (·.1)).Nodup) : ((ensureP ps a).map (·.1)).Nodup := by
  unfold ensureP
  split
  · exact h
  · rename_i hn
    rw [List.map_append, List.nodup_append]
    exact ⟨h, by simp, fun x hx y hy e => hn (by simp at hy; rw [← hy, ← e]; exact hx)⟩
theorem ensure_flat (ps : List (Ans × Bel)) (a : Ans) : (ensureP ps a).flatMap (fun q => q.2.map (·.1)) = ps.flatMap fun q => q.2.map (·.1) := by
  unfold ensureP
  split
  · rfl
  · rw [List.flatMap_append]; simp
theorem ensure_mem {ps : List (Ans × Bel)} {a : Ans} {q : Ans × Bel} (h : q ∈ ensureP ps a) : q ∈ ps ∨ q = (a, []) := by
  unfold ensureP at h
  split at h
  · exact .inl h
  · rcases List.mem_append.mp h with h | h
    · exact .inl h
    · exact .inr (List.mem_singleton.mp h)
theorem PartsOk.step {c : CS} (hc : CaseOk c) {pre : Bel} {ps : List (Ans × Bel)} {p : Int × Int} {btn : Str} (h : PartsOk c pre ps) (hp : ∀ q ∈ pre, q.1 < p.1) (hs : (c.st btn p.2).isSome = true) : PartsOk c (pre ++ [p]) (partStep (c.st btn) ps p) := by
  obtain ⟨⟨af, ans⟩, hst⟩ := Option.isSome_iff_exists.mp hs
  obtain ⟨r0, r1⟩ := hc.st _ _ _ _ hst
  rw [partStep_some hst]
  refine ⟨?_, fun q hq => ?_, ?_⟩
  · have : (pushP (ensureP ps ans) ans (p.1, af)).map (·.1) = (ensureP ps ans).map (·.1) := by
      unfold pushP
      rw [List.map_map]
      refine List.map_congr_left fun q _ => ?_
      show (if q.1 = ans then (q.1, q.2 ++ [(p.1, af)]) else q).1 = q.1
      split <;> rfl
    rw [this]
    exact ensure_nd _ h.nk
  · obtain ⟨u, hu, rfl⟩ := List.mem_map.mp hq
    have hel : (u.2.map (·.1)).Pairwise (· < ·) ∧ ∀ y ∈ u.2, y.1 ∈ pre.map (·.1) ∧ 0 ≤ y.2 ∧ y.2 < (c.n : Int) := by
      rcases ensure_mem hu with h1 | h1
      · exact (h.el u h1).2
      · rw [h1]; exact ⟨.nil, fun y hy => by cases hy⟩
    by_cases hk : u.1 = ans
    · rw [if_pos hk]
      refine ⟨by simp, ?_, fun y hy => ?_⟩
      · show ((u.2 ++ [(p.1, af)]).map (·.1)).Pairwise (· < ·)
        rw [List.map_append, List.pairwise_append]
        refine ⟨hel.1, by simp, fun z hz y hy => ?_⟩
        obtain ⟨z', hz', rfl⟩ := List.mem_map.mp hz
        obtain ⟨q', hq', e⟩ := List.mem_map.mp (hel.2 z' hz').1
        have e2 : y = p.1 := by simpa using hy
        rw [e2, ← e]
        exact hp q' hq'
      · rcases List.mem_append.mp hy with hy | hy
        · obtain ⟨a1, a2⟩ := hel.2 y hy
          exact ⟨by rw [List.map_append]; exact List.mem_append_left _ a1, a2⟩
        · rw [List.mem_singleton.mp hy]
          exact ⟨by simp, r0, r1⟩
    · rw [if_neg hk]
      have hne : u.2 ≠ [] := by
        rcases ensure_mem hu with h1 | h1
        · exact (h.el u h1).1
        · exact absurd (by rw [h1]) hk
      exact ⟨hne, hel.1, fun y hy => by
        obtain ⟨a1, a2⟩ := hel.2 y hy
        exact ⟨by rw [List.map_append]; exact List.mem_append_left _ a1, a2⟩⟩
  · refine (push_perm (ensure_nd _ h.nk) (ensure_in _ _)).trans ?_
    rw [ensure_flat, List.map_append]
    exact h.prm.append_right _
theorem parts_ok {c : CS} (hc : CaseOk c) {btn : Str} : ∀ (suf pre : Bel) (ps : List (Ans × Bel)), PartsOk c pre ps → ((pre ++ suf).map (·.1)).Pairwise (· < ·) → (∀ p ∈ suf, (c.st btn p.2).isSome = true) → PartsOk c (pre ++ suf) (suf.foldl (partStep (c.st btn)) ps)
  | [], pre, ps, h, _, _ => by rw [List.append_nil]; exact h
  | p :: suf, pre, ps, h, ha, hs => by
    have e : pre ++ p :: suf = (pre ++ [p]) ++ suf := by simp
    rw [List.foldl_cons, e]
    refine parts_ok hc suf (pre ++ [p]) _ (h.step hc (fun q hq => ?_) (hs p (by simp))) (by rw [← e]; exact ha) (fun q hq => hs q (by simp [hq]))
    rw [List.map_append, List.pairwise_append] at ha
    exact ha.2.2 q.1 (List.mem_map.mpr ⟨q, hq, rfl⟩) p.1 (by simp)
theorem partsB_ok {c : CS} (hc : CaseOk c) {btn : Str} {b : Bel} (hb : BelOk c b) (hs : harmB (c.st btn) b = true) : (∀ q ∈ partsB (c.st btn) b, BelOk c q) ∧ ((partsB (c.st btn) b).flatMap fun q => q.map (·.1)).Perm (b.map (·.1)) := by
  have h := parts_ok hc b [] [] ⟨List.nodup_nil, (fun q hq => by cases hq), .nil⟩ (by simpa using hb.2.1) (fun p hp => List.all_eq_true.mp hs p hp)
  rw [List.nil_append] at h
  have hp : (sortA (partsOf (c.st btn) b)).Perm (partsOf (c.st btn) b) := List.mergeSort_perm _ _
  refine ⟨fun q hq => ?_, ?_⟩
  · obtain ⟨u, hu, rfl⟩ := List.mem_map.mp hq
    obtain ⟨e1, e2, e3⟩ := h.el u (hp.mem_iff.mp hu)
    refine ⟨e1, e2, fun p hp => ?_⟩
    obtain ⟨a1, a2⟩ := e3 p hp
    obtain ⟨p', hp', e⟩ := List.mem_map.mp a1
    exact ⟨by rw [← e]; exact (hb.2.2 p' hp').1, a2⟩
  · unfold partsB
    rw [List.flatMap_map]
    exact (hp.flatMap_right _).trans h.prm
theorem flat_perm {α β : Type} {f g : α → List β} : ∀ {l : List α}, (∀ a ∈ l, (f a).Perm (g a)) → (l.flatMap f).Perm (l.flatMap g)
  | [], _ => .nil
  | a :: l, h => by
    rw [List.flatMap_cons, List.flatMap_cons]
    exact (h a List.mem_cons_self).append (flat_perm fun b hb => h b (List.mem_cons_of_mem _ hb))
theorem press_ok {c : CS} (hc : CaseOk c) {btn : Str} {s : Sprd} (h : SprdOk c s) (hs : harmS (c.st btn) s = true) : SprdOk c (pressS (c.st btn) s) := by
  have hsb : ∀ b ∈ s, harmB (c.st btn) b = true := List.all_eq_true.mp hs
  have hp : (pressS (c.st btn) s).Perm (s.flatMap (partsB (c.st btn))) := List.mergeSort_perm _ _
  refine ⟨sortS_idem _, fun b hb => ?_, ?_⟩
  · obtain ⟨b0, h0, h1⟩ := List.mem_flatMap.mp (hp.mem_iff.mp hb)
    exact (partsB_ok hc (h.bel b0 h0) (hsb b0 h0)).1 b h1
  · refine (hp.flatMap_right _).trans ?_
    rw [List.flatMap_assoc]
    exact (flat_perm fun b hb => (partsB_ok hc (h.bel b hb) (hsb b hb)).2).trans h.prm
/-! sizes -/
theorem flat_len {s : Sprd} {b : Bel} (hb : b ∈ s) : b.length ≤ (s.flatMap fun b => b.map (·.1)).length := by
  obtain ⟨as, bs, rfl⟩ := List.append_of_mem hb
  rw [List.flatMap_append, List.flatMap_cons, List.length_append, List.length_append, List.length_map]
  omega
theorem flat_len2 : ∀ {s : Sprd}, (∀ b ∈ s, b ≠ []) → s.length ≤ (s.flatMap fun b => b.map (·.1)).length
  | [], _ => Nat.le_refl _
  | b :: s, h => by
    rw [List.flatMap_cons, List.length_append, List.length_cons, List.length_map]
    have h1 := flat_len2 (s := s) fun b hb => h b (List.mem_cons_of_mem _ hb)
    have h2 : b.length ≠ 0 := fun z => h b List.mem_cons_self (List.length_eq_zero_iff.mp z)
    omega
section
variable {c : CS} {s : Sprd} {b : Bel}
theorem SprdOk.blen (h : SprdOk c s) (hc : CaseOk c) (hb : b ∈ s) : b.length ≤ 3 := by
  have h1 := flat_len hb
  rw [h.prm.length_eq] at h1
  exact Nat.le_trans h1 hc.len
theorem SprdOk.len (h : SprdOk c s) (hc : CaseOk c) : s.length ≤ 3 := by
  have h1 := flat_len2 fun b hb => (h.bel b hb).1
  rw [h.prm.length_eq] at h1
  exact Nat.le_trans h1 hc.len
theorem SprdOk.spOk (h : SprdOk c s) (hc : CaseOk c) : SpOk c.n s := ⟨by have := h.len hc; omega, fun b hb => ⟨fun p hp => ((h.bel b hb).2.2 p hp).2, by have := h.blen hc hb; omega⟩⟩
def GoalOkC (c : CS) : Goal → Prop
  | .inn xs => xs.length < 1000 ∧ ∀ x ∈ xs, 0 ≤ x ∧ x < (c.n : Int)
  | .grp gs => gs.length < 1000 ∧ gs.flatten.length < 1000 ∧ ∀ s ∈ c.poss, gs.flatten.count s = 1
  | _ => True
theorem BelOk.goalFor {g : Goal} (h : BelOk c b) (hg : GoalOkC c g) : GoalFor g b := by
  refine ⟨h.1, ?_⟩
  cases g with
  | grp gs =>
    obtain ⟨g1, _, g2⟩ := hg
    refine ⟨g1, ?_⟩
    cases b with
    | nil => exact absurd rfl h.1
    | cons p b =>
      have h1 := g2 p.1 (h.2.2 p (by simp)).1
      have h2 : p.1 ∈ gs.flatten := List.count_pos_iff.mp (by omega)
      obtain ⟨x, hx, hm⟩ := List.mem_flatten.mp h2
      exact ⟨x, hx, hm⟩
  | _ => trivial
theorem BelOk.lawFor {g : Goal} (h : BelOk c b) (hl : b.length < 60) (hg : GoalOkC c g) : LawFor g b := by
  refine ⟨h.1, hl, ?_⟩
  cases g with
  | grp gs =>
    obtain ⟨g1, _, g2⟩ := hg
    exact ⟨g1, fun p hp => g2 p.1 (h.2.2 p hp).1⟩
  | _ => trivial
theorem SprdOk.goals {g : Goal} (h : SprdOk c s) (hc : CaseOk c) (hg : GoalOkC c g) : ∀ b ∈ s, GoalFor g b ∧ b.length < 1000 := fun b hb => ⟨(h.bel b hb).goalFor hg, by have := h.blen hc hb; omega⟩
theorem SprdOk.laws {g : Goal} (h : SprdOk c s) (hc : CaseOk c) (hg : GoalOkC c g) : ∀ b ∈ s, LawFor g b := fun b hb => (h.bel b hb).lawFor (by have := h.blen hc hb; omega) hg
end
end S3

/-! ### P8: properties of a case, beliefs and goals asked -/
namespace S3
open PySem PySem.Spec PyProof.Rows L2
theorem cr_lenO {X : Cx} {k j : Nat} {C : Addr} {sp : Sp} (c : C8.Met X.prog X.w X.K X.mg X.base k C "__len__" sp []) (hr : Room j X.A) (hk : k + 1 ≤ j) : CallR X (.builtin "len") (rLenO X.K C sp) := by
  obtain ⟨f, fd, ps, ds, hc, hm, F, b, d⟩ := c.ex
  cases d
  exact call_lenO hm F (hr.mono hk) b L2.pass0
theorem cr_lenOK {X : Cx} (K : PySem.W.Frag) {k j : Nat} {C : Addr} {sp : Sp} (hK : X.K = K) (c : C8.Met X.prog X.w X.K X.mg X.base k C "__len__" sp []) (hr : Room j X.A) (hk : k + 1 ≤ j) : CallR X (.builtin "len") (rLenO K C sp) := by
  subst hK
  exact cr_lenO c hr hk
def spStates (K : PySem.W.Frag) (CC DC : Addr) : Sp := fun vs H Q _ => ∃ s c dv, vs = [s] ∧ CaseAt K CC DC H s c dv ∧ ∀ p, H p = none → Q (.ref p) (upd H p (.lst (c.poss.map V.int)))
def spLamps (K : PySem.W.Frag) (CC DC : Addr) : Sp := fun vs H Q _ => ∃ s c dv, vs = [s] ∧ CaseAt K CC DC H s c dv ∧ ∀ p, H p = none → Q (.ref p) (upd H p (.lst (c.lamps.map V.str)))
def spButtons (K : PySem.W.Frag) (CC DC : Addr) : Sp := fun vs H Q _ => ∃ s c dv, vs = [s] ∧ CaseAt K CC DC H s c dv ∧ ∀ p, H p = none → Q (.ref p) (upd H p (.lst (c.usable.map V.str)))
def spDevice (K : PySem.W.Frag) (CC DC : Addr) : Sp := fun vs H Q _ => ∃ F s c dv, vs = [s] ∧ Same F H ∧ CaseAt K CC DC F s c dv ∧ ∀ v, DevAt K DC F v dv → Q v H
def spStart (K : PySem.W.Frag) (CC DC : Addr) : Sp := fun vs H Q _ => ∃ F s c dv, vs = [s] ∧ Same F H ∧ CaseAt K CC DC F s c dv ∧ c.poss.length < 1000 ∧ ∀ p xs F' H', Gr N0 F H F' H' → H p = none → F' p = none → H' p = some (.lst xs) → DpAll K F' xs (c.start.map pP) → Q (.ref p) H'
def spDLen (K : PySem.W.Frag) (DC : Addr) : Sp := fun vs H Q _ => ∃ s dv, vs = [s] ∧ DevAt K DC H s dv ∧ dv.steps.length < 1000 ∧ Q (.int dv.steps.length) H
def spDBtn (K : PySem.W.Frag) (DC : Addr) : Sp := fun vs H Q _ => ∃ s dv, vs = [s] ∧ DevAt K DC H s dv ∧ ∀ p, H p = none → Q (.ref p) (upd H p (.lst (dv.btn.map V.str)))
def spDLmp (K : PySem.W.Frag) (DC : Addr) : Sp := fun vs H Q _ => ∃ s dv, vs = [s] ∧ DevAt K DC H s dv ∧ ∀ p, H p = none → Q (.ref p) (upd H p (.lst (dv.lmp.map V.str)))
section
variable {P : Program} {w : World} {K : PySem.W.Frag} {mg : Str → Option Value} {base : Heap} {CC DC : Addr}
abbrev s_cdevice : Stmt := inClass (top 23) 1
abbrev nm_cdevice : List Str := ["self"]
theorem sc_cdevice : FnScope nm_cdevice ["self"] (defScope s_cdevice) := ⟨rfl, rfl, rfl, by decide +kernel, rfl, by decide +kernel, by decide +kernel⟩
/- slots: 0 self -/
theorem prp_cdevice (D : PropX K CC "device" "Case.device" s_cdevice) (T : Tx K mg CC DC) : Prp P w K mg base 1 CC "device" (spDevice K CC DC) := by
  refine prpD (ps := ["self"]) D (fun _ _ _ _ _ _ us hl => match us, hl with | [_], _ => rfl) sc_cdevice ?_ ?_
  · rintro vs H Q E ⟨F, s, c, dv, rfl, _⟩; rfl
  rintro f cdv A outer s0 H vs Q E hr ⟨F, s, c, dv, rfl, hF, hs, hQ⟩
  refine ⟨_, (pss_one (ps_ret (pe_fldK K rfl (pv 0) rfl))), ?_⟩
  obtain ⟨as, dx, w1, p1, l1, u1, t1, rfl, hi, hd, _⟩ := hs
  exact ⟨_, rfl, as, CC, dx, _, _, rfl, hF _ _ hi, T.cc, T.whole, rfl, hQ _ hd⟩
abbrev s_cstates : Stmt := inClass (top 23) 2
abbrev nm_cstates : List Str := ["self"]
theorem sc_cstates : FnScope nm_cstates ["self"] (defScope s_cstates) := ⟨rfl, rfl, rfl, by decide +kernel, rfl, by decide +kernel, by decide +kernel⟩
/- slots: 0 self -/
theorem prp_cstates (D : PropX K CC "states" "Case.states" s_cstates) (T : Tx K mg CC DC) : Prp P w K mg base 1 CC "states" (spStates K CC DC) := by
  refine prpD (ps := ["self"]) D (fun _ _ _ _ _ _ us hl => match us, hl with | [_], _ => rfl) sc_cstates ?_ ?_
  · rintro vs H Q E ⟨s, c, dv, rfl, _⟩; rfl
  rintro f cdv A outer s0 H vs Q E hr ⟨s, c, dv, rfl, hs, hQ⟩
  refine ⟨_, (pss_one (ps_ret (pe_callTy (call_list_ofK K rfl) (by rfl) T.list (by decide +kernel) (pa_cons (pe_fldK K rfl (pv 0) rfl) pa_nil)))), ?_⟩
  obtain ⟨as, dx, w1, p1, l1, u1, t1, rfl, hi, _, _, hp, _⟩ := hs
  obtain ⟨a, rfl, sa⟩ := dp_ints hp
  exact ⟨_, rfl, as, CC, dx, _, _, rfl, hi, T.cc, T.possible, rfl, a, _, rfl, .inl sa, hQ⟩
abbrev s_clamps : Stmt := inClass (top 23) 3
abbrev nm_clamps : List Str := ["self"]
theorem sc_clamps : FnScope nm_clamps ["self"] (defScope s_clamps) := ⟨rfl, rfl, rfl, by decide +kernel, rfl, by decide +kernel, by decide +kernel⟩
/- slots: 0 self -/
theorem prp_clamps (D : PropX K CC "lamps" "Case.lamps" s_clamps) (T : Tx K mg CC DC) : Prp P w K mg base 1 CC "lamps" (spLamps K CC DC) := by
  refine prpD (ps := ["self"]) D (fun _ _ _ _ _ _ us hl => match us, hl with | [_], _ => rfl) sc_clamps ?_ ?_
  · rintro vs H Q E ⟨s, c, dv, rfl, _⟩; rfl
  rintro f cdv A outer s0 H vs Q E hr ⟨s, c, dv, rfl, hs, hQ⟩
  refine ⟨_, (pss_one (ps_ret (pe_callTy (call_list_ofK K rfl) (by rfl) T.list (by decide +kernel) (pa_cons (pe_fldK K rfl (pv 0) rfl) pa_nil)))), ?_⟩
  obtain ⟨as, dx, w1, p1, l1, u1, t1, rfl, hi, _, _, _, hp, _⟩ := hs
  obtain ⟨a, rfl, sa⟩ := dp_strs hp
  exact ⟨_, rfl, as, CC, dx, _, _, rfl, hi, T.cc, T.watched, rfl, a, _, rfl, .inl sa, hQ⟩
abbrev s_cbuttons : Stmt := inClass (top 23) 4
abbrev nm_cbuttons : List Str := ["self"]
theorem sc_cbuttons : FnScope nm_cbuttons ["self"] (defScope s_cbuttons) := ⟨rfl, rfl, rfl, by decide +kernel, rfl, by decide +kernel, by decide +kernel⟩
/- slots: 0 self -/
theorem prp_cbuttons (D : PropX K CC "buttons" "Case.buttons" s_cbuttons) (T : Tx K mg CC DC) : Prp P w K mg base 1 CC "buttons" (spButtons K CC DC) := by
  refine prpD (ps := ["self"]) D (fun _ _ _ _ _ _ us hl => match us, hl with | [_], _ => rfl) sc_cbuttons ?_ ?_
  · rintro vs H Q E ⟨s, c, dv, rfl, _⟩; rfl
  rintro f cdv A outer s0 H vs Q E hr ⟨s, c, dv, rfl, hs, hQ⟩
  refine ⟨_, (pss_one (ps_ret (pe_callTy (call_list_ofK K rfl) (by rfl) T.list (by decide +kernel) (pa_cons (pe_fldK K rfl (pv 0) rfl) pa_nil)))), ?_⟩
  obtain ⟨as, dx, w1, p1, l1, u1, t1, rfl, hi, _, _, _, _, hp, _⟩ := hs
  obtain ⟨a, rfl, sa⟩ := dp_strs hp
  exact ⟨_, rfl, as, CC, dx, _, _, rfl, hi, T.cc, T.usable, rfl, a, _, rfl, .inl sa, hQ⟩
abbrev s_cstart : Stmt := inClass (top 23) 5
abbrev nm_cstart : List Str := ["self", "state"]
theorem sc_cstart : FnScope nm_cstart ["self"] (defScope s_cstart) := ⟨rfl, rfl, rfl, by decide +kernel, rfl, by decide +kernel, by decide +kernel⟩
/- slots: 0 self 1 state -/
theorem prp_cstart (D : PropX K CC "start" "Case.start" s_cstart) (T : Tx K mg CC DC) : Prp P w K mg base 1 CC "start" (spStart K CC DC) := by
  refine prpD (ps := ["self"]) D (fun _ _ _ _ _ _ us hl => match us, hl with | [_], _ => rfl) sc_cstart ?_ ?_
  · rintro vs H Q E ⟨F, s, c, dv, rfl, _⟩; rfl
  rintro f cdv A outer s0 H vs Q E hr ⟨F, s, c, dv, rfl, hF, hs, hz, hQ⟩
  refine ⟨_, (pss_one (ps_ret (pe_lc (own := [("state", 1)]) (g := (gName 1))  rfl sc_cstart.nd (pi_listK K rfl (pe_fldK K rfl (pv 0) rfl)) (blkOk_by (own := [("state", 1)]) (N := nm_cstart) (sc := defScope s_cstart) (by decide +kernel)) (fun _ _ _ _ _ => (pg_name (i := 1) sc_cstart.nd rfl (.inl rfl))) (fun _ _ _ _ _ => pts_nil) (fun _ _ _ _ _ => (pe_tup (pa_cons (pv 1) (pa_cons (pv 1) pa_nil))))))), ?_⟩
  obtain ⟨as, dx, w1, p1, l1, u1, t1, rfl, hi, _, _, hp, _⟩ := hs
  obtain ⟨a, rfl, sa⟩ := dp_ints hp
  refine ⟨_, rfl, as, CC, dx, _, _, rfl, hF _ _ hi, T.cc, T.possible, rfl, a, rfl, ⟨_, same_l hF sa⟩, fun L hL => lc_list (K := K) (a := a) (xs := c.poss.map V.int) (PvF F H L fun i acc F' => DpAll K F' acc (((c.poss.take i).map fun s => (s, s)).map pP)) (PvF.zero hF hL .nil) (fun i H' _ ⟨_, _, g, _⟩ => same_l g.same (same_l hF sa)) ?_ ?_⟩
  · rintro i x H' hx ⟨Fi, acc, g, hn, hacc, hl, r⟩
    obtain ⟨s, hs, rfl⟩ := get_map hx
    refine ⟨rfl, _, rfl, _, rfl, (by show 2 ≤ sizeLine; decide), fun t ht => ?_⟩
    have g4 : Gr N0 Fi H' (upd Fi t (.tup [.int s, .int s])) (upd H' t (.tup [.int s, .int s])) := (Gr.refl g.fh).new ht
    refine PvF.snoc hL g hn hacc hl (by have := lt_at hs; omega) g4 ?_
    rw [map_take_at hs, List.map_append]
    exact dpa_snoc (dpa_same g4.ff _ _ r) (.tup (.inl (.inl (upd_same ..))) (.cons (.int _) (.cons (.int _) .nil)))
  · rintro H' ⟨Fi, acc, g, hn, hacc, hl, r⟩
    rw [List.length_map, List.take_length] at r
    exact hQ L acc Fi H' g hL hn hacc r
abbrev s_dlen : Stmt := inClass (top 43) 1
abbrev nm_dlen : List Str := ["self"]
theorem sc_dlen : FnScope nm_dlen ["self"] (defScope s_dlen) := ⟨rfl, rfl, rfl, by decide +kernel, rfl, by decide +kernel, by decide +kernel⟩
/- slots: 0 self -/
theorem met_dlen (D : MetX K DC "__len__" "Device.__len__" s_dlen) (T : Tx K mg CC DC) : C8.Met P w K mg base 1 DC "__len__" (spDLen K DC) [] := by
  refine metD (ps := ["self"]) D (fun _ _ _ _ _ _ us hl => match us, hl with | [_], _ => rfl) sc_dlen ?_ ?_
  · rintro vs H Q E ⟨s, dv, rfl, _⟩; rfl
  rintro f cdv A outer s0 H vs Q E hr ⟨s, dv, rfl, hs, hz, hQ⟩
  refine ⟨_, (pss_one (ps_ret (pe_callB (call_len_seqK K rfl) (by rfl) T.len (by decide +kernel) (pa_cons (pe_fldK K rfl (pv 0) rfl) pa_nil)))), ?_⟩
  obtain ⟨a, dx, b, l, t, rfl, h2, h3, h4, a', xs, rfl, h5, h6, h7⟩ := hs
  refine ⟨_, rfl, a, DC, dx, _, _, rfl, h2, T.dc, T.steps, rfl, a', xs, rfl, .inl h5, ?_⟩
  rw [h6]
  exact hQ
abbrev s_dbuttons : Stmt := inClass (top 43) 3
abbrev nm_dbuttons : List Str := ["self"]
theorem sc_dbuttons : FnScope nm_dbuttons ["self"] (defScope s_dbuttons) := ⟨rfl, rfl, rfl, by decide +kernel, rfl, by decide +kernel, by decide +kernel⟩
/- slots: 0 self -/
theorem prp_dbuttons (D : PropX K DC "buttons" "Device.buttons" s_dbuttons) (T : Tx K mg CC DC) : Prp P w K mg base 1 DC "buttons" (spDBtn K DC) := by
  refine prpD (ps := ["self"]) D (fun _ _ _ _ _ _ us hl => match us, hl with | [_], _ => rfl) sc_dbuttons ?_ ?_
  · rintro vs H Q E ⟨s, dv, rfl, _⟩; rfl
  rintro f cdv A outer s0 H vs Q E hr ⟨s, dv, rfl, hs, hQ⟩
  refine ⟨_, (pss_one (ps_ret (pe_callTy (call_list_ofK K rfl) (by rfl) T.list (by decide +kernel) (pa_cons (pe_fldK K rfl (pv 0) rfl) pa_nil)))), ?_⟩
  obtain ⟨as, dx, b, l, t, rfl, h2, h3, h4, h5⟩ := hs
  obtain ⟨a, rfl, sa⟩ := dp_strs h3
  exact ⟨_, rfl, as, DC, dx, _, _, rfl, h2, T.dc, T.button_names, rfl, a, _, rfl, .inl sa, hQ⟩
abbrev s_dlamps : Stmt := inClass (top 43) 4
abbrev nm_dlamps : List Str := ["self"]
theorem sc_dlamps : FnScope nm_dlamps ["self"] (defScope s_dlamps) := ⟨rfl, rfl, rfl, by decide +kernel, rfl, by decide +kernel, by decide +kernel⟩
/- slots: 0 self -/
theorem prp_dlamps (D : PropX K DC "lamps" "Device.lamps" s_dlamps) (T : Tx K mg CC DC) : Prp P w K mg base 1 DC "lamps" (spDLmp K DC) := by
  refine prpD (ps := ["self"]) D (fun _ _ _ _ _ _ us hl => match us, hl with | [_], _ => rfl) sc_dlamps ?_ ?_
  · rintro vs H Q E ⟨s, dv, rfl, _⟩; rfl
  rintro f cdv A outer s0 H vs Q E hr ⟨s, dv, rfl, hs, hQ⟩
  refine ⟨_, (pss_one (ps_ret (pe_callTy (call_list_ofK K rfl) (by rfl) T.list (by decide +kernel) (pa_cons (pe_fldK K rfl (pv 0) rfl) pa_nil)))), ?_⟩
  obtain ⟨as, dx, b, l, t, rfl, h2, h3, h4, h5⟩ := hs
  obtain ⟨a, rfl, sa⟩ := dp_strs h4
  exact ⟨_, rfl, as, DC, dx, _, _, rfl, h2, T.dc, T.lamp_names, rfl, a, _, rfl, .inl sa, hQ⟩
abbrev s_ib : Stmt := top 16
abbrev nm_ib : List Str := ["case", "belief", "possible", "before", "first", "now"]
theorem sc_ib : FnScope nm_ib ["case", "belief"] (defScope s_ib) := ⟨rfl, rfl, rfl, by decide +kernel, rfl, by decide +kernel, by decide +kernel⟩
/- slots: 0 case 1 belief 2 possible 3 before 4 first 5 now -/
def spIb (K : PySem.W.Frag) (CC DC : Addr) : Sp := fun vs H Q _ => ∃ s b c dv bel, vs = [s, b] ∧ CaseAt K CC DC H s c dv ∧ c.n < 1000 ∧ (∀ s ∈ c.poss, 0 ≤ s) ∧ Dp K H b (pB bel) ∧ BelOk c bel ∧ bel.length < 1000 ∧ ∀ H', Same H H' → Q (.bl true) H'
theorem pw_next {b : Bel} (h : (b.map (·.1)).Pairwise (· < ·)) {i : Nat} {p q : Int × Int} (h1 : b[i]? = some p) (h2 : b[i + 1]? = some q) : p.1 < q.1 := by
  have e1 : (b.map (·.1))[i]? = some p.1 := by rw [List.getElem?_map, h1]; rfl
  have e2 : (b.map (·.1))[i + 1]? = some q.1 := by rw [List.getElem?_map, h2]; rfl
  obtain ⟨l1, e1⟩ := List.getElem?_eq_some_iff.mp e1
  obtain ⟨l2, e2⟩ := List.getElem?_eq_some_iff.mp e2
  rw [← e1, ← e2]
  exact List.pairwise_iff_getElem.mp h i (i + 1) l1 l2 (Nat.lt_succ_self _)
theorem qT {Q : VK} {b : Bool} {H : Hp} (h : b = true) (q : Q (.bl true) H) : Q (.bl b) H := by rw [h]; exact q
theorem cal_ib (D : DefX K mg "is_belief" s_ib) (T : Tx K mg CC DC) (cSt : Prp P w K mg base 1 CC "states" (spStates K CC DC)) (cDev : Prp P w K mg base 1 CC "device" (spDevice K CC DC)) (cLen : C8.Met P w K mg base 1 DC "__len__" (spDLen K DC) []) : C8.Cal P w K mg base 3 "is_belief" (spIb K CC DC) [] := by
  refine calD (ps := ["case", "belief"]) D (fun _ _ _ _ _ _ us hl => match us, hl with | [_, _], _ => rfl) sc_ib ?_ ?_
  · rintro vs H Q E ⟨s, b, c, dv, bel, rfl, _⟩; rfl
  rintro f cdv A outer s0 H vs Q E hr ⟨s, b, c, dv, bel, rfl, hs, hn, hpos, hb, ⟨hne, hasc, hok⟩, hz, hQ⟩
  refine ⟨_, (pss_cons (ps_set (i := 2) sc_ib.nd rfl (.inl rfl) (pe_pr cSt hr (by decide) (pv 0)))
      (pss_cons (ps_set (i := 3) sc_ib.nd rfl (.inl rfl) (pe_un un_neg pe_int))
      (pss_cons (ps_for PassesOwn.never rfl (pi_listK K rfl (pv 1)) (pg_tupK K rfl 2 rfl (pgs_cons (pg_name (i := 4) sc_ib.nd rfl (.inl rfl)) (pgs_cons (pg_name (i := 5) sc_ib.nd rfl (.inl rfl)) pgs_nil)))
      (pss_cons (ps_if (PW.pt (pw_or (pt_cmpR op_le (pv 4) (pv 3) (nomark _)) (pw_or (pt_cmpR (op_notIn_seqK K rfl) (pv 4) (pv 2) rfl) (pw_or1 (pt_not (pt_chain op_le op_lt pe_int (pv 5) (pe_callB (cr_lenOK K rfl cLen hr (by decide)) (by rfl) T.len (by decide +kernel) (pa_cons (pe_pr cDev hr (by decide) (pv 0)) pa_nil))))))))
        (pss_one (ps_ret pe_bl))
        pss_nil)
        (pss_one (ps_set (i := 3) sc_ib.nd rfl (.inl rfl) (pv 4)))))
      (pss_one (ps_ret (pe_cmpR op_gt (pe_callB (call_len_seqK K rfl) (by rfl) T.len (by decide +kernel) (pa_cons (pv 1) pa_nil)) pe_int (nomark _))))))), ?_⟩
  obtain ⟨ab, xs, rfl, sb, db⟩ := dp_list hb
  have hlen := dpa_len db
  rw [List.length_map] at hlen
  have hs' := hs
  obtain ⟨as, dx, w1, p1, l1, u1, t1, rfl, hi, _⟩ := hs'
  refine ⟨_, rfl, as, dx, _, rfl, hi, _, c, dv, rfl, hs, fun p hp => ⟨_, rfl, _, rfl, ab, rfl, ⟨_, same_l (same_new hp) sb⟩, for_list (K := K) (a := ab) (xs := xs) (fun i σ H' => ∃ bf x1 x2, σ = [some (.ref as), some (.ref ab), some (.ref p), some (.int bf), x1, x2] ∧ Same (upd H p (.lst (c.poss.map V.int))) H' ∧ ∀ q, bel[i]? = some q → bf < q.1) ?_ ?_ ?_ ?_⟩⟩
  · exact ⟨-1, none, none, rfl, .refl _, fun q hq => by have := hpos q.1 (hok q (mem_at hq)).1; omega⟩
  · rintro i σ H' _ ⟨bf, x1, x2, rfl, e, hn⟩
    exact same_l ((same_new hp).trans e) sb
  · rintro i x σ H' hx ⟨bf, x1, x2, rfl, e, hbf⟩
    have e0 := (same_new hp).trans e
    obtain ⟨q, hq, dp⟩ := dpa_at db hx
    obtain ⟨t, rfl, st⟩ := dp_pP dp
    obtain ⟨o1, o2, o3⟩ := hok q (mem_at hq)
    refine ⟨t, _, rfl, same_t e0 st, rfl, _, _, rfl, _, _, rfl, rfl, _, rfl, _, rfl, _, _, rfl, rfl, _, rfl, ?_⟩
    refine ite2 (fun h => ?_) (fun _ => ?_)
    · have h1 := of_decide_eq_true h
      have h2 := hbf q hq
      omega
    refine ⟨_, rfl, _, rfl, p, _, rfl, .inl (.inl (.inl (e _ _ (upd_same ..)))), rfl, flat_ints _, _, rfl, ?_⟩
    rw [if_pos rfl, inV_int, decide_eq_true o1]
    refine ⟨_, rfl, _, _, rfl, rfl, _, rfl, ?_⟩
    refine ite2 (fun _ => ?_) (fun h => absurd (decide_eq_true o2) h)
    refine ⟨_, rfl, as, dx, _, rfl, e0 _ _ hi, H', _, c, dv, rfl, .refl _, hs.mono e0, fun v hv => ?_⟩
    have hv' := hv
    obtain ⟨a2, dx2, b2, l2, t2, rfl, h2, hrest⟩ := hv'
    have hsl : dv.steps.length = c.n := by obtain ⟨_, _, _, _, _, _, _, _, _, _, z, _⟩ := hs; exact z
    refine ⟨a2, dx2, _, rfl, h2, _, dv, rfl, hv, by omega, dv.steps.length, rfl, by omega, _, _, rfl, rfl, _, rfl, ?_⟩
    rw [decide_eq_true (show q.2 < (dv.steps.length : Int) by omega)]
    refine iteF ⟨_, rfl, _, _, _, rfl, e, fun q2 hq2 => pw_next hasc hq hq2⟩
  · rintro σ H' ⟨bf, x1, x2, rfl, e, hn⟩
    refine ⟨_, rfl, ab, xs, rfl, .inl (same_l ((same_new hp).trans e) sb), _, _, rfl, rfl, ?_⟩
    have h1 : bel.length ≠ 0 := fun z => hne (List.length_eq_zero_iff.mp z)
    exact qT (Q := Q) (decide_eq_true (show (0 : Int) < (xs.length : Int) by omega)) (hQ _ ((same_new hp).trans e))
end
end S3

/-! ### P9: goals and spreads asked whether they are such -/
namespace S3
open PySem PySem.Spec PyProof.Rows L2
section
variable {P : Program} {w : World} {K : PySem.W.Frag} {mg : Str → Option Value} {base : Heap} {CC DC : Addr}
abbrev s_ig : Stmt := top 20
abbrev nm_ig : List Str := ["case", "goal", "entries", "group", "state"]
theorem sc_ig : FnScope nm_ig ["case", "goal"] (defScope s_ig) := ⟨rfl, rfl, rfl, by decide +kernel, rfl, by decide +kernel, by decide +kernel⟩
/- slots: 0 case 1 goal 2 entries 3 group 4 state -/
def spIg (K : PySem.W.Frag) (CC DC : Addr) : Sp := fun vs H Q _ => ∃ s g c dv goal, vs = [s, g] ∧ CaseAt K CC DC H s c dv ∧ c.n < 1000 ∧ c.poss.length < 1000 ∧ Dp K H g (pG goal) ∧ GoalOkC c goal ∧ ∀ H', Same H H' → Q (.bl true) H'
theorem all_true {α : Type} (l : List α) : (l.map fun _ => true).all id = true := by rw [List.all_map, List.all_eq_true]; intro _ _; rfl
theorem cal_ig (D : DefX K mg "is_goal" s_ig) (T : Tx K mg CC DC) (cSt : Prp P w K mg base 1 CC "states" (spStates K CC DC)) (cDev : Prp P w K mg base 1 CC "device" (spDevice K CC DC)) (cLen : C8.Met P w K mg base 1 DC "__len__" (spDLen K DC) []) : C8.Cal P w K mg base 3 "is_goal" (spIg K CC DC) [] := by
  refine calD (ps := ["case", "goal"]) D (fun _ _ _ _ _ _ us hl => match us, hl with | [_, _], _ => rfl) sc_ig ?_ ?_
  · rintro vs H Q E ⟨s, g, c, dv, goal, rfl, _⟩; rfl
  rintro f cdv A outer s0 H vs Q E hr ⟨s, g, c, dv, goal, rfl, hs, hn, hpz, hg, hgo, hQ⟩
  refine ⟨_, (pss_cons (ps_if (PW.pt (pw_or (pt_cmpR op_eq (pe_ix (ix_tupK K rfl) (pv 1) pe_int (fun _ _ => rfl)) pe_str (nomark _)) (pw_or1 (pt_cmpR op_eq (pe_ix (ix_tupK K rfl) (pv 1) pe_int (fun _ _ => rfl)) pe_str (nomark _)))))
      (pss_one (ps_ret (pe_cmpR op_eq (pe_callB (call_len_seqK K rfl) (by rfl) T.len (by decide +kernel) (pa_cons (pv 1) pa_nil)) pe_int (nomark _))))
      pss_nil)
      (pss_cons (ps_if (pt_cmpR op_ne (pe_callB (call_len_seqK K rfl) (by rfl) T.len (by decide +kernel) (pa_cons (pv 1) pa_nil)) pe_int (nomark _))
      (pss_one (ps_ret pe_bl))
      pss_nil)
      (pss_cons (ps_if (pt_cmpR op_eq (pe_ix (ix_tupK K rfl) (pv 1) pe_int (fun _ _ => rfl)) pe_str (nomark _))
      (pss_one (ps_ret (pe_callB (cr_allK K rfl rfl) (by rfl) T.all (by decide +kernel) (pa_cons (pe_lc (own := [("state", 4)]) (g := (gName 4))  rfl sc_ig.nd (pi_listK K rfl (pe_ix (ix_tupK K rfl) (pv 1) pe_int (fun _ _ => rfl))) (blkOk_by (own := [("state", 4)]) (N := nm_ig) (sc := defScope s_ig) (by decide +kernel)) (fun _ _ _ _ _ => (pg_name (i := 4) sc_ig.nd rfl (.inl rfl))) (fun _ _ _ _ _ => pts_nil) (fun _ _ _ _ _ => (pe_chain op_le op_lt pe_int (pv 4) (pe_callB (cr_lenOK K rfl cLen hr (by decide)) (by rfl) T.len (by decide +kernel) (pa_cons (pe_pr cDev hr (by decide) (pv 0)) pa_nil))))) pa_nil))))
      pss_nil)
      (pss_cons (ps_if (pt_cmpR op_eq (pe_ix (ix_tupK K rfl) (pv 1) pe_int (fun _ _ => rfl)) pe_str (nomark _))
      (pss_cons (ps_set (i := 2) sc_ig.nd rfl (.inr rfl) (pe_lc2 (own := [("group", 3), ("state", 4)]) (vs1 := [4]) (g := (gName 3)) (g1 := (gName 4))  rfl sc_ig.nd (pi_listK K rfl (pe_ix (ix_tupK K rfl) (pv 1) pe_int (fun _ _ => rfl))) (blkOk_by (own := [("group", 3), ("state", 4)]) (N := nm_ig) (sc := defScope s_ig) (by decide +kernel)) (by decide +kernel) (fun _ _ _ _ _ => (pg_name (i := 3) sc_ig.nd rfl (.inl rfl))) (fun _ _ _ _ _ => pts_nil) (fun _ _ _ _ _ => (pi_listK K rfl (pv 3))) (fun _ _ _ _ _ => (pg_name (i := 4) sc_ig.nd rfl (.inl rfl))) (fun _ _ _ _ _ => pts_nil) (fun _ _ _ _ _ => (pv 4))))
        (pss_one (ps_ret (pe_callB (cr_allK K rfl rfl) (by rfl) T.all (by decide +kernel) (pa_cons (pe_lc (own := [("state", 4)]) (g := (gName 4))  rfl sc_ig.nd (pi_listK K rfl (pe_pr cSt hr (by decide) (pv 0))) (blkOk_by (own := [("state", 4)]) (N := nm_ig) (sc := defScope s_ig) (by decide +kernel)) (fun _ _ _ _ _ => (pg_name (i := 4) sc_ig.nd rfl (.inl rfl))) (fun _ _ _ _ _ => pts_nil) (fun _ _ _ _ _ => (pe_cmpR op_eq (pe_bmK K rfl PySem.F.plainAttrs_list PySem.F.slot_list_count PySem.F.type_list_count (mt_lcountK K rfl) (pv 2) (pa_cons (pv 4) pa_nil)) pe_int (nomark _)))) pa_nil)))))
      pss_nil)
      (pss_one (ps_ret pe_bl)))))), ?_⟩
  have hs' := hs
  obtain ⟨as, dx, w1, p1, l1, u1, t1, rfl, hi, _, hsl, _⟩ := hs'
  cases goal with
  | now =>
    obtain ⟨ag, gs, rfl, sg, dg⟩ := dp_tup hg
    obtain ⟨g1, rfl, hg1⟩ := dpa_one dg
    obtain rfl := dp_str hg1
    refine ⟨_, rfl, ag, _, 0, _, rfl, rfl, sg, rfl, rfl, _, rfl, yesV ?_⟩
    exact ⟨_, rfl, ag, _, rfl, .inr sg, rfl, hQ _ (.refl _)⟩
  | first =>
    obtain ⟨ag, gs, rfl, sg, dg⟩ := dp_tup hg
    obtain ⟨g1, rfl, hg1⟩ := dpa_one dg
    obtain rfl := dp_str hg1
    refine ⟨_, rfl, ag, _, 0, _, rfl, rfl, sg, rfl, rfl, _, rfl, noV (str_ne (by decide)) ?_⟩
    refine ⟨_, rfl, ag, _, 0, _, rfl, rfl, sg, rfl, rfl, _, rfl, yesV ?_⟩
    exact ⟨_, rfl, ag, _, rfl, .inr sg, rfl, hQ _ (.refl _)⟩
  | inn ns =>
    obtain ⟨hz, hrng⟩ := hgo
    obtain ⟨ag, gs, rfl, sg, dg⟩ := dp_tup hg
    obtain ⟨g1, g2, rfl, hg1, hg2⟩ := dpa_pair dg
    obtain rfl := dp_str hg1
    obtain ⟨an, rfl, sn⟩ := dp_ints hg2
    refine ⟨_, rfl, ag, _, 0, _, rfl, rfl, sg, rfl, rfl, _, rfl, noV (str_ne (by decide)) ?_⟩
    refine ⟨_, rfl, ag, _, 0, _, rfl, rfl, sg, rfl, rfl, _, rfl, noV (str_ne (by decide)) ?_⟩
    refine ⟨_, rfl, ag, _, rfl, .inr sg, rfl, _, rfl, iteNS rfl ?_⟩
    refine ⟨_, rfl, ag, _, 0, _, rfl, rfl, sg, rfl, rfl, _, rfl, yesV ?_⟩
    refine ⟨_, rfl, ag, _, 1, _, rfl, rfl, sg, rfl, an, rfl, ⟨_, sn⟩, fun L hL => lc_list (K := K) (a := an) (xs := ns.map V.int) (PvS H L fun i acc => acc = (ns.take i).map fun _ => V.bl true) (PvS.zero hL rfl) (fun i H' _ h => same_l h.1 sn) ?_ ?_⟩
    · rintro i x H' hx ⟨e, acc, hacc, hl, r⟩
      obtain ⟨k, hk, rfl⟩ := get_map hx
      obtain ⟨o2, o3⟩ := hrng k (mem_at hk)
      refine ⟨rfl, _, rfl, _, _, rfl, rfl, _, rfl, ?_⟩
      refine ite2 (fun _ => ?_) (fun h => absurd (decide_eq_true o2) h)
      refine ⟨_, rfl, as, dx, _, rfl, e _ _ hi, H', _, c, dv, rfl, .refl _, hs.mono e, fun v hv => ?_⟩
      have hv' := hv
      obtain ⟨a2, dx2, b2, l2, t2, rfl, h2, hrest⟩ := hv'
      refine ⟨a2, dx2, _, rfl, h2, _, dv, rfl, hv, by omega, dv.steps.length, rfl, by omega, _, _, rfl, rfl, PvS.snoc hL e hacc hl (by have := lt_at hk; omega) (.refl _) ?_⟩
      rw [r, map_take_at hk]
      show _ ++ [V.bl (decide (k < (dv.steps.length : Int)))] = _
      rw [decide_eq_true (show k < (dv.steps.length : Int) by omega)]
    · rintro H' ⟨e, acc, hacc, hl, r⟩
      rw [List.length_map, List.take_length] at r
      refine ⟨L, ns.map fun _ => true, rfl, ?_, ?_⟩
      · rw [List.map_map]; exact .inl (.inl (by rw [hacc, r]; rfl))
      · rw [all_true]; exact hQ _ e
  | grp ns =>
    obtain ⟨hz, hfz, hcnt⟩ := hgo
    obtain ⟨ag, gs, rfl, sg, dg⟩ := dp_tup hg
    obtain ⟨g1, g2, rfl, hg1, hg2⟩ := dpa_pair dg
    obtain rfl := dp_str hg1
    obtain ⟨an, zs, rfl, sn, dn⟩ := dp_list hg2
    have hlz := dpa_len dn
    rw [List.length_map] at hlz
    refine ⟨_, rfl, ag, _, 0, _, rfl, rfl, sg, rfl, rfl, _, rfl, noV (str_ne (by decide)) ?_⟩
    refine ⟨_, rfl, ag, _, 0, _, rfl, rfl, sg, rfl, rfl, _, rfl, noV (str_ne (by decide)) ?_⟩
    refine ⟨_, rfl, ag, _, rfl, .inr sg, rfl, _, rfl, iteNS rfl ?_⟩
    refine ⟨_, rfl, ag, _, 0, _, rfl, rfl, sg, rfl, rfl, _, rfl, noV (str_ne (by decide)) ?_⟩
    refine ⟨_, rfl, ag, _, 0, _, rfl, rfl, sg, rfl, rfl, _, rfl, yesV ?_⟩
    refine ⟨_, rfl, ag, _, 1, _, rfl, rfl, sg, rfl, an, rfl, ⟨_, sn⟩, fun L hL => walkL (K := K) (a := an) (xs := zs) (fun i H' => Same H H' ∧ H' L = some (.lst ((ns.take i).flatten.map V.int))) ⟨same_new hL, upd_same ..⟩ (fun i H' _ h => same_l h.1 sn) ?_ ?_⟩
    · rintro i x H' hx ⟨e, hacc⟩
      obtain ⟨g, hg0, dg0⟩ := dpa_at dn hx
      obtain ⟨a0, rfl, sa0⟩ := dp_ints dg0
      have hle : (ns.take i).flatten.length + g.length ≤ ns.flatten.length := by
        have h1 : ns = ns.take i ++ g :: ns.drop (i + 1) := by
          obtain ⟨h1, h2⟩ := List.getElem?_eq_some_iff.mp hg0
          rw [← h2, List.getElem_cons_drop, List.take_append_drop]
        have h2 := congrArg (fun l : List (List Int) => l.flatten.length) h1
        simp only [List.flatten_append, List.flatten_cons, List.length_append] at h2
        omega
      refine ⟨rfl, _, rfl, a0, rfl, ⟨_, same_l e sa0⟩, walkL (K := K) (a := a0) (xs := g.map V.int) (fun j H2 => Same H H2 ∧ H2 L = some (.lst (((ns.take i).flatten ++ g.take j).map V.int))) ⟨e, by rw [List.take_zero, List.append_nil]; exact hacc⟩ (fun j H2 _ h => same_l h.1 sa0) ?_ ?_⟩
      · rintro j y H2 hy ⟨e2, hacc2⟩
        obtain ⟨k, hk, rfl⟩ := get_map hy
        refine ⟨rfl, _, rfl, _, hacc2, ?_, same_same e2 hL, ?_⟩
        · have := lt_at hk
          rw [List.length_map, List.length_append, List.length_take]
          exact bigS (by omega)
        · rw [upd_same, take_at hk, ← List.append_assoc, List.map_append (l₁ := (ns.take i).flatten ++ g.take j)]
          rfl
      · rintro H2 ⟨e2, hacc2⟩
        refine ⟨e2, ?_⟩
        rw [hacc2, List.length_map, List.take_length, take_at hg0, List.flatten_append]
        simp
    · rintro H' ⟨e, hacc⟩
      rw [hlz, List.take_length] at hacc
      refine ⟨_, rfl, as, dx, _, rfl, e _ _ hi, _, c, dv, rfl, hs.mono e, fun p hp => ⟨p, rfl, ⟨_, .inl (.inl (upd_same ..))⟩, fun L2 hL2 => lc_list (K := K) (a := p) (xs := c.poss.map V.int) (PvS (upd H' p (.lst (c.poss.map V.int))) L2 fun i acc => acc = (c.poss.take i).map fun _ => V.bl true) (PvS.zero hL2 rfl) (fun i H2 _ h => .inl (.inl (h.1 _ _ (upd_same ..)))) ?_ ?_⟩⟩
      · rintro i x H2 hx ⟨e2, acc, hacc2, hl, r⟩
        obtain ⟨k, hk, rfl⟩ := get_map hx
        have hL0 : H2 L = some (.lst (ns.flatten.map V.int)) := e2 _ _ (by rw [upd_ne (ne_of_none hacc hp)]; exact hacc)
        refine ⟨rfl, _, rfl, .inl ⟨rfl, _, .inl (.inl hL0)⟩, _, rfl, L, ns.flatten, k, rfl, rfl, .inl (.inl hL0), rfl, PvS.snoc hL2 e2 hacc2 hl (by have := lt_at hk; omega) (.refl _) ?_⟩
        rw [r, map_take_at hk, hcnt k (mem_at hk)]
        rfl
      · rintro H2 ⟨e2, acc, hacc2, hl, r⟩
        rw [List.length_map, List.take_length] at r
        refine ⟨L2, c.poss.map fun _ => true, rfl, ?_, ?_⟩
        · rw [List.map_map]; exact .inl (.inl (by rw [hacc2, r]; rfl))
        · rw [all_true]; exact hQ _ (e.trans ((same_new hp).trans e2))
abbrev s_cg : Stmt := top 21
abbrev nm_cg : List Str := ["case", "goal"]
theorem sc_cg : FnScope nm_cg ["case", "goal"] (defScope s_cg) := ⟨rfl, rfl, rfl, by decide +kernel, rfl, by decide +kernel, by decide +kernel⟩
/- slots: 0 case 1 goal -/
def spCg (K : PySem.W.Frag) (CC DC : Addr) : Sp := fun vs H Q _ => ∃ s g c dv goal, vs = [s, g] ∧ CaseAt K CC DC H s c dv ∧ c.n < 1000 ∧ c.poss.length < 1000 ∧ Dp K H g (pG goal) ∧ GoalOkC c goal ∧ ∀ H', Same H H' → Q .non H'
theorem cal_cg (D : DefX K mg "check_goal" s_cg) (T : Tx K mg CC DC) (cGoal : C8.Cal P w K mg base 3 "is_goal" (spIg K CC DC) []) : C8.Cal P w K mg base 4 "check_goal" (spCg K CC DC) [] := by
  refine calD (ps := ["case", "goal"]) D (fun _ _ _ _ _ _ us hl => match us, hl with | [_, _], _ => rfl) sc_cg ?_ ?_
  · rintro vs H Q E ⟨s, g, c, dv, goal, rfl, _⟩; rfl
  rintro f cdv A outer s0 H vs Q E hr ⟨s, g, c, dv, goal, rfl, hs, hn, hpz, hg, hgo, hQ⟩
  refine ⟨_, (pss_one (ps_if (pt_not (pt_val (C8.pe_c cGoal hr (by decide) rfl (pa_cons (pv 0) (pa_cons (pv 1) pa_nil)))))
      (pss_one (ps_never))
      pss_nil)), ?_⟩
  exact ⟨_, rfl, _, rfl, s, g, c, dv, goal, rfl, hs, hn, hpz, hg, hgo, fun H' e => ⟨_, rfl, iteF (hQ _ e)⟩⟩
end
end S3

/-! ### P10: is_spread, row_stays_in, judge_rows -/
namespace S3
open PySem PySem.Spec PyProof.Rows L2
theorem dpa_zip {K : PySem.W.Frag} {H : Hp} : ∀ {xs : List V} {s : Sprd}, DpAll K H xs (s.map pB) → ∃ zs : List (V × Bel), xs = zs.map (·.1) ∧ s = zs.map (·.2) ∧ ∀ z ∈ zs, Dp K H z.1 (pB z.2)
  | _, [], h => by cases h; exact ⟨[], rfl, rfl, fun z hz => by cases hz⟩
  | _, b :: s, h => by
    cases h with
    | cons h1 h2 =>
      obtain ⟨zs, e1, e2, h3⟩ := dpa_zip h2
      refine ⟨(_, b) :: zs, by rw [e1]; rfl, by rw [e2]; rfl, fun z hz => ?_⟩
      rcases List.mem_cons.mp hz with rfl | hz
      · exact h1
      · exact h3 z hz
theorem dpa_unzip {K : PySem.W.Frag} {H : Hp} : ∀ {zs : List (V × Bel)}, (∀ z ∈ zs, Dp K H z.1 (pB z.2)) → DpAll K H (zs.map (·.1)) ((zs.map (·.2)).map pB)
  | [], _ => .nil
  | z :: zs, h => .cons (h z List.mem_cons_self) (dpa_unzip fun y hy => h y (List.mem_cons_of_mem _ hy))
/-- what sorted(beliefs) asks and gives -/
theorem sortD_sp {K : PySem.W.Frag} {H : Hp} {a : Addr} {xs : List V} {s : Sprd} (sb : SqL K H a xs) (db : DpAll K H xs (s.map pB)) {Q : VK} (h : ∀ p ys, H p = none → DpAll K H ys ((sortS s).map pB) → Q (.ref p) (upd H p (.lst ys))) : rSortD K [.ref a] H Q := by
  obtain ⟨zs, rfl, rfl, hz⟩ := dpa_zip db
  have hms : sortS (zs.map (·.2)) = (zs.mergeSort (PySem.W.dataLe false fun z => pB z.2)).map (·.2) := by
    refine (List.map_mergeSort (f := fun z : V × Bel => z.2) (r := PySem.W.dataLe false fun z : V × Bel => pB z.2) (s := PySem.W.dataLe false pB) fun a _ b _ => ?_).symm
    rfl
  have hmp : ((zs.map fun z => (z.1, pB z.2)).mergeSort (PySem.W.dataLe false Prod.snd)) = (zs.mergeSort (PySem.W.dataLe false fun z => pB z.2)).map fun z => (z.1, pB z.2) := by
    refine (List.map_mergeSort (f := fun z : V × Bel => (z.1, pB z.2)) (r := PySem.W.dataLe false fun z : V × Bel => pB z.2) (s := PySem.W.dataLe false Prod.snd) fun a _ b _ => ?_).symm
    rfl
  refine ⟨a, zs.map fun z => (z.1, pB z.2), rfl, by rw [List.map_map]; exact sb, ?_, ?_, ?_, ?_, fun p hp => ?_⟩
  · intro b hb
    obtain ⟨z, hz', rfl⟩ := List.mem_map.mp hb
    exact hz z hz'
  · rw [List.map_map]
    exact PySem.W.AllAlike.of (enc := fun z : V × Bel => pB z.2) fun a b => by simpa [pB, PySem.W.alike] using alike_pP a.2 b.2
  · rw [List.map_map]
    exact PySem.W.Sortable.others (enc := fun z : V × Bel => pB z.2) fun a => ⟨(fun q => nomatch q), fun ys q => nomatch q⟩
  · intro b hb
    obtain ⟨z, hz', rfl⟩ := List.mem_map.mp hb
    exact Nat.le_trans (depth_pB z.2) (by decide)
  · rw [hmp, List.map_map]
    refine h p _ hp ?_
    rw [hms]
    exact dpa_unzip fun z hz' => hz z ((List.mergeSort_perm zs _).mem_iff.mp hz')
theorem sorted_uniq {a b : List Int} (h : a.Perm b) (h1 : a.Pairwise (· ≤ ·)) (h2 : b.Pairwise (· ≤ ·)) : a = b := List.Perm.eq_of_pairwise (fun x y _ _ p q => Int.le_antisymm p q) h1 h2 h
theorem lt_le {a : List Int} (h : a.Pairwise (· < ·)) : a.Pairwise (· ≤ ·) := h.imp Int.le_of_lt
section
variable {P : Program} {w : World} {K : PySem.W.Frag} {mg : Str → Option Value} {base : Heap} {CC DC : Addr}
abbrev s_is : Stmt := top 34
abbrev nm_is : List Str := ["case", "beliefs", "belief", "firsts", "first", "now"]
theorem sc_is : FnScope nm_is ["case", "beliefs"] (defScope s_is) := ⟨rfl, rfl, rfl, by decide +kernel, rfl, by decide +kernel, by decide +kernel⟩
/- slots: 0 case 1 beliefs 2 belief 3 firsts 4 first 5 now -/
def spIs (K : PySem.W.Frag) (CC DC : Addr) : Sp := fun vs H Q _ => ∃ s bs c dv sp, vs = [s, bs] ∧ CaseAt K CC DC H s c dv ∧ CaseOk c ∧ Dp K H bs (pS sp) ∧ SprdOk c sp ∧ ∀ H', Same H H' → Q (.bl true) H'
theorem cal_is (D : DefX K mg "is_spread" s_is) (T : Tx K mg CC DC) (cSt : Prp P w K mg base 1 CC "states" (spStates K CC DC)) (cBel : C8.Cal P w K mg base 3 "is_belief" (spIb K CC DC) []) : C8.Cal P w K mg base 4 "is_spread" (spIs K CC DC) [] := by
  refine calD (ps := ["case", "beliefs"]) D (fun _ _ _ _ _ _ us hl => match us, hl with | [_, _], _ => rfl) sc_is ?_ ?_
  · rintro vs H Q E ⟨s, bs, c, dv, sp, rfl, _⟩; rfl
  rintro f cdv A outer s0 H vs Q E hr ⟨s, bs, c, dv, sp, rfl, hs, hc, hb, hok, hQ⟩
  have hu40 := up 40 hr
  have hu64 := up 64 hr
  refine ⟨_, (pss_cons (ps_for PassesOwn.never rfl (pi_listK K rfl (pv 1)) (pg_name (i := 2) sc_is.nd rfl (.inl rfl))
      (pss_one (ps_if (pt_not (pt_val (C8.pe_c cBel hr (by decide) rfl (pa_cons (pv 0) (pa_cons (pv 2) pa_nil)))))
        (pss_one (ps_ret pe_bl))
        pss_nil)))
      (pss_cons (ps_set (i := 3) sc_is.nd rfl (.inl rfl) (pe_lst pa_nil))
      (pss_cons (ps_for PassesOwn.never rfl (pi_listK K rfl (pv 1)) (pg_name (i := 2) sc_is.nd rfl (.inl rfl))
      (pss_one (ps_expr (pe_bmK K rfl PySem.F.plainAttrs_list PySem.F.slot_list_extend PySem.F.type_list_extend mt_extend (pv 3) (pa_cons (pe_lc (own := [("first", 4), ("now", 5)])  rfl sc_is.nd (pi_listK K rfl (pv 2)) (blkOk_by (own := [("first", 4), ("now", 5)]) (N := nm_is) (sc := defScope s_is) (by decide +kernel)) (fun _ _ _ _ _ => (pg_tupK K rfl 2 rfl (pgs_cons (pg_name (i := 4) sc_is.nd rfl (.inl rfl)) (pgs_cons (pg_name (i := 5) sc_is.nd rfl (.inl rfl)) pgs_nil)))) (fun _ _ _ _ _ => pts_nil) (fun _ _ _ _ _ => (pv 4))) pa_nil)))))
      (pss_one (ps_ret (pe_and (pe_cmpR (op_eqDK K rfl hu64) (pe_callB (cr_sortDK K rfl hu40) (by rfl) T.sorted (by decide +kernel) (pa_cons (pv 1) pa_nil)) (pv 1) (nomark _)) (pe_one (pe_cmpR (op_eqDK K rfl hu64) (pe_callB (cr_sortedK K rfl) (by rfl) T.sorted (by decide +kernel) (pa_cons (pv 3) pa_nil)) (pe_pr cSt hr (by decide) (pv 0)) (nomark _))))))))), ?_⟩
  obtain ⟨ab, xs, rfl, sb, db⟩ := dp_list hb
  have hlen := dpa_len db
  rw [List.length_map] at hlen
  have hs' := hs
  obtain ⟨as, dx, w1, p1, l1, u1, t1, rfl, hi, _⟩ := hs'
  have hnn := hc.nn
  refine ⟨_, rfl, ab, rfl, ⟨_, sb⟩, for_list (K := K) (a := ab) (xs := xs) (fun i σ H' => ∃ x1, σ = [some (.ref as), some (.ref ab), x1, none, none, none] ∧ Same H H') ⟨none, rfl, .refl _⟩ ?_ ?_ ?_⟩
  · rintro i σ H' _ ⟨x1, rfl, e⟩
    exact same_l e sb
  · rintro i x σ H' hx ⟨x1, rfl, e⟩
    obtain ⟨b, hb0, db0⟩ := dpa_at db hx
    exact ⟨_, rfl, _, rfl, _, _, c, dv, b, rfl, hs.mono e, by omega, fun s hs => (hc.rng s hs).1, dp_same e _ _ db0, hok.bel b (mem_at hb0), by have := hok.blen hc (mem_at hb0); omega, fun H4 e4 => ⟨_, rfl, iteF ⟨_, rfl, e.trans e4⟩⟩⟩
  · rintro σ H' ⟨x1, rfl, e⟩
    refine ⟨Nat.zero_le _, fun fo hfo => ⟨_, rfl, ab, rfl, ⟨_, same_l (e.trans (same_new hfo)) sb⟩, for_list (K := K) (a := ab) (xs := xs) (fun i σ H2 => ∃ x1 x2 x3, σ = [some (.ref as), some (.ref ab), x1, some (.ref fo), x2, x3] ∧ Same H' H2 ∧ H2 fo = some (.lst ((firsts (sp.take i)).map V.int))) ⟨_, _, _, rfl, same_new hfo, upd_same ..⟩ ?_ ?_ ?_⟩⟩
    · rintro i σ H2 _ ⟨x1, x2, x3, rfl, e2, _⟩
      exact same_l (e.trans e2) sb
    · rintro i x σ H2 hx ⟨x1, x2, x3, rfl, e2, hf⟩
      obtain ⟨b, hb0, db0⟩ := dpa_at db hx
      obtain ⟨a2, ys, rfl, sb2, db2⟩ := dp_list db0
      have hlen2 := dpa_len db2
      rw [List.length_map] at hlen2
      have hb3 := hok.blen hc (mem_at hb0)
      refine ⟨_, rfl, .inl ⟨rfl, _, .inl (.inl hf)⟩, _, rfl, a2, rfl, ⟨_, same_l (e.trans e2) sb2⟩, fun L hL => lc_list (K := K) (a := a2) (xs := ys) (PvS H2 L fun i acc => acc = (b.take i).map fun p => V.int p.1) (PvS.zero hL rfl) (fun i H3 _ h => same_l ((e.trans e2).trans h.1) sb2) ?_ ?_⟩
      · rintro j y H3 hy ⟨e3, acc, hacc, hl, r⟩
        obtain ⟨q, hq, dq⟩ := dpa_at db2 hy
        obtain ⟨t, rfl, st⟩ := dp_pP dq
        refine ⟨t, _, rfl, same_t ((e.trans e2).trans e3) st, rfl, _, _, rfl, _, _, rfl, rfl, rfl, _, rfl, PvS.snoc hL e3 hacc hl (by have := lt_at hq; omega) (.refl _) ?_⟩
        rw [r, map_take_at hq]
      · rintro H3 ⟨e3, acc, hacc, hl, r⟩
        rw [hlen2, List.take_length] at r
        have hf3 := e3 _ _ hf
        have hb2 : (firsts (sp.take i)).length ≤ 3 * 3 := by
          have h1 := flat_bound (f := fun b : Bel => b.map (·.1)) (n := 3) (l := sp.take i) fun b hb => by
            rw [List.length_map]
            exact hok.blen hc (List.mem_of_mem_take hb)
          have h2 : (sp.take i).length ≤ 3 := by
            have := hok.len hc
            rw [List.length_take]; omega
          unfold firsts
          omega
        refine ⟨fo, L, _, _, rfl, rfl, hf3, hacc, ?_, _, _, _, rfl, ?_, ?_⟩
        · rw [r, List.length_map, List.length_map]
          exact big (by omega)
        · exact fun z u hz => by
            rw [upd_ne (ne_of_none hz hfo)]
            exact e3 _ _ (e2 _ _ hz)
        · rw [upd_same, r]
          unfold firsts
          rw [take_at hb0, List.flatMap_append, List.map_append, List.flatMap_cons, List.flatMap_nil, List.append_nil, List.map_map]
          rfl
    · rintro σ H2 ⟨x1, x2, x3, rfl, e2, hf⟩
      rw [hlen, List.take_length] at hf
      have e0 := e.trans e2
      refine ⟨_, rfl, ?_⟩
      dsimp only [tNil]
      refine sortD_sp (same_l e0 sb) (dpa_same e0 _ _ db) fun p ys hp dys => ?_
      have ep : Same H2 (upd H2 p (.lst ys)) := same_new hp
      refine ⟨_, rfl, pS (sortS sp), pS sp, .lst (.inl (.inl (upd_same ..))) (dpa_same ep _ _ dys), dp_same (e0.trans ep) _ _ hb, shaped_dq (dq_pS _) (Nat.le_trans (dep_pS _) (by decide)), shaped_dq (dq_pS _) (Nat.le_trans (dep_pS _) (by decide)), _, rfl, ?_⟩
      rw [eqv_pS, hok.srt, decide_eq_true rfl, if_pos rfl]
      have hpl := hok.prm.length_eq
      have hcl := hc.len
      refine ⟨_, rfl, fo, firsts sp, rfl, .inl (.inl (ep _ _ hf)), by unfold firsts; omega, fun ns' q hp1 hp2 hq => ?_⟩
      have eq : Same (upd H2 p (.lst ys)) (upd (upd H2 p (.lst ys)) q (.lst (ns'.map V.int))) := same_new hq
      refine ⟨_, rfl, as, dx, _, rfl, eq _ _ (ep _ _ (e0 _ _ hi)), _, c, dv, rfl, hs.mono ((e0.trans ep).trans eq), fun r hr2 => ?_⟩
      refine ⟨.list (ns'.map .int), .list (c.poss.map .int), .lst (.inl (.inl (by rw [upd_ne (ne_of_none (upd_same ..) hr2)]; exact upd_same ..))) (dpa_ints _), .lst (.inl (.inl (upd_same ..))) (dpa_ints _), shaped_dq (dq_ints _) (dep_ints _), shaped_dq (dq_ints _) (dep_ints _), ?_⟩
      have hns : ns' = c.poss := sorted_uniq (hp1.trans hok.prm) hp2 (lt_le hc.asc)
      rw [eqv_ints, hns, decide_eq_true rfl]
      exact hQ _ (((e0.trans ep).trans (hns ▸ eq)).trans (same_new (hns ▸ hr2)))
end
end S3

/-! ### P11: row_stays_in, judge_rows -/
namespace S3
open PySem PySem.Spec PyProof.Rows L2
def staysB (c : CS) (ks : List Sprd) (s : Sprd) : Bool := c.usable.all fun b => !(harmS (c.st b) s && !decide (pressS (c.st b) s ∈ ks))
def closedB (c : CS) (g : Goal) (tl : List Sprd) : Bool := decide tl.Nodup && (tl.all (fun s => !meetsS g s) && (decide ([c.start] ∈ tl) && tl.all (staysB c tl)))
theorem atN_some {es : List (NK × Addr × V)} {ks : List Sprd} (h : es.map (·.1) = ks.map kS) (s : Sprd) : (atN es (kS s)).isSome = decide (s ∈ ks) := by
  have h1 : kS s ∈ ks.map kS ↔ s ∈ ks := by
    constructor
    · intro hm
      obtain ⟨t, ht, e⟩ := List.mem_map.mp hm
      exact (kS_inj _ _ e) ▸ ht
    · exact fun hm => List.mem_map.mpr ⟨s, hm, rfl⟩
  by_cases hs : s ∈ ks
  · rw [decide_eq_true hs]
    cases q : atN es (kS s) with
    | some v => rfl
    | none =>
      rw [atN_none_iff, h] at q
      exact absurd (h1.mpr hs) q
  · rw [decide_eq_false hs]
    cases q : atN es (kS s) with
    | none => rfl
    | some v =>
      have : ¬ (atN es (kS s) = none) := by rw [q]; exact fun z => nomatch z
      rw [atN_none_iff, h] at this
      exact absurd (h1.mp (Classical.not_not.mp this)) hs
theorem dnk_key {P : Program} {w : World} {K : PySem.W.Frag} {F H : Hp} {d : Addr} {es : List (NK × Addr × V)} {kp : Addr} {s : Sprd} (hd : H d = some (dnO P w d es)) (hk : KeysAt K H es) (h : Dp K H (.ref kp) (pK s)) : DNK P w K H d (.ref kp) (atN es (kS s)) :=
  ⟨es, kp, kS s, hd, hk, rfl, by rw [kS_data]; exact h, kS_depth s, rfl⟩
theorem keysAt_mono {K : PySem.W.Frag} {F F' : Hp} {es : List (NK × Addr × V)} (h : KeysAt K F es) (e : Same F F') : KeysAt K F' es := fun x hx => ⟨dp_same e _ _ (h x hx).1, (h x hx).2⟩
section
variable {P : Program} {w : World} {K : PySem.W.Frag} {mg : Str → Option Value} {base : Heap} {CC DC : Addr}
abbrev s_rsi : Stmt := top 35
abbrev nm_rsi : List Str := ["case", "beliefs", "entries", "button"]
theorem sc_rsi : FnScope nm_rsi ["case", "beliefs", "entries"] (defScope s_rsi) := ⟨rfl, rfl, rfl, by decide +kernel, rfl, by decide +kernel, by decide +kernel⟩
/- slots: 0 case 1 beliefs 2 entries 3 button -/
def spRsi (P : Program) (w : World) (K : PySem.W.Frag) (CC DC : Addr) : Sp := fun vs H Q _ => ∃ s bs d c dv sp es ks, vs = [s, bs, .ref d] ∧ CaseAt K CC DC H s c dv ∧ CaseOk c ∧ Dp K H bs (pS sp) ∧ SprdOk c sp ∧ H d = some (dnO P w d es) ∧ KeysAt K H es ∧ es.map (·.1) = ks.map kS ∧ ∀ H', Same H H' → Q (.bl (staysB c ks sp)) H'
theorem cal_rsi (D : DefX K mg "row_stays_in" s_rsi) (T : Tx K mg CC DC) (cBtn : Prp P w K mg base 1 CC "buttons" (spButtons K CC DC)) (cSafe : C8.Cal P w K mg base 2 "is_safe_at" (spIsa K CC DC) []) (cPrs : C8.Cal P w K mg base 2 "pressed" (spPrs K CC DC) []) (cKey : C8.Cal P w K mg base 1 "spread_key" (spKey K) []) : C8.Cal P w K mg base 3 "row_stays_in" (spRsi P w K CC DC) [] := by
  refine calD (ps := ["case", "beliefs", "entries"]) D (fun _ _ _ _ _ _ us hl => match us, hl with | [_, _, _], _ => rfl) sc_rsi ?_ ?_
  · rintro vs H Q E ⟨s, bs, d, c, dv, sp, es, ks, rfl, _⟩; rfl
  rintro f cdv A outer s0 H vs Q E hr ⟨s, bs, d, c, dv, sp, es, ks, rfl, hs, hc, hb, hok, hd, hk, hks, hQ⟩
  have hu9 := up 9 hr
  refine ⟨_, (pss_cons (ps_for PassesOwn.never rfl (pi_listK K rfl (pe_pr cBtn hr (by decide) (pv 0))) (pg_name (i := 3) sc_rsi.nd rfl (.inl rfl))
      (pss_one (ps_if (PW.pt (pw_and (pt_val (C8.pe_c cSafe hr (by decide) rfl (pa_cons (pv 0) (pa_cons (pv 1) (pa_cons (pv 3) pa_nil))))) (pw_and1 (pt_cmp (pc_nnotinK P w K rfl rfl rfl hu9 (C8.pe_c cKey hr (by decide) rfl (pa_cons (C8.pe_c cPrs hr (by decide) rfl (pa_cons (pv 0) (pa_cons (pv 1) (pa_cons (pv 3) pa_nil)))) pa_nil)) (pv 2)) rfl))))
        (pss_one (ps_ret pe_bl))
        pss_nil)))
      (pss_one (ps_ret pe_bl))), ?_⟩
  have hs' := hs
  obtain ⟨as, dx, w1, p1, l1, u1, t1, rfl, hi, _⟩ := hs'
  refine ⟨_, rfl, as, dx, _, rfl, hi, _, c, dv, rfl, hs, fun p hp => ⟨p, rfl, ⟨_, .inl (.inl (upd_same ..))⟩, for_list (K := K) (a := p) (xs := c.usable.map V.str) (fun i σ H' => ∃ x1, σ = [some (.ref as), some bs, some (.ref d), x1] ∧ Same (upd H p (.lst (c.usable.map V.str))) H' ∧ (c.usable.take i).all (fun b => !(harmS (c.st b) sp && !decide (pressS (c.st b) sp ∈ ks))) = true) ⟨none, rfl, .refl _, by simp⟩ ?_ ?_ ?_⟩⟩
  · rintro i σ H' _ ⟨x1, rfl, e, _⟩
    exact .inl (.inl (e _ _ (upd_same ..)))
  · rintro i x σ H' hx ⟨x1, rfl, e, hall⟩
    obtain ⟨btn, hb0, rfl⟩ := get_map hx
    have e0 := (same_new hp).trans e
    refine ⟨_, rfl, _, rfl, _, rfl, _, _, btn, c, dv, sp, rfl, hs.mono e0, dp_same e0 _ _ hb, hok.spOk hc, fun H4 e4 => ⟨_, rfl, ?_⟩⟩
    have e1 := e0.trans e4
    refine ite2 (fun hh => ?_) (fun hh => ?_)
    · refine ⟨_, rfl, _, rfl, _, rfl, H4, _, _, btn, c, dv, sp, rfl, .refl _, hs.mono e1, dp_same e1 _ _ hb, hok.spOk hc, hh, fun q bs2 F5 H5 g5 hq hq5 hqs hqn hown => ?_⟩
      have hpo := press_ok hc hok hh
      refine ⟨F5, _, _, rfl, g5.fh, SpAt.own hown (.inl (.inl hqs)), by have := hpo.len hc; omega, fun kp F6 H6 g6 hkp => ?_⟩
      have e6 : Same H H6 := (e1.trans g5.same).trans g6.same
      have hdk := dnk_key (F := H) (e6 _ _ hd) (keysAt_mono hk e6) (dp_same g6.fh _ _ hkp)
      refine ⟨_, rfl, d, _, rfl, hdk, _, rfl, ?_⟩
      rw [atN_some hks]
      refine ite2 (fun hn => ?_) (fun hn => ?_)
      · have hst : staysB c ks sp = false := by
          unfold staysB
          rw [Bool.eq_false_iff]
          intro hall2
          have := List.all_eq_true.mp hall2 btn (mem_at hb0)
          rw [hh, hn] at this
          cases this
        have := hQ H6 e6
        rw [hst] at this
        exact this
      · refine ⟨_, rfl, fun z u hz => g6.same _ _ (g5.same _ _ (e4 _ _ (e _ _ hz))), ?_⟩
        rw [take_at hb0, List.all_append, hall]
        simp [hh, hn]
        simpa using hn
    · refine iteF ⟨_, rfl, fun z u hz => e4 _ _ (e _ _ hz), ?_⟩
      rw [take_at hb0, List.all_append, hall]
      simp [hh]
  · rintro σ H' ⟨x1, rfl, e, hall⟩
    rw [List.length_map, List.take_length] at hall
    exact qT (Q := Q) (H := H') rfl (by
      have := hQ H' ((same_new hp).trans e)
      unfold staysB at this
      rw [hall] at this
      exact this)
theorem not_nodup {tl : List Sprd} {i : Nat} {s : Sprd} (h : tl[i]? = some s) (hm : s ∈ tl.take i) : ¬ tl.Nodup := fun hn => by
  have h1 : (tl.take (i + 1)).Nodup := hn.sublist (List.take_sublist _ _)
  rw [take_at h, List.nodup_append] at h1
  exact h1.2.2 s hm s (by simp) rfl
theorem spKs_one {H H' : Hp} {F' : Hp} {p l : Addr} {xs : List V} {b : Bel} (hp2 : H' p = some (.lst xs)) (hl : H' l = none) (dxs : DpAll K F' xs (b.map pP)) : SpAt K F' (upd H' l (.lst [.ref p])) (.ref l) [b] :=
  ⟨l, [.ref p], rfl, .inl (.inl (upd_same ..)), .cons ⟨p, xs, rfl, .inl (.inl (by rw [upd_ne (ne_of_none hp2 hl)]; exact hp2)), dxs⟩ .nil⟩
abbrev s_jr : Stmt := top 36
abbrev nm_jr : List Str := ["case", "goal", "told", "entries", "beliefs", "key"]
theorem sc_jr : FnScope nm_jr ["case", "goal", "told"] (defScope s_jr) := ⟨rfl, rfl, rfl, by decide +kernel, rfl, by decide +kernel, by decide +kernel⟩
/- slots: 0 case 1 goal 2 told 3 entries 4 beliefs 5 key -/
def spJr (K : PySem.W.Frag) (CC DC : Addr) : Sp := fun vs H Q _ => ∃ s g t c dv goal tl, vs = [s, g, t] ∧ CaseAt K CC DC H s c dv ∧ CaseOk c ∧ Dp K H g (pG goal) ∧ GoalOkC c goal ∧ Dp K H t (.list (tl.map pS)) ∧ tl.length < 10000000 ∧ (∀ s ∈ tl, SprdOk c s) ∧ ∀ H', Same H H' → Q (.bl (closedB c goal tl)) H'
theorem cal_jr (D : DefX K mg "judge_rows" s_jr) (T : Tx K mg CC DC) (cStart : Prp P w K mg base 1 CC "start" (spStart K CC DC)) (cChk : C8.Cal P w K mg base 4 "check_goal" (spCg K CC DC) []) (cKey : C8.Cal P w K mg base 1 "spread_key" (spKey K) []) (cIs : C8.Cal P w K mg base 4 "is_spread" (spIs K CC DC) []) (cSm : C8.Cal P w K mg base 2 "spread_meets" (spSm K) []) (cRsi : C8.Cal P w K mg base 3 "row_stays_in" (spRsi P w K CC DC) []) : C8.Cal P w K mg base 5 "judge_rows" (spJr K CC DC) [] := by
  refine calD (ps := ["case", "goal", "told"]) D (fun _ _ _ _ _ _ us hl => match us, hl with | [_, _, _], _ => rfl) sc_jr ?_ ?_
  · rintro vs H Q E ⟨s, g, t, c, dv, goal, tl, rfl, _⟩; rfl
  rintro f cdv A outer s0 H vs Q E hr ⟨s, g, t, c, dv, goal, tl, rfl, hs, hc, hg, hgo, ht, hz, hok, hQ⟩
  have hu9 := up 9 hr
  refine ⟨_, (pss_cons (ps_expr (C8.pe_c cChk hr (by decide) rfl (pa_cons (pv 0) (pa_cons (pv 1) pa_nil))))
      (pss_cons (ps_set (i := 3) sc_jr.nd rfl (.inr rfl) pe_nnew)
      (pss_cons (ps_for PassesOwn.never rfl (pi_listK K rfl (pv 2)) (pg_name (i := 4) sc_jr.nd rfl (.inl rfl))
      (pss_cons (ps_set (i := 5) sc_jr.nd rfl (.inl rfl) (C8.pe_c cKey hr (by decide) rfl (pa_cons (pv 4) pa_nil)))
        (pss_cons (ps_if (PW.pt (pw_or (pt_cmp (pc_ninK P w K rfl rfl rfl hu9 (pv 5) (pv 3)) rfl) (pw_or (pt_not (pt_val (C8.pe_c cIs hr (by decide) rfl (pa_cons (pv 0) (pa_cons (pv 4) pa_nil))))) (pw_or1 (pt_val (C8.pe_c cSm hr (by decide) rfl (pa_cons (pv 1) (pa_cons (pv 4) pa_nil))))))))
        (pss_one (ps_ret pe_bl))
        pss_nil)
        (pss_one (ps_nput hu9 (pv 3) (pv 5) pe_bl rfl)))))
      (pss_cons (ps_if (pt_cmp (pc_nnotinK P w K rfl rfl rfl hu9 (C8.pe_c cKey hr (by decide) rfl (pa_cons (pe_lst (pa_cons (pe_pr cStart hr (by decide) (pv 0)) pa_nil)) pa_nil)) (pv 3)) rfl)
      (pss_one (ps_ret pe_bl))
      pss_nil)
      (pss_one (ps_ret (pe_callB (cr_allK K rfl rfl) (by rfl) T.all (by decide +kernel) (pa_cons (pe_lc (own := [("beliefs", 4)]) (g := (gName 4))  rfl sc_jr.nd (pi_listK K rfl (pv 2)) (blkOk_by (own := [("beliefs", 4)]) (N := nm_jr) (sc := defScope s_jr) (by decide +kernel)) (fun _ _ _ _ _ => (pg_name (i := 4) sc_jr.nd rfl (.inl rfl))) (fun _ _ _ _ _ => pts_nil) (fun _ _ _ _ _ => (C8.pe_c cRsi hr (by decide) rfl (pa_cons (pv 0) (pa_cons (pv 4) (pa_cons (pv 3) pa_nil)))))) pa_nil)))))))), ?_⟩
  obtain ⟨ab, xs, rfl, sb, db⟩ := dp_list ht
  have hlen := dpa_len db
  rw [List.length_map] at hlen
  have hs' := hs
  obtain ⟨as, dx, w1, p1, l1, u1, t1, rfl, hi, _⟩ := hs'
  have hnn := hc.nn
  have hpl := hc.len
  refine ⟨_, rfl, _, rfl, _, g, c, dv, goal, rfl, hs, by omega, by omega, hg, hgo, fun H1 e1 => fun d hd => ⟨_, rfl, ab, rfl, ⟨_, same_l (e1.trans (same_new hd)) sb⟩, ?_⟩⟩
  have g0 : Gr N0 H H H (upd H1 d (dnO P w d [])) := ((Gr.refl (.refl H)).ext e1).set (same_none e1 hd) (.inr (same_none e1 hd))
  refine for_list (K := K) (a := ab) (xs := xs) (fun i σ H' => ∃ Fi es x4 x5, σ = [some (.ref as), some g, some (.ref ab), some (.ref d), x4, x5] ∧ Gr N0 H H Fi H' ∧ Fi d = none ∧ H' d = some (dnO P w d es) ∧ KeysAt K Fi es ∧ es.map (·.1) = (tl.take i).map kS ∧ (tl.take i).Nodup ∧ (tl.take i).all (fun s => !meetsS goal s) = true) ⟨H, [], _, _, rfl, g0, same_none e1 hd, upd_same .., (fun x hx => by cases hx), rfl, by simp, by simp⟩ ?_ ?_ ?_
  · rintro i σ H' _ ⟨Fi, es, x4, x5, rfl, gi, _⟩
    exact same_l gi.same sb
  · rintro i x σ H' hx ⟨Fi, es, x4, x5, rfl, gi, hfd, hes, hke, hks, hnd, hall⟩
    obtain ⟨s, hs0, ds0⟩ := dpa_at db hx
    have hso := hok s (mem_at hs0)
    refine ⟨_, rfl, Fi, x, s, rfl, gi.fh, SpAt.ofS (dp_same gi.ff _ _ ds0) gi.fh, by have := hso.len hc; omega, fun kp F2 H2 g2 hkp => ?_⟩
    have g3 := gi.trans g2
    have hes2 := g2.same _ _ hes
    have hke2 := keysAt_mono hke g2.ff
    refine ⟨_, rfl, _, rfl, d, _, rfl, dnk_key (F := H) hes2 (keysAt_mono hke2 g2.fh) (dp_same g2.fh _ _ hkp), _, rfl, ?_⟩
    rw [atN_some hks]
    refine ite2 (fun hm => ?_) (fun hm => ?_)
    · have hcl : closedB c goal tl = false := by
        unfold closedB
        rw [decide_eq_false (not_nodup hs0 (by simpa using hm)), Bool.false_and]
      have := hQ H2 g3.same
      rw [hcl] at this
      exact this
    have hm' : s ∉ tl.take i := by simpa using hm
    refine ⟨_, rfl, _, rfl, _, x, c, dv, s, rfl, hs.mono g3.same, hc, dp_same g3.same _ _ ds0, hso, fun H3 e3 => ⟨_, rfl, iteF ?_⟩⟩
    have e03 := g3.same.trans e3
    refine ⟨_, rfl, _, rfl, g, x, goal, s, rfl, dp_same e03 _ _ ds0, dp_same e03 _ _ hg, by have := hso.len hc; omega, hso.goals hc hgo, fun H4 e4 => ⟨_, rfl, ?_⟩⟩
    have e04 := e03.trans e4
    refine ite2 (fun hme => ?_) (fun hme => ?_)
    · have hcl : closedB c goal tl = false := by
        unfold closedB
        have : tl.all (fun s => !meetsS goal s) = false := by
          rw [Bool.eq_false_iff]
          intro ha
          have := List.all_eq_true.mp ha s (mem_at hs0)
          rw [hme] at this
          cases this
        rw [this, Bool.false_and, Bool.and_false]
      have := hQ H4 e04
      rw [hcl] at this
      exact this
    · have g4 : Gr N0 H H F2 H4 := (g3.ext e3).ext e4
      have hes4 := e4 _ _ (e3 _ _ hes2)
      refine ⟨_, rfl, _, rfl, d, es, kp, kS s, rfl, hes4, keysAt_mono hke2 g4.fh, rfl, by rw [kS_data]; exact dp_same g4.fh _ _ hkp, kS_depth s, ?_, ?_, ?_⟩
      · have h1 := atN_some hks s
        rw [decide_eq_false hm'] at h1
        cases q : atN es (kS s) with
        | none => rfl
        | some v => rw [q] at h1; cases h1
      · have h1 := congrArg List.length hks
        rw [List.length_map, List.length_map, List.length_take] at h1
        exact bigS (by omega)
      · refine ⟨F2, es ++ [(kS s, kp, .bl true)], _, _, rfl, g4.set (g2.hid hes hfd) (.inr (same_none e1 hd)), g2.hid hes hfd, upd_same .., fun y hy => ?_, ?_, ?_, ?_⟩
        · rcases List.mem_append.mp hy with hy | hy
          · exact hke2 y hy
          · rw [List.mem_singleton.mp hy]
            exact ⟨by rw [kS_data]; exact hkp, kS_depth s⟩
        · rw [List.map_append, hks, map_take_at hs0]; rfl
        · rw [take_at hs0, List.nodup_append]
          exact ⟨hnd, by simp, fun y hy z hz e => hm' (by simp at hz; rw [← hz, ← e]; exact hy)⟩
        · rw [take_at hs0, List.all_append, hall]
          simpa using hme
  · rintro σ H' ⟨Fi, es, x4, x5, rfl, gi, hfd, hes, hke, hks, hnd, hall⟩
    rw [hlen, List.take_length] at hks hnd hall
    refine ⟨_, rfl, as, dx, _, rfl, gi.same _ _ hi, Fi, _, c, dv, rfl, gi.fh, hs.mono gi.ff, by omega, fun p ys F2 H2 g2 hp hp2 hp3 dys => ?_⟩
    refine ⟨(by show 1 ≤ sizeLine; decide), fun l hl => ?_⟩
    have g3 : Gr N0 Fi H' F2 (upd H2 l (.lst [.ref p])) := g2.lay hl
    refine ⟨F2, _, [c.start], rfl, g3.fh, spKs_one (H := H) hp3 hl dys, by show 1 < 1000; decide, fun kp F4 H4 g4 hkp => ?_⟩
    have g5 := (gi.trans g3).trans g4
    have hes5 := g4.same _ _ (g3.same _ _ hes)
    have hke5 := keysAt_mono hke (g3.ff.trans g4.ff)
    refine ⟨_, rfl, d, _, rfl, dnk_key (F := H) hes5 (keysAt_mono hke5 g4.fh) (dp_same g4.fh _ _ hkp), _, rfl, ?_⟩
    rw [atN_some hks]
    refine ite2 (fun hm => ?_) (fun hm => ?_)
    · have hcl : closedB c goal tl = false := by
        unfold closedB
        have hm' : [c.start] ∉ tl := by simpa using hm
        rw [decide_eq_false hm', Bool.false_and, Bool.and_false, Bool.and_false]
      have := hQ H4 g5.same
      rw [hcl] at this
      exact this
    have hm' : [c.start] ∈ tl := by simpa using hm
    have hcl : closedB c goal tl = tl.all (staysB c tl) := by
      unfold closedB
      rw [decide_eq_true hnd, hall, decide_eq_true hm', Bool.true_and, Bool.true_and, Bool.true_and]
    refine ⟨_, rfl, ab, rfl, ⟨_, same_l g5.same sb⟩, fun L hL => lc_list (K := K) (a := ab) (xs := xs) (PvS H4 L fun i acc => acc = (tl.take i).map fun s => V.bl (staysB c tl s)) (PvS.zero hL rfl) (fun i H' _ h => same_l (g5.same.trans h.1) sb) ?_ ?_⟩
    · rintro i x H5 hx ⟨e, acc, hacc, hl2, r⟩
      obtain ⟨s, hs0, ds0⟩ := dpa_at db hx
      have e5 := g5.same.trans e
      refine ⟨rfl, _, rfl, _, rfl, _, rfl, _, x, d, c, dv, s, es, tl, rfl, hs.mono e5, hc, dp_same e5 _ _ ds0, hok s (mem_at hs0), e _ _ hes5, keysAt_mono hke5 (g4.fh.trans e), hks, fun H6 e6 => PvS.snoc hL e hacc hl2 (by have := lt_at hs0; omega) e6 ?_⟩
      rw [r, map_take_at hs0]
    · rintro H5 ⟨e, acc, hacc, hl2, r⟩
      rw [hlen, List.take_length] at r
      refine ⟨L, tl.map fun s => staysB c tl s, rfl, ?_, ?_⟩
      · rw [List.map_map]; exact .inl (.inl (by rw [hacc, r]; rfl))
      · rw [all_id_map]
        have := hQ H5 (g5.same.trans e)
        rw [hcl] at this
        exact this
end
end S3

/-! ### M2: the search by breadth -/
namespace S3
open PySem PySem.Spec PyProof.Rows L2
/-! few spreads -/
def upto {α : Type} (A : List α) : Nat → List (List α)
  | 0 => [[]]
  | k + 1 => [] :: A.flatMap fun a => (upto A k).map fun l => a :: l
theorem upto_mem {α : Type} {A : List α} : ∀ {k : Nat} {l : List α}, l.length ≤ k → (∀ a ∈ l, a ∈ A) → l ∈ upto A k
  | 0, [], _, _ => by simp [upto]
  | 0, _ :: _, h, _ => by simp at h
  | k + 1, [], _, _ => by simp [upto]
  | k + 1, a :: l, h, hA => by
    unfold upto
    refine List.mem_cons_of_mem _ (List.mem_flatMap.mpr ⟨a, hA a (by simp), List.mem_map.mpr ⟨l, upto_mem (by simpa using h) fun b hb => hA b (by simp [hb]), rfl⟩⟩)
theorem flat_const {α β : Type} {f : α → List β} {n : Nat} : ∀ {l : List α}, (∀ a, (f a).length = n) → (l.flatMap f).length = l.length * n
  | [], _ => by simp
  | a :: l, h => by
    rw [List.flatMap_cons, List.length_append, List.length_cons, h a, flat_const (l := l) h, Nat.succ_mul]
    omega
theorem upto_len {α : Type} {A : List α} (k : Nat) : (upto A (k + 1)).length = 1 + A.length * (upto A k).length := by
  rw [show upto A (k + 1) = [] :: A.flatMap (fun a => (upto A k).map fun l => a :: l) from rfl, List.length_cons, flat_const (n := (upto A k).length) fun a => by rw [List.length_map]]
  omega
theorem upto3 {α : Type} {A : List α} {n : Nat} (h : A.length ≤ n) : (upto A 3).length ≤ 1 + n * (1 + n * (1 + n)) := by
  have h0 : (upto A 0).length = 1 := rfl
  have h1 : (upto A 1).length ≤ 1 + n := by rw [upto_len, h0]; omega
  have h2 : (upto A 2).length ≤ 1 + n * (1 + n) := by rw [upto_len]; exact Nat.add_le_add_left (Nat.mul_le_mul h h1) 1
  rw [upto_len]
  exact Nat.add_le_add_left (Nat.mul_le_mul h h2) 1
theorem flat_inj : ∀ {s t : Sprd}, s.flatten = t.flatten → s.map (·.length) = t.map (·.length) → s = t
  | [], [], _, _ => rfl
  | [], _ :: _, _, h => by simp at h
  | _ :: _, [], _, h => by simp at h
  | b :: s, d :: t, h1, h2 => by
    rw [List.map_cons, List.map_cons] at h2
    injection h2 with h2 h3
    rw [List.flatten_cons, List.flatten_cons] at h1
    obtain ⟨e1, e2⟩ := List.append_inj h1 h2
    rw [e1, flat_inj e2 h3]
theorem nodup_len {α : Type} [DecidableEq α] : ∀ {l m : List α}, l.Nodup → (∀ a ∈ l, a ∈ m) → l.length ≤ m.length
  | [], _, _, _ => Nat.zero_le _
  | a :: l, m, hn, h => by
    rw [List.nodup_cons] at hn
    have ha := h a (by simp)
    have := nodup_len (l := l) (m := m.erase a) hn.2 fun b hb => by
      have hne : b ≠ a := fun e => hn.1 (e ▸ hb)
      exact (List.mem_erase_of_ne hne).mpr (h b (by simp [hb]))
    rw [List.length_erase_of_mem ha] at this
    have hp := List.length_pos_of_mem ha
    rw [List.length_cons]
    omega
def codeS (s : Sprd) : Bel × List Nat := (s.flatten, s.map (·.length))
def prs (c : CS) : Bel := c.poss.flatMap fun s => (List.range c.n).map fun (i : Nat) => (s, (i : Int))
theorem prs_len {c : CS} (hc : CaseOk c) : (prs c).length ≤ 12 := by
  unfold prs
  rw [flat_const (n := c.n) fun a => by rw [List.length_map, List.length_range]]
  exact Nat.mul_le_mul hc.len hc.nn
def univ (c : CS) : List (Bel × List Nat) := (upto (prs c) 3).flatMap fun f => (upto [0, 1, 2, 3] 3).map fun l => (f, l)
theorem univ_len {c : CS} (hc : CaseOk c) : (univ c).length ≤ 160225 := by
  unfold univ
  rw [flat_const (n := (upto [0, 1, 2, 3] 3).length) fun a => by rw [List.length_map]]
  have h1 := upto3 (prs_len hc)
  have h2 : (upto [0, 1, 2, 3] 3).length ≤ 1 + 4 * (1 + 4 * (1 + 4)) := upto3 (Nat.le_refl _)
  exact Nat.mul_le_mul h1 h2
theorem flatten_len : ∀ s : Sprd, s.flatten.length = (s.flatMap fun b => b.map (·.1)).length
  | [] => rfl
  | b :: s => by rw [List.flatten_cons, List.flatMap_cons, List.length_append, List.length_append, flatten_len s, List.length_map]
theorem code_mem {c : CS} (hc : CaseOk c) {s : Sprd} (h : SprdOk c s) : codeS s ∈ univ c := by
  refine List.mem_flatMap.mpr ⟨s.flatten, upto_mem ?_ fun p hp => ?_, List.mem_map.mpr ⟨s.map (·.length), upto_mem ?_ fun n hn => ?_, rfl⟩⟩
  · rw [flatten_len, h.prm.length_eq]; exact hc.len
  · obtain ⟨b, hb, hpb⟩ := List.mem_flatten.mp hp
    obtain ⟨o1, o2, o3⟩ := (h.bel b hb).2.2 p hpb
    refine List.mem_flatMap.mpr ⟨p.1, o1, List.mem_map.mpr ⟨p.2.toNat, List.mem_range.mpr (by omega), ?_⟩⟩
    rw [Int.toNat_of_nonneg o2]
  · rw [List.length_map]; exact h.len hc
  · obtain ⟨b, hb, rfl⟩ := List.mem_map.mp hn
    have := h.blen hc hb
    simp only [List.mem_cons, List.mem_nil_iff, or_false]
    omega
theorem few {c : CS} (hc : CaseOk c) {l : List Sprd} (hn : l.Nodup) (h : ∀ s ∈ l, SprdOk c s) : l.length ≤ 160225 := by
  have h1 : (l.map codeS).Nodup := by
    refine List.pairwise_map.mpr (hn.imp fun {a b} hne e => hne ?_)
    injection e with e1 e2
    exact flat_inj e1 e2
  have h2 := nodup_len h1 fun x hx => by
    obtain ⟨s, hs, rfl⟩ := List.mem_map.mp hx
    exact code_mem hc (h s hs)
  rw [List.length_map] at h2
  exact Nat.le_trans h2 (univ_len hc)
/-! rows -/
abbrev Rws := List (Sprd × List Str)
structure RowsOk (c : CS) (rs : Rws) : Prop where
  nd : (rs.map (·.1)).Nodup
  ok : ∀ s ∈ rs.map (·.1), SprdOk c s
  st : [c.start] ∈ rs.map (·.1)
  wd : ∀ r ∈ rs, ∀ b ∈ r.2, b ∈ c.usable
  ln : ∀ r ∈ rs, r.2.length ≤ rs.length
theorem RowsOk.len {c : CS} {rs : Rws} (hc : CaseOk c) (h : RowsOk c rs) : rs.length ≤ 160225 := by
  have := few hc h.nd h.ok
  rwa [List.length_map] at this
theorem rows0_ok {c : CS} (hc : CaseOk c) : RowsOk c (rows0 c) := ⟨by simp [rows0], fun s hs => by simp [rows0] at hs; rw [hs]; exact start_ok hc, by simp [rows0], (fun r hr b hb => by simp [rows0] at hr; rw [hr] at hb; cases hb), (fun r hr => by simp [rows0] at hr; rw [hr]; exact Nat.zero_le _)⟩
/-- one button -/
def expand1 (c : CS) (s : Sprd) (row : List Str) (rows : Rws) (b : Str) : Rws :=
  if harmS (c.st b) s = true then (if pressS (c.st b) s ∈ rows.map (·.1) then rows else rows ++ [(pressS (c.st b) s, row ++ [b])]) else rows
theorem expand_fold (c : CS) (s : Sprd) (row : List Str) : ∀ (bs : List Str) (rows : Rws), expand c s row rows bs = bs.foldl (expand1 c s row) rows
  | [], _ => rfl
  | b :: bs, rows => by
    rw [List.foldl_cons, ← expand_fold c s row bs]
    rfl
theorem expand1_pre (c : CS) (s : Sprd) (row : List Str) (rows : Rws) (b : Str) : ∃ t, expand1 c s row rows b = rows ++ t := by
  unfold expand1
  split
  · split
    · exact ⟨[], by simp⟩
    · exact ⟨_, rfl⟩
  · exact ⟨[], by simp⟩
theorem fold_pre (c : CS) (s : Sprd) (row : List Str) : ∀ (bs : List Str) (rows : Rws), ∃ t, bs.foldl (expand1 c s row) rows = rows ++ t
  | [], rows => ⟨[], by simp⟩
  | b :: bs, rows => by
    obtain ⟨t1, h1⟩ := expand1_pre c s row rows b
    obtain ⟨t2, h2⟩ := fold_pre c s row bs (expand1 c s row rows b)
    exact ⟨t1 ++ t2, by rw [List.foldl_cons, h2, h1, List.append_assoc]⟩
theorem expand1_ok {c : CS} (hc : CaseOk c) {s : Sprd} {row : List Str} {rows : Rws} {b : Str} (hs : SprdOk c s) (hr : ∀ x ∈ row, x ∈ c.usable) (hl : row.length ≤ rows.length) (hb : b ∈ c.usable) (h : RowsOk c rows) : RowsOk c (expand1 c s row rows b) := by
  unfold expand1
  split
  · rename_i hh
    split
    · exact h
    · rename_i hn
      refine ⟨?_, fun t ht => ?_, ?_, fun r hr' x hx => ?_, fun r hr' => ?_⟩
      · rw [List.map_append, List.nodup_append]
        exact ⟨h.nd, by simp, fun x hx y hy e => hn (by simp at hy; rw [← hy, ← e]; exact hx)⟩
      · rw [List.map_append] at ht
        rcases List.mem_append.mp ht with ht | ht
        · exact h.ok t ht
        · have : t = pressS (c.st b) s := by simpa using ht
          rw [this]; exact press_ok hc hs hh
      · rw [List.map_append]; exact List.mem_append_left _ h.st
      · rcases List.mem_append.mp hr' with hr' | hr'
        · exact h.wd r hr' x hx
        · rw [List.mem_singleton.mp hr'] at hx
          rcases List.mem_append.mp hx with hx | hx
          · exact hr x hx
          · rw [List.mem_singleton.mp hx]; exact hb
      · rw [List.length_append]
        rcases List.mem_append.mp hr' with hr' | hr'
        · have := h.ln r hr'; omega
        · rw [List.mem_singleton.mp hr', List.length_append]
          simp; omega
  · exact h
theorem fold_ok {c : CS} (hc : CaseOk c) {s : Sprd} {row : List Str} (hs : SprdOk c s) (hr : ∀ x ∈ row, x ∈ c.usable) : ∀ {bs : List Str} {rows : Rws}, row.length ≤ rows.length → (∀ b ∈ bs, b ∈ c.usable) → RowsOk c rows → RowsOk c (bs.foldl (expand1 c s row) rows)
  | [], _, _, _, h => h
  | b :: bs, rows, hl, hb, h => by
    rw [List.foldl_cons]
    refine fold_ok hc hs hr ?_ (fun x hx => hb x (by simp [hx])) (expand1_ok hc hs hr hl (hb b (by simp)) h)
    obtain ⟨t, ht⟩ := expand1_pre c s row rows b
    rw [ht, List.length_append]; omega
theorem fold_has {c : CS} {s : Sprd} {row : List Str} : ∀ {bs : List Str} {rows : Rws} {b : Str}, b ∈ bs → harmS (c.st b) s = true → pressS (c.st b) s ∈ (bs.foldl (expand1 c s row) rows).map (·.1)
  | [], _, _, h, _ => by cases h
  | d :: bs, rows, b, h, hh => by
    rw [List.foldl_cons]
    rcases List.mem_cons.mp h with e | h
    · subst e
      obtain ⟨t, ht⟩ := fold_pre c s row bs (expand1 c s row rows b)
      rw [ht, List.map_append]
      refine List.mem_append_left _ ?_
      unfold expand1
      rw [if_pos hh]
      split
      · assumption
      · rw [List.map_append]; simp
    · exact fold_has h hh
/-- what stands behind i turns -/
structure BfsAt (c : CS) (g : Goal) (rows : Rws) (i : Nat) : Prop where
  ok : RowsOk c rows
  le : i ≤ rows.length
  no : ∀ (j : Nat) r, j < i → rows[j]? = some r → meetsS g r.1 = false
  cl : ∀ (j : Nat) r, j < i → rows[j]? = some r → ∀ b ∈ c.usable, harmS (c.st b) r.1 = true → pressS (c.st b) r.1 ∈ rows.map (·.1)
theorem BfsAt.start {c : CS} (hc : CaseOk c) (g : Goal) : BfsAt c g (rows0 c) 0 := ⟨rows0_ok hc, Nat.zero_le _, fun j r h => absurd h (Nat.not_lt_zero _), fun j r h => absurd h (Nat.not_lt_zero _)⟩
theorem RowsOk.at {c : CS} {rows : Rws} (h : RowsOk c rows) {i : Nat} {r : Sprd × List Str} (hr : rows[i]? = some r) : SprdOk c r.1 := h.ok r.1 (List.mem_map.mpr ⟨r, mem_at hr, rfl⟩)
theorem BfsAt.step {c : CS} {g : Goal} (hc : CaseOk c) {rows : Rws} {i : Nat} (h : BfsAt c g rows i) {r : Sprd × List Str} (hr : rows[i]? = some r) (hm : meetsS g r.1 = false) : BfsAt c g (c.usable.foldl (expand1 c r.1 r.2) rows) (i + 1) := by
  obtain ⟨t, ht⟩ := fold_pre c r.1 r.2 c.usable rows
  have hl := lt_at hr
  have hat : ∀ (j : Nat), j < i + 1 → (rows ++ t)[j]? = rows[j]? := fun j hj => List.getElem?_append_left (by omega)
  have hok := fold_ok hc (h.ok.at hr) (h.ok.wd r (mem_at hr)) (h.ok.ln r (mem_at hr)) (fun b hb => hb) h.ok
  refine ⟨hok, by rw [ht, List.length_append]; omega, fun j q hj hq => ?_, fun j q hj hq b hb hh => ?_⟩
  · rw [ht, hat j hj] at hq
    by_cases e : j = i
    · subst e
      rw [hr] at hq
      rw [← Option.some.inj hq]; exact hm
    · exact h.no j q (by omega) hq
  · rw [ht, hat j hj] at hq
    by_cases e : j = i
    · subst e
      rw [hr] at hq
      rw [← Option.some.inj hq] at hh ⊢
      exact fold_has hb hh
    · rw [ht, List.map_append]
      exact List.mem_append_left _ (h.cl j q (by omega) hq b hb hh)
/-- the end of the search -/
structure BfsEnd (c : CS) (g : Goal) (res : Option (List Str) × Rws) : Prop where
  ok : RowsOk c res.2
  fd : res.1 = (res.2.find? fun r => meetsS g r.1).map (·.2)
  cl : res.1 = none → ∀ r ∈ res.2, ∀ b ∈ c.usable, harmS (c.st b) r.1 = true → pressS (c.st b) r.1 ∈ res.2.map (·.1)
theorem find_at {p : Sprd × List Str → Bool} : ∀ {rows : Rws} {i : Nat} {r : Sprd × List Str}, rows[i]? = some r → p r = true → (∀ (j : Nat) q, j < i → rows[j]? = some q → p q = false) → rows.find? p = some r
  | [], i, _, h, _, _ => by simp at h
  | x :: rows, 0, r, h, hp, _ => by
    have : x = r := by simpa using h
    rw [this, List.find?_cons_of_pos hp]
  | x :: rows, i + 1, r, h, hp, hn => by
    have hx := hn 0 x (Nat.succ_pos _) rfl
    rw [List.find?_cons_of_neg (by rw [hx]; exact Bool.false_ne_true)]
    exact find_at (by simpa using h) hp fun j q hj hq => hn (j + 1) q (Nat.succ_lt_succ hj) (by simpa using hq)
theorem bfs_end {c : CS} {g : Goal} (hc : CaseOk c) : ∀ (f : Nat) (rows : Rws) (i : Nat), BfsAt c g rows i → 160226 ≤ f + i → BfsEnd c g (bfs c g f rows i)
  | 0, rows, i, h, hf => by
    have := h.ok.len hc
    have := h.le
    omega
  | f + 1, rows, i, h, hf => by
    unfold bfs
    cases hr : rows[i]? with
    | none =>
      show BfsEnd c g (none, rows)
      have hl : rows.length ≤ i := by rw [List.getElem?_eq_none_iff] at hr; exact hr
      have hno : ∀ r ∈ rows, meetsS g r.1 = false := fun r hr => by
        obtain ⟨j, hj⟩ := List.getElem?_of_mem hr
        exact h.no j r (by have := lt_at hj; omega) hj
      refine ⟨h.ok, ?_, fun _ r hr b hb hh => ?_⟩
      · show none = _
        have : rows.find? (fun r => meetsS g r.1) = none := by
          rw [List.find?_eq_none]
          intro r hr
          rw [hno r hr]; exact Bool.false_ne_true
        rw [this]; rfl
      · have hr' : r ∈ rows := hr
        obtain ⟨j, hj⟩ := List.getElem?_of_mem hr'
        exact h.cl j r (by have := lt_at hj; omega) hj b hb hh
    | some r =>
      obtain ⟨s, row⟩ := r
      show BfsEnd c g (if meetsS g s = true then (some row, rows) else bfs c g f (expand c s row rows c.usable) (i + 1))
      by_cases hm : meetsS g s = true
      · rw [if_pos hm]
        refine ⟨h.ok, ?_, fun z => nomatch z⟩
        show some row = _
        rw [find_at hr hm h.no]; rfl
      · rw [if_neg hm, expand_fold]
        exact bfs_end hc f _ _ (h.step hc hr (by simpa using hm)) (by omega)
theorem search_end {c : CS} (hc : CaseOk c) (g : Goal) : BfsEnd c g (search c g) := bfs_end hc _ _ _ (BfsAt.start hc g) (by decide)
/-- no right row: the spreads found are closed -/
theorem closed_search {c : CS} (hc : CaseOk c) {g : Goal} (h : (search c g).1 = none) : closedB c g ((search c g).2.map (·.1)) = true := by
  have e := search_end hc g
  have hf := e.fd
  rw [h] at hf
  have hf' : (search c g).2.find? (fun r => meetsS g r.1) = none := by
    cases q : (search c g).2.find? (fun r => meetsS g r.1) with
    | none => rfl
    | some v => rw [q] at hf; cases hf
  rw [List.find?_eq_none] at hf'
  unfold closedB
  rw [decide_eq_true e.ok.nd, decide_eq_true e.ok.st, Bool.true_and, Bool.true_and, Bool.and_eq_true, List.all_eq_true, List.all_eq_true]
  refine ⟨fun s hs => ?_, fun s hs => ?_⟩
  · obtain ⟨r, hr, rfl⟩ := List.mem_map.mp hs
    have := hf' r hr
    simpa using this
  · obtain ⟨r, hr, rfl⟩ := List.mem_map.mp hs
    unfold staysB
    rw [List.all_eq_true]
    intro b hb
    by_cases hh : harmS (c.st b) r.1 = true
    · rw [decide_eq_true (e.cl h r hr b hb hh), hh]; rfl
    · have : harmS (c.st b) r.1 = false := by simpa using hh
      rw [this]; rfl
end S3

/-! ### P12: first_rows -/
namespace S3
open PySem PySem.Spec PyProof.Rows L2
theorem dpa_pT {K : PySem.W.Frag} {F : Hp} {xs : List V} {s : Sprd} {i : Nat} {x : V} (h : DpAll K F xs (s.map pT)) (e : xs[i]? = some x) : ∃ b a ys, s[i]? = some b ∧ x = .ref a ∧ SqT K F a ys ∧ DpAll K F ys (b.map pP) := by
  obtain ⟨b, hb, db⟩ := dpa_at h e
  obtain ⟨a, ys, rfl, h1, h2⟩ := dp_tup db
  exact ⟨b, a, ys, hb, rfl, h1, h2⟩
/-- [list(belief) for belief in key] -/
theorem lc_lists {K : PySem.W.Frag} {F H1 : Hp} {D : Addr} {i : Nat} {σ : L2.St} {kp : Addr} {xs : List V} {s : Sprd} {Qd : Hp → Prop} (hi : i < σ.length) (e : Same F H1) (hk : SqT K F kp xs) (hxs : DpAll K F xs (s.map pT)) (hz : s.length < 1000) (hD : H1 D = none)
    (hd : ∀ H bs, Gr N0 F H1 F H → H D = some (.lst (bs.map V.ref)) → F D = none → D ∉ bs → OwnB K F H1 H bs s → Qd H) :
    ∃ W : Nat → Nat → Hp → Prop, (∃ m, W 0 m (upd H1 D (.lst []))) ∧ ∀ j m H, W j m H →
      ((Itt K kp).stop j H ∧ Qd H) ∨ ((Itt K kp).go j H ∧ ∃ Nx : Hp → Prop, (∀ H', Nx H' → ∃ m', m' < m ∧ W (j + 1) m' H') ∧ ∀ x H', (Itt K kp).yld j H x H' → gName i x (wipe σ [i]) H' fun σ2 H2 => wipe σ2 [i] = wipe σ [i] ∧ tYes σ2 H2 fun b H3 =>
        if b = true then tCB (rListOf K) (tCons (tVar i) tNil) σ2 H3 fun y H4 => ∃ acc, H4 D = some (.lst acc) ∧ acc.length < sizeLine ∧ Nx (upd H4 D (.lst (acc ++ [y]))) else Nx H3) := by
  have hlen := dpa_len hxs
  rw [List.length_map] at hlen
  have hFD := same_none e hD
  refine lc_tup (K := K) (a := kp) (xs := xs) (fun j H => ∃ bs, Gr N0 F H1 F H ∧ H D = some (.lst (bs.map V.ref)) ∧ D ∉ bs ∧ OwnB K F H1 H bs (s.take j)) ⟨[], (Gr.refl e).lay hD, upd_same .., by simp, by rw [List.take_zero]; exact OwnB.nil⟩ (fun j H _ ⟨bs, g, _⟩ => same_t (g.ff.trans g.fh) hk) ?_ ?_
  · rintro j x H hx ⟨bs, g, hacc, hDb, hown⟩
    obtain ⟨b, a, ys, hb, rfl, h1, h2⟩ := dpa_pT hxs hx
    have eF := g.fh
    refine ⟨by simp [wipe], V.ref a, by simp [wipe, hi], a, ys, rfl, .inr (same_t eF h1), fun l hl => ?_⟩
    have hlD : D ≠ l := ne_of_none hacc hl
    have hl1 : H1 l = none := g.fresh hl
    have hlF := same_none eF hl
    have hlb : l ∉ bs := fun z => (hown.mem z).2.2 hl
    refine ⟨bs.map V.ref, by rw [upd_ne hlD]; exact hacc, ?_, bs ++ [l], ?_, ?_, ?_, ?_⟩
    · have h1 := hown.len
      rw [List.length_take] at h1
      have := lt_at hb
      rw [List.length_map]
      exact bigS (by omega)
    · exact (g.lay hl).set hFD (.inr hD)
    · rw [List.map_append]; exact upd_same ..
    · simp [hDb, hlD]
    · have ho1 : OwnB K F H1 (upd (upd H l (.lst ys)) D (.lst (bs.map V.ref ++ [.ref l]))) bs (s.take j) := ⟨hown.len, hown.nd, fun k c bel q1 q2 => by
        obtain ⟨a1, a2, zs, a3, a4⟩ := hown.at_ k c bel q1 q2
        have n1 : c ≠ D := fun z => hDb (z ▸ mem_at q1)
        have n2 : c ≠ l := fun z => hlb (z ▸ mem_at q1)
        exact ⟨a1, a2, zs, by rw [upd_ne n1, upd_ne n2]; exact a3, a4⟩⟩
      have ho2 : OwnB K F H1 (upd (upd H l (.lst ys)) D (.lst (bs.map V.ref ++ [.ref l]))) [l] [b] := ⟨rfl, by simp, fun k c bel q1 q2 => by
        have e1 : k = 0 := by have := lt_at q1; simp at this; exact this
        subst e1
        have e2 : l = c := by simpa using q1
        have e3 : b = bel := by simpa using q2
        subst e2 e3
        exact ⟨hlF, hl1, ys, by rw [upd_ne (Ne.symm hlD)]; exact upd_same .., h2⟩⟩
      rw [take_at hb]
      exact ho1.app ho2 fun z hz hz2 => hlb (by simp at hz2; rw [← hz2]; exact hz)
  · rintro H ⟨bs, g, hacc, hDb, hown⟩
    rw [hlen, List.take_length] at hown
    exact hd H bs g hacc hFD hDb hown
abbrev Zr := Addr × Addr × Sprd × List Str
def entR (z : Zr) : NK × Addr × V := (kS z.2.2.1, z.1, .ref z.2.1)
/-- the dict of rows, the list of what waits -/
structure RowsAt (P : Program) (w : World) (K : PySem.W.Frag) (F H : Hp) (d wl : Addr) (zs : List Zr) : Prop where
  dict : H d = some (dnO P w d (zs.map entR))
  fd : F d = none
  wait : H wl = some (.lst (zs.map fun z => V.ref z.1))
  fw : F wl = none
  key : ∀ z ∈ zs, Dp K F (.ref z.1) (pK z.2.2.1)
  row : ∀ z ∈ zs, F z.2.1 = some (.lst (z.2.2.2.map V.str))
section
variable {P : Program} {w : World} {K : PySem.W.Frag} {F H F' H' : Hp} {d wl : Addr} {zs : List Zr}
theorem RowsAt.ext (h : RowsAt P w K F H d wl zs) (g : Gr N0 F H F' H') : RowsAt P w K F' H' d wl zs :=
  ⟨g.same _ _ h.dict, g.hid h.dict h.fd, g.same _ _ h.wait, g.hid h.wait h.fw, fun z hz => dp_same g.ff _ _ (h.key z hz), fun z hz => g.ff _ _ (h.row z hz)⟩
theorem RowsAt.keys (h : RowsAt P w K F H d wl zs) : KeysAt K F (zs.map entR) := fun x hx => by
  obtain ⟨z, hz, rfl⟩ := List.mem_map.mp hx
  exact ⟨by rw [show (entR z).1.data = pK z.2.2.1 from kS_data _]; exact h.key z hz, kS_depth _⟩
theorem entR_keys (zs : List Zr) : (zs.map entR).map (·.1) = (zs.map (·.2.2.1)).map kS := by rw [List.map_map, List.map_map]; rfl
theorem RowsAt.at (h : RowsAt P w K F H d wl zs) (hn : (zs.map (·.2.2.1)).Nodup) {z : Zr} (hz : z ∈ zs) : atN (zs.map entR) (kS z.2.2.1) = some (.ref z.2.1) := by
  refine atN_mem (a := z.1) ?_ (List.mem_map.mpr ⟨z, hz, rfl⟩)
  rw [entR_keys]
  exact nodup_inj (fun x y q => kS_inj x y q) hn
/-- rows[key], key known for good -/
theorem RowsAt.look (h : RowsAt P w K F H d wl zs) (e : Same F H) {kp : Addr} {s : Sprd} (hk : Dp K F (.ref kp) (pK s)) : DNK P w K H d (.ref kp) (atN (zs.map entR) (kS s)) := dnk_key (F := F) h.dict (keysAt_mono h.keys e) (dp_same e _ _ hk)
/-- a new row is put and its spread appended -/
theorem RowsAt.add (h : RowsAt P w K F H d wl zs) {kp rl : Addr} {s : Sprd} {row : List Str} (hk : Dp K F (.ref kp) (pK s)) (hr : F rl = some (.lst (row.map V.str))) (hne : d ≠ wl) :
    RowsAt P w K F (upd (upd H d (dnO P w d (zs.map entR ++ [(kS s, kp, .ref rl)]))) wl (.lst ((zs.map fun z => V.ref z.1) ++ [.ref kp]))) d wl (zs ++ [(kp, rl, s, row)]) := by
  refine ⟨?_, h.fd, ?_, h.fw, fun z hz => ?_, fun z hz => ?_⟩
  · rw [upd_ne hne, upd_same, List.map_append]; rfl
  · rw [upd_same, List.map_append]; rfl
  · rcases List.mem_append.mp hz with hz | hz
    · exact h.key z hz
    · rw [List.mem_singleton.mp hz]; exact hk
  · rcases List.mem_append.mp hz with hz | hz
    · exact h.row z hz
    · rw [List.mem_singleton.mp hz]; exact hr
end
end S3

/-! ### P13: first_rows -/
namespace S3
open PySem PySem.Spec PyProof.Rows L2
/-- lists that were their maker's own are known for good from now on -/
theorem OwnB.pub {K : PySem.W.Frag} {F F' H1 H : Hp} {L : Addr} {bs : List Addr} {s : Sprd} (g : Gr N0 F H1 F' H) (hL : H L = some (.lst (bs.map V.ref))) (h1 : H1 L = none) (hFL : F' L = none) (own : OwnB K F' H1 H bs s) : ∃ F2, Gr N0 F H1 F2 H ∧ Same F' F2 ∧ Dp K F2 (.ref L) (pS s) := by
  classical
  have hb : ∀ b ∈ bs, F' b = none ∧ H1 b = none := fun b hb => ⟨(own.mem hb).1, (own.mem hb).2.1⟩
  have e2 : Same F' (fun a => if a = L ∨ a ∈ bs then H a else F' a) := fun a o h => by
    show (if a = L ∨ a ∈ bs then H a else F' a) = some o
    by_cases q : a = L ∨ a ∈ bs
    · rcases q with q | q
      · subst q; rw [hFL] at h; cases h
      · rw [(hb a q).1] at h; cases h
    · rw [if_neg q]; exact h
  refine ⟨fun a => if a = L ∨ a ∈ bs then H a else F' a, ⟨g.ff.trans e2, fun a o h => ?_, g.hh, g.dom, fun a ha hn => ?_⟩, e2, .lst (.inl (.inl ?_)) (dpa_of own.len fun i b bel q1 q2 => ?_)⟩
  · have h' : (if a = L ∨ a ∈ bs then H a else F' a) = some o := h
    by_cases q : a = L ∨ a ∈ bs
    · rw [if_pos q] at h'; exact h'
    · rw [if_neg q] at h'; exact g.fh a o h'
  · show (if a = L ∨ a ∈ bs then H a else F' a) = none
    by_cases q : a = L ∨ a ∈ bs
    · rcases q with q | q
      · subst q; exact absurd h1 ha
      · exact absurd (hb a q).2 ha
    · rw [if_neg q]; exact g.no a ha hn
  · show (if L = L ∨ L ∈ bs then H L else F' L) = _
    rw [if_pos (.inl rfl)]; exact hL
  · obtain ⟨_, _, xs, a3, a4⟩ := own.at_ i b bel q1 q2
    refine .lst (.inl (.inl ?_)) (dpa_same e2 _ _ a4)
    show (if b = L ∨ b ∈ bs then H b else F' b) = _
    rw [if_pos (.inr (mem_at q1))]; exact a3
section
variable {P : Program} {w : World} {K : PySem.W.Frag} {mg : Str → Option Value} {base : Heap} {CC DC : Addr}
abbrev s_fr : Stmt := top 31
abbrev nm_fr : List Str := ["case", "goal", "start", "rows", "waiting", "index", "here", "button", "after", "belief"]
theorem sc_fr : FnScope nm_fr ["case", "goal"] (defScope s_fr) := ⟨rfl, rfl, rfl, by decide +kernel, rfl, by decide +kernel, by decide +kernel⟩
/- slots: 0 case 1 goal 2 start 3 rows 4 waiting 5 index 6 here 7 button 8 after 9 belief -/
def spFr (P : Program) (w : World) (K : PySem.W.Frag) (CC DC : Addr) : Sp := fun vs H Q _ => ∃ F s g c dv goal, vs = [s, g] ∧ Same F H ∧ CaseAt K CC DC F s c dv ∧ CaseOk c ∧ Dp K H g (pG goal) ∧ GoalOkC c goal ∧
  ∀ d (zs : List Zr) F' H', Gr N0 F H F' H' → H d = none → F' d = none → H' d = some (dnO P w d (zs.map entR)) → (∀ z ∈ zs, Dp K F' (.ref z.1) (pK z.2.2.1)) → (∀ z ∈ zs, F' z.2.1 = some (.lst (z.2.2.2.map V.str))) → zs.map (·.2.2) = (search c goal).2 → Q (.ref d) H'
theorem bfs_stop {c : CS} {g : Goal} {f i : Nat} {rs : Rws} {s : Sprd} {row : List Str} (hr : rs[i]? = some (s, row)) (hm : meetsS g s = true) : bfs c g (f + 1) rs i = (some row, rs) := by
  unfold bfs
  rw [hr]
  show (if meetsS g s = true then _ else _) = _
  rw [if_pos hm]
theorem bfs_go {c : CS} {g : Goal} {f i : Nat} {rs : Rws} {s : Sprd} {row : List Str} (hr : rs[i]? = some (s, row)) (hm : ¬ meetsS g s = true) : bfs c g (f + 1) rs i = bfs c g f (c.usable.foldl (expand1 c s row) rs) (i + 1) := by
  conv => lhs; unfold bfs
  rw [hr]
  show (if meetsS g s = true then _ else _) = _
  rw [if_neg hm, expand_fold]
theorem bfs_out {c : CS} {g : Goal} {i : Nat} {rs : Rws} (h : rs.length ≤ i) : ∀ f, bfs c g f rs i = (none, rs)
  | 0 => rfl
  | f + 1 => by
    unfold bfs
    rw [List.getElem?_eq_none_iff.mpr h]
theorem cal_fr (D : DefX K mg "first_rows" s_fr) (T : Tx K mg CC DC) (cStart : Prp P w K mg base 1 CC "start" (spStart K CC DC)) (cBtn : Prp P w K mg base 1 CC "buttons" (spButtons K CC DC)) (cKey : C8.Cal P w K mg base 1 "spread_key" (spKey K) []) (cSm : C8.Cal P w K mg base 2 "spread_meets" (spSm K) []) (cSafe : C8.Cal P w K mg base 2 "is_safe_at" (spIsa K CC DC) []) (cPrs : C8.Cal P w K mg base 2 "pressed" (spPrs K CC DC) []) : C8.Cal P w K mg base 3 "first_rows" (spFr P w K CC DC) [] := by
  refine calD (ps := ["case", "goal"]) D (fun _ _ _ _ _ _ us hl => match us, hl with | [_, _], _ => rfl) sc_fr ?_ ?_
  · rintro vs H Q E ⟨F, s, g, c, dv, goal, rfl, _⟩; rfl
  rintro f cdv A outer s0 H vs Q E hr ⟨F, s, g, c, dv, goal, rfl, hF, hs, hc, hg, hgo, hQ⟩
  have hu8 := up 8 hr
  have hu9 := up 9 hr
  refine ⟨_, (pss_cons (ps_set (i := 2) sc_fr.nd rfl (.inl rfl) (C8.pe_c cKey hr (by decide) rfl (pa_cons (pe_lst (pa_cons (pe_pr cStart hr (by decide) (pv 0)) pa_nil)) pa_nil)))
      (pss_cons (ps_set (i := 3) sc_fr.nd rfl (.inl rfl) (pe_ndisp hu8 (pv 2) (pe_lst pa_nil)))
      (pss_cons (ps_set (i := 4) sc_fr.nd rfl (.inl rfl) (pe_lst (pa_cons (pv 2) pa_nil)))
      (pss_cons (ps_set (i := 5) sc_fr.nd rfl (.inl rfl) pe_int)
      (pss_cons (ps_while PassesOwn.never (pt_cmpR op_lt (pv 5) (pe_callB (call_len_seqK K rfl) (by rfl) T.len (by decide +kernel) (pa_cons (pv 4) pa_nil)) (nomark _))
      (pss_cons (ps_setLc (i := 6) (own := [("belief", 9)]) (g := (gName 9))  rfl sc_fr.nd rfl rfl (sw_true rfl rfl rfl (by decide +kernel)) (pi_tupK K rfl (pe_ix (ix_listK K rfl) (pv 4) (pv 5) (fun _ _ => rfl))) (blkOk_by (own := [("belief", 9)]) (N := nm_fr) (sc := defScope s_fr) (by decide +kernel)) (fun _ _ _ _ _ => (pg_name (i := 9) sc_fr.nd rfl (.inl rfl))) (fun _ _ _ _ _ => pts_nil) (fun _ _ _ _ _ => (pe_callTy (call_list_ofK K rfl) (by rfl) T.list (by decide +kernel) (pa_cons (pv 9) pa_nil))))
        (pss_cons (ps_if (pt_val (C8.pe_c cSm hr (by decide) rfl (pa_cons (pv 1) (pa_cons (pv 6) pa_nil))))
        (pss_one (ps_ret (pv 3)))
        pss_nil)
        (C8.pss_cut (ps_for PassesOwn.never rfl (pi_listK K rfl (pe_pr cBtn hr (by decide) (pv 0))) (pg_name (i := 7) sc_fr.nd rfl (.inl rfl))
        (pss_one (ps_if (pt_val (C8.pe_c cSafe hr (by decide) rfl (pa_cons (pv 0) (pa_cons (pv 6) (pa_cons (pv 7) pa_nil)))))
          (pss_cons (ps_set (i := 8) sc_fr.nd rfl (.inl rfl) (C8.pe_c cKey hr (by decide) rfl (pa_cons (C8.pe_c cPrs hr (by decide) rfl (pa_cons (pv 0) (pa_cons (pv 6) (pa_cons (pv 7) pa_nil)))) pa_nil)))
            (pss_one (ps_if (pt_cmp (pc_nnotinK P w K rfl rfl rfl hu9 (pv 8) (pv 3)) rfl)
            (pss_cons (ps_nput hu9 (pv 3) (pv 8) (pe_op op_cat (pe_ngetK P w K rfl rfl rfl hu9 (pv 3) (pe_ix (ix_listK K rfl) (pv 4) (pv 5) (fun _ _ => rfl)) (fun _ _ => rfl)) (pe_lst (pa_cons (pv 7) pa_nil))) rfl)
              (pss_one (ps_expr (pe_bmK K rfl PySem.F.plainAttrs_list PySem.F.slot_list_append PySem.F.type_list_append mt_append (pv 4) (pa_cons (pv 8) pa_nil)))))
            pss_nil)))
          pss_nil)))
        (pss_one (ps_set (i := 5) sc_fr.nd rfl (.inl rfl) (pe_op op_add (pv 5) pe_int)))))))
      (pss_one (ps_ret (pv 3)))))))), ?_⟩
  have hs' := hs
  obtain ⟨as, dx, w1, p1, l1, u1, t1, rfl, hi, _⟩ := hs'
  have hpl := hc.len
  refine ⟨_, rfl, as, dx, _, rfl, hF _ _ hi, F, _, c, dv, rfl, hF, hs, by omega, fun p ys F2 H2 g2 hp hp2 hp3 dys => ?_⟩
  refine ⟨(by show 1 ≤ sizeLine; decide), fun l hl => ?_⟩
  have g3 : Gr N0 F H F2 (upd H2 l (.lst [.ref p])) := g2.lay hl
  refine ⟨F2, _, [c.start], rfl, g3.fh, spKs_one (H := H) hp3 hl dys, by show 1 < 1000; decide, fun kp F4 H4 g4 hkp => ?_⟩
  have g04 := g3.trans g4
  refine fun d hd => ⟨_, rfl, Nat.zero_le _, fun rl hrl => ⟨_, _, rfl, kp, kS [c.start], ?_⟩⟩
  have hdr : d ≠ rl := ne_of_none (upd_same ..) hrl
  have hd0 : H d = none := g04.fresh hd
  have g5 : Gr N0 F H F4 (upd H4 d (dnO P w d [])) := g04.lay hd
  have g6 : Gr N0 F H (upd F4 rl (.lst [])) (upd (upd H4 d (dnO P w d [])) rl (.lst [])) := g5.new hrl
  have hF6 : (upd F4 rl (.lst [])) d = none := by rw [upd_ne hdr]; exact same_none g04.fh hd
  have e46 : Same F4 (upd F4 rl (.lst [])) := same_upd (.refl _) (same_none g5.fh hrl)
  refine ⟨by rw [upd_ne hdr]; exact upd_same .., rfl, by rw [kS_data]; exact dp_same (e46.trans g6.fh) _ _ hkp, kS_depth _, ?_⟩
  refine ⟨_, rfl, (by show 1 ≤ sizeLine; decide), fun wl hwl => ?_⟩
  have hwd : d ≠ wl := ne_of_none (upd_same ..) hwl
  have gwl : H wl = none := (g6.set (p := d) (o := dnO P w d [(kS [c.start], kp, .ref rl)]) hF6 (.inr hd0)).fresh hwl
  have g7 := g6.set (p := d) (o := dnO P w d [(kS [c.start], kp, .ref rl)]) hF6 (.inr hd0)
  have g8 := g7.lay (o := .lst [.ref kp]) hwl
  have hr0 : RowsAt P w K (upd F4 rl (.lst [])) (upd (upd (upd (upd H4 d (dnO P w d [])) rl (.lst [])) d (dnO P w d [(kS [c.start], kp, .ref rl)])) wl (.lst [.ref kp])) d wl [(kp, rl, [c.start], [])] :=
    ⟨by rw [upd_ne hwd]; exact upd_same .., hF6, upd_same .., same_none g7.fh hwl, fun z hz => by rw [List.mem_singleton.mp hz]; exact dp_same e46 _ _ hkp, fun z hz => by rw [List.mem_singleton.mp hz]; exact upd_same ..⟩
  refine ⟨fun m σ H' => ∃ i rs Fi zs x6 x7 x8, m = 300000 - i ∧ σ = [some (.ref as), some g, some (.ref kp), some (.ref d), some (.ref wl), some (.int ((i : Nat) : Int)), x6, x7, x8, none] ∧ Gr N0 F H Fi H' ∧ RowsAt P w K Fi H' d wl zs ∧ zs.map (·.2.2) = rs ∧ BfsAt c goal rs i ∧ bfs c goal (most - i) rs i = search c goal, ⟨300000, 0, rows0 c, _, _, none, none, none, rfl, rfl, g8, hr0, rfl, BfsAt.start hc goal, rfl⟩, ?_⟩
  rintro m σ H' ⟨i, rs, Fi, zs, x6, x7, x8, rfl, rfl, gi, hro, hrs, hbf, hse⟩
  have hle := hbf.ok.len hc
  have hzl : zs.length = rs.length := by rw [← hrs, List.length_map]
  refine ⟨_, rfl, _, rfl, wl, _, rfl, .inl (.inl (.inl hro.wait)), _, _, rfl, rfl, _, rfl, ?_⟩
  refine ite2 (fun hlt => ?_) (fun hlt => ?_)
  · have hlt' : i < zs.length := by
      have := of_decide_eq_true hlt
      rw [List.length_map] at this
      omega
    obtain ⟨f, hf⟩ : ∃ f, most - i = f + 1 := ⟨most - i - 1, by unfold most; omega⟩
    have hf2 : most - (i + 1) = f := by omega
    rw [hf] at hse
    have hz0 : zs[i]? = some zs[i] := List.getElem?_eq_getElem hlt'
    generalize zs[i] = z0 at hz0
    obtain ⟨kp0, rl0, s, row⟩ := z0
    have hri : rs[i]? = some (s, row) := by rw [← hrs, List.getElem?_map, hz0]; rfl
    have hso : SprdOk c s := hbf.ok.at hri
    have hsl := hso.len hc
    have hwd0 := hbf.ok.wd _ (mem_at hri)
    have hln0 := hbf.ok.ln _ (mem_at hri)
    have hk0 := hro.key _ (mem_at hz0)
    obtain ⟨kp0', kxs, ek, hkq, hkd⟩ := dp_tup hk0
    injection ek with ek
    subst ek
    refine ⟨fun σ' H' => ∃ rs' Fi zs x6 x7 x8, σ' = [some (.ref as), some g, some (.ref kp), some (.ref d), some (.ref wl), some (.int ((i + 1 : Nat) : Int)), x6, x7, x8, none] ∧ Gr N0 F H Fi H' ∧ RowsAt P w K Fi H' d wl zs ∧ zs.map (·.2.2) = rs' ∧ BfsAt c goal rs' (i + 1) ∧ bfs c goal (most - (i + 1)) rs' (i + 1) = search c goal, ?_, ?_⟩
    · rintro σ' H2 ⟨rs', Fi', zs', x6, x7, x8, h1, h2, h3, h4, h5, h6⟩
      exact ⟨300000 - (i + 1), by omega, i + 1, rs', Fi', zs', x6, x7, x8, rfl, h1, h2, h3, h4, h5, h6⟩
    refine ⟨_, rfl, _, rfl, wl, _, (i : Int), .ref kp0, rfl, rfl, .inl (.inl hro.wait), atI_nat (by rw [List.getElem?_map, hz0]; rfl), kp0, rfl, ⟨_, same_t gi.fh hkq⟩, fun L hL => lc_lists (by show 9 < 10; decide) gi.fh hkq hkd (by show s.length < 1000; omega) hL fun H2 bs g2 hL2 hLF hLb hown => ?_⟩
    obtain ⟨F2, g2', eF2, hhere⟩ := OwnB.pub g2 hL2 hL hLF hown
    have hro2 := hro.ext g2'
    have gi2 := gi.trans g2'
    refine ⟨_, rfl, _, rfl, g, .ref L, goal, s, rfl, dp_same g2'.fh _ _ hhere, dp_same gi2.same _ _ hg, by show s.length < 1000; omega, hso.goals hc hgo, fun H3 e3 => ⟨_, rfl, ?_⟩⟩
    have g3 : Gr N0 F2 H2 F2 H3 := (Gr.refl g2'.fh).ext e3
    have hro3 := hro2.ext g3
    have gi3 := gi2.trans g3
    refine ite2 (fun hm => ?_) (fun hm => ?_)
    · rw [bfs_stop hri hm] at hse
      exact ⟨_, rfl, hQ d zs F2 H3 gi3 hd0 hro3.fd hro3.dict hro3.key hro3.row (by rw [← hse, hrs])⟩
    · rw [bfs_go hri hm] at hse
      refine ⟨fun σ' H' => ∃ Fi zs' x7 x8, σ' = [some (.ref as), some g, some (.ref kp), some (.ref d), some (.ref wl), some (.int (i : Int)), some (.ref L), x7, x8, none] ∧ Gr N0 F H Fi H' ∧ RowsAt P w K Fi H' d wl zs' ∧ zs'.map (·.2.2) = c.usable.foldl (expand1 c s row) rs, ?_, ?_⟩
      · have hg3 := gi3
        refine ⟨_, rfl, as, dx, _, rfl, gi3.same _ _ (hF _ _ hi), _, c, dv, rfl, (hs.mono gi3.ff).mono gi3.fh, fun pb hpb => ?_⟩
        have g4 : Gr N0 F2 H3 (upd F2 pb (.lst (c.usable.map V.str))) (upd H3 pb (.lst (c.usable.map V.str))) := (Gr.refl g3.fh).new hpb
        refine ⟨pb, rfl, ⟨_, .inl (.inl (upd_same ..))⟩, for_list (K := K) (a := pb) (xs := c.usable.map V.str) (fun j σ' H' => ∃ Fi zs' x7 x8, σ' = [some (.ref as), some g, some (.ref kp), some (.ref d), some (.ref wl), some (.int (i : Int)), some (.ref L), x7, x8, none] ∧ Same (upd F2 pb (.lst (c.usable.map V.str))) Fi ∧ Gr N0 F H Fi H' ∧ RowsAt P w K Fi H' d wl zs' ∧ zs'.map (·.2.2) = (c.usable.take j).foldl (expand1 c s row) rs) ⟨_, zs, _, _, rfl, .refl _, gi3.trans g4, hro3.ext g4, by rw [hrs]; rfl⟩ ?_ ?_ ?_⟩
        · rintro j σ' H' _ ⟨Fi, zs', x7, x8, rfl, ef, gj, _⟩
          exact .inl (.inl (gj.fh _ _ (ef _ _ (upd_same ..))))
        · rintro j x σ' H' hx ⟨Fj, zs', x7, x8, rfl, ef, gj, hrj, hzj⟩
          obtain ⟨btn, hb0, rfl⟩ := get_map hx
          have eFj : Same F2 Fj := (same_upd (.refl _) (same_none g3.fh hpb)).trans ef
          have hrok : RowsOk c ((c.usable.take j).foldl (expand1 c s row) rs) := fold_ok hc hso hwd0 hln0 (fun b hb => List.mem_of_mem_take hb) hbf.ok
          have hcase : CaseAt K CC DC H' (.ref as) c dv := (hs.mono gj.ff).mono gj.fh
          refine ⟨_, rfl, _, rfl, _, rfl, _, _, btn, c, dv, s, rfl, hcase, dp_same (eFj.trans gj.fh) _ _ hhere, hso.spOk hc, fun H5 e5 => ⟨_, rfl, ?_⟩⟩
          have g5 : Gr N0 Fj H' Fj H5 := (Gr.refl gj.fh).ext e5
          refine ite2 (fun hh => ?_) (fun hh => ?_)
          · refine ⟨_, rfl, _, rfl, _, rfl, Fj, _, _, btn, c, dv, s, rfl, g5.fh, hs.mono gj.ff, dp_same (eFj.trans g5.fh) _ _ hhere, hso.spOk hc, hh, fun q bs2 F6 H6 g6 hq hq6 hqs hqn hown2 => ?_⟩
            have hpo := press_ok hc hso hh
            refine ⟨F6, _, _, rfl, g6.fh, SpAt.own hown2 (.inl (.inl hqs)), by have := hpo.len hc; omega, fun kp2 F7 H7 g7 hkp2 => ?_⟩
            have g57 := (g5.trans g6).trans g7
            have hr7 := hrj.ext g57
            have gj7 := gj.trans g57
            refine ⟨_, rfl, _, rfl, d, _, rfl, hr7.look g7.fh hkp2, _, rfl, ?_⟩
            rw [atN_some (entR_keys zs')]
            have hmem : zs'.map (·.2.2.1) = (zs'.map (·.2.2)).map (·.1) := by rw [List.map_map]; rfl
            have hex : (c.usable.take (j + 1)).foldl (expand1 c s row) rs = expand1 c s row (zs'.map (·.2.2)) btn := by rw [foldl_take hb0, hzj]
            refine ite2 (fun hin => ?_) (fun hin => ?_)
            · have hni : pressS (c.st btn) s ∉ zs'.map (·.2.2.1) := by simpa using hin
              obtain ⟨t, ht⟩ := fold_pre c s row (c.usable.take j) rs
              have hzi : ∃ z, zs'[i]? = some z ∧ z.2.2 = (s, row) := by
                have h1 : (zs'.map (·.2.2))[i]? = some (s, row) := by
                  rw [hzj, ht, List.getElem?_append_left (lt_at hri)]; exact hri
                obtain ⟨z, hz, e⟩ := get_map h1
                exact ⟨z, hz, e.symm⟩
              obtain ⟨z, hz, hze⟩ := hzi
              obtain ⟨zk, zr, z3⟩ := z
              have hze' : z3 = (s, row) := hze
              subst hze'
              have hnd : (zs'.map (·.2.2.1)).Nodup := by rw [hmem, hzj]; exact hrok.nd
              have hat := hr7.at hnd (mem_at hz)
              have hlk := hr7.look g7.fh (hr7.key _ (mem_at hz))
              have hrow := hr7.row _ (mem_at hz)
              have hrow7 := g7.fh _ _ hrow
              refine ⟨_, rfl, _, rfl, _, rfl, wl, _, (i : Int), .ref zk, rfl, rfl, .inl (.inl hr7.wait), atI_nat (by rw [List.getElem?_map, hz]; rfl), d, .ref zr, rfl, (by rw [← hat]; exact hlk), _, rfl, (by show 1 ≤ sizeLine; decide), fun l2 hl2 => ?_⟩
              have hzl2 := ne_of_none hrow7 hl2
              have g8 : Gr N0 F7 H7 F7 (upd H7 l2 (.lst [.str btn])) := (Gr.refl g7.fh).lay hl2
              refine ⟨zr, l2, row.map V.str, [.str btn], rfl, rfl, by rw [upd_ne hzl2]; exact hrow7, upd_same .., ?_, fun p2 hp2 => ?_⟩
              · have h1 := hrok.len hc
                have h2 := hbf.ok.len hc
                rw [List.length_map]
                show row.length + 1 ≤ sizeLine
                have h3 : row.length ≤ rs.length := hln0
                exact big (by omega)
              · have g9 : Gr N0 F7 H7 (upd F7 p2 (.lst (row.map V.str ++ [.str btn]))) (upd (upd H7 l2 (.lst [.str btn])) p2 (.lst (row.map V.str ++ [.str btn]))) := g8.new hp2
                have hr9 := hr7.ext g9
                have hkp9 := dp_same g9.ff _ _ hkp2
                refine ⟨_, rfl, _, rfl, d, zs'.map entR, kp2, kS (pressS (c.st btn) s), rfl, hr9.dict, keysAt_mono hr9.keys g9.fh, rfl, by rw [kS_data]; exact dp_same g9.fh _ _ hkp9, kS_depth _, ?_, ?_, ?_⟩
                · have h1 := atN_some (entR_keys zs') (pressS (c.st btn) s)
                  rw [decide_eq_false hni] at h1
                  cases qq : atN (zs'.map entR) (kS (pressS (c.st btn) s)) with
                  | none => rfl
                  | some v => rw [qq] at h1; cases h1
                · have h1 := hrok.len hc
                  rw [← hzj, List.length_map] at h1
                  rw [List.length_map]
                  exact bigS (by omega)
                · have hw9 : (upd (upd (upd H7 l2 (.lst [.str btn])) p2 (.lst (row.map V.str ++ [.str btn]))) d (dnO P w d (zs'.map entR ++ [(kS (pressS (c.st btn) s), kp2, .ref p2)]))) wl = some (.lst (zs'.map fun z => V.ref z.1)) := by
                    rw [upd_ne hwd.symm]; exact hr9.wait
                  refine ⟨_, rfl, .inl ⟨rfl, _, .inl (.inl hw9)⟩, _, rfl, wl, _, _, rfl, rfl, hw9, ?_, ?_⟩
                  · have h1 := hrok.len hc
                    rw [← hzj, List.length_map] at h1
                    rw [List.length_map]
                    exact bigS (by omega)
                  · have hadd := hr9.add (rl := p2) (row := row ++ [btn]) hkp9 (by rw [upd_same, List.map_append]; rfl) hwd
                    have hfw9 : (upd F7 p2 (.lst (row.map V.str ++ [.str btn]))) wl = none := hr9.fw
                    refine ⟨_, _, _, _, rfl, ef.trans (g57.ff.trans g9.ff), (((gj7.trans g9).set hr9.fd (.inr hd0)).set hr9.fw (.inr ?_)), hadd, ?_⟩
                    · exact gwl
                    · rw [hex]
                      unfold expand1
                      rw [if_pos hh, if_neg (by rw [← hmem]; exact hni), List.map_append]
                      rfl
            · have hni : pressS (c.st btn) s ∈ zs'.map (·.2.2.1) := by simpa using hin
              refine ⟨_, zs', _, _, rfl, ef.trans g57.ff, gj7, hr7, ?_⟩
              rw [hex]
              unfold expand1
              rw [if_pos hh, if_pos (by rw [← hmem]; exact hni)]
          · refine ⟨Fj, zs', _, _, rfl, ef, gj.trans g5, hrj.ext g5, ?_⟩
            rw [foldl_take hb0, hzj]
            unfold expand1
            rw [if_neg hh]
        · rintro σ' H' ⟨Fi, zs', x7, x8, rfl, ef, gj, hrj, hzj⟩
          rw [List.length_map, List.take_length] at hzj
          exact ⟨Fi, zs', x7, x8, rfl, gj, hrj, hzj⟩
      · rintro σ' H5 ⟨Fk, zs', x7, x8, rfl, gk, hrk, hzk⟩
        refine ⟨_, rfl, _, _, rfl, rfl, _, Fk, zs', _, _, _, rfl, gk, hrk, rfl, ?_, ?_⟩
        · rw [hzk]
          exact hbf.step hc hri (by simpa using hm)
        · rw [hf2, hzk]
          exact hse
  · have hlt' : rs.length ≤ i := by
      rw [decide_eq_true_eq, List.length_map] at hlt
      omega
    rw [bfs_out hlt'] at hse
    exact ⟨_, rfl, hQ d zs Fi H' gi hd0 hro.fd hro.dict hro.key hro.row (by rw [← hse, hrs])⟩
end
end S3

/-! ### P14: least_row, closed_rows -/
namespace S3
open PySem PySem.Spec PyProof.Rows L2
/-- the expression of a statement; the scope of a comprehension -/
def stE : Stmt → Expr
  | .Return (some e) _ => e
  | .Assign _ e _ => e
  | _ => .Constant .none 0 ⟨0, 0, 0, 0⟩
def lcSc : Expr → Scope
  | .ListComp _ _ sc _ => sc
  | _ => { kind := .function, names := [], isGenerator := false, isCoroutine := false }
theorem dnr_key {P : Program} {w : World} {K : PySem.W.Frag} {H : Hp} {d : Addr} {es : List (NK × Addr × V)} {kp : Addr} {s : Sprd} (hd : Rd H d (dnO P w d es)) (hk : KeysAt K H es) (h : Dp K H (.ref kp) (pK s)) : DNR P w K H d (.ref kp) (atN es (kS s)) :=
  ⟨es, kp, kS s, hd, hk, rfl, by rw [kS_data]; exact h, kS_depth s, rfl⟩
theorem entR_at {zs : List Zr} (hn : (zs.map (·.2.2.1)).Nodup) {z : Zr} (hz : z ∈ zs) : atN (zs.map entR) (kS z.2.2.1) = some (.ref z.2.1) := by
  refine atN_mem (a := z.1) ?_ (List.mem_map.mpr ⟨z, hz, rfl⟩)
  rw [entR_keys]
  exact nodup_inj (fun x y q => kS_inj x y q) hn
theorem entR_keysAt {K : PySem.W.Frag} {F : Hp} {zs : List Zr} (h : ∀ z ∈ zs, Dp K F (.ref z.1) (pK z.2.2.1)) : KeysAt K F (zs.map entR) := fun x hx => by
  obtain ⟨z, hz, rfl⟩ := List.mem_map.mp hx
  exact ⟨by rw [show (entR z).1.data = pK z.2.2.1 from kS_data _]; exact h z hz, kS_depth _⟩
section
variable {P : Program} {w : World} {K : PySem.W.Frag} {mg : Str → Option Value} {base : Heap} {CC DC : Addr}
abbrev s_lr : Stmt := top 32
abbrev nm_lr : List Str := ["case", "goal", "rows", "here", "belief"]
theorem sc_lr : FnScope nm_lr ["case", "goal"] (defScope s_lr) := ⟨rfl, rfl, rfl, by decide +kernel, rfl, by decide +kernel, by decide +kernel⟩
/- slots: 0 case 1 goal 2 rows 3 here 4 belief -/
def spLr (K : PySem.W.Frag) (CC DC : Addr) : Sp := fun vs H Q _ => ∃ F s g c dv goal, vs = [s, g] ∧ Same F H ∧ CaseAt K CC DC F s c dv ∧ CaseOk c ∧ Dp K H g (pG goal) ∧ GoalOkC c goal ∧
  ∀ v F' H', Gr N0 F H F' H' → ((search c goal).1 = none → v = .non) → (∀ row, (search c goal).1 = some row → ∃ p, v = .ref p ∧ H p = none ∧ F' p = none ∧ H' p = some (.lst (row.map V.str))) → Q v H'
theorem cal_lr (D : DefX K mg "least_row" s_lr) (T : Tx K mg CC DC) (cChk : C8.Cal P w K mg base 4 "check_goal" (spCg K CC DC) []) (cFr : C8.Cal P w K mg base 3 "first_rows" (spFr P w K CC DC) []) (cSm : C8.Cal P w K mg base 2 "spread_meets" (spSm K) []) : C8.Cal P w K mg base 5 "least_row" (spLr K CC DC) [] := by
  refine calD (ps := ["case", "goal"]) D (fun _ _ _ _ _ _ us hl => match us, hl with | [_, _], _ => rfl) sc_lr ?_ ?_
  · rintro vs H Q E ⟨F, s, g, c, dv, goal, rfl, _⟩; rfl
  rintro f cdv A outer s0 H vs Q E hr ⟨F, s, g, c, dv, goal, rfl, hF, hs, hc, hg, hgo, hQ⟩
  have hu9 := up 9 hr
  refine ⟨_, (pss_cons (ps_expr (C8.pe_c cChk hr (by decide) rfl (pa_cons (pv 0) (pa_cons (pv 1) pa_nil))))
      (pss_cons (ps_set (i := 2) sc_lr.nd rfl (.inl rfl) (C8.pe_c cFr hr (by decide) rfl (pa_cons (pv 0) (pa_cons (pv 1) pa_nil))))
      (pss_cons (ps_for PassesOwn.never rfl (pi_keysF P w rfl rfl (pv 2)) (pg_name (i := 3) sc_lr.nd rfl (.inl rfl))
      (pss_one (ps_if (pt_val (C8.pe_c cSm hr (by decide) rfl (pa_cons (pv 1) (pa_cons (pe_lc (own := [("belief", 4)]) (g := (gName 4))  rfl sc_lr.nd (pi_tupK K rfl (pv 3)) (blkOk_by (own := [("belief", 4)]) (N := nm_lr) (sc := defScope s_lr) (by decide +kernel)) (fun _ _ _ _ _ => (pg_name (i := 4) sc_lr.nd rfl (.inl rfl))) (fun _ _ _ _ _ => pts_nil) (fun _ _ _ _ _ => (pe_callTy (call_list_ofK K rfl) (by rfl) T.list (by decide +kernel) (pa_cons (pv 4) pa_nil)))) pa_nil))))
        (pss_one (ps_ret (pe_callTy (call_list_ofK K rfl) (by rfl) T.list (by decide +kernel) (pa_cons (pe_ngetR P w K rfl rfl rfl hu9 (pv 2) (pv 3) (fun _ _ => rfl)) pa_nil))))
        pss_nil)))
      (pss_one (ps_ret pe_non))))), ?_⟩
  have hnn := hc.nn
  have hpl := hc.len
  refine ⟨_, rfl, _, rfl, _, g, c, dv, goal, rfl, hs.mono hF, by omega, by omega, hg, hgo, fun H1 e1 => ?_⟩
  refine ⟨_, rfl, _, rfl, F, _, _, c, dv, goal, rfl, hF.trans e1, hs, hc, dp_same e1 _ _ hg, hgo, fun d zs F2 H2 g2 hd0 hd2 hd hk hrw hzs => ?_⟩
  have g02 : Gr N0 F H F2 H2 := ((Gr.refl hF).ext e1).trans g2
  have hdH : H d = none := same_none e1 hd0
  have hend := search_end hc goal
  have hnd : (zs.map (·.2.2.1)).Nodup := by
    have h1 := hend.ok.nd
    rw [← hzs, List.map_map] at h1
    exact h1
  refine ⟨_, rfl, d, zs.map entR, rfl, hd, fun od => for_it walk_keysN (fun j σ H' => ∃ Fi x3, σ = [some s, some g, some (.ref d), x3, none] ∧ Gr N0 F H Fi H' ∧ Same F2 Fi ∧ H' d = some (.frz od (dnO P w d (zs.map entR))) ∧ ∀ (k : Nat) z, k < j → zs[k]? = some z → meetsS goal z.2.2.1 = false) ⟨F2, _, rfl, g02.set hd2 (.inr hdH), .refl _, upd_same .., fun k z hk => absurd hk (Nat.not_lt_zero _)⟩ ?_ ?_ ?_⟩
  · rintro j σ H' _ ⟨Fi, x3, rfl, gj, ef, hdj, _⟩
    exact hdj
  · rintro j x σ H' H'' hj ⟨Fi, x3, rfl, gj, ef, hdj, hno⟩ ⟨rfl, k, q, v, hkv, rfl⟩
    obtain ⟨z, hz, hze⟩ := get_map hkv
    obtain ⟨kp, rl, s1, row⟩ := z
    injection hze with h1 h2
    injection h2 with h2 h3
    subst h2
    have hk0 := dp_same ef _ _ (hk _ (mem_at hz))
    obtain ⟨kp0', kxs, ek, hkq, hkd⟩ := dp_tup hk0
    injection ek with ek
    subst ek
    have hri : (search c goal).2[j]? = some (s1, row) := by rw [← hzs, List.getElem?_map, hz]; rfl
    have hso : SprdOk c s1 := hend.ok.at hri
    have hsl := hso.len hc
    refine ⟨_, rfl, _, rfl, q, rfl, ⟨_, same_t gj.fh hkq⟩, fun L hL => lc_lists (by show 4 < 5; decide) gj.fh hkq hkd (by show s1.length < 1000; omega) hL fun H3 bs g3 hL2 hLF hLb hown => ?_⟩
    have g03 := gj.trans g3
    refine ⟨g, .ref L, goal, s1, rfl, hown.dp g3.fh (.inl (.inl hL2)), dp_same g03.same _ _ hg, by omega, hso.goals hc hgo, fun H4 e4 => ⟨_, rfl, ?_⟩⟩
    have g34 : Gr N0 Fi H'' Fi H4 := g3.ext e4
    have g04 := gj.trans g34
    have hd4 := g34.same _ _ hdj
    refine ite2 (fun hm => ?_) (fun hm => ?_)
    · have hrow := g34.fh _ _ (ef _ _ (hrw _ (mem_at hz)))
      have hat := entR_at hnd (mem_at hz)
      refine ⟨_, rfl, _, rfl, d, .ref rl, rfl, ?_, rl, _, rfl, .inl (.inl (.inl hrow)), fun l hl => ?_⟩
      · rw [← hat]
        exact dnr_key (.inr ⟨od, hd4⟩) (entR_keysAt fun z hz => dp_same (ef.trans g34.fh) _ _ (hk z hz)) (dp_same (ef.trans g34.fh) _ _ (hk _ (mem_at hz)))
      · have hfd : (search c goal).1 = some row := by
          rw [hend.fd, find_at hri hm fun k r hkj hr' => by
            rw [← hzs] at hr'
            obtain ⟨z', hz', rfl⟩ := get_map hr'
            exact hno k z' hkj hz']
          rfl
        refine hQ (.ref l) Fi _ (g04.lay hl) (fun z => by rw [hfd] at z; cases z) fun row' hrow' => ?_
        rw [hfd] at hrow'
        rw [← Option.some.inj hrow']
        exact ⟨l, rfl, g04.fresh hl, same_none g34.fh hl, upd_same ..⟩
    · refine ⟨Fi, _, rfl, g04, ef, hd4, fun k z hkj hz' => ?_⟩
      by_cases hkj2 : k = j
      · subst hkj2
        rw [hz] at hz'
        rw [← Option.some.inj hz']
        simpa using hm
      · exact hno k z (by omega) hz'
  · rintro σ H' ⟨Fi, x3, rfl, gj, ef, hdj, hno⟩
    have hnone : (search c goal).1 = none := by
      rw [hend.fd]
      have : (search c goal).2.find? (fun r => meetsS goal r.1) = none := by
        rw [List.find?_eq_none]
        intro r hr
        rw [← hzs] at hr
        obtain ⟨z, hz, rfl⟩ := List.mem_map.mp hr
        obtain ⟨k, hk2⟩ := List.getElem?_of_mem hz
        have := hno k z (by have := lt_at hk2; rw [List.length_map]; exact this) hk2
        rw [this]; exact Bool.false_ne_true
      rw [this]; rfl
    exact hQ .non Fi H' gj (fun _ => rfl) fun row hrow => by rw [hnone] at hrow; cases hrow
abbrev s_cr : Stmt := top 33
abbrev nm_cr : List Str := ["case", "goal", "here", "belief"]
theorem sc_cr : FnScope nm_cr ["case", "goal"] (defScope s_cr) := ⟨rfl, rfl, rfl, by decide +kernel, rfl, by decide +kernel, by decide +kernel⟩
/- slots: 0 case 1 goal 2 here 3 belief -/
abbrev Zo := Addr × List Addr × Sprd
/-- the answer: three levels of lists, all still their maker's own -/
structure OwnR (K : PySem.W.Frag) (F H0 H : Hp) (zs : List Zo) : Prop where
  at_ : ∀ z ∈ zs, F z.1 = none ∧ H0 z.1 = none ∧ H z.1 = some (.lst (z.2.1.map V.ref)) ∧ OwnB K F H0 H z.2.1 z.2.2
  nd : (zs.flatMap fun z => z.1 :: z.2.1).Nodup
theorem OwnR.mem {K : PySem.W.Frag} {F H0 H : Hp} {zs : List Zo} (h : OwnR K F H0 H zs) {a : Addr} (ha : a ∈ zs.flatMap fun z => z.1 :: z.2.1) : F a = none ∧ H0 a = none ∧ H a ≠ none := by
  obtain ⟨z, hz, hm⟩ := List.mem_flatMap.mp ha
  obtain ⟨h1, h2, h3, h4⟩ := h.at_ z hz
  rcases List.mem_cons.mp hm with e | hm
  · rw [e]; exact ⟨h1, h2, some_ne h3⟩
  · exact h4.mem hm
theorem OwnB.upd' {K : PySem.W.Frag} {F H0 H : Hp} {bs : List Addr} {s : Sprd} {D : Addr} {o : HO} (h : OwnB K F H0 H bs s) (hD : D ∉ bs) : OwnB K F H0 (upd H D o) bs s := ⟨h.len, h.nd, fun i b bel h1 h2 => by
  obtain ⟨a1, a2, xs, a3, a4⟩ := h.at_ i b bel h1 h2
  exact ⟨a1, a2, xs, by rw [upd_ne (fun z : b = D => hD (by rw [← z]; exact mem_at h1))]; exact a3, a4⟩⟩
theorem OwnR.add {K : PySem.W.Frag} {F H0 H1 H : Hp} {zs : List Zo} {D L : Addr} {bs : List Addr} {s : Sprd} {o : HO} (h : OwnR K F H0 H1 zs) (g : Gr N0 F H1 F H) (hD : D ∉ zs.flatMap fun z => z.1 :: z.2.1) (hDL : D ≠ L) (hDb : D ∉ bs)
    (hL1 : H1 L = none) (hL0 : ∀ a, H1 a = none → H0 a = none) (hFL : F L = none) (hL : H L = some (.lst (bs.map V.ref))) (hLb : L ∉ bs) (own : OwnB K F H1 H bs s) : OwnR K F H0 (upd H D o) (zs ++ [(L, bs, s)]) := by
  refine ⟨fun z hz => ?_, ?_⟩
  · rcases List.mem_append.mp hz with hz | hz
    · obtain ⟨h1, h2, h3, h4⟩ := h.at_ z hz
      have n1 : z.1 ≠ D := fun e => hD (List.mem_flatMap.mpr ⟨z, hz, by rw [← e]; simp⟩)
      have n2 : D ∉ z.2.1 := fun e => hD (List.mem_flatMap.mpr ⟨z, hz, by simp [e]⟩)
      exact ⟨h1, h2, by rw [upd_ne n1]; exact g.same _ _ h3, (h4.ext g).upd' n2⟩
    · rw [List.mem_singleton.mp hz]
      exact ⟨hFL, hL0 _ hL1, by rw [upd_ne (Ne.symm hDL)]; exact hL, (own.old hL0).upd' hDb⟩
  · rw [List.flatMap_append, List.nodup_append]
    refine ⟨h.nd, ?_, fun x hx y hy e => ?_⟩
    · rw [List.flatMap_cons, List.flatMap_nil, List.append_nil, List.nodup_cons]
      exact ⟨hLb, own.nd⟩
    · rw [List.flatMap_cons, List.flatMap_nil, List.append_nil] at hy
      have hx1 := (h.mem hx).2.2
      rw [e] at hx1
      rcases List.mem_cons.mp hy with hy | hy
      · rw [hy] at hx1; exact hx1 hL1
      · exact hx1 (own.mem hy).2.1
def spCr (K : PySem.W.Frag) (CC DC : Addr) : Sp := fun vs H Q _ => ∃ F s g c dv goal, vs = [s, g] ∧ Same F H ∧ CaseAt K CC DC F s c dv ∧ CaseOk c ∧ Dp K H g (pG goal) ∧ GoalOkC c goal ∧
  ∀ v F' H', Gr N0 F H F' H' → ((search c goal).1 ≠ none → v = .non) → ((search c goal).1 = none → ∃ p zs, v = .ref p ∧ H p = none ∧ F' p = none ∧ H' p = some (.lst (zs.map fun z : Zo => V.ref z.1)) ∧ zs.map (·.2.2) = (search c goal).2.map (·.1) ∧ OwnR K F' H H' zs ∧ p ∉ zs.flatMap fun z => z.1 :: z.2.1) → Q v H'
theorem cal_cr (D : DefX K mg "closed_rows" s_cr) (T : Tx K mg CC DC) (cLr : C8.Cal P w K mg base 5 "least_row" (spLr K CC DC) []) (cFr : C8.Cal P w K mg base 3 "first_rows" (spFr P w K CC DC) []) : C8.Cal P w K mg base 6 "closed_rows" (spCr K CC DC) [] := by
  refine calD (ps := ["case", "goal"]) D (fun _ _ _ _ _ _ us hl => match us, hl with | [_, _], _ => rfl) sc_cr ?_ ?_
  · rintro vs H Q E ⟨F, s, g, c, dv, goal, rfl, _⟩; rfl
  rintro f cdv A outer s0 H vs Q E hr ⟨F, s, g, c, dv, goal, rfl, hF, hs, hc, hg, hgo, hQ⟩
  refine ⟨_, (pss_cons (ps_if (pt_cmpR op_notN (C8.pe_c cLr hr (by decide) rfl (pa_cons (pv 0) (pa_cons (pv 1) pa_nil))) pe_non (nomark _))
      (pss_one (ps_ret pe_non))
      pss_nil)
      (pss_one (ps_ret (pe_lc (own := [("here", 2)]) (g := (gName 2))  rfl sc_cr.nd (pi_keysF P w rfl rfl (C8.pe_c cFr hr (by decide) rfl (pa_cons (pv 0) (pa_cons (pv 1) pa_nil)))) (blkOk_by (own := [("here", 2)]) (N := nm_cr) (sc := defScope s_cr) (by decide +kernel)) (fun _ _ _ _ _ => (pg_name (i := 2) sc_cr.nd rfl (.inl rfl))) (fun _ _ _ _ _ => pts_nil) (fun _ _ _ _ _ => (pe_lc (own := [("belief", 3)]) (g := (gName 3))  rfl sc_cr.nd (pi_tupK K rfl (pv 2)) (blkOk_by (own := [("belief", 3)]) (N := nm_cr) (sc := (lcSc (stE ((defBody s_cr).getD 1 (.Pass ⟨0, 0, 0, 0⟩))))) (by decide +kernel)) (fun _ _ _ _ _ => (pg_name (i := 3) sc_cr.nd rfl (.inl rfl))) (fun _ _ _ _ _ => pts_nil) (fun _ _ _ _ _ => (pe_callTy (call_list_ofK K rfl) (by rfl) T.list (by decide +kernel) (pa_cons (pv 3) pa_nil))))))))), ?_⟩
  have hend := search_end hc goal
  refine ⟨_, rfl, _, rfl, F, _, g, c, dv, goal, rfl, hF, hs, hc, hg, hgo, fun v F1 H1 g1 hnon hsome => ⟨rfl, _, rfl, ?_⟩⟩
  cases hse : (search c goal).1 with
  | some row =>
    obtain ⟨p, rfl, _⟩ := hsome row hse
    exact iteT (hQ .non F1 H1 g1 (fun _ => rfl) fun z => by rw [hse] at z; cases z)
  | none =>
    obtain rfl := hnon hse
    refine iteF ?_
    refine ⟨_, rfl, _, rfl, F1, _, g, c, dv, goal, rfl, g1.fh, hs.mono g1.ff, hc, dp_same g1.same _ _ hg, hgo, fun d zs F2 H2 g2 hd0 hd2 hd hk hrw hzs => ?_⟩
    have g02 := g1.trans g2
    have hdH : H d = none := g1.fresh hd0
    have hel := hend.ok.len hc
    rw [← hzs, List.length_map] at hel
    refine ⟨d, zs.map entR, rfl, hd, fun od D hD => ?_⟩
    have g3 := g02.set (o := .frz od (dnO P w d (zs.map entR))) hd2 (.inr hdH)
    have hH3 : ∀ a, (upd H2 d (.frz od (dnO P w d (zs.map entR)))) a = none → H a = none := fun a ha => g3.fresh ha
    refine lc_it walk_keysN (fun j H' => ∃ zo : List Zo, Gr N0 F H F2 H' ∧ H' d = some (.frz od (dnO P w d (zs.map entR))) ∧ H' D = some (.lst (zo.map fun z => V.ref z.1)) ∧ D ∉ zo.flatMap (fun z => z.1 :: z.2.1) ∧ OwnR K F2 H H' zo ∧ zo.map (·.2.2) = (zs.take j).map (·.2.2.1)) ⟨[], g3.lay hD, by rw [upd_ne (ne_of_none (upd_same ..) hD)]; exact upd_same .., upd_same .., by simp, ⟨(fun z hz => by cases hz), List.nodup_nil⟩, rfl⟩ (fun j H' _ ⟨_, _, q, _⟩ => q) ?_ ?_
    · rintro j x H' H'' hj ⟨zo, gj, hdj, hDj, hDz, hown, hzo⟩ ⟨rfl, k, q, v, hkv, rfl⟩
      obtain ⟨z, hz, hze⟩ := get_map hkv
      obtain ⟨kp, rl, s1, row⟩ := z
      injection hze with h1 h2
      injection h2 with h2 h3
      subst h2
      have hk0 := hk _ (mem_at hz)
      obtain ⟨kp0', kxs, ek, hkq, hkd⟩ := dp_tup hk0
      injection ek with ek
      subst ek
      have hri : (search c goal).2[j]? = some (s1, row) := by rw [← hzs, List.getElem?_map, hz]; rfl
      have hso : SprdOk c s1 := hend.ok.at hri
      have hsl := hso.len hc
      refine ⟨rfl, _, rfl, q, rfl, ⟨_, same_t gj.fh hkq⟩, fun L hL => lc_lists (by show 3 < 4; decide) gj.fh hkq hkd (by show s1.length < 1000; omega) hL fun H3 bs g3' hL2 hLF hLb hown2 => ?_⟩
      have hDL : D ≠ L := ne_of_none hDj hL
      have hD3 := g3'.same _ _ hDj
      have hDb : D ∉ bs := fun hm => by
        have := (hown2.mem hm).2.1
        rw [hDj] at this; cases this
      have gj3 := gj.trans g3'
      refine ⟨_, hD3, ?_, zo ++ [(L, bs, s1)], gj3.set (same_none g3.fh hD) (.inr (hH3 _ hD)), by rw [upd_ne (ne_of_none (upd_same ..) hD)]; exact g3'.same _ _ hdj, by rw [List.map_append]; exact upd_same .., ?_, ?_, ?_⟩
      · have h1 := congrArg List.length hzo
        rw [List.length_map, List.length_map, List.length_take] at h1
        rw [List.length_map]
        exact bigS (by omega)
      · rw [List.flatMap_append, List.mem_append, not_or]
        refine ⟨hDz, ?_⟩
        simp [hDL, hDb]
      · exact hown.add g3' hDz hDL hDb hL (fun a ha => gj.fresh ha) hLF hL2 hLb hown2
      · rw [List.map_append, hzo, map_take_at hz]; rfl
    · rintro H' ⟨zo, gj, hdj, hDj, hDz, hown, hzo⟩
      rw [List.length_map, List.take_length] at hzo
      refine hQ (.ref D) F2 H' gj (fun z => absurd hse z) fun _ => ⟨D, zo, rfl, hH3 _ hD, same_none g3.fh hD, hDj, ?_, hown, hDz⟩
      rw [hzo, ← hzs, List.map_map]; rfl
end
end S3

/-! ### P15: errors, spread, is_right_row -/
namespace S3
open PySem PySem.Spec PyProof.Rows L2
def stepO (c : CS) (o : Option Sprd) (b : Str) : Option Sprd := o.bind fun s => if harmS (c.st b) s = true then some (pressS (c.st b) s) else none
def pressRow (c : CS) (row : List Str) : Option Sprd := row.foldl (stepO c) (some [c.start])
def spreadOf (c : CS) (row : List Str) : Option Sprd := if row.all (fun b => decide (b ∈ c.usable)) = true then pressRow c row else none
def rightB (c : CS) (g : Goal) (row : List Str) : Bool := match spreadOf c row with
  | some s => meetsS g s
  | none => false
theorem stepO_none (c : CS) : ∀ row : List Str, row.foldl (stepO c) none = none
  | [] => rfl
  | b :: row => stepO_none c row
theorem pressRow_none {c : CS} {row : List Str} {j : Nat} (h : (row.take j).foldl (stepO c) (some [c.start]) = none) : pressRow c row = none := by
  unfold pressRow
  rw [← List.take_append_drop j row, List.foldl_append, h, stepO_none]
theorem pressRow_ok {c : CS} (hc : CaseOk c) : ∀ (row : List Str) {s0 s : Sprd}, SprdOk c s0 → row.foldl (stepO c) (some s0) = some s → SprdOk c s
  | [], s0, s, h, e => by
    have : s0 = s := by simpa using e
    rw [← this]; exact h
  | b :: row, s0, s, h, e => by
    rw [List.foldl_cons] at e
    by_cases hh : harmS (c.st b) s0 = true
    · rw [show stepO c (some s0) b = some (pressS (c.st b) s0) from if_pos hh] at e
      exact pressRow_ok hc row (press_ok hc h hh) e
    · rw [show stepO c (some s0) b = none from if_neg hh, stepO_none] at e
      cases e
theorem spreadOf_ok {c : CS} (hc : CaseOk c) {row : List Str} {s : Sprd} (h : spreadOf c row = some s) : SprdOk c s := by
  unfold spreadOf at h
  split at h
  · exact pressRow_ok hc row (start_ok hc) h
  · cases h
/-! errors -/
def spIni (K : PySem.W.Frag) : Sp := fun vs H Q _ => ∃ a C v, vs = [.ref a, v] ∧ OexC K C ∧ PySem.W.findIn K (.ref C) "value" = some none ∧ H a = some (exo a C none) ∧ ∀ dx, H dx = none → dx ≠ a → Q .non (upd (upd H dx (exd dx [("value", v)])) a (exo a C (some dx)))
/-- an error class that may be raised -/
structure Exn (P : Program) (w : World) (K : PySem.W.Frag) (mg : Str → Option Value) (base : Heap) (x : Str) (C : Addr) : Prop where
  ex : ∃ fI fd ps, OexC K C ∧ PySem.W.findIn K (.ref C) "value" = some none ∧ PySem.W.findIn K (.ref C) "__init__" = some (some (.ref fI)) ∧ PySem.W.typeIn K (.ref fI) = some (.type "function") ∧ FnOk P w K mg base CX0 1 fI fd ps (spIni K) ∧ Binds K fd ps [] ∧ mg x = some (.ref C)
theorem pmk_x {X : Cx} {j : Nat} {x : Str} {C : Addr} {e : Expr} {es : List Expr} {ta : TA} {p pos : Pos} (c : Exn X.prog X.w X.K X.mg X.base x C) (hr : Room j X.A) (hj : 2 ≤ j) (hg : Gl X x) (ha : PA X (e :: es) ta)
    (hdb : (x == ("__debug__" : Str)) = false := by decide) (he : starEach (e :: es) X.env = (false, eval e X.env) :: starEach es X.env := by rfl) (hpl : (backTo pos (starEach es X.env)).any (·.1) = false := by rfl) :
    PMk X (.Call (.Name x p) (e :: es) [] pos) (tMkO C (spIni X.K) [] ta) := by
  obtain ⟨fI, fd, ps, T, _, iC, tI, F1, hb, hm⟩ := c.ex
  exact pmk_oex T iC tI F1 (hr.mono hj) hb .nil L2.pass0 hg hm ha hdb he hpl
theorem Exn.facts {P : Program} {w : World} {K : PySem.W.Frag} {mg : Str → Option Value} {base : Heap} {x : Str} {C : Addr} (c : Exn P w K mg base x C) : OexC K C ∧ PySem.W.findIn K (.ref C) "value" = some none ∧ mg x = some (.ref C) := by
  obtain ⟨fI, fd, ps, T, hv, iC, tI, F1, hb, hm⟩ := c.ex
  exact ⟨T, hv, hm⟩
/-- what a raise leaves -/
theorem raised {H : Hp} {a dx C : Addr} {v : V} (ha : H a = none) (hd : (upd H a (exo a C none)) dx = none) (hne : dx ≠ a) : Same H (upd (del (upd (upd (upd H a (exo a C none)) dx (exd dx [("value", v)])) a (exo a C (some dx))) a) dx (.xd [("value", v)])) := fun b o hb => by
  have n1 : b ≠ a := fun z => by rw [z, ha] at hb; cases hb
  have hdx : H dx = none := by rw [upd_ne hne] at hd; exact hd
  have n2 : b ≠ dx := fun z => by rw [z, hdx] at hb; cases hb
  rw [upd_ne n2, del_ne n1, upd_ne n1, upd_ne n2, upd_ne n1]
  exact hb
theorem ini_of {K : PySem.W.Frag} {H : Hp} {a C : Addr} {v : V} {E : XK} (T : OexC K C) (hv : PySem.W.findIn K (.ref C) "value" = some none) (ha : H a = none) (h : ∀ d H', Same H H' → E (.ref C) (some d) H') :
    spIni K [.ref a, v] (upd H a (exo a C none)) (fun v H2 => v = .non ∧ ∃ (d : Addr) (fs : List (Str × V)), H2 a = some (exo a C (some d)) ∧ H2 d = some (exd d fs) ∧ H d = none ∧ E (.ref C) (some d) (upd (del H2 a) d (.xd fs))) (fun _ _ _ => False) := by
  refine ⟨a, C, v, rfl, T, hv, upd_same .., fun dx hdx hne => ⟨rfl, dx, [("value", v)], upd_same .., ?_, ?_, h dx _ (raised ha hdx hne)⟩⟩
  · rw [upd_ne hne]; exact upd_same ..
  · rw [upd_ne hne] at hdx; exact hdx
def BodyX (P : Program) (w : World) (K : PySem.W.Frag) (mg : Str → Option Value) (base : Heap) (qual : Str) (st : Stmt) (N : List Str) (k : Nat) (sp : Sp) : Prop :=
  ∀ (f : Addr) (cdv : Value) (A : Around) (outer : List Env) (s : Shared) (H : Hp) (vs : List V) (Q : VK) (E : XK), Room k (A.deeper (envOfC qual (defScope st) s.heap.objs.size f cdv)) → sp vs H Q E →
    ∃ t, PSs (cxOf (L2.CX P w) P w K mg base N qual (defScope st) f cdv A outer s H E) (defBody st) t ∧ t { nx := fun _ H' => Q .non H', rt := Q } (start N vs) H
section
variable {P : Program} {w : World} {K : PySem.W.Frag} {mg : Str → Option Value} {base : Heap} {CC DC UB HF : Addr}
theorem calX {x : Str} {st : Stmt} {N ps : List Str} {k : Nat} {sp : Sp} (D : DefX K mg x st) (b : BindsBy x x st ps) (S : FnScope N ps (defScope st)) (len : ∀ vs H Q E, sp vs H Q E → vs.length = ps.length) (hb : BodyX P w K mg base x st N k sp) : CalX (L2.CX P w) P w K mg base (k + 1) x sp := by
  obtain ⟨f, fd, F, hm⟩ := D.ex
  exact ⟨f, fd, ps, FunD.ok F S len fun cdv A outer s H vs Q E hr h => hb f cdv A outer s H vs Q E hr h, hm, F.kp, F.bindsN b⟩
abbrev s_pin : Stmt := inClass (top 2) 0
abbrev nm_pin : List Str := ["self", "value"]
theorem sc_pin : FnScope nm_pin ["self", "value"] (defScope s_pin) := ⟨rfl, rfl, rfl, by decide +kernel, rfl, by decide +kernel, by decide +kernel⟩
/- slots: 0 self 1 value -/
theorem fn_pin {f : Addr} {fd : FuncData} (F : FunT K "__init__" "PressError.__init__" s_pin f fd) : FnOk P w K mg base CX0 1 f fd ["self", "value"] (spIni K) ∧ Binds K fd ["self", "value"] [] := by
  refine ⟨FunT.ok F sc_pin ?_ ?_, F.bindsN (fun _ _ _ _ _ _ us hl => match us, hl with | [_, _], _ => rfl)⟩
  · rintro vs H Q E ⟨a, C, v, rfl, _⟩; rfl
  rintro f cdv A outer s0 H vs Q E hr ⟨a, C, v, rfl, T, hv, ha, hQ⟩
  refine ⟨_, (pss_one (ps_ost (pv 0) (pv 1))), ?_⟩
  exact ⟨_, rfl, _, rfl, a, C, rfl, T, hv, .inl ⟨ha, hQ⟩⟩
abbrev s_spr : Stmt := top 27
abbrev nm_spr : List Str := ["case", "row", "button", "beliefs", "index"]
theorem sc_spr : FnScope nm_spr ["case", "row"] (defScope s_spr) := ⟨rfl, rfl, rfl, by decide +kernel, rfl, by decide +kernel, by decide +kernel⟩
/- slots: 0 case 1 row 2 button 3 beliefs 4 index -/
def spSpr (K : PySem.W.Frag) (CC DC UB HF : Addr) : Sp := fun vs H Q E => ∃ F s r c dv row, vs = [s, r] ∧ Same F H ∧ CaseAt K CC DC F s c dv ∧ CaseOk c ∧ Dp K H r (pW row) ∧ row.length < 1000 ∧
  (∀ sp, spreadOf c row = some sp → ∀ p bs F' H', Gr N0 F H F' H' → H p = none → F' p = none → H' p = some (.lst (bs.map V.ref)) → p ∉ bs → OwnB K F' H H' bs sp → Q (.ref p) H') ∧
  (spreadOf c row = none → ∀ cls d H', (cls = .ref UB ∨ cls = .ref HF) → Same H H' → E cls d H')
theorem cal_spr (D : DefX K mg "spread" s_spr) (T : Tx K mg CC DC) (cStart : Prp P w K mg base 1 CC "start" (spStart K CC DC)) (cBtn : Prp P w K mg base 1 CC "buttons" (spButtons K CC DC)) (cSafe : C8.Cal P w K mg base 2 "is_safe_at" (spIsa K CC DC) []) (cPrs : C8.Cal P w K mg base 2 "pressed" (spPrs K CC DC) []) (eUB : Exn P w K mg base "UnknownButton" UB) (eHF : Exn P w K mg base "Harmful" HF) : CalX (L2.CX P w) P w K mg base 3 "spread" (spSpr K CC DC UB HF) := by
  refine calX (ps := ["case", "row"]) D (fun _ _ _ _ _ _ us hl => match us, hl with | [_, _], _ => rfl) sc_spr ?_ ?_
  · rintro vs H Q E ⟨F, s, r, c, dv, row, rfl, _⟩; rfl
  rintro f cdv A outer s0 H vs Q E hr ⟨F, s, r, c, dv, row, rfl, hF, hs, hc, hrw, hz, hQ, hE⟩
  refine ⟨_, (pss_cons (ps_for (passes_of rfl) rfl (pi_listK K rfl (pv 1)) (pg_name (i := 2) sc_spr.nd rfl (.inl rfl))
      (pss_one (ps_if (pt_cmpR (op_notIn_seqK K rfl) (pv 2) (pe_pr cBtn hr (by decide) (pv 0)) rfl)
        (pss_one (ps_raise rfl (takes_of rfl rfl rfl rfl) (pmk_x eUB hr (by decide) rfl (pa_cons (pv 2) pa_nil))))
        pss_nil)))
      (pss_cons (ps_set (i := 3) sc_spr.nd rfl (.inl rfl) (pe_lst (pa_cons (pe_pr cStart hr (by decide) (pv 0)) pa_nil)))
      (pss_cons (ps_for (passes_of rfl) rfl (pi_enum (by rfl) T.enumerate (pa_cons (pv 1) pa_nil)) (pg_tupK K rfl 2 rfl (pgs_cons (pg_name (i := 4) sc_spr.nd rfl (.inl rfl)) (pgs_cons (pg_name (i := 2) sc_spr.nd rfl (.inl rfl)) pgs_nil)))
      (pss_cons (ps_if (pt_not (pt_val (C8.pe_c cSafe hr (by decide) rfl (pa_cons (pv 0) (pa_cons (pv 3) (pa_cons (pv 2) pa_nil))))))
        (pss_one (ps_raise rfl (takes_of rfl rfl rfl rfl) (pmk_x eHF hr (by decide) rfl (pa_cons (pv 4) pa_nil))))
        pss_nil)
        (pss_one (ps_set (i := 3) sc_spr.nd rfl (.inl rfl) (C8.pe_c cPrs hr (by decide) rfl (pa_cons (pv 0) (pa_cons (pv 3) (pa_cons (pv 2) pa_nil))))))))
      (pss_one (ps_ret (pv 3)))))), ?_⟩
  have hs' := hs
  obtain ⟨as, dx, w1, p1, l1, u1, t1, rfl, hi, _⟩ := hs'
  have hpl := hc.len
  obtain ⟨ar, rfl, sr⟩ := dp_strs hrw
  refine ⟨_, rfl, ar, rfl, ⟨_, sr⟩, for_list (K := K) (a := ar) (xs := row.map V.str) (fun j σ H' => ∃ x2, σ = [some (.ref as), some (.ref ar), x2, none, none] ∧ Same H H' ∧ (row.take j).all (fun b => decide (b ∈ c.usable)) = true) ⟨none, rfl, .refl _, by simp⟩ ?_ ?_ ?_⟩
  · rintro j σ H' _ ⟨x2, rfl, e, _⟩
    exact same_l e sr
  · rintro j x σ H' hx ⟨x2, rfl, e, hall⟩
    obtain ⟨btn, hb0, rfl⟩ := get_map hx
    have e0 := hF.trans e
    refine ⟨_, rfl, _, rfl, as, dx, _, rfl, e0 _ _ hi, _, c, dv, rfl, hs.mono e0, fun pb hpb => ?_⟩
    have epb : Same H' (upd H' pb (.lst (c.usable.map V.str))) := same_new hpb
    refine ⟨pb, _, rfl, .inl (.inl (.inl (upd_same ..))), rfl, flat_strs _, _, rfl, ?_⟩
    rw [if_pos rfl, inV_str]
    refine ite2 (fun hn => ?_) (fun hn => ?_)
    · obtain ⟨T1, hv1, _⟩ := eUB.facts
      have hnone : spreadOf c row = none := by
        unfold spreadOf
        rw [if_neg]
        intro ha
        have := List.all_eq_true.mp ha btn (mem_at hb0)
        rw [this] at hn
        cases hn
      exact ⟨_, rfl, by show 1 ≤ 1000; decide, fun a ha => ini_of (E := E) T1 hv1 ha fun d H2 e2 => hE hnone _ _ _ (.inl rfl) ((e.trans epb).trans e2)⟩
    · refine ⟨_, rfl, e.trans epb, ?_⟩
      rw [take_at hb0, List.all_append, hall]
      simpa using hn
  · rintro σ H' ⟨x2, rfl, e, hall⟩
    rw [List.length_map, List.take_length] at hall
    have hso : spreadOf c row = pressRow c row := by unfold spreadOf; rw [if_pos hall]
    have e0 := hF.trans e
    refine ⟨_, rfl, as, dx, _, rfl, e0 _ _ hi, F, _, c, dv, rfl, e0, hs, by omega, fun p ys F2 H2 g2 hp hp2 hp3 dys => ?_⟩
    refine ⟨(by show 1 ≤ sizeLine; decide), fun l hl => ?_⟩
    have gH : Gr N0 F H F H' := (Gr.refl hF).ext e
    have g3 : Gr N0 F H F2 (upd H2 l (.lst [.ref p])) := (gH.trans g2).lay hl
    have hnep := ne_of_none hp3 hl
    have hown0 : OwnB K F2 H (upd H2 l (.lst [.ref p])) [p] [c.start] := ⟨rfl, by simp, fun k b bel h1 h2 => by
      have e1 : k = 0 := by have := lt_at h1; simp at this; exact this
      subst e1
      have e2 : p = b := by simpa using h1
      have e3 : c.start = bel := by simpa using h2
      subst e2 e3
      exact ⟨hp2, gH.fresh hp, ys, by rw [upd_ne hnep]; exact hp3, dys⟩⟩
    refine ⟨_, rfl, ar, _, rfl, same_l g3.same sr, for_it walk_enum (fun j σ H' => ∃ Fi q bs sp x2 x4, σ = [some (.ref as), some (.ref ar), x2, some (.ref q), x4] ∧ Gr N0 F H Fi H' ∧ H q = none ∧ Fi q = none ∧ H' q = some (.lst (bs.map V.ref)) ∧ q ∉ bs ∧ OwnB K Fi H H' bs sp ∧ (row.take j).foldl (stepO c) (some [c.start]) = some sp) ⟨F2, l, [p], [c.start], _, _, rfl, g3, (gH.trans g2).fresh hl, same_none g2.fh hl, upd_same .., by simp [Ne.symm hnep], hown0, rfl⟩ (fun j σ H' _ ⟨Fi, q, bs, sp, x2, x4, _, g, _⟩ => same_l g.same sr) ?_ ?_⟩
    · rintro j x σ H' H'' hj ⟨Fi, q, bs, sp, x2, x4, rfl, gj, hq0, hqF, hq, hqb, hown, hfold⟩ ⟨T0, x0, y0, rfl, hT0, rfl, hx0, hy0⟩
      injection hx0 with hx0
      subst hx0
      obtain ⟨btn, hb0, rfl⟩ := get_map hy0
      have gT : Gr N0 Fi H' (upd Fi T0 (.tup [.int (j : Nat), .str btn])) (upd H' T0 (.tup [.int (j : Nat), .str btn])) := (Gr.refl gj.fh).new hT0
      have gjT := gj.trans gT
      refine ⟨T0, _, rfl, .inl (.inl (upd_same ..)), rfl, _, _, rfl, _, _, rfl, rfl, ?_⟩
      have hown2 := hown.ext gT
      have hq2 := gT.same _ _ hq
      have hqF2 := gT.hid hq hqF
      have hspok := pressRow_ok hc _ (start_ok hc) hfold
      generalize (upd Fi T0 (.tup [.int (j : Nat), .str btn])) = F5 at *
      generalize (upd H' T0 (.tup [.int (j : Nat), .str btn])) = H5 at *
      have hdq := hown2.dp gT.fh (.inl (.inl hq2))
      refine ⟨_, rfl, _, rfl, _, rfl, _, _, btn, c, dv, sp, rfl, (hs.mono gjT.ff).mono gjT.fh, hdq, hspok.spOk hc, fun H6 e6 => ⟨_, rfl, ?_⟩⟩
      have g56 : Gr N0 F5 H5 F5 H6 := (Gr.refl gT.fh).ext e6
      have gj6 := gjT.trans g56
      refine ite2 (fun hh => ?_) (fun hh => ?_)
      · obtain ⟨T1, hv1, _⟩ := eHF.facts
        have hh' : ¬ harmS (c.st btn) sp = true := by simpa using hh
        have hnone : spreadOf c row = none := by
          rw [hso]
          refine pressRow_none (j := j + 1) ?_
          rw [foldl_take hb0, hfold]
          exact if_neg hh'
        exact ⟨_, rfl, by show 1 ≤ 1000; decide, fun a ha => ini_of (E := E) T1 hv1 ha fun d H7 e7 => hE hnone _ _ _ (.inr rfl) (gj6.same.trans e7)⟩
      · have hh' : harmS (c.st btn) sp = true := by simpa using hh
        refine ⟨_, rfl, _, rfl, _, rfl, F5, _, _, btn, c, dv, sp, rfl, gj6.fh, hs.mono gjT.ff, dp_same e6 _ _ hdq, hspok.spOk hc, hh', fun q7 bs7 F7 H7 g7 hq7 hq7F hq7s hq7n hown7 => ?_⟩
        refine ⟨F7, q7, bs7, pressS (c.st btn) sp, _, _, rfl, gj6.trans g7, gj6.fresh hq7, hq7F, hq7s, hq7n, hown7.old (fun a ha => gj6.fresh ha), ?_⟩
        rw [foldl_take hb0, hfold]
        exact if_pos hh'
    · rintro σ H' ⟨Fi, q, bs, sp, x2, x4, rfl, gj, hq0, hqF, hq, hqb, hown, hfold⟩
      rw [List.length_map, List.take_length] at hfold
      exact ⟨_, rfl, hQ sp (by rw [hso]; exact hfold) q bs Fi H' gj hq0 hqF hq hqb hown⟩
end
end S3

/-! ### P16: is_right_row -/
namespace S3
open PySem PySem.Spec PyProof.Rows L2
section
variable {P : Program} {w : World} {K : PySem.W.Frag} {mg : Str → Option Value} {base : Heap} {CC DC UB HF : Addr}
abbrev s_irr : Stmt := top 29
abbrev nm_irr : List Str := ["case", "goal", "row", "beliefs", "safe"]
theorem sc_irr : FnScope nm_irr ["case", "goal", "row"] (defScope s_irr) := ⟨rfl, rfl, rfl, by decide +kernel, rfl, by decide +kernel, by decide +kernel⟩
/- slots: 0 case 1 goal 2 row 3 beliefs 4 safe -/
def spIrr (K : PySem.W.Frag) (CC DC : Addr) : Sp := fun vs H Q _ => ∃ s g r c dv goal row, vs = [s, g, r] ∧ CaseAt K CC DC H s c dv ∧ CaseOk c ∧ Dp K H g (pG goal) ∧ GoalOkC c goal ∧ Dp K H r (pW row) ∧ row.length < 1000 ∧ ∀ H', Same H H' → Q (.bl (rightB c goal row)) H'
theorem cal_irr (D : DefX K mg "is_right_row" s_irr) (T : Tx K mg CC DC) (cChk : C8.Cal P w K mg base 4 "check_goal" (spCg K CC DC) []) (cSpr : CalX (L2.CX P w) P w K mg base 3 "spread" (spSpr K CC DC UB HF)) (cSm : C8.Cal P w K mg base 2 "spread_meets" (spSm K) [])
    (gUB : mg "UnknownButton" = some (.ref UB)) (gHF : mg "Harmful" = some (.ref HF)) (xU : PySem.W.exmAny K (.ref UB) [.ref UB, .ref HF] = some true) (xH : PySem.W.exmAny K (.ref HF) [.ref UB, .ref HF] = some true) : C8.Cal P w K mg base 5 "is_right_row" (spIrr K CC DC) [] := by
  refine calD (ps := ["case", "goal", "row"]) D (fun _ _ _ _ _ _ us hl => match us, hl with | [_, _, _], _ => rfl) sc_irr ?_ ?_
  · rintro vs H Q E ⟨s, g, r, c, dv, goal, row, rfl, _⟩; rfl
  rintro f cdv A outer s0 H vs Q E hr ⟨s, g, r, c, dv, goal, row, rfl, hs, hc, hg, hgo, hrw, hz, hQ⟩
  obtain ⟨fS, fdS, psS, FS, gS, kpS, bS⟩ := cSpr.ex
  refine ⟨_, (pss_cons (ps_expr (C8.pe_c cChk hr (by decide) rfl (pa_cons (pv 0) (pa_cons (pv 1) pa_nil))))
      (pss_cons (ps_set (i := 3) sc_irr.nd rfl (.inl rfl) (pe_lst pa_nil))
      (pss_cons (ps_set (i := 4) sc_irr.nd rfl (.inl rfl) pe_bl)
      (C8.pss_cut (ps_try_two rfl rfl ⟨rfl, by decide, .inl gUB⟩ ⟨rfl, by decide, .inl gHF⟩ (fun W pn xe tk _ => pss_one (ps_set (i := 3) sc_irr.nd rfl (.inl rfl) (pe_callS FS (hr.mono (by decide)) rfl gS kpS bS (fun σ => passAt tk σ) (pa_cons (pv 0) (pa_cons (pv 2) pa_nil))))) (fun a oe cls d pn _ _ => pss_one (ps_set (i := 4) sc_irr.nd rfl (.inl rfl) pe_bl)))
      (pss_one (ps_ret (pe_and (pv 4) (pe_one (C8.pe_c cSm hr (by decide) rfl (pa_cons (pv 1) (pa_cons (pv 3) pa_nil))))))))))), ?_⟩
  have hnn := hc.nn
  have hpl := hc.len
  refine ⟨_, rfl, _, rfl, _, g, c, dv, goal, rfl, hs, by omega, by omega, hg, hgo, fun H1 e1 => ?_⟩
  refine ⟨Nat.zero_le _, fun b0 hb0 => ?_⟩
  have e2 : Same H (upd H1 b0 (.lst [])) := e1.trans (same_new hb0)
  generalize upd H1 b0 (.lst []) = H2 at e2
  refine ⟨fun σ' H' => ∃ x3 k, σ' = [some s, some g, some r, x3, some (.bl k)] ∧ Same H H' ∧ ((k = true ∧ ∃ sp v, spreadOf c row = some sp ∧ x3 = some v ∧ Dp K H' v (pS sp)) ∨ (k = false ∧ spreadOf c row = none)), ?_, ?_⟩
  · refine ⟨_, rfl, _, rfl, H2, _, _, c, dv, row, rfl, .refl _, hs.mono e2, hc, dp_same e2 _ _ hrw, hz, fun sp hsp p bs F' H' g' hp hp2 hp3 hpn hown => ?_, fun hnone cls d H' hcls e => ⟨?_, fun a ha => ?_⟩⟩
    · exact ⟨_, true, rfl, e2.trans g'.same, .inl ⟨rfl, sp, _, hsp, rfl, hown.dp g'.fh (.inl (.inl hp3))⟩⟩
    · rcases hcls with rfl | rfl
      · exact xU
      · exact xH
    · exact ⟨_, false, rfl, e2.trans e, .inr ⟨rfl, hnone⟩⟩
  · rintro σ' H' ⟨x3, k, rfl, e, hk⟩
    rcases hk with ⟨rfl, sp, v, hsp, rfl, hv⟩ | ⟨rfl, hnone⟩
    · have hso := spreadOf_ok hc hsp
      have hsl := hso.len hc
      refine ⟨_, rfl, true, rfl, iteT ⟨_, rfl, _, rfl, g, v, goal, sp, rfl, hv, dp_same e _ _ hg, by omega, hso.goals hc hgo, fun H4 e4 => ?_⟩⟩
      have := hQ H4 (e.trans e4)
      unfold rightB at this
      rw [hsp] at this
      exact this
    · refine ⟨_, rfl, false, rfl, iteF ?_⟩
      have := hQ H' e
      unfold rightB at this
      rw [hnone] at this
      exact this
end
end S3

/-! ### P17: names, steps, devices -/
namespace S3
open PySem PySem.Spec PyProof.Rows L2
def letters : Str := "abcdefghijklmnopqrstuvwxyz"
def IsName (x : Str) : Prop := x ≠ "" ∧ x.length ≤ 8 ∧ ∀ c ∈ x.cps.toList, c ∈ letters.cps.toList
/-- what is given of a state: button, next state, lamps on -/
abbrev GV := List (Str × Int × List Str)
def GvOk (btn lmp : List Str) (many : Nat) (gv : GV) : Prop := (gv.map (·.1)).Nodup ∧ gv.length ≤ 10 ∧ ∀ q ∈ gv, q.1 ∈ btn ∧ 0 ≤ q.2.1 ∧ q.2.1 < (many : Int) ∧ q.2.2.length ≤ 10 ∧ ∀ x ∈ q.2.2, x ∈ lmp
def GivAt (K : PySem.W.Frag) (F : Hp) (d : Addr) (gv : GV) : Prop := ∃ kvs, F d = some (.dK kvs) ∧ kvs.map (·.1) = (gv.map (·.1)).map Sum.inr ∧ ∀ q ∈ gv, ∃ v, valV kvs (Sum.inr q.1) = some v ∧ Dp K F v (.tuple [.int q.2.1, pW q.2.2])
theorem GivAt.mono {K : PySem.W.Frag} {F F' : Hp} {d : Addr} {gv : GV} (h : GivAt K F d gv) (e : Same F F') : GivAt K F' d gv := by
  obtain ⟨kvs, h1, h2, h3⟩ := h
  exact ⟨kvs, e _ _ h1, h2, fun q hq => let ⟨v, a, b⟩ := h3 q hq; ⟨v, a, dp_same e _ _ b⟩⟩
theorem cut_to (xs : List V) (i : Nat) : cutV xs none (some (i : Int)) = xs.take i := by
  unfold cutV
  rw [HT.sIx_none, HT.sIx_nat, List.drop_zero, Nat.sub_zero]
  rcases Nat.le_total i xs.length with h | h
  · rw [Nat.min_eq_left h]
  · rw [Nat.min_eq_right h, List.take_of_length_le (Nat.le_refl _), List.take_of_length_le h]
/-- a step as a device keeps it -/
def devStep (lmp : List Str) (gv : GV) (b : Str) : Option PyData := (gv.lookup b).map fun p => .tuple [.int p.1, pA (lmp.filter fun x => decide (x ∈ p.2))]
theorem lookup_mem {gv : GV} (hn : (gv.map (·.1)).Nodup) {q : Str × Int × List Str} (hq : q ∈ gv) : gv.lookup q.1 = some q.2 := by
  induction gv with
  | nil => cases hq
  | cons p gv ih =>
    rw [List.map_cons, List.nodup_cons] at hn
    obtain ⟨pk, pv⟩ := p
    rcases List.mem_cons.mp hq with e | hq
    · rw [e]; simp [List.lookup]
    · have hne : (q.1 == pk) = false := by
        rw [beq_eq_false_iff_ne]
        intro e
        exact hn.1 (List.mem_map.mpr ⟨q, hq, e⟩)
      show List.lookup q.1 ((pk, pv) :: gv) = some q.2
      rw [List.lookup_cons, hne]
      exact ih hn.2 hq
theorem lookup_none {gv : GV} {b : Str} (h : b ∉ gv.map (·.1)) : gv.lookup b = none := by
  induction gv with
  | nil => rfl
  | cons p gv ih =>
    obtain ⟨pk, pv⟩ := p
    rw [List.map_cons, List.mem_cons, not_or] at h
    have hne : (b == pk) = false := by
      rw [beq_eq_false_iff_ne]; exact h.1
    rw [List.lookup_cons, hne]
    exact ih h.2
theorem lookup_some {gv : GV} {b : Str} {p : Int × List Str} (h : gv.lookup b = some p) : (b, p) ∈ gv := by
  induction gv with
  | nil => cases h
  | cons q gv ih =>
    obtain ⟨qk, qv⟩ := q
    rw [List.lookup_cons] at h
    cases e : b == qk with
    | true =>
      rw [e] at h
      have h1 : b = qk := eq_of_beq e
      have h2 : qv = p := by simpa using h
      rw [h1, h2]; simp
    | false =>
      rw [e] at h
      exact List.mem_cons_of_mem _ (ih h)
section
variable {P : Program} {w : World} {K : PySem.W.Frag} {mg : Str → Option Value} {base : Heap} {CC DC UB HF : Addr}
abbrev s_in : Stmt := top 39
abbrev nm_in : List Str := ["name", "letter"]
theorem sc_in : FnScope nm_in ["name"] (defScope s_in) := ⟨rfl, rfl, rfl, by decide +kernel, rfl, by decide +kernel, by decide +kernel⟩
/- slots: 0 name 1 letter -/
def spIn (K : PySem.W.Frag) : Sp := fun vs H Q _ => ∃ x, vs = [.str x] ∧ IsName x ∧ Q (.bl true) H
theorem cal_in (D : DefX K mg "is_name" s_in) (T : Tx K mg CC DC) (gLET : ∃ u, mg "LETTERS" = some u ∧ RelV (.str letters) u) : C8.Cal P w K mg base 1 "is_name" (spIn K) [] := by
  refine calD (ps := ["name"]) D (fun _ _ _ _ _ _ us hl => match us, hl with | [_], _ => rfl) sc_in ?_ ?_
  · rintro vs H Q E ⟨x, rfl, _⟩; rfl
  rintro f cdv A outer s0 H vs Q E hr ⟨x, rfl, ⟨hne, hl, hlet⟩, hQ⟩
  refine ⟨_, (pss_cons (ps_if (PW.pt (pw_or (pt_cmpR op_eq (pv 0) pe_str (nomark _)) (pw_or1 (pt_cmpR op_gt (pe_callB call_len_str (by rfl) T.len (by decide +kernel) (pa_cons (pv 0) pa_nil)) pe_int (nomark _)))))
      (pss_one (ps_ret pe_bl))
      pss_nil)
      (pss_cons (ps_for PassesOwn.never rfl (pi_str (pv 0)) (pg_name (i := 1) sc_in.nd rfl (.inl rfl))
      (pss_one (ps_if (pt_cmpR op_notIn_sign (pv 1) (C8.pe_gc rfl gLET) rfl)
        (pss_one (ps_ret pe_bl))
        pss_nil)))
      (pss_one (ps_ret pe_bl)))), ?_⟩
  refine ⟨_, rfl, rfl, _, rfl, noV (str_ne hne) ?_⟩
  refine ⟨_, rfl, x, rfl, big (by omega), _, _, rfl, rfl, _, rfl, ?_⟩
  refine ite2 (fun h => absurd (of_decide_eq_true h) (by omega)) (fun _ => ?_)
  refine ⟨_, rfl, x, rfl, for_it walk_str (fun i σ H' => ∃ x1, σ = [some (.str x), x1] ∧ H' = H) ⟨none, rfl, rfl⟩ (fun i σ H' _ _ => trivial) ?_ ?_⟩
  · rintro i y σ H' H'' hi ⟨x1, rfl, rfl⟩ ⟨rfl, c, hc, rfl⟩
    refine ⟨_, rfl, c, letters, rfl, rfl, _, rfl, ?_⟩
    have hcm : c ∈ letters.cps.toList := hlet c (by
      rw [← Array.getElem?_toList] at hc
      exact mem_at hc)
    rw [decide_eq_true hcm]
    exact iteF ⟨_, rfl, rfl⟩
  · rintro σ H' ⟨x1, rfl, rfl⟩
    exact hQ
abbrev s_cn : Stmt := top 40
abbrev nm_cn : List Str := ["names", "index", "name"]
theorem sc_cn : FnScope nm_cn ["names"] (defScope s_cn) := ⟨rfl, rfl, rfl, by decide +kernel, rfl, by decide +kernel, by decide +kernel⟩
/- slots: 0 names 1 index 2 name -/
def spCn (K : PySem.W.Frag) : Sp := fun vs H Q _ => ∃ (a : Addr) (ns : List Str), vs = [.ref a] ∧ SqL K H a (ns.map V.str) ∧ ns.Nodup ∧ (∀ x ∈ ns, IsName x) ∧ ∀ H', Same H H' → Q .non H'
theorem cal_cn (D : DefX K mg "check_names" s_cn) (T : Tx K mg CC DC) (cIn : C8.Cal P w K mg base 1 "is_name" (spIn K) []) : C8.Cal P w K mg base 2 "check_names" (spCn K) [] := by
  refine calD (ps := ["names"]) D (fun _ _ _ _ _ _ us hl => match us, hl with | [_], _ => rfl) sc_cn ?_ ?_
  · rintro vs H Q E ⟨a, ns, rfl, _⟩; rfl
  rintro f cdv A outer s0 H vs Q E hr ⟨a, ns, rfl, sa, hnd, hnm, hQ⟩
  refine ⟨_, (pss_one (ps_for PassesOwn.never rfl (pi_enum (by rfl) T.enumerate (pa_cons (pv 0) pa_nil)) (pg_tupK K rfl 2 rfl (pgs_cons (pg_name (i := 1) sc_cn.nd rfl (.inl rfl)) (pgs_cons (pg_name (i := 2) sc_cn.nd rfl (.inl rfl)) pgs_nil)))
      (pss_cons (ps_if (pt_not (pt_val (C8.pe_c cIn hr (by decide) rfl (pa_cons (pv 2) pa_nil))))
        (pss_one (ps_never))
        pss_nil)
        (pss_one (ps_if (pt_cmpR (op_in_seqK K rfl) (pv 2) (pe_slice (sl_listK K rfl) (pv 0) po_none (po_some (pv 1))) rfl)
        (pss_one (ps_never))
        pss_nil))))), ?_⟩
  refine ⟨_, rfl, a, _, rfl, sa, for_it walk_enum (fun i σ H' => ∃ x1 x2, σ = [some (.ref a), x1, x2] ∧ Same H H') ⟨none, none, rfl, .refl _⟩ (fun i σ H' _ ⟨_, _, _, e⟩ => same_l e sa) ?_ ?_⟩
  · rintro i y σ H' H'' hi ⟨x1, x2, rfl, e⟩ ⟨T0, x0, y0, rfl, hT0, rfl, hx0, hy0⟩
    injection hx0 with hx0
    subst hx0
    obtain ⟨x, hx, rfl⟩ := get_map hy0
    have e1 := e.trans (same_new (o := .tup [.int (i : Nat), .str x]) hT0)
    refine ⟨T0, _, rfl, .inl (.inl (upd_same ..)), rfl, _, _, rfl, _, _, rfl, rfl, ?_⟩
    refine ⟨_, rfl, x, rfl, hnm x (mem_at hx), _, rfl, iteF ?_⟩
    refine ⟨_, rfl, _, rfl, _, rfl, _, rfl, a, _, rfl, same_l e1 sa, fun p hp => ?_⟩
    have hcut : cutV (ns.map V.str) none (some ((i : Nat) : Int)) = (ns.take i).map V.str := by rw [cut_to, List.map_take]
    rw [hcut]
    refine ⟨p, _, rfl, .inl (.inl (.inl (upd_same ..))), rfl, flat_strs _, _, rfl, ?_⟩
    rw [if_neg Bool.false_ne_true, inV_str]
    have hnot : x ∉ ns.take i := fun hm => by
      have h1 : (ns.take (i + 1)).Nodup := hnd.sublist (List.take_sublist _ _)
      rw [take_at hx, List.nodup_append] at h1
      exact h1.2.2 x hm x (by simp) rfl
    rw [decide_eq_false hnot]
    exact iteF ⟨_, _, rfl, e1.trans (same_new hp)⟩
  · rintro σ H' ⟨x1, x2, rfl, e⟩
    exact hQ _ e
end
end S3

/-! ### P18: the steps of a device -/
namespace S3
open PySem PySem.Spec PyProof.Rows L2
theorem OptR.of {K : PySem.W.Frag} {F : Hp} {o : Option V} {p : Option PyData} {v : V} {d : PyData} (h1 : o = some v) (h2 : p = some d) (h : Dp K F v d) : OptR K F o p := by rw [h1, h2]; exact h
/-- a dict of steps still growing: the keys k known so far -/
structure StpAt (K : PySem.W.Frag) (F H : Hp) (d : Addr) (ks : List Str) (f : Str → Option PyData) : Prop where
  ex : ∃ kvs, H d = some (.dK kvs) ∧ kvs.length ≤ ks.length ∧ ∀ b, OptR K F (valV kvs (Sum.inr b)) (if b ∈ ks then f b else none)
  fd : F d = none
section
variable {K : PySem.W.Frag} {F H F' H' : Hp} {d : Addr} {ks : List Str} {f : Str → Option PyData} {b : Str} {v : V} {dt : PyData}
theorem StpAt.ext (h : StpAt K F H d ks f) (g : Gr N0 F H F' H') : StpAt K F' H' d ks f := by
  obtain ⟨kvs, h1, h2, h3⟩ := h.ex
  exact ⟨⟨kvs, g.same _ _ h1, h2, fun b => (h3 b).mono g.ff⟩, g.hid h1 h.fd⟩
theorem StpAt.put (h : StpAt K F H d ks f) (hz : ks.length < 1000) (hv : Dp K F v dt) (hf : f b = some dt) : ∃ H4, DPut H d (.str b) v H4 ∧ StpAt K F H4 d (ks ++ [b]) f ∧ ∃ o, H4 = upd H d o := by
  obtain ⟨kvs, h1, h2, h3⟩ := h.ex
  refine ⟨_, DPut.k (k := Sum.inr b) h1 (bigS (by omega)), ⟨⟨_, upd_same .., ?_, fun c => ?_⟩, h.fd⟩, _, rfl⟩
  · have := length_putK kvs (Sum.inr b) v
    rw [List.length_append]
    show _ ≤ ks.length + 1
    omega
  · rw [valV_put]
    by_cases e : c = b
    · subst e
      rw [if_pos rfl, if_pos (by simp)]
      exact OptR.of rfl hf hv
    · rw [if_neg (fun z => e (by injection z))]
      have := h3 c
      by_cases hc : c ∈ ks
      · rw [if_pos hc] at this
        rw [if_pos (by simp [hc])]; exact this
      · rw [if_neg hc] at this
        rw [if_neg (by simp [hc, e])]; exact this
theorem StpAt.done (h : StpAt K F H d ks f) (hf : ∀ b, b ∉ ks → f b = none) {H0 F0 : Hp} (g : Gr N0 F0 H0 F H) (h0 : H0 d = none) : ∃ F2, Gr N0 F0 H0 F2 H ∧ Same F F2 ∧ DictF K F2 d f := by
  obtain ⟨kvs, h1, h2, h3⟩ := h.ex
  refine ⟨_, g.pub h1 h0, pub_same g.fh h1, kvs, upd_same .., fun b => ?_⟩
  have := (h3 b).mono (pub_same g.fh h1)
  by_cases hb : b ∈ ks
  · rwa [if_pos hb] at this
  · rw [if_neg hb] at this
    rw [hf b hb]; exact this
end
section
variable {P : Program} {w : World} {K : PySem.W.Frag} {mg : Str → Option Value} {base : Heap} {CC DC UB HF : Addr}
abbrev s_cs : Stmt := top 41
abbrev nm_cs : List Str := ["device", "state", "given", "many", "steps", "button", "after", "lit", "lamp"]
theorem sc_cs : FnScope nm_cs ["device", "state", "given", "many"] (defScope s_cs) := ⟨rfl, rfl, rfl, by decide +kernel, rfl, by decide +kernel, by decide +kernel⟩
/- slots: 0 device 1 state 2 given 3 many 4 steps 5 button 6 after 7 lit 8 lamp -/
def spCs (K : PySem.W.Frag) (DC : Addr) : Sp := fun vs H Q _ => ∃ F a dx fs vb vl d i many btn lmp gv, vs = [.ref a, .int i, .ref d, .int (many : Nat)] ∧ Same F H ∧ H a = some (.ins DC dx fs) ∧ fs.lookup ("button_names" : Str) = some vb ∧ fs.lookup ("lamp_names" : Str) = some vl ∧ Dp K H vb (pW btn) ∧ Dp K H vl (pW lmp) ∧
  GivAt K F d gv ∧ GvOk btn lmp many gv ∧ lmp.length ≤ 10 ∧ ∀ p F' H', Gr N0 F H F' H' → H p = none → DictF K F' p (devStep lmp gv) → Q (.ref p) H'
theorem cal_cs (D : DefX K mg "checked_steps" s_cs) (T : Tx K mg CC DC) : C8.Cal P w K mg base 1 "checked_steps" (spCs K DC) [] := by
  refine calD (ps := ["device", "state", "given", "many"]) D (fun _ _ _ _ _ _ us hl => match us, hl with | [_, _, _, _], _ => rfl) sc_cs ?_ ?_
  · rintro vs H Q E ⟨F, a, dx, fs, vb, vl, d, i, many, btn, lmp, gv, rfl, _⟩; rfl
  rintro f cdv A outer s0 H vs Q E hr ⟨F, a, dx, fs, vb, vl, d, i, many, btn, lmp, gv, rfl, hF, hi, hb1, hl1, hb2, hl2, hgv, ⟨gnd, glen, gok⟩, hlz, hQ⟩
  have hu := up 1 hr
  refine ⟨_, (pss_cons (ps_set (i := 4) sc_cs.nd rfl (.inl rfl) pe_dnewK)
      (pss_cons (ps_for PassesOwn.never rfl (pi_listK K rfl (pe_callB (call_sortedD rfl) (by rfl) T.sorted (by decide +kernel) (pa_cons (pv 2) pa_nil))) (pg_name (i := 5) sc_cs.nd rfl (.inl rfl))
      (pss_cons (ps_if (pt_cmpR (op_notIn_seqK K rfl) (pv 5) (pe_fldK K rfl (pv 0) rfl) rfl)
        (pss_one (ps_never))
        pss_nil)
        (pss_cons (ps_asg (pe_dget hu (pv 2) (pv 5) (fun _ _ => rfl)) (pg_tupK K rfl 2 rfl (pgs_cons (pg_name (i := 6) sc_cs.nd rfl (.inl rfl)) (pgs_cons (pg_name (i := 7) sc_cs.nd rfl (.inr rfl)) pgs_nil))))
        (pss_cons (ps_if (PW.pt (pw_or (pt_cmpR op_lt (pv 6) pe_int (nomark _)) (pw_or1 (pt_cmpR op_ge (pv 6) (pv 3) (nomark _)))))
        (pss_one (ps_never))
        pss_nil)
        (pss_cons (ps_for PassesOwn.never rfl (pi_listK K rfl (pv 7)) (pg_name (i := 8) sc_cs.nd rfl (.inl rfl))
        (pss_one (ps_if (pt_cmpR (op_notIn_seqK K rfl) (pv 8) (pe_fldK K rfl (pv 0) rfl) rfl)
          (pss_one (ps_never))
          pss_nil)))
        (pss_one (ps_dput hu (pv 4) (pv 5) (pe_tup (pa_cons (pv 6) (pa_cons (pe_callTy (call_tuple_ofK K rfl) (by rfl) T.tuple (by decide +kernel) (pa_cons (pe_lc (own := [("lamp", 8)]) (g := (gName 8))  rfl sc_cs.nd (pi_listK K rfl (pe_fldK K rfl (pv 0) rfl)) (blkOk_by (own := [("lamp", 8)]) (N := nm_cs) (sc := defScope s_cs) (by decide +kernel)) (fun _ _ _ _ _ => (pg_name (i := 8) sc_cs.nd rfl (.inl rfl))) (fun _ _ _ _ _ => pts_one (pt_cmpR (op_in_seqK K rfl) (pv 8) (pv 7) rfl)) (fun _ _ _ _ _ => (pv 8))) pa_nil)) pa_nil))) rfl)))))))
      (pss_one (ps_ret (pv 4))))), ?_⟩
  obtain ⟨ab, rfl, sab⟩ := dp_strs hb2
  obtain ⟨al, rfl, sal⟩ := dp_strs hl2
  obtain ⟨kvs, hd1, hd2, hd3⟩ := hgv
  refine fun d0 hd0 => ⟨_, rfl, d, kvs, gv.map (·.1), rfl, .inl (same_new hd0 _ _ (hF _ _ hd1)), hd2, by rw [List.length_map]; omega, fun ys p hperm hsort hp => ?_⟩
  have hd0p : d0 ≠ p := ne_of_none (upd_same ..) hp
  have g0 : Gr N0 F H F (upd (upd H d0 (.dK [])) p (.lst (ys.map V.str))) := ((Gr.refl hF).lay hd0).lay hp
  have hst0 : StpAt K F (upd (upd H d0 (.dK [])) p (.lst (ys.map V.str))) d0 [] (devStep lmp gv) := ⟨⟨[], by rw [upd_ne hd0p]; exact upd_same .., Nat.le_refl _, fun b => by rw [if_neg (by simp)]; exact True.intro⟩, same_none hF hd0⟩
  have hyl : ys.length ≤ 10 := by rw [hperm.length_eq, List.length_map]; exact glen
  refine ⟨p, rfl, ⟨_, .inl (.inl (upd_same ..))⟩, for_list (K := K) (a := p) (xs := ys.map V.str) (fun j σ H' => ∃ Fi x5 x6 x7 x8, σ = [some (.ref a), some (.int i), some (.ref d), some (.int many), some (.ref d0), x5, x6, x7, x8] ∧ Gr N0 F H Fi H' ∧ H' p = some (.lst (ys.map V.str)) ∧ StpAt K Fi H' d0 (ys.take j) (devStep lmp gv)) ⟨F, none, none, none, none, rfl, g0, upd_same .., by rw [List.take_zero]; exact hst0⟩ ?_ ?_ ?_⟩
  · rintro j σ H' _ ⟨Fi, x5, x6, x7, x8, rfl, g, hp', _⟩
    exact .inl (.inl hp')
  · rintro j x σ H' hx ⟨Fi, x5, x6, x7, x8, rfl, g, hp', hst⟩
    obtain ⟨b, hb0, rfl⟩ := get_map hx
    obtain ⟨q, hq, hqb⟩ := List.mem_map.mp (hperm.mem_iff.mp (mem_at hb0))
    obtain ⟨o1, o2, o3, o4, o5⟩ := gok q hq
    obtain ⟨v, hv1, hv2⟩ := hd3 q hq
    rw [hqb] at hv1 o1
    obtain ⟨tv, tys, rfl, stv, dtv⟩ := dp_tup hv2
    obtain ⟨y1, y2, rfl, hy1, hy2⟩ := dpa_pair dtv
    obtain rfl := dp_int hy1
    obtain ⟨alit, rfl, slit⟩ := dp_strs hy2
    have e1 : Same H H' := g.same
    have eF := g.ff.trans g.fh
    refine ⟨_, rfl, _, rfl, a, DC, dx, _, _, rfl, e1 _ _ hi, T.dc, T.button_names, hb1, ab, _, rfl, .inl (same_l e1 sab), rfl, flat_strs _, _, rfl, ?_⟩
    rw [if_pos rfl, inV_str, decide_eq_true o1]
    refine iteF ?_
    refine ⟨_, rfl, _, rfl, d, _, rfl, ?_, tv, _, rfl, same_t eF stv, rfl, _, _, rfl, _, _, rfl, rfl, ?_⟩
    · rw [← hv1]
      exact DGet.k (k := Sum.inr b) (eF _ _ hd1)
    refine ⟨_, rfl, _, _, rfl, rfl, _, rfl, ?_⟩
    refine ite2 (fun h => absurd (of_decide_eq_true h) (by omega)) (fun _ => ?_)
    refine ⟨_, rfl, _, rfl, _, _, rfl, rfl, _, rfl, ?_⟩
    refine ite2 (fun h => absurd (of_decide_eq_true h) (by omega)) (fun _ => ?_)
    refine ⟨_, rfl, alit, rfl, ⟨_, same_l eF slit⟩, for_list (K := K) (a := alit) (xs := q.2.2.map V.str) (fun k σ' H2 => ∃ x8, σ' = [some (.ref a), some (.int i), some (.ref d), some (.int many), some (.ref d0), some (.str b), some (.int q.2.1), some (.ref alit), x8] ∧ H2 = H') ⟨_, rfl, rfl⟩ ?_ ?_ ?_⟩
    · rintro k σ' H2 _ ⟨x8, rfl, rfl⟩
      exact same_l eF slit
    · rintro k y σ' H2 hy ⟨x8, rfl, rfl⟩
      obtain ⟨lm, hlm, rfl⟩ := get_map hy
      refine ⟨_, rfl, _, rfl, a, DC, dx, _, _, rfl, e1 _ _ hi, T.dc, T.lamp_names, hl1, al, _, rfl, .inl (same_l e1 sal), rfl, flat_strs _, _, rfl, ?_⟩
      rw [if_pos rfl, inV_str, decide_eq_true (o5 lm (mem_at hlm))]
      exact iteF ⟨_, rfl, rfl⟩
    · rintro σ' H2 ⟨x8, rfl, rfl⟩
      refine ⟨_, rfl, _, rfl, a, DC, dx, _, _, rfl, e1 _ _ hi, T.dc, T.lamp_names, hl1, al, rfl, ⟨_, same_l e1 sal⟩, fun L hL => lc_list (K := K) (a := al) (xs := lmp.map V.str) (PvS H2 L fun k acc => acc = ((lmp.take k).filter fun x => decide (x ∈ q.2.2)).map V.str) (PvS.zero hL rfl) (fun k H3 _ h => same_l (e1.trans h.1) sal) ?_ ?_⟩
      · rintro k y H3 hy ⟨e, acc, hacc, hl, r⟩
        obtain ⟨lm, hlm, rfl⟩ := get_map hy
        refine ⟨rfl, _, rfl, _, rfl, alit, _, rfl, .inl (same_l (eF.trans e) slit), rfl, flat_strs _, _, rfl, ?_⟩
        rw [if_neg Bool.false_ne_true, inV_str]
        refine ite2 (fun hc => ?_) (fun hc => ?_)
        · refine ⟨_, rfl, PvS.snoc hL e hacc hl (by have := lt_at hlm; omega) (.refl _) ?_⟩
          rw [r, filter_take_at hlm, if_pos hc, List.map_append]; rfl
        · refine PvS.skip e hacc hl (.refl _) ?_
          rw [r, filter_take_at hlm, if_neg hc, List.append_nil]
      · rintro H3 ⟨e, acc, hacc, hl, r⟩
        rw [List.length_map, List.take_length] at r
        refine ⟨L, acc, rfl, .inl ⟨.inl (.inl hacc), fun t ht => ⟨(by show 2 ≤ sizeLine; decide), fun tt htt => ?_⟩⟩⟩
        have g3 : Gr N0 Fi H2 Fi H3 := (Gr.refl g.fh).ext e
        have g4 := g3.new (o := .tup acc) ht
        have g5 := g4.new (o := .tup [.int q.2.1, .ref t]) htt
        have hst5 := hst.ext g5
        have hne : t ≠ tt := ne_of_none (upd_same ..) htt
        have hdp : Dp K (upd (upd Fi t (.tup acc)) tt (.tup [.int q.2.1, .ref t])) (.ref tt) (.tuple [.int q.2.1, pA (lmp.filter fun x => decide (x ∈ q.2.2))]) := by
          refine .tup (.inl (.inl (upd_same ..))) (.cons (.int _) (.cons (.tup (.inl (.inl ?_)) (dpa_strs _)) .nil))
          rw [upd_ne hne, upd_same, r]
        have hstep : devStep lmp gv b = some (.tuple [.int q.2.1, pA (lmp.filter fun x => decide (x ∈ q.2.2))]) := by
          unfold devStep
          rw [← hqb, lookup_mem gnd hq]; rfl
        obtain ⟨H6, hput, hst6, o, rfl⟩ := hst5.put (b := b) (by rw [List.length_take]; omega) hdp hstep
        have hpd : p ≠ d0 := fun z => by
          obtain ⟨kv, z1, _⟩ := hst.ex
          rw [← z, hp'] at z1; cases z1
        refine ⟨_, rfl, _, rfl, d0, _, rfl, hput, _, _, _, _, _, rfl, (g.trans g5).set hst5.fd (.inr hd0), by rw [upd_ne hpd]; exact g5.same _ _ hp', by rw [take_at hb0]; exact hst6⟩
  · rintro σ H' ⟨Fi, x5, x6, x7, x8, rfl, g, hp', hst⟩
    rw [List.length_map, List.take_length] at hst
    obtain ⟨F2, g2, e2, hdf⟩ := hst.done (fun b hb => by
      unfold devStep
      rw [lookup_none (fun z => hb (hperm.mem_iff.mpr z))]; rfl) g hd0
    exact ⟨_, rfl, hQ d0 F2 H' g2 hd0 hdf⟩
end
end S3

/-! ### P19: devices -/
namespace S3
open PySem PySem.Spec PyProof.Rows L2
/-- a device: names, for each state what is given of it -/
structure PD where
  btn : List Str
  lmp : List Str
  gvs : List GV
def PD.dv (p : PD) : DV := ⟨p.btn, p.lmp, p.gvs.map (devStep p.lmp)⟩
structure PdOk (p : PD) : Prop where
  bn : p.btn.Nodup
  ln : p.lmp.Nodup
  bi : ∀ x ∈ p.btn, IsName x
  li : ∀ x ∈ p.lmp, IsName x
  bl : p.btn.length ≤ 10
  ll : p.lmp.length ≤ 10
  gl : p.gvs.length ≤ 4
  gv : ∀ g ∈ p.gvs, GvOk p.btn p.lmp p.gvs.length g
/-- an entry of shown_steps -/
def pE (e : Str × Int × List Str) : PyData := .tuple [.str e.1, .int e.2.1, pW e.2.2]
def entries (lmp : List Str) (gv : GV) (ns : List Str) : List (Str × Int × List Str) := ns.filterMap fun b => (gv.lookup b).map fun p => (b, p.1, lmp.filter fun x => decide (x ∈ p.2))
theorem filterMap_take_at {α β : Type} {f : α → Option β} {l : List α} {i : Nat} {a : α} (h : l[i]? = some a) : (l.take (i + 1)).filterMap f = (l.take i).filterMap f ++ (f a).toList := by
  rw [take_at h, List.filterMap_append, List.filterMap_cons]
  cases f a <;> rfl
theorem Gr.made {F H F' H' : Hp} {x dx : Addr} {o : HO} (g : Gr (fun z => z = x) F (upd (upd H dx (.own x)) x o) F' H') (hx : H x = none) (hd : H dx = none) (e : Same F H) : Gr N0 F H F' H' := by
  have h1 : ∀ a o', H a = some o' → H' a = some o' := fun a o' h => by
    have n1 : a ≠ x := ne_of_none h hx
    have n2 : a ≠ dx := ne_of_none h hd
    exact g.hh a o' n1 (by rw [upd_ne n1, upd_ne n2]; exact h)
  refine ⟨g.ff, g.fh, fun a o' _ h => h1 a o' h, fun a h => ?_, fun a h n => ?_⟩
  · cases q : H a with
    | none => exact absurd q h
    | some o' => exact some_ne (h1 a o' q)
  · refine g.no a ?_ n
    cases q : H a with
    | none => exact absurd q h
    | some o' =>
      have n1 : a ≠ x := ne_of_none q hx
      have n2 : a ≠ dx := ne_of_none q hd
      rw [upd_ne n1, upd_ne n2]
      exact some_ne q
theorem putF_nil (f : Str) (v : V) : putF f v [] = [(f, v)] := rfl
theorem putF_one {f g : Str} (v x : V) (r : List (Str × V)) (h : g ≠ f) : putF f v ((g, x) :: r) = (g, x) :: putF f v r := by
  show (if g = f then _ else _) = _
  rw [if_neg h]
section
variable {P : Program} {w : World} {K : PySem.W.Frag} {mg : Str → Option Value} {base : Heap} {CC DC UB HF : Addr}
abbrev s_ss : Stmt := top 42
abbrev nm_ss : List Str := ["names", "steps", "button"]
theorem sc_ss : FnScope nm_ss ["names", "steps"] (defScope s_ss) := ⟨rfl, rfl, rfl, by decide +kernel, rfl, by decide +kernel, by decide +kernel⟩
/- slots: 0 names 1 steps 2 button -/
def spSs (K : PySem.W.Frag) : Sp := fun vs H Q _ => ∃ F v ns d lmp gv, vs = [v, .ref d] ∧ Same F H ∧ Dp K H v (pW ns) ∧ ns.length < 1000 ∧ DictF K F d (devStep lmp gv) ∧ ∀ p F' H', Gr N0 F H F' H' → Dp K F' (.ref p) (.list ((entries lmp gv ns).map pE)) → Q (.ref p) H'
theorem cal_ss (D : DefX K mg "shown_steps" s_ss) (T : Tx K mg CC DC) : C8.Cal P w K mg base 1 "shown_steps" (spSs K) [] := by
  refine calD (ps := ["names", "steps"]) D (fun _ _ _ _ _ _ us hl => match us, hl with | [_, _], _ => rfl) sc_ss ?_ ?_
  · rintro vs H Q E ⟨F, v, ns, d, lmp, gv, rfl, _⟩; rfl
  rintro f cdv A outer s0 H vs Q E hr ⟨F, v, ns, d, lmp, gv, rfl, hF, hv, hz, hd, hQ⟩
  have hu := up 1 hr
  refine ⟨_, (pss_one (ps_ret (pe_lc (own := [("button", 2)]) (g := (gName 2))  rfl sc_ss.nd (pi_listK K rfl (pv 0)) (blkOk_by (own := [("button", 2)]) (N := nm_ss) (sc := defScope s_ss) (by decide +kernel)) (fun _ _ _ _ _ => (pg_name (i := 2) sc_ss.nd rfl (.inl rfl))) (fun _ _ _ _ _ => pts_one (pt_cmp (pc_din hu (pv 2) (pv 1)) rfl)) (fun _ _ _ _ _ => (pe_tup (pa_cons (pv 2) (pa_cons (pe_ix (ix_tupK K rfl) (pe_dget hu (pv 1) (pv 2) (fun _ _ => rfl)) pe_int (fun _ _ => rfl)) (pa_cons (pe_callTy (call_list_ofK K rfl) (by rfl) T.list (by decide +kernel) (pa_cons (pe_ix (ix_tupK K rfl) (pe_dget hu (pv 1) (pv 2) (fun _ _ => rfl)) pe_int (fun _ _ => rfl)) pa_nil)) pa_nil)))))))), ?_⟩
  obtain ⟨an, rfl, sn⟩ := dp_strs hv
  refine ⟨_, rfl, an, rfl, ⟨_, sn⟩, fun L hL => lc_list (K := K) (a := an) (xs := ns.map V.str) (PvF F H L fun i acc F' => DpAll K F' acc ((entries lmp gv (ns.take i)).map pE)) (PvF.zero hF hL .nil) (fun i H' _ ⟨_, _, g, _⟩ => same_l g.same sn) ?_ ?_⟩
  · rintro i x H' hx ⟨Fi, acc, g, hn, hacc, hl, r⟩
    obtain ⟨b, hb, rfl⟩ := get_map hx
    have eF := g.ff.trans g.fh
    obtain ⟨o, hg, ho⟩ := hd.get eF b
    refine ⟨rfl, _, rfl, _, rfl, d, o, rfl, hg, _, rfl, ?_⟩
    cases hlk : gv.lookup b with
    | none =>
      have : devStep lmp gv b = none := by unfold devStep; rw [hlk]; rfl
      rw [this] at ho
      cases o with
      | some v => exact ho.elim
      | none =>
        refine iteF (PvF.skip g hn hacc hl (.refl g.fh) ?_)
        unfold entries at r ⊢
        rw [filterMap_take_at hb, hlk]
        simpa using r
    | some p =>
      have hds : devStep lmp gv b = some (.tuple [.int p.1, pA (lmp.filter fun x => decide (x ∈ p.2))]) := by unfold devStep; rw [hlk]; rfl
      rw [hds] at ho
      cases o with
      | none => exact ho.elim
      | some v =>
        have hv2 : Dp K F v (.tuple [.int p.1, pA (lmp.filter fun x => decide (x ∈ p.2))]) := ho
        obtain ⟨tv, tys, rfl, stv, dtv⟩ := dp_tup hv2
        obtain ⟨y1, y2, rfl, hy1, hy2⟩ := dpa_pair dtv
        obtain rfl := dp_int hy1
        obtain ⟨ta, rfl, sta⟩ := dp_strsT hy2
        have stv' := same_t eF stv
        refine iteT ⟨_, rfl, _, rfl, _, rfl, d, _, rfl, hg, tv, _, 0, _, rfl, rfl, stv', rfl, _, rfl, _, rfl, d, _, rfl, hg, tv, _, 1, _, rfl, rfl, stv', rfl, ta, _, rfl, .inr (same_t eF sta), fun l hl2 => ⟨(by show 3 ≤ sizeLine; decide), fun t ht => ?_⟩⟩
        have g4 := ((Gr.refl g.fh (S := N0)).new (o := .lst ((lmp.filter fun x => decide (x ∈ p.2)).map V.str)) hl2).new (o := .tup [.str b, .int p.1, .ref l]) ht
        have hne : l ≠ t := ne_of_none (upd_same ..) ht
        refine PvF.snoc hL g hn hacc hl (by have := lt_at hb; omega) g4 ?_
        unfold entries at r ⊢
        rw [filterMap_take_at hb, hlk, List.map_append]
        refine dpa_snoc (dpa_same g4.ff _ _ r) ?_
        refine .tup (.inl (.inl (upd_same ..))) (.cons (.str _) (.cons (.int _) (.cons (.lst (.inl (.inl ?_)) (dpa_strs _)) .nil)))
        rw [upd_ne hne]; exact upd_same ..
  · rintro H' ⟨Fi, acc, g, hn, hacc, hl, r⟩
    rw [List.length_map, List.take_length] at r
    exact hQ L _ H' (g.pub hacc hL) (.lst (.inl (.inl (upd_same ..))) (dpa_same (pub_same g.fh hacc) _ _ r))
abbrev s_dst : Stmt := inClass (top 43) 5
abbrev nm_dst : List Str := ["self", "steps"]
theorem sc_dst : FnScope nm_dst ["self"] (defScope s_dst) := ⟨rfl, rfl, rfl, by decide +kernel, rfl, by decide +kernel, by decide +kernel⟩
/- slots: 0 self 1 steps -/
def spDst (K : PySem.W.Frag) (DC : Addr) : Sp := fun vs H Q _ => ∃ F s pd, vs = [s] ∧ Same F H ∧ DevAt K DC F s (PD.dv pd) ∧ pd.btn.length < 1000 ∧ pd.gvs.length < 1000 ∧ ∀ p F' H', Gr N0 F H F' H' → Dp K F' (.ref p) (.list (pd.gvs.map fun gv => .list ((entries pd.lmp gv pd.btn).map pE))) → Q (.ref p) H'
theorem prp_dst (D : PropX K DC "states" "Device.states" s_dst) (T : Tx K mg CC DC) (cSs : C8.Cal P w K mg base 1 "shown_steps" (spSs K) []) : Prp P w K mg base 2 DC "states" (spDst K DC) := by
  refine prpD (ps := ["self"]) D (fun _ _ _ _ _ _ us hl => match us, hl with | [_], _ => rfl) sc_dst ?_ ?_
  · rintro vs H Q E ⟨F, s, pd, rfl, _⟩; rfl
  rintro f cdv A outer s0 H vs Q E hr ⟨F, s, pd, rfl, hF, hs, hbz, hgz, hQ⟩
  refine ⟨_, (pss_one (ps_ret (pe_lc (own := [("steps", 1)]) (g := (gName 1))  rfl sc_dst.nd (pi_listK K rfl (pe_fldK K rfl (pv 0) rfl)) (blkOk_by (own := [("steps", 1)]) (N := nm_dst) (sc := defScope s_dst) (by decide +kernel)) (fun _ _ _ _ _ => (pg_name (i := 1) sc_dst.nd rfl (.inl rfl))) (fun _ _ _ _ _ => pts_nil) (fun _ _ _ _ _ => (C8.pe_c cSs hr (by decide) rfl (pa_cons (pe_fldK K rfl (pv 0) rfl) (pa_cons (pv 1) pa_nil))))))), ?_⟩
  obtain ⟨a, dx, b, l, t, rfl, hi, hb, hl, a', xs, rfl, hsq, hlen, hat⟩ := hs
  have hlen' : xs.length = pd.gvs.length := by rw [hlen]; show (pd.gvs.map _).length = _; rw [List.length_map]
  refine ⟨_, rfl, a, DC, dx, _, _, rfl, hF _ _ hi, T.dc, T.steps, rfl, a', rfl, ⟨_, same_l hF hsq⟩, fun L hL => lc_list (K := K) (a := a') (xs := xs) (PvF F H L fun i acc F' => DpAll K F' acc ((pd.gvs.take i).map fun gv => .list ((entries pd.lmp gv pd.btn).map pE))) (PvF.zero hF hL .nil) (fun i H' _ ⟨_, _, g, _⟩ => same_l g.same (same_l hF hsq)) ?_ ?_⟩
  · rintro i x H' hx ⟨Fi, acc, g, hn, hacc, hl2, r⟩
    obtain ⟨d, ff, rfl, hff, hdf⟩ := hat i x hx
    obtain ⟨gv, hgv, rfl⟩ := get_map (show (pd.gvs.map (devStep pd.lmp))[i]? = some ff from hff)
    have eF := g.ff.trans g.fh
    refine ⟨rfl, _, rfl, a, DC, dx, _, _, rfl, eF _ _ hi, T.dc, T.button_names, rfl, _, rfl, Fi, b, pd.btn, d, pd.lmp, gv, rfl, g.fh, dp_same eF _ _ hb, hbz, hdf.mono g.ff, fun p F2 H2 g2 hp => PvF.snoc hL g hn hacc hl2 (by have := lt_at hx; omega) g2 ?_⟩
    rw [map_take_at hgv]
    exact dpa_snoc (dpa_same g2.ff _ _ r) hp
  · rintro H' ⟨Fi, acc, g, hn, hacc, hl2, r⟩
    rw [hlen', List.take_length] at r
    exact hQ L _ H' (g.pub hacc hL) (.lst (.inl (.inl (upd_same ..))) (dpa_same (pub_same g.fh hacc) _ _ r))
abbrev s_di : Stmt := inClass (top 43) 0
abbrev nm_di : List Str := ["self", "buttons", "lamps", "states", "index", "given"]
theorem sc_di : FnScope nm_di ["self", "buttons", "lamps", "states"] (defScope s_di) := ⟨rfl, rfl, rfl, by decide +kernel, rfl, by decide +kernel, by decide +kernel⟩
/- slots: 0 self 1 buttons 2 lamps 3 states 4 index 5 given -/
def spDi (K : PySem.W.Frag) (DC : Addr) : Sp := fun vs H Q _ => ∃ F a dx ab al as, ∃ ds : List Addr, ∃ pd, vs = [.ref a, .ref ab, .ref al, .ref as] ∧ Same F H ∧ F a = none ∧ H a = some (.ins DC dx []) ∧ SqL K F ab (pd.btn.map V.str) ∧ SqL K F al (pd.lmp.map V.str) ∧ SqL K F as (ds.map V.ref) ∧ Paired (fun d gv => GivAt K F d gv) ds pd.gvs ∧ PdOk pd ∧
  ∀ F' H' b l t, Gr (fun z => z = a) F H F' H' → F' a = none → H' a = some (.ins DC dx [("button_names", b), ("lamp_names", l), ("steps", t)]) → Dp K F' b (pW pd.btn) → Dp K F' l (pW pd.lmp) → TabF K F' t (pd.gvs.map (devStep pd.lmp)) → Q .non H'
theorem fn_di {f : Addr} {fd : FuncData} (F : FunT K "__init__" "Device.__init__" s_di f fd) (T : Tx K mg CC DC) (cCn : C8.Cal P w K mg base 2 "check_names" (spCn K) []) (cCs : C8.Cal P w K mg base 1 "checked_steps" (spCs K DC) []) : FnOk P w K mg base CX0 3 f fd ["self", "buttons", "lamps", "states"] (spDi K DC) ∧ Binds K fd ["self", "buttons", "lamps", "states"] [] := by
  refine ⟨FunT.ok F sc_di ?_ ?_, F.bindsN (fun _ _ _ _ _ _ us hl => match us, hl with | [_, _, _, _], _ => rfl)⟩
  · rintro vs H Q E ⟨F, a, dx, ab, al, as, ds, pd, rfl, _⟩; rfl
  rintro f cdv A outer s0 H vs Q E hr ⟨F, a, dx, ab, al, as, ds, pd, rfl, hF, hFa, hi, sab, sal, sas, hds, hok, hQ⟩
  refine ⟨_, (pss_cons (ps_expr (C8.pe_c cCn hr (by decide) rfl (pa_cons (pv 1) pa_nil)))
      (pss_cons (ps_expr (C8.pe_c cCn hr (by decide) rfl (pa_cons (pv 2) pa_nil)))
      (pss_cons (ps_fld (pv 0) (pe_callTy (call_list_ofK K rfl) (by rfl) T.list (by decide +kernel) (pa_cons (pv 1) pa_nil)) rfl)
      (pss_cons (ps_fld (pv 0) (pe_callTy (call_list_ofK K rfl) (by rfl) T.list (by decide +kernel) (pa_cons (pv 2) pa_nil)) rfl)
      (pss_cons (ps_fld (pv 0) (pe_lst pa_nil) rfl)
      (pss_one (ps_for PassesOwn.never rfl (pi_enum (by rfl) T.enumerate (pa_cons (pv 3) pa_nil)) (pg_tupK K rfl 2 rfl (pgs_cons (pg_name (i := 4) sc_di.nd rfl (.inl rfl)) (pgs_cons (pg_name (i := 5) sc_di.nd rfl (.inl rfl)) pgs_nil)))
      (pss_one (ps_expr (pe_bmK K rfl PySem.F.plainAttrs_list PySem.F.slot_list_append PySem.F.type_list_append mt_append (pe_fldK K rfl (pv 0) rfl) (pa_cons (C8.pe_c cCs hr (by decide) rfl (pa_cons (pv 0) (pa_cons (pv 4) (pa_cons (pv 5) (pa_cons (pe_callB (call_len_seqK K rfl) (by rfl) T.len (by decide +kernel) (pa_cons (pv 3) pa_nil)) pa_nil))))) pa_nil))))))))))), ?_⟩
  have hlen := hds.length
  have n1 : ("button_names" : Str) ≠ "lamp_names" := by decide
  have n2 : ("button_names" : Str) ≠ "steps" := by decide
  have n3 : ("lamp_names" : Str) ≠ "steps" := by decide
  refine ⟨_, rfl, ab, pd.btn, rfl, same_l hF sab, hok.bn, hok.bi, fun H1 e1 => ?_⟩
  refine ⟨_, rfl, al, pd.lmp, rfl, same_l (hF.trans e1) sal, hok.ln, hok.li, fun H2 e2 => ?_⟩
  have e02 := e1.trans e2
  have gg : Gr (fun z => z = a) F H F H2 := (Gr.refl hF).ext e02
  refine ⟨_, rfl, ab, _, rfl, .inl (same_l gg.fh sab), fun lb hlb => ?_⟩
  have hab : a ≠ lb := ne_of_none (e02 _ _ hi) hlb
  have g1 := gg.new (o := .lst (pd.btn.map V.str)) hlb
  refine ⟨_, rfl, a, DC, dx, [], rfl, by rw [upd_ne hab]; exact e02 _ _ hi, T.dc, T.button_names, by show 0 < 1000; decide, ?_⟩
  rw [putF_nil]
  have hF1a : (upd F lb (.lst (pd.btn.map V.str))) a = none := by rw [upd_ne hab]; exact hFa
  have g2 := g1.set (o := .ins DC dx [("button_names", .ref lb)]) hF1a (.inl rfl)
  have dlb : Dp K (upd F lb (.lst (pd.btn.map V.str))) (.ref lb) (pW pd.btn) := .lst (.inl (.inl (upd_same ..))) (dpa_strs _)
  have hi2 : (upd (upd H2 lb (.lst (pd.btn.map V.str))) a (.ins DC dx [("button_names", .ref lb)])) a = some (.ins DC dx [("button_names", .ref lb)]) := upd_same ..
  generalize (upd F lb (.lst (pd.btn.map V.str))) = F3 at *
  generalize (upd (upd H2 lb (.lst (pd.btn.map V.str))) a (.ins DC dx [("button_names", .ref lb)])) = H3 at *
  refine ⟨_, rfl, al, _, rfl, .inl (same_l (g2.ff.trans g2.fh) sal), fun ll hll => ?_⟩
  have hal : a ≠ ll := ne_of_none hi2 hll
  have g3 := g2.new (o := .lst (pd.lmp.map V.str)) hll
  refine ⟨_, rfl, a, DC, dx, [("button_names", .ref lb)], rfl, by rw [upd_ne hal]; exact hi2, T.dc, T.lamp_names, by show 1 < 1000; decide, ?_⟩
  rw [putF_one _ _ _ n1, putF_nil]
  have hF4a : (upd F3 ll (.lst (pd.lmp.map V.str))) a = none := by rw [upd_ne hal]; exact hF1a
  have g4 := g3.set (o := .ins DC dx [("button_names", .ref lb), ("lamp_names", .ref ll)]) hF4a (.inl rfl)
  have dll : Dp K (upd F3 ll (.lst (pd.lmp.map V.str))) (.ref ll) (pW pd.lmp) := .lst (.inl (.inl (upd_same ..))) (dpa_strs _)
  have dlb4 := dp_same (show Same F3 (upd F3 ll (.lst (pd.lmp.map V.str))) from same_upd (.refl _) (same_none g2.fh hll)) _ _ dlb
  have hi4 : (upd (upd H3 ll (.lst (pd.lmp.map V.str))) a (.ins DC dx [("button_names", .ref lb), ("lamp_names", .ref ll)])) a = some (.ins DC dx [("button_names", .ref lb), ("lamp_names", .ref ll)]) := upd_same ..
  generalize (upd F3 ll (.lst (pd.lmp.map V.str))) = F5 at *
  generalize (upd (upd H3 ll (.lst (pd.lmp.map V.str))) a (.ins DC dx [("button_names", .ref lb), ("lamp_names", .ref ll)])) = H5 at *
  refine ⟨Nat.zero_le _, fun ls hls => ?_⟩
  have hals : a ≠ ls := ne_of_none hi4 hls
  have hls0 : H ls = none := g4.fresh hls
  have g5 := g4.lay (o := .lst []) hls
  refine ⟨_, rfl, a, DC, dx, [("button_names", .ref lb), ("lamp_names", .ref ll)], rfl, by rw [upd_ne hals]; exact hi4, T.dc, T.steps, by show 2 < 1000; decide, ?_⟩
  rw [putF_one _ _ _ n2, putF_one _ _ _ n3, putF_nil]
  have g6 := g5.set (o := .ins DC dx [("button_names", .ref lb), ("lamp_names", .ref ll), ("steps", .ref ls)]) hF4a (.inl rfl)
  have hi6 : (upd (upd H5 ls (.lst [])) a (.ins DC dx [("button_names", .ref lb), ("lamp_names", .ref ll), ("steps", .ref ls)])) a = some (.ins DC dx [("button_names", .ref lb), ("lamp_names", .ref ll), ("steps", .ref ls)]) := upd_same ..
  have hls6 : (upd (upd H5 ls (.lst [])) a (.ins DC dx [("button_names", .ref lb), ("lamp_names", .ref ll), ("steps", .ref ls)])) ls = some (.lst []) := by rw [upd_ne (Ne.symm hals)]; exact upd_same ..
  have hF5ls : F5 ls = none := same_none g4.fh hls
  generalize (upd (upd H5 ls (.lst [])) a (.ins DC dx [("button_names", .ref lb), ("lamp_names", .ref ll), ("steps", .ref ls)])) = H6 at *
  refine ⟨_, rfl, as, _, rfl, same_l (g6.ff.trans g6.fh) sas, for_it walk_enum (fun i σ H' => ∃ Fi, ∃ es : List Addr, ∃ x4 x5, σ = [some (.ref a), some (.ref ab), some (.ref al), some (.ref as), x4, x5] ∧ Gr (fun z => z = a) F H Fi H' ∧ Fi a = none ∧ Fi ls = none ∧ H' a = some (.ins DC dx [("button_names", .ref lb), ("lamp_names", .ref ll), ("steps", .ref ls)]) ∧ H' ls = some (.lst (es.map V.ref)) ∧ Same F5 Fi ∧ Paired (fun e gv => DictF K Fi e (devStep pd.lmp gv)) es (pd.gvs.take i)) ⟨F5, [], none, none, rfl, g6, hF4a, hF5ls, hi6, hls6, .refl _, .nil⟩ (fun i σ H' _ ⟨Fi, es, x4, x5, _, g, _⟩ => same_l (g.ff.trans g.fh) sas) ?_ ?_⟩
  · rintro i y σ H' H'' hii ⟨Fi, es, x4, x5, rfl, g, hFia, hFil, hia, hil, e5, hes⟩ ⟨T0, x0, y0, rfl, hT0, rfl, hx0, hy0⟩
    injection hx0 with hx0
    subst hx0
    obtain ⟨d, hd, rfl⟩ := get_map hy0
    obtain ⟨gv, hgv, hgiv⟩ := paired_getE hds hd
    have gT := g.new (o := .tup [.int (i : Nat), .ref d]) hT0
    have naT : a ≠ T0 := ne_of_none hia hT0
    have nlT : ls ≠ T0 := ne_of_none hil hT0
    have eT : Same Fi (upd Fi T0 (.tup [.int (i : Nat), .ref d])) := same_upd (.refl _) (same_none g.fh hT0)
    refine ⟨T0, _, rfl, .inl (.inl (upd_same ..)), rfl, _, _, rfl, _, _, rfl, rfl, ?_⟩
    have hia2 : (upd H' T0 (.tup [.int (i : Nat), .ref d])) a = some (.ins DC dx [("button_names", .ref lb), ("lamp_names", .ref ll), ("steps", .ref ls)]) := by rw [upd_ne naT]; exact hia
    have hil2 : (upd H' T0 (.tup [.int (i : Nat), .ref d])) ls = some (.lst (es.map V.ref)) := by rw [upd_ne nlT]; exact hil
    have hFia2 : (upd Fi T0 (.tup [.int (i : Nat), .ref d])) a = none := by rw [upd_ne naT]; exact hFia
    have hFil2 : (upd Fi T0 (.tup [.int (i : Nat), .ref d])) ls = none := by rw [upd_ne nlT]; exact hFil
    generalize (upd Fi T0 (.tup [.int (i : Nat), .ref d])) = Fj at *
    generalize (upd H' T0 (.tup [.int (i : Nat), .ref d])) = Hj at *
    refine ⟨_, rfl, a, DC, dx, _, _, rfl, hia2, T.dc, T.steps, rfl, .inl ⟨rfl, _, .inl (.inl hil2)⟩, _, rfl, _, rfl, _, rfl, _, rfl, as, _, rfl, .inl (same_l (gT.ff.trans gT.fh) sas), ?_⟩
    have hdl : ((ds.map V.ref).length : Int) = ((pd.gvs.length : Nat) : Int) := by rw [List.length_map, hlen]
    rw [hdl]
    refine ⟨Fj, a, dx, _, .ref lb, .ref ll, d, (i : Int), pd.gvs.length, pd.btn, pd.lmp, gv, rfl, gT.fh, hia2, rfl, rfl, dp_same ((e5.trans eT).trans gT.fh) _ _ dlb4, dp_same ((e5.trans eT).trans gT.fh) _ _ dll, hgiv.mono gT.ff, hok.gv gv (mem_at hgv), hok.ll, fun p F7 H7 g7 hp hdf => ?_⟩
    have hil7 := g7.same _ _ hil2
    refine ⟨ls, _, _, rfl, rfl, hil7, ?_, F7, es ++ [p], _, _, rfl, ?_, ?_, g7.hid hil2 hFil2, ?_, ?_, (e5.trans eT).trans g7.ff, ?_⟩
    · have := hes.length
      rw [List.length_take] at this
      rw [List.length_map]
      have := lt_at hgv
      have := hok.gl
      exact bigS (by omega)
    · exact (gT.trans g7.w0).set (g7.hid hil2 hFil2) (.inr hls0)
    · exact g7.hid hia2 hFia2
    · rw [upd_ne hals]; exact g7.same _ _ hia2
    · rw [upd_same, List.map_append]; rfl
    · rw [take_at hgv]
      exact paired_app (paired_mono (fun e gv h => h.mono (eT.trans g7.ff)) hes) (.cons hdf .nil)
  · rintro σ H' ⟨Fi, es, x4, x5, rfl, g, hFia, hFil, hia, hil, e5, hes⟩
    rw [List.length_map, hlen, List.take_length] at hes
    have ep := pub_same g.fh hil
    refine hQ _ H' (.ref lb) (.ref ll) (.ref ls) (g.pub hil hls0) (by rw [upd_ne hals]; exact hFia) hia (dp_same (e5.trans ep) _ _ dlb4) (dp_same (e5.trans ep) _ _ dll) ⟨ls, _, rfl, .inl (.inl (upd_same ..)), by rw [List.length_map, List.length_map, hes.length], fun k x hx => ?_⟩
    obtain ⟨e, he, rfl⟩ := get_map hx
    obtain ⟨gv, hgv, hdf⟩ := paired_getE hes he
    exact ⟨e, _, rfl, by rw [List.getElem?_map, hgv]; rfl, hdf.mono ep⟩
end
end S3

/-! ### P20: what a case chooses, its table -/
namespace S3
open PySem PySem.Spec PyProof.Rows L2
def chosen (known : List Str) : Option (List Str) → List Str
  | none => known
  | some ls => known.filter fun x => decide (x ∈ ls)
def ChV (K : PySem.W.Frag) (H : Hp) (known : List Str) (v : V) : Option (List Str) → Prop
  | none => v = .non
  | some ls => Dp K H v (pW ls) ∧ ls.length < 1000 ∧ ∀ x ∈ ls, x ∈ known
theorem ChV.mono {K : PySem.W.Frag} {H H' : Hp} {known : List Str} {v : V} (e : Same H H') : ∀ {o : Option (List Str)}, ChV K H known v o → ChV K H' known v o
  | none, h => h
  | some _, h => ⟨dp_same e _ _ h.1, h.2⟩
def caseStep (lmp ws : List Str) (gv : GV) (b : Str) : Option PyData := (gv.lookup b).map fun p => .tuple [.int p.1, pA ((lmp.filter fun x => decide (x ∈ p.2)).filter fun x => decide (x ∈ ws))]
section
variable {P : Program} {w : World} {K : PySem.W.Frag} {mg : Str → Option Value} {base : Heap} {CC DC UB HF : Addr}
abbrev s_cl : Stmt := top 13
abbrev nm_cl : List Str := ["device", "lamps", "known", "lamp"]
theorem sc_cl : FnScope nm_cl ["device", "lamps"] (defScope s_cl) := ⟨rfl, rfl, rfl, by decide +kernel, rfl, by decide +kernel, by decide +kernel⟩
/- slots: 0 device 1 lamps 2 known 3 lamp -/
def spCl (K : PySem.W.Frag) (DC : Addr) : Sp := fun vs H Q _ => ∃ s dv v o, vs = [s, v] ∧ DevAt K DC H s dv ∧ ChV K H dv.lmp v o ∧ dv.lmp.length < 1000 ∧ ∀ p H', Same H H' → H p = none → H' p = some (.lst ((chosen dv.lmp o).map V.str)) → Q (.ref p) H'
theorem cal_cl (D : DefX K mg "chosen_lamps" s_cl) (T : Tx K mg CC DC) (cLmp : Prp P w K mg base 1 DC "lamps" (spDLmp K DC)) : C8.Cal P w K mg base 3 "chosen_lamps" (spCl K DC) [] := by
  refine calD (ps := ["device", "lamps"]) D (fun _ _ _ _ _ _ us hl => match us, hl with | [_, _], _ => rfl) sc_cl ?_ ?_
  · rintro vs H Q E ⟨s, dv, v, o, rfl, _⟩; rfl
  rintro f cdv A outer s0 H vs Q E hr ⟨s, dv, v, o, rfl, hs, hch, hz, hQ⟩
  refine ⟨_, (pss_cons (ps_set (i := 2) sc_cl.nd rfl (.inl rfl) (pe_pr cLmp hr (by decide) (pv 0)))
      (pss_cons (ps_if (pt_cmpR op_isN (pv 1) pe_non (nomark _))
      (pss_one (ps_ret (pv 2)))
      pss_nil)
      (pss_cons (ps_for PassesOwn.never rfl (pi_listK K rfl (pv 1)) (pg_name (i := 3) sc_cl.nd rfl (.inl rfl))
      (pss_one (ps_if (pt_cmpR (op_notIn_seqK K rfl) (pv 3) (pv 2) rfl)
        (pss_one (ps_never))
        pss_nil)))
      (pss_one (ps_ret (pe_lc (own := [("lamp", 3)]) (g := (gName 3))  rfl sc_cl.nd (pi_listK K rfl (pv 2)) (blkOk_by (own := [("lamp", 3)]) (N := nm_cl) (sc := defScope s_cl) (by decide +kernel)) (fun _ _ _ _ _ => (pg_name (i := 3) sc_cl.nd rfl (.inl rfl))) (fun _ _ _ _ _ => pts_one (pt_cmpR (op_in_seqK K rfl) (pv 3) (pv 1) rfl)) (fun _ _ _ _ _ => (pv 3)))))))), ?_⟩
  have hs' := hs
  obtain ⟨a, dx, b, l, t, rfl, h2, _⟩ := hs'
  refine ⟨_, rfl, a, dx, _, rfl, h2, _, dv, rfl, hs, fun p hp => ?_⟩
  have hpn : Same H (upd H p (.lst (dv.lmp.map V.str))) := same_new hp
  cases o with
  | none =>
    have hv : v = .non := hch
    subst hv
    exact ⟨_, rfl, rfl, _, rfl, yesV ⟨_, rfl, hQ p _ hpn hp (upd_same ..)⟩⟩
  | some ls =>
    obtain ⟨hv, hlz, hin⟩ := hch
    obtain ⟨al, rfl, sal⟩ := dp_strs hv
    refine ⟨_, rfl, rfl, _, rfl, noV (fun z => nomatch z) ?_⟩
    refine ⟨_, rfl, al, rfl, ⟨_, same_l hpn sal⟩, for_list (K := K) (a := al) (xs := ls.map V.str) (fun i σ H' => ∃ x3, σ = [some (.ref a), some (.ref al), some (.ref p), x3] ∧ H' = upd H p (.lst (dv.lmp.map V.str))) ⟨_, rfl, rfl⟩ ?_ ?_ ?_⟩
    · rintro i σ H' _ ⟨x3, rfl, rfl⟩
      exact same_l hpn sal
    · rintro i x σ H' hx ⟨x3, rfl, rfl⟩
      obtain ⟨lm, hlm, rfl⟩ := get_map hx
      refine ⟨_, rfl, _, rfl, p, _, rfl, .inl (.inl (.inl (upd_same ..))), rfl, flat_strs _, _, rfl, ?_⟩
      rw [if_pos rfl, inV_str, decide_eq_true (hin lm (mem_at hlm))]
      exact iteF ⟨_, rfl, rfl⟩
    · rintro σ H' ⟨x3, rfl, rfl⟩
      refine ⟨_, rfl, p, rfl, ⟨_, .inl (.inl (upd_same ..))⟩, fun L hL => lc_list (K := K) (a := p) (xs := dv.lmp.map V.str) (PvS (upd H p (.lst (dv.lmp.map V.str))) L fun k acc => acc = ((dv.lmp.take k).filter fun x => decide (x ∈ ls)).map V.str) (PvS.zero hL rfl) (fun k H3 _ h => .inl (.inl (h.1 _ _ (upd_same ..)))) ?_ ?_⟩
      · rintro k y H3 hy ⟨e, acc, hacc, hl, r⟩
        obtain ⟨lm, hlm, rfl⟩ := get_map hy
        refine ⟨rfl, _, rfl, _, rfl, al, _, rfl, .inl (same_l (hpn.trans e) sal), rfl, flat_strs _, _, rfl, ?_⟩
        rw [if_neg Bool.false_ne_true, inV_str]
        refine ite2 (fun hc => ?_) (fun hc => ?_)
        · refine ⟨_, rfl, PvS.snoc hL e hacc hl (by have := lt_at hlm; omega) (.refl _) ?_⟩
          rw [r, filter_take_at hlm, if_pos hc, List.map_append]; rfl
        · refine PvS.skip e hacc hl (.refl _) ?_
          rw [r, filter_take_at hlm, if_neg hc, List.append_nil]
      · rintro H3 ⟨e, acc, hacc, hl, r⟩
        rw [List.length_map, List.take_length] at r
        exact hQ L H3 (hpn.trans e) (same_none hpn hL) (by rw [hacc, r]; rfl)
abbrev s_cb : Stmt := top 14
abbrev nm_cb : List Str := ["device", "buttons", "known", "button"]
theorem sc_cb : FnScope nm_cb ["device", "buttons"] (defScope s_cb) := ⟨rfl, rfl, rfl, by decide +kernel, rfl, by decide +kernel, by decide +kernel⟩
/- slots: 0 device 1 buttons 2 known 3 button -/
def spCb (K : PySem.W.Frag) (DC : Addr) : Sp := fun vs H Q _ => ∃ s dv v o, vs = [s, v] ∧ DevAt K DC H s dv ∧ ChV K H dv.btn v o ∧ dv.btn.length < 1000 ∧ ∀ p H', Same H H' → H p = none → H' p = some (.lst ((chosen dv.btn o).map V.str)) → Q (.ref p) H'
theorem cal_cb (D : DefX K mg "chosen_buttons" s_cb) (T : Tx K mg CC DC) (cBtn : Prp P w K mg base 1 DC "buttons" (spDBtn K DC)) : C8.Cal P w K mg base 3 "chosen_buttons" (spCb K DC) [] := by
  refine calD (ps := ["device", "buttons"]) D (fun _ _ _ _ _ _ us hl => match us, hl with | [_, _], _ => rfl) sc_cb ?_ ?_
  · rintro vs H Q E ⟨s, dv, v, o, rfl, _⟩; rfl
  rintro f cdv A outer s0 H vs Q E hr ⟨s, dv, v, o, rfl, hs, hch, hz, hQ⟩
  refine ⟨_, (pss_cons (ps_set (i := 2) sc_cb.nd rfl (.inl rfl) (pe_pr cBtn hr (by decide) (pv 0)))
      (pss_cons (ps_if (pt_cmpR op_isN (pv 1) pe_non (nomark _))
      (pss_one (ps_ret (pv 2)))
      pss_nil)
      (pss_cons (ps_for PassesOwn.never rfl (pi_listK K rfl (pv 1)) (pg_name (i := 3) sc_cb.nd rfl (.inl rfl))
      (pss_one (ps_if (pt_cmpR (op_notIn_seqK K rfl) (pv 3) (pv 2) rfl)
        (pss_one (ps_never))
        pss_nil)))
      (pss_one (ps_ret (pe_lc (own := [("button", 3)]) (g := (gName 3))  rfl sc_cb.nd (pi_listK K rfl (pv 2)) (blkOk_by (own := [("button", 3)]) (N := nm_cb) (sc := defScope s_cb) (by decide +kernel)) (fun _ _ _ _ _ => (pg_name (i := 3) sc_cb.nd rfl (.inl rfl))) (fun _ _ _ _ _ => pts_one (pt_cmpR (op_in_seqK K rfl) (pv 3) (pv 1) rfl)) (fun _ _ _ _ _ => (pv 3)))))))), ?_⟩
  have hs' := hs
  obtain ⟨a, dx, b, l, t, rfl, h2, _⟩ := hs'
  refine ⟨_, rfl, a, dx, _, rfl, h2, _, dv, rfl, hs, fun p hp => ?_⟩
  have hpn : Same H (upd H p (.lst (dv.btn.map V.str))) := same_new hp
  cases o with
  | none =>
    have hv : v = .non := hch
    subst hv
    exact ⟨_, rfl, rfl, _, rfl, yesV ⟨_, rfl, hQ p _ hpn hp (upd_same ..)⟩⟩
  | some ls =>
    obtain ⟨hv, hlz, hin⟩ := hch
    obtain ⟨al, rfl, sal⟩ := dp_strs hv
    refine ⟨_, rfl, rfl, _, rfl, noV (fun z => nomatch z) ?_⟩
    refine ⟨_, rfl, al, rfl, ⟨_, same_l hpn sal⟩, for_list (K := K) (a := al) (xs := ls.map V.str) (fun i σ H' => ∃ x3, σ = [some (.ref a), some (.ref al), some (.ref p), x3] ∧ H' = upd H p (.lst (dv.btn.map V.str))) ⟨_, rfl, rfl⟩ ?_ ?_ ?_⟩
    · rintro i σ H' _ ⟨x3, rfl, rfl⟩
      exact same_l hpn sal
    · rintro i x σ H' hx ⟨x3, rfl, rfl⟩
      obtain ⟨lm, hlm, rfl⟩ := get_map hx
      refine ⟨_, rfl, _, rfl, p, _, rfl, .inl (.inl (.inl (upd_same ..))), rfl, flat_strs _, _, rfl, ?_⟩
      rw [if_pos rfl, inV_str, decide_eq_true (hin lm (mem_at hlm))]
      exact iteF ⟨_, rfl, rfl⟩
    · rintro σ H' ⟨x3, rfl, rfl⟩
      refine ⟨_, rfl, p, rfl, ⟨_, .inl (.inl (upd_same ..))⟩, fun L hL => lc_list (K := K) (a := p) (xs := dv.btn.map V.str) (PvS (upd H p (.lst (dv.btn.map V.str))) L fun k acc => acc = ((dv.btn.take k).filter fun x => decide (x ∈ ls)).map V.str) (PvS.zero hL rfl) (fun k H3 _ h => .inl (.inl (h.1 _ _ (upd_same ..)))) ?_ ?_⟩
      · rintro k y H3 hy ⟨e, acc, hacc, hl, r⟩
        obtain ⟨lm, hlm, rfl⟩ := get_map hy
        refine ⟨rfl, _, rfl, _, rfl, al, _, rfl, .inl (same_l (hpn.trans e) sal), rfl, flat_strs _, _, rfl, ?_⟩
        rw [if_neg Bool.false_ne_true, inV_str]
        refine ite2 (fun hc => ?_) (fun hc => ?_)
        · refine ⟨_, rfl, PvS.snoc hL e hacc hl (by have := lt_at hlm; omega) (.refl _) ?_⟩
          rw [r, filter_take_at hlm, if_pos hc, List.map_append]; rfl
        · refine PvS.skip e hacc hl (.refl _) ?_
          rw [r, filter_take_at hlm, if_neg hc, List.append_nil]
      · rintro H3 ⟨e, acc, hacc, hl, r⟩
        rw [List.length_map, List.take_length] at r
        exact hQ L H3 (hpn.trans e) (same_none hpn hL) (by rw [hacc, r]; rfl)
abbrev s_so : Stmt := top 15
abbrev nm_so : List Str := ["device", "watched", "table", "entries", "steps", "button", "after", "lit", "lamp"]
theorem sc_so : FnScope nm_so ["device", "watched"] (defScope s_so) := ⟨rfl, rfl, rfl, by decide +kernel, rfl, by decide +kernel, by decide +kernel⟩
/- slots: 0 device 1 watched 2 table 3 entries 4 steps 5 button 6 after 7 lit 8 lamp -/
def spSo (K : PySem.W.Frag) (DC : Addr) : Sp := fun vs H Q _ => ∃ F s wv pd ws, vs = [s, wv] ∧ Same F H ∧ DevAt K DC F s (PD.dv pd) ∧ PdOk pd ∧ Dp K H wv (pW ws) ∧ ∀ p F' H', Gr N0 F H F' H' → TabF K F' (.ref p) (pd.gvs.map (caseStep pd.lmp ws)) → Q (.ref p) H'
theorem cal_so (D : DefX K mg "steps_of" s_so) (T : Tx K mg CC DC) (cSt : Prp P w K mg base 2 DC "states" (spDst K DC)) : C8.Cal P w K mg base 4 "steps_of" (spSo K DC) [] := by
  refine calD (ps := ["device", "watched"]) D (fun _ _ _ _ _ _ us hl => match us, hl with | [_, _], _ => rfl) sc_so ?_ ?_
  · rintro vs H Q E ⟨F, s, wv, pd, ws, rfl, _⟩; rfl
  rintro f cdv A outer s0 H vs Q E hr ⟨F, s, wv, pd, ws, rfl, hF, hs, hok, hw, hQ⟩
  have hu := up 1 hr
  refine ⟨_, (pss_cons (ps_set (i := 2) sc_so.nd rfl (.inl rfl) (pe_lst pa_nil))
      (pss_cons (ps_for PassesOwn.never rfl (pi_listK K rfl (pe_pr cSt hr (by decide) (pv 0))) (pg_name (i := 3) sc_so.nd rfl (.inl rfl))
      (pss_cons (ps_set (i := 4) sc_so.nd rfl (.inl rfl) pe_dnewK)
        (pss_cons (ps_for PassesOwn.never rfl (pi_listK K rfl (pv 3)) (pg_tupK K rfl 3 rfl (pgs_cons (pg_name (i := 5) sc_so.nd rfl (.inl rfl)) (pgs_cons (pg_name (i := 6) sc_so.nd rfl (.inl rfl)) (pgs_cons (pg_name (i := 7) sc_so.nd rfl (.inl rfl)) pgs_nil))))
        (pss_one (ps_dput hu (pv 4) (pv 5) (pe_tup (pa_cons (pv 6) (pa_cons (pe_callTy (call_tuple_ofK K rfl) (by rfl) T.tuple (by decide +kernel) (pa_cons (pe_lc (own := [("lamp", 8)]) (g := (gName 8))  rfl sc_so.nd (pi_listK K rfl (pv 7)) (blkOk_by (own := [("lamp", 8)]) (N := nm_so) (sc := defScope s_so) (by decide +kernel)) (fun _ _ _ _ _ => (pg_name (i := 8) sc_so.nd rfl (.inl rfl))) (fun _ _ _ _ _ => pts_one (pt_cmpR (op_in_seqK K rfl) (pv 8) (pv 1) rfl)) (fun _ _ _ _ _ => (pv 8))) pa_nil)) pa_nil))) rfl)))
        (pss_one (ps_expr (pe_bmK K rfl PySem.F.plainAttrs_list PySem.F.slot_list_append PySem.F.type_list_append mt_append (pv 2) (pa_cons (pv 4) pa_nil)))))))
      (pss_one (ps_ret (pv 2))))), ?_⟩
  have hs' := hs
  obtain ⟨a, dx, b, l, t, rfl, h2, _⟩ := hs'
  obtain ⟨aw, rfl, saw⟩ := dp_strs hw
  have hbl := hok.bl
  have hgl := hok.gl
  refine ⟨Nat.zero_le _, fun tl htl => ?_⟩
  have g0 : Gr N0 F H F (upd H tl (.lst [])) := (Gr.refl hF).lay htl
  refine ⟨_, rfl, a, dx, _, rfl, g0.fh _ _ h2, F, _, pd, rfl, g0.fh, hs, by omega, by omega, fun p F1 H1 g1 hp => ?_⟩
  obtain ⟨p', xs, ep, hsq, hda⟩ := dp_list hp
  injection ep with ep
  subst ep
  have hxl := dpa_len hda
  rw [List.length_map] at hxl
  have htl1 : H1 tl = some (.lst []) := g1.same _ _ (upd_same ..)
  have hFtl : F1 tl = none := g1.hid (upd_same ..) (same_none hF htl)
  have g01 := g0.trans g1
  refine ⟨p, rfl, ⟨_, same_l g1.fh hsq⟩, for_list (K := K) (a := p) (xs := xs) (fun i σ H' => ∃ Fi, ∃ ds : List Addr, ∃ x3 x4 x5 x6 x7, σ = [some (.ref a), some (.ref aw), some (.ref tl), x3, x4, x5, x6, x7, none] ∧ Gr N0 F H Fi H' ∧ Same F1 Fi ∧ Fi tl = none ∧ H' tl = some (.lst (ds.map V.ref)) ∧ Paired (fun d gv => DictF K Fi d (caseStep pd.lmp ws gv)) ds (pd.gvs.take i)) ⟨F1, [], none, none, none, none, none, rfl, g01, .refl _, hFtl, htl1, .nil⟩ ?_ ?_ ?_⟩
  · rintro i σ H' _ ⟨Fi, ds, x3, x4, x5, x6, x7, rfl, g, e1, _⟩
    exact same_l (e1.trans g.fh) hsq
  · rintro i x σ H' hx ⟨Fi, ds, x3, x4, x5, x6, x7, rfl, g, e1, hFi, hti, hds⟩
    obtain ⟨gv, hgv, dgv⟩ := dpa_at hda hx
    obtain ⟨ae, es, rfl, sae, dae⟩ := dp_list dgv
    have hel := dpa_len dae
    rw [List.length_map] at hel
    obtain ⟨gnd, glen, gok⟩ := hok.gv gv (mem_at hgv)
    have hel2 : (entries pd.lmp gv pd.btn).length ≤ 10 := Nat.le_trans (List.length_filterMap_le ..) hbl
    refine fun d hd => ?_
    have g2 : Gr N0 Fi H' Fi (upd H' d (.dK [])) := (Gr.refl g.fh).lay hd
    have hd0 : H d = none := g.fresh hd
    have hst0 : StpAt K Fi (upd H' d (.dK [])) d [] (caseStep pd.lmp ws gv) := ⟨⟨[], upd_same .., Nat.le_refl _, fun b => by rw [if_neg (by simp)]; exact True.intro⟩, same_none g.fh hd⟩
    refine ⟨_, rfl, ae, rfl, ⟨_, same_l (e1.trans g2.fh) sae⟩, for_list (K := K) (a := ae) (xs := es) (fun j σ H2 => ∃ Fj x5 x6 x7, σ = [some (.ref a), some (.ref aw), some (.ref tl), some (.ref ae), some (.ref d), x5, x6, x7, none] ∧ Gr N0 Fi H' Fj H2 ∧ StpAt K Fj H2 d (((entries pd.lmp gv pd.btn).take j).map (·.1)) (caseStep pd.lmp ws gv)) ⟨Fi, _, _, _, rfl, g2, by rw [List.take_zero]; exact hst0⟩ ?_ ?_ ?_⟩
    · rintro j σ H2 _ ⟨Fj, x5, x6, x7, rfl, gj, _⟩
      exact same_l ((e1.trans gj.ff).trans gj.fh) sae
    · rintro j y σ H2 hy ⟨Fj, x5, x6, x7, rfl, gj, hst⟩
      obtain ⟨en, hen, den⟩ := dpa_at dae hy
      obtain ⟨te, tes, rfl, ste, dte⟩ := dp_tup den
      obtain ⟨eb, eaf, elit⟩ := en
      have hdte : ∃ lv, tes = [.str eb, .int eaf, lv] ∧ Dp K F1 lv (pW elit) := by
        cases dte with
        | cons q1 q2 =>
          cases q2 with
          | cons q3 q4 =>
            cases q4 with
            | cons q5 q6 =>
              cases q6
              rw [dp_str q1, dp_int q3]
              exact ⟨_, rfl, q5⟩
      obtain ⟨lv, rfl, hlv⟩ := hdte
      obtain ⟨al, rfl, sal⟩ := dp_strs hlv
      have hmem : ∃ p, gv.lookup eb = some p ∧ eaf = p.1 ∧ elit = pd.lmp.filter fun x => decide (x ∈ p.2) := by
        have h1 := mem_at hen
        unfold entries at h1
        obtain ⟨b0, hb0, hb1⟩ := List.mem_filterMap.mp h1
        cases hlk : gv.lookup b0 with
        | none => rw [hlk] at hb1; cases hb1
        | some p =>
          rw [hlk] at hb1
          have hb2 : (b0, p.1, pd.lmp.filter fun x => decide (x ∈ p.2)) = (eb, eaf, elit) := by simpa using hb1
          injection hb2 with q1 q2
          injection q2 with q2 q3
          subst q1 q2 q3
          exact ⟨p, hlk, rfl, rfl⟩
      obtain ⟨pp, hlk, rfl, rfl⟩ := hmem
      have gA := g.trans gj
      have eF1 : Same F1 H2 := (e1.trans gj.ff).trans gj.fh
      refine ⟨te, _, rfl, same_t eF1 ste, rfl, _, _, rfl, _, _, rfl, _, _, rfl, rfl, ?_⟩
      have hll : (pd.lmp.filter fun x => decide (x ∈ pp.2)).length ≤ 10 := Nat.le_trans (List.length_filter_le ..) hok.ll
      refine ⟨_, rfl, _, rfl, al, rfl, ⟨_, same_l eF1 sal⟩, fun L hL => lc_list (K := K) (a := al) (xs := (pd.lmp.filter fun x => decide (x ∈ pp.2)).map V.str) (PvS H2 L fun k acc => acc = (((pd.lmp.filter fun x => decide (x ∈ pp.2)).take k).filter fun x => decide (x ∈ ws)).map V.str) (PvS.zero hL rfl) (fun k H3 _ h => same_l (eF1.trans h.1) sal) ?_ ?_⟩
      · rintro k y H3 hy ⟨e, acc, hacc, hl, r⟩
        obtain ⟨lm, hlm, rfl⟩ := get_map hy
        refine ⟨rfl, _, rfl, _, rfl, aw, _, rfl, .inl (same_l (gA.same.trans e) saw), rfl, flat_strs _, _, rfl, ?_⟩
        rw [if_neg Bool.false_ne_true, inV_str]
        refine ite2 (fun hc => ?_) (fun hc => ?_)
        · refine ⟨_, rfl, PvS.snoc hL e hacc hl (by have := lt_at hlm; omega) (.refl _) ?_⟩
          rw [r, filter_take_at hlm, if_pos hc, List.map_append]; rfl
        · refine PvS.skip e hacc hl (.refl _) ?_
          rw [r, filter_take_at hlm, if_neg hc, List.append_nil]
      · rintro H3 ⟨e, acc, hacc, hl, r⟩
        rw [List.length_map, List.take_length] at r
        refine ⟨L, acc, rfl, .inl ⟨.inl (.inl hacc), fun t ht => ⟨(by show 2 ≤ sizeLine; decide), fun tt htt => ?_⟩⟩⟩
        have g3 : Gr N0 Fj H2 Fj H3 := (Gr.refl gj.fh).ext e
        have g4 := g3.new (o := .tup acc) ht
        have g5 := g4.new (o := .tup [.int pp.1, .ref t]) htt
        have hst5 := hst.ext g5
        have hne : t ≠ tt := ne_of_none (upd_same ..) htt
        have hdp : Dp K (upd (upd Fj t (.tup acc)) tt (.tup [.int pp.1, .ref t])) (.ref tt) (.tuple [.int pp.1, pA ((pd.lmp.filter fun x => decide (x ∈ pp.2)).filter fun x => decide (x ∈ ws))]) := by
          refine .tup (.inl (.inl (upd_same ..))) (.cons (.int _) (.cons (.tup (.inl (.inl ?_)) (dpa_strs _)) .nil))
          rw [upd_ne hne, upd_same, r]
        obtain ⟨H6, hput, hst6, o, rfl⟩ := hst5.put (b := eb) (by rw [List.length_map, List.length_take]; omega) hdp (by unfold caseStep; rw [hlk]; rfl)
        refine ⟨_, rfl, _, rfl, d, _, rfl, hput, _, _, _, _, rfl, (gj.trans g5).set hst5.fd (.inr hd), by rw [map_take_at hen]; exact hst6⟩
    · rintro σ H2 ⟨Fj, x5, x6, x7, rfl, gj, hst⟩
      rw [hel, List.take_length] at hst
      obtain ⟨F2, g2', e2, hdf⟩ := hst.done (fun b hb => by
        unfold caseStep
        cases hlk : gv.lookup b with
        | none => rfl
        | some p =>
          exfalso
          refine hb ?_
          have hbm := lookup_some hlk
          have hbb := (gok _ hbm).1
          exact List.mem_map.mpr ⟨(b, p.1, pd.lmp.filter fun x => decide (x ∈ p.2)), List.mem_filterMap.mpr ⟨b, hbb, by rw [hlk]; rfl⟩, rfl⟩) gj hd
      have hti2 := g2'.same _ _ hti
      have hFi2 := g2'.hid hti hFi
      have gg := g.trans g2'
      refine ⟨_, rfl, .inl ⟨rfl, _, .inl (.inl hti2)⟩, _, rfl, tl, _, _, rfl, rfl, hti2, ?_, F2, ds ++ [d], _, _, _, _, _, rfl, gg.set hFi2 (.inr htl), e1.trans g2'.ff, hFi2, by rw [List.map_append]; exact upd_same .., ?_⟩
      · have := hds.length
        rw [List.length_take] at this
        rw [List.length_map]
        exact bigS (by omega)
      · rw [take_at hgv]
        exact paired_app (paired_mono (fun d gv h => h.mono g2'.ff) hds) (.cons hdf .nil)
  · rintro σ H' ⟨Fi, ds, x3, x4, x5, x6, x7, rfl, g, e1, hFi, hti, hds⟩
    rw [hxl, List.take_length] at hds
    refine ⟨_, rfl, hQ tl _ H' (g.pub hti htl) ⟨tl, _, rfl, .inl (.inl (upd_same ..)), by rw [List.length_map, List.length_map, hds.length], fun k x hx => ?_⟩⟩
    obtain ⟨e, he, rfl⟩ := get_map hx
    obtain ⟨gv, hgv, hdf⟩ := paired_getE hds he
    exact ⟨e, _, rfl, by rw [List.getElem?_map, hgv]; rfl, hdf.mono (pub_same g.fh hti)⟩
end
end S3

/-! ### P21: cases -/
namespace S3
open PySem PySem.Spec PyProof.Rows L2
theorem cr_sortedSetK {X : Cx} (w : World) (hw : X.w = w) (hc : X.calm = true) : CallR X (.builtin "sorted") (rSortedSet w) := by subst hw; exact cr_sortedSet hc
/-- a class whose __init__ takes two keywords behind n values -/
structure MakC (P : Program) (w : World) (K : PySem.W.Frag) (mg : Str → Option Value) (base : Heap) (k : Nat) (C : Addr) (sp : Sp) : Prop where
  ex : ∃ f fd ps, Mk K C f ∧ FnOk P w K mg base CX0 k f fd ps sp ∧ mg "Case" = some (.ref C) ∧ KBn K fd ps 3 [("lamps" : Str), ("buttons" : Str)] (fun us ws => us ++ ws) (fun vs zs => vs ++ zs)
theorem pe_mkC {X : Cx} {k j : Nat} {C : Addr} {sp : Sp} {e : Expr} {es : List Expr} {kws : List Keyword} {t tk : TA} {p pos : Pos} (c : MakC X.prog X.w X.K X.mg X.base k C sp) (hr : Room j X.A) (hk : k + 1 ≤ j) (hg : Gl X "Case") (ha : PA X (e :: es) t) (hkw : PK X kws tk)
    (hall : (backToKw pos (keywordEach kws X.env)).all (·.1.isSome) = true := by rfl) (hks : (backToKw pos (keywordEach kws X.env)).filterMap (·.1) = [("lamps" : Str), ("buttons" : Str)] := by rfl)
    (he : starEach (e :: es) X.env = (false, eval e X.env) :: starEach es X.env := by rfl) (hpl : ((backTo pos (starEach (e :: es) X.env)).any (·.1) || (backToKw pos (keywordEach kws X.env)).any (·.1.isNone)) = false := by rfl) :
    PE X (.Call (.Name "Case" p) (e :: es) kws pos) (tMakeK C 2 2 sp (fun vs zs => vs ++ zs) E0 t tk) := by
  obtain ⟨f, fd, ps, M, F, hm, hb⟩ := c.ex
  exact pe_makeK M F (hr.mono hk) hg hm hb L2.pass0 ha hkw hall hks (by decide) he hpl
/-- the case of a device, its possible states, watched lamps, usable buttons -/
def mkCS (pd : PD) (poss : List Int) (wd us : List Str) : CS := ⟨pd.gvs.length, poss, wd, us, fun i b => ((pd.gvs.getD i.toNat []).lookup b).map fun p => (p.1, wd.filter fun x => decide (x ∈ p.2))⟩
theorem chosen_filter {known : List Str} (o : Option (List Str)) (p : Str → Bool) : (known.filter p).filter (fun x => decide (x ∈ chosen known o)) = (chosen known o).filter p := by
  cases o with
  | none =>
    show (known.filter p).filter (fun x => decide (x ∈ known)) = known.filter p
    rw [List.filter_eq_self]
    intro x hx
    exact decide_eq_true (List.mem_filter.mp hx).1
  | some ls =>
    show (known.filter p).filter (fun x => decide (x ∈ known.filter fun x => decide (x ∈ ls))) = (known.filter fun x => decide (x ∈ ls)).filter p
    rw [List.filter_filter, List.filter_filter]
    refine List.filter_congr fun x hx => ?_
    by_cases h : x ∈ ls
    · simp [h, hx]
    · simp [h]
theorem caseStep_eq {pd : PD} {o : Option (List Str)} {poss : List Int} {us : List Str} {gv : GV} {i : Nat} (h : pd.gvs[i]? = some gv) (b : Str) : caseStep pd.lmp (chosen pd.lmp o) gv b = pStep ((mkCS pd poss (chosen pd.lmp o) us).step (i : Int) b) := by
  have e : pd.gvs.getD ((i : Nat) : Int).toNat [] = gv := by
    rw [Int.toNat_natCast, List.getD_eq_getElem?_getD, h]; rfl
  show caseStep pd.lmp (chosen pd.lmp o) gv b = pStep (((pd.gvs.getD ((i : Nat) : Int).toNat []).lookup b).map _)
  rw [e]
  unfold caseStep
  cases gv.lookup b with
  | none => rfl
  | some p =>
    show some (PyData.tuple [PyData.int p.1, pA ((pd.lmp.filter fun x => decide (x ∈ p.2)).filter fun x => decide (x ∈ chosen pd.lmp o))]) = some (PyData.tuple [PyData.int p.1, pA ((chosen pd.lmp o).filter fun x => decide (x ∈ p.2))])
    rw [chosen_filter]
theorem tab_eq (pd : PD) (o : Option (List Str)) (poss : List Int) (us : List Str) : pd.gvs.map (caseStep pd.lmp (chosen pd.lmp o)) = (mkCS pd poss (chosen pd.lmp o) us).tab := by
  refine List.ext_getElem? fun i => ?_
  unfold CS.tab
  rw [List.getElem?_map, List.getElem?_map]
  by_cases hi : i < pd.gvs.length
  · rw [List.getElem?_eq_getElem hi, List.getElem?_range (show i < (mkCS pd poss (chosen pd.lmp o) us).n from hi)]
    show some _ = some _
    congr 1
    funext b
    exact caseStep_eq (List.getElem?_eq_getElem hi) b
  · rw [List.getElem?_eq_none (by omega), List.getElem?_eq_none (by rw [List.length_range]; exact Nat.le_of_not_lt hi)]
    rfl
theorem asc_uniq {a b : List Int} (h1 : a.Pairwise (· < ·)) (h2 : b.Pairwise (· < ·)) (h : ∀ x, x ∈ a ↔ x ∈ b) : a = b := by
  have n1 : a.Nodup := h1.imp fun h => Int.ne_of_lt h
  have n2 : b.Nodup := h2.imp fun h => Int.ne_of_lt h
  exact sorted_uniq ((List.perm_ext_iff_of_nodup n1 n2).mpr h) (lt_le h1) (lt_le h2)
section
variable {P : Program} {w : World} {K : PySem.W.Frag} {mg : Str → Option Value} {base : Heap} {CC DC UB HF : Addr}
abbrev s_ci : Stmt := inClass (top 23) 0
abbrev nm_ci : List Str := ["self", "device", "states", "lamps", "buttons", "state"]
theorem sc_ci : FnScope nm_ci ["self", "device", "states", "lamps", "buttons"] (defScope s_ci) := ⟨rfl, rfl, rfl, by decide +kernel, rfl, by decide +kernel, by decide +kernel⟩
/- slots: 0 self 1 device 2 states 3 lamps 4 buttons 5 state -/
def spCi (K : PySem.W.Frag) (CC DC : Addr) : Sp := fun vs H Q _ => ∃ F a dx dvv stv lv bv pd, ∃ sts poss : List Int, ∃ lo bo, vs = [.ref a, dvv, stv, lv, bv] ∧ Same F H ∧ F a = none ∧ H a = some (.ins CC dx []) ∧ DevAt K DC F dvv (PD.dv pd) ∧ PdOk pd ∧ Dp K F stv (.list (sts.map .int)) ∧ sts.length < 60 ∧ (∀ s ∈ sts, 0 ≤ s ∧ s < (pd.gvs.length : Int)) ∧ poss.Pairwise (· < ·) ∧ (∀ x : Int, x ∈ poss ↔ x ∈ sts) ∧
  ChV K F pd.lmp lv lo ∧ ChV K F pd.btn bv bo ∧
  ∀ F' H' p l u t, Gr (fun z => z = a) F H F' H' → F' a = none → H' a = some (.ins CC dx [("whole", dvv), ("possible", p), ("watched", l), ("usable", u), ("table", t)]) → Dp K F' p (.list (poss.map .int)) → Dp K F' l (pW (chosen pd.lmp lo)) → Dp K F' u (pW (chosen pd.btn bo)) → TabF K F' t (mkCS pd poss (chosen pd.lmp lo) (chosen pd.btn bo)).tab → Q .non H'
theorem fn_ci {f : Addr} {fd : FuncData} (FD : FunD K "__init__" "Case.__init__" (defArgs s_ci) (defBody s_ci) (defScope s_ci) [] [("lamps", .non), ("buttons", .non)] f fd) (T : Tx K mg CC DC) (cLen : C8.Met P w K mg base 1 DC "__len__" (spDLen K DC) []) (cCl : C8.Cal P w K mg base 3 "chosen_lamps" (spCl K DC) []) (cCb : C8.Cal P w K mg base 3 "chosen_buttons" (spCb K DC) []) (cSo : C8.Cal P w K mg base 4 "steps_of" (spSo K DC) []) :
    FnOk P w K mg base CX0 5 f fd ["self", "device", "states", "lamps", "buttons"] (spCi K CC DC) := by
  refine FunD.ok FD sc_ci ?_ ?_
  · rintro vs H Q E ⟨F, a, dx, dvv, stv, lv, bv, pd, sts, poss, lo, bo, rfl, _⟩; rfl
  rintro cdv A outer s0 H vs Q E hr ⟨F, a, dx, dvv, stv, lv, bv, pd, sts, poss, lo, bo, rfl, hF, hFa, hi, hdev, hok, hst, hsz, hsr, hpa, hpm, hlo, hbo, hQ⟩
  suffices hh : ∃ t, PSs (cxOf CX0 P w K mg base nm_ci "Case.__init__" (defScope s_ci) f cdv A outer s0 H E).nox (defBody s_ci) t ∧ t { nx := fun _ H' => Q .non H', rt := Q } (start nm_ci [.ref a, dvv, stv, lv, bv]) H by
    obtain ⟨t, h1, h2⟩ := hh
    exact ⟨t, h1.nox, h2⟩
  refine ⟨_, (pss_cons (ps_for PassesOwn.never rfl (pi_listK K rfl (pv 2)) (pg_name (i := 5) sc_ci.nd rfl (.inl rfl))
      (pss_one (ps_if (pt_not (pt_chain op_le op_lt pe_int (pv 5) (pe_callB (cr_lenOK K rfl cLen hr (by decide)) (by rfl) T.len (by decide +kernel) (pa_cons (pv 1) pa_nil))))
        (pss_one (ps_never))
        pss_nil)))
      (pss_cons (ps_fld (pv 0) (pv 1) rfl)
      (pss_cons (ps_fld (pv 0) (pe_callB (cr_sortedSetK w rfl rfl) (by rfl) T.sorted (by decide +kernel) (pa_cons (pe_callTy (cr_setLK w K rfl rfl rfl) (by rfl) T.set (by decide +kernel) (pa_cons (pv 2) pa_nil)) pa_nil)) rfl)
      (pss_cons (ps_fld (pv 0) (C8.pe_c cCl hr (by decide) rfl (pa_cons (pv 1) (pa_cons (pv 3) pa_nil))) rfl)
      (pss_cons (ps_fld (pv 0) (C8.pe_c cCb hr (by decide) rfl (pa_cons (pv 1) (pa_cons (pv 4) pa_nil))) rfl)
      (pss_one (ps_fld (pv 0) (C8.pe_c cSo hr (by decide) rfl (pa_cons (pv 1) (pa_cons (pe_fldK K rfl (pv 0) rfl) pa_nil))) rfl))))))), ?_⟩
  have hdev' := hdev
  obtain ⟨da, ddx, b, l, t, rfl, hdi, _⟩ := hdev'
  obtain ⟨ast, rfl, sst⟩ := dp_ints hst
  have hgl := hok.gl
  have hbl := hok.bl
  have hll := hok.ll
  have n12 : ("whole" : Str) ≠ "possible" := by decide
  have n13 : ("whole" : Str) ≠ "watched" := by decide
  have n14 : ("whole" : Str) ≠ "usable" := by decide
  have n15 : ("whole" : Str) ≠ "table" := by decide
  have n23 : ("possible" : Str) ≠ "watched" := by decide
  have n24 : ("possible" : Str) ≠ "usable" := by decide
  have n25 : ("possible" : Str) ≠ "table" := by decide
  have n34 : ("watched" : Str) ≠ "usable" := by decide
  have n35 : ("watched" : Str) ≠ "table" := by decide
  have n45 : ("usable" : Str) ≠ "table" := by decide
  refine ⟨_, rfl, ast, rfl, ⟨_, same_l hF sst⟩, for_list (K := K) (a := ast) (xs := sts.map V.int) (fun i σ H' => ∃ x5, σ = [some (.ref a), some (.ref da), some (.ref ast), some lv, some bv, x5] ∧ H' = H) ⟨none, rfl, rfl⟩ ?_ ?_ ?_⟩
  · rintro i σ H' _ ⟨x5, rfl, rfl⟩
    exact same_l hF sst
  · rintro i x σ H' hx ⟨x5, rfl, rfl⟩
    obtain ⟨s, hs, rfl⟩ := get_map hx
    obtain ⟨o1, o2⟩ := hsr s (mem_at hs)
    have hdl : (PD.dv pd).steps.length = pd.gvs.length := by show (pd.gvs.map _).length = _; rw [List.length_map]
    refine ⟨_, rfl, _, _, rfl, rfl, _, rfl, ?_⟩
    refine ite2 (fun _ => ?_) (fun h => absurd (decide_eq_true o1) h)
    refine ⟨_, rfl, da, ddx, _, rfl, hF _ _ hdi, _, PD.dv pd, rfl, hdev.mono hF, by omega, (PD.dv pd).steps.length, rfl, by omega, _, _, rfl, rfl, _, rfl, ?_⟩
    rw [decide_eq_true (show s < ((PD.dv pd).steps.length : Int) by omega)]
    exact iteF ⟨_, rfl, rfl⟩
  · rintro σ H' ⟨x5, rfl, rfl⟩
    refine ⟨_, rfl, _, rfl, a, CC, dx, [], rfl, hi, T.cc, T.whole, by show 0 < 1000; decide, ?_⟩
    rw [putF_nil]
    have g1 : Gr (fun z => z = a) F H' F (upd H' a (.ins CC dx [("whole", .ref da)])) := (Gr.refl hF).set hFa (.inl rfl)
    have hi1 : (upd H' a (.ins CC dx [("whole", .ref da)])) a = some (.ins CC dx [("whole", .ref da)]) := upd_same ..
    generalize (upd H' a (.ins CC dx [("whole", .ref da)])) = H1 at *
    refine ⟨_, rfl, ast, sts, rfl, same_l g1.fh sst, by omega, fun ps cN hps hcN => ?_⟩
    have hnaps : a ≠ ps := ne_of_none hi1 hps
    have g2 := g1.lay (o := SetO w ps (fun j => decide (j ∈ sts)) cN) hps
    refine ⟨ps, _, cN, rfl, upd_same .., by omega, fun ns p hns1 hns2 hns3 hp => ?_⟩
    have hns : ns = poss := asc_uniq hns1 hpa fun x => by rw [hns2, hpm, decide_eq_true_eq]
    subst hns
    have g3 := g2.new (o := .lst (ns.map V.int)) hp
    have hnap : a ≠ p := ne_of_none (by rw [upd_ne hnaps]; exact hi1) hp
    have hFp : F p = none := same_none g2.fh hp
    refine ⟨_, rfl, a, CC, dx, _, rfl, by rw [upd_ne hnap, upd_ne hnaps]; exact hi1, T.cc, T.possible, by show 1 < 1000; decide, ?_⟩
    rw [putF_one _ _ _ n12, putF_nil]
    have hF3a : (upd F p (.lst (ns.map V.int))) a = none := by rw [upd_ne hnap]; exact hFa
    have eF3 : Same F (upd F p (.lst (ns.map V.int))) := same_upd (.refl _) hFp
    have g4 := g3.set (o := .ins CC dx [("whole", .ref da), ("possible", .ref p)]) hF3a (.inl rfl)
    have dp3 : Dp K (upd F p (.lst (ns.map V.int))) (.ref p) (.list (ns.map .int)) := .lst (.inl (.inl (upd_same ..))) (dpa_ints _)
    have hi4 : (upd (upd (upd H1 ps (SetO w ps (fun j => decide (j ∈ sts)) cN)) p (.lst (ns.map V.int))) a (.ins CC dx [("whole", .ref da), ("possible", .ref p)])) a = some (.ins CC dx [("whole", .ref da), ("possible", .ref p)]) := upd_same ..
    generalize (upd F p (.lst (ns.map V.int))) = F3 at *
    generalize (upd (upd (upd H1 ps (SetO w ps (fun j => decide (j ∈ sts)) cN)) p (.lst (ns.map V.int))) a (.ins CC dx [("whole", .ref da), ("possible", .ref p)])) = H4 at *
    -- watched
    refine ⟨_, rfl, _, rfl, _, PD.dv pd, lv, lo, rfl, (hdev.mono eF3).mono g4.fh, ChV.mono (eF3.trans g4.fh) hlo, by show pd.lmp.length < 1000; omega, fun pl H5 e5 hpl hpl2 => ?_⟩
    have hnal : a ≠ pl := ne_of_none hi4 hpl
    have g5 := (g4.ext e5).pub hpl2 (g4.fresh hpl)
    have hF5a : (upd F3 pl (.lst ((chosen (PD.dv pd).lmp lo).map V.str))) a = none := by rw [upd_ne hnal]; exact hF3a
    have eF5 : Same F3 (upd F3 pl (.lst ((chosen (PD.dv pd).lmp lo).map V.str))) := same_upd (.refl _) (same_none g4.fh hpl)
    refine ⟨_, rfl, a, CC, dx, _, rfl, e5 _ _ hi4, T.cc, T.watched, by show 2 < 1000; decide, ?_⟩
    rw [putF_one _ _ _ n13, putF_one _ _ _ n23, putF_nil]
    have g6 := g5.set (o := .ins CC dx [("whole", .ref da), ("possible", .ref p), ("watched", .ref pl)]) hF5a (.inl rfl)
    have dl5 : Dp K (upd F3 pl (.lst ((chosen (PD.dv pd).lmp lo).map V.str))) (.ref pl) (pW (chosen pd.lmp lo)) := .lst (.inl (.inl (upd_same ..))) (dpa_strs _)
    have hi6 : (upd H5 a (.ins CC dx [("whole", .ref da), ("possible", .ref p), ("watched", .ref pl)])) a = some (.ins CC dx [("whole", .ref da), ("possible", .ref p), ("watched", .ref pl)]) := upd_same ..
    generalize (upd F3 pl (.lst ((chosen (PD.dv pd).lmp lo).map V.str))) = F5 at *
    generalize (upd H5 a (.ins CC dx [("whole", .ref da), ("possible", .ref p), ("watched", .ref pl)])) = H6 at *
    -- usable
    have eF05 := eF3.trans eF5
    refine ⟨_, rfl, _, rfl, _, PD.dv pd, bv, bo, rfl, (hdev.mono eF05).mono g6.fh, ChV.mono (eF05.trans g6.fh) hbo, by show pd.btn.length < 1000; omega, fun pb H7 e7 hpb hpb2 => ?_⟩
    have hnab : a ≠ pb := ne_of_none hi6 hpb
    have g7 := (g6.ext e7).pub hpb2 (g6.fresh hpb)
    have hF7a : (upd F5 pb (.lst ((chosen (PD.dv pd).btn bo).map V.str))) a = none := by rw [upd_ne hnab]; exact hF5a
    have eF7 : Same F5 (upd F5 pb (.lst ((chosen (PD.dv pd).btn bo).map V.str))) := same_upd (.refl _) (same_none g6.fh hpb)
    refine ⟨_, rfl, a, CC, dx, _, rfl, e7 _ _ hi6, T.cc, T.usable, by show 3 < 1000; decide, ?_⟩
    rw [putF_one _ _ _ n14, putF_one _ _ _ n24, putF_one _ _ _ n34, putF_nil]
    have g8 := g7.set (o := .ins CC dx [("whole", .ref da), ("possible", .ref p), ("watched", .ref pl), ("usable", .ref pb)]) hF7a (.inl rfl)
    have db7 : Dp K (upd F5 pb (.lst ((chosen (PD.dv pd).btn bo).map V.str))) (.ref pb) (pW (chosen pd.btn bo)) := .lst (.inl (.inl (upd_same ..))) (dpa_strs _)
    have hi8 : (upd H7 a (.ins CC dx [("whole", .ref da), ("possible", .ref p), ("watched", .ref pl), ("usable", .ref pb)])) a = some (.ins CC dx [("whole", .ref da), ("possible", .ref p), ("watched", .ref pl), ("usable", .ref pb)]) := upd_same ..
    generalize (upd F5 pb (.lst ((chosen (PD.dv pd).btn bo).map V.str))) = F7 at *
    generalize (upd H7 a (.ins CC dx [("whole", .ref da), ("possible", .ref p), ("watched", .ref pl), ("usable", .ref pb)])) = H8 at *
    -- table
    have eF07 := eF05.trans eF7
    refine ⟨_, rfl, _, rfl, a, CC, dx, _, _, rfl, hi8, T.cc, T.watched, rfl, F7, _, _, pd, chosen pd.lmp lo, rfl, g8.fh, hdev.mono eF07, hok, dp_same (eF7.trans g8.fh) _ _ dl5, fun pt F9 H9 g9 htab => ?_⟩
    have hi9 := g9.same _ _ hi8
    have hF9a := g9.hid hi8 hF7a
    refine ⟨_, rfl, a, CC, dx, _, rfl, hi9, T.cc, T.table, by show 4 < 1000; decide, ?_⟩
    rw [putF_one _ _ _ n15, putF_one _ _ _ n25, putF_one _ _ _ n35, putF_one _ _ _ n45, putF_nil]
    refine hQ F9 _ (.ref p) (.ref pl) (.ref pb) (.ref pt) ((g8.trans g9.w0).set hF9a (.inl rfl)) hF9a (upd_same ..) (dp_same (eF5.trans (eF7.trans g9.ff)) _ _ dp3) (dp_same (eF7.trans g9.ff) _ _ dl5) (dp_same g9.ff _ _ db7) ?_
    rw [← tab_eq]
    exact htab
end
end S3

/-! ### P22: making devices and cases; with_lamps, with_buttons -/
namespace S3
open PySem PySem.Spec PyProof.Rows L2
theorem TabF.dv {K : PySem.W.Frag} {F : Hp} {t : V} {pd : PD} (h : TabF K F t (pd.gvs.map (devStep pd.lmp))) : TabF K F t (PD.dv pd).steps := h
section
variable {K : PySem.W.Frag} {CC DC : Addr}
/-- what C(..) of Case asks and gives -/
theorem made_case {F H : Hp} {dvv stv lv bv : V} {pd : PD} {sts poss : List Int} {lo bo : Option (List Str)} {Q : VK} (hF : Same F H) (hdev : DevAt K DC F dvv (PD.dv pd)) (hok : PdOk pd) (hst : Dp K F stv (.list (sts.map .int))) (hsz : sts.length < 60) (hsr : ∀ s ∈ sts, 0 ≤ s ∧ s < (pd.gvs.length : Int)) (hpa : poss.Pairwise (· < ·)) (hpm : ∀ x : Int, x ∈ poss ↔ x ∈ sts)
    (hlo : ChV K F pd.lmp lv lo) (hbo : ChV K F pd.btn bv bo) (h : ∀ v F' H', Gr N0 F H F' H' → CaseAt K CC DC F' v (mkCS pd poss (chosen pd.lmp lo) (chosen pd.btn bo)) (PD.dv pd) → Q v H') :
    ∀ x dx, H x = none → H dx = none → dx ≠ x → spCi K CC DC [.ref x, dvv, stv, lv, bv] (upd (upd H dx (.own x)) x (.ins CC dx [])) (fun v H3 => v = .non ∧ Q (.ref x) H3) E0 := by
  intro x dx hx hdx hne
  have hFx := same_none hF hx
  have hFdx := same_none hF hdx
  refine ⟨F, x, dx, dvv, stv, lv, bv, pd, sts, poss, lo, bo, rfl, same_upd (same_upd hF hFdx) hFx, hFx, upd_same .., hdev, hok, hst, hsz, hsr, hpa, hpm, hlo, hbo, fun F' H' p l u t g hFa hi dp dl du dt => ⟨rfl, ?_⟩⟩
  have g2 := (g.made hx hdx hF).pub hi hx
  have e2 : Same F' (upd F' x (.ins CC dx [("whole", dvv), ("possible", p), ("watched", l), ("usable", u), ("table", t)])) := pub_same g.fh hi
  have hl : (PD.dv pd).steps.length = pd.gvs.length := by show (pd.gvs.map _).length = _; rw [List.length_map]
  exact h _ _ H' g2 ⟨x, dx, dvv, p, l, u, t, rfl, upd_same .., hdev.mono (g.ff.trans e2), hl, dp_same e2 _ _ dp, dp_same e2 _ _ dl, dp_same e2 _ _ du, dt.mono e2⟩
theorem made_dev {F H : Hp} {ab al as : Addr} {ds : List Addr} {pd : PD} {Q : VK} (hF : Same F H) (hb : SqL K F ab (pd.btn.map V.str)) (hl : SqL K F al (pd.lmp.map V.str)) (hs : SqL K F as (ds.map V.ref)) (hds : Paired (fun d gv => GivAt K F d gv) ds pd.gvs) (hok : PdOk pd)
    (h : ∀ v F' H', Gr N0 F H F' H' → DevAt K DC F' v (PD.dv pd) → Q v H') :
    ∀ x dx, H x = none → H dx = none → dx ≠ x → spDi K DC [.ref x, .ref ab, .ref al, .ref as] (upd (upd H dx (.own x)) x (.ins DC dx [])) (fun v H3 => v = .non ∧ Q (.ref x) H3) E0 := by
  intro x dx hx hdx hne
  have hFx := same_none hF hx
  have hFdx := same_none hF hdx
  refine ⟨F, x, dx, ab, al, as, ds, pd, rfl, same_upd (same_upd hF hFdx) hFx, hFx, upd_same .., hb, hl, hs, hds, hok, fun F' H' b l t g hFa hi db dl dt => ⟨rfl, ?_⟩⟩
  have g2 := (g.made hx hdx hF).pub hi hx
  have e2 : Same F' (upd F' x (.ins DC dx [("button_names", b), ("lamp_names", l), ("steps", t)])) := pub_same g.fh hi
  exact h _ _ H' g2 ⟨x, dx, b, l, t, rfl, upd_same .., dp_same e2 _ _ db, dp_same e2 _ _ dl, dt.dv.mono e2⟩
end
section
variable {P : Program} {w : World} {K : PySem.W.Frag} {mg : Str → Option Value} {base : Heap} {CC DC UB HF : Addr}
abbrev s_wl : Stmt := inClass (top 23) 11
abbrev nm_wl : List Str := ["self", "lamps"]
theorem sc_wl : FnScope nm_wl ["self", "lamps"] (defScope s_wl) := ⟨rfl, rfl, rfl, by decide +kernel, rfl, by decide +kernel, by decide +kernel⟩
/- slots: 0 self 1 lamps -/
def spWl (K : PySem.W.Frag) (CC DC : Addr) : Sp := fun vs H Q _ => ∃ F s lv c pd lo, vs = [s, lv] ∧ Same F H ∧ CaseAt K CC DC F s c (PD.dv pd) ∧ PdOk pd ∧ c.poss.length < 60 ∧ (∀ s ∈ c.poss, 0 ≤ s ∧ s < (pd.gvs.length : Int)) ∧ c.poss.Pairwise (· < ·) ∧ c.usable.length < 1000 ∧ (∀ x ∈ c.usable, x ∈ pd.btn) ∧ ChV K F pd.lmp lv lo ∧
  ∀ v F' H', Gr N0 F H F' H' → CaseAt K CC DC F' v (mkCS pd c.poss (chosen pd.lmp lo) (chosen pd.btn (some c.usable))) (PD.dv pd) → Q v H'
theorem met_wl (D : MetX K CC "with_lamps" "Case.with_lamps" s_wl) (T : Tx K mg CC DC) (cCase : MakC P w K mg base 5 CC (spCi K CC DC)) : C8.Met P w K mg base 7 CC "with_lamps" (spWl K CC DC) [] := by
  refine metD (ps := ["self", "lamps"]) D (fun _ _ _ _ _ _ us hl => match us, hl with | [_, _], _ => rfl) sc_wl ?_ ?_
  · rintro vs H Q E ⟨F, s, lv, c, pd, lo, rfl, _⟩; rfl
  rintro f cdv A outer s0 H vs Q E hr ⟨F, s, lv, c, pd, lo, rfl, hF, hs, hok, hpz, hpr, hpa, hul, hus, hlo, hQ⟩
  refine ⟨_, (pss_one (ps_ret (pe_mkC cCase hr (by decide) rfl (pa_cons (pe_fldK K rfl (pv 0) rfl) (pa_cons (pe_fldK K rfl (pv 0) rfl) pa_nil)) (pk_cons (pv 1) (pk_cons (pe_fldK K rfl (pv 0) rfl) pk_nil))))), ?_⟩
  obtain ⟨as, dx, w1, p1, l1, u1, t1, rfl, hi, hw, _, hp, hl, hu, _⟩ := hs
  refine ⟨_, rfl, as, CC, dx, _, _, rfl, hF _ _ hi, T.cc, T.whole, rfl, _, rfl, as, CC, dx, _, _, rfl, hF _ _ hi, T.cc, T.possible, rfl, _, rfl, _, rfl, as, CC, dx, _, _, rfl, hF _ _ hi, T.cc, T.usable, rfl, rfl, rfl, ?_⟩
  exact made_case (bo := some c.usable) hF hw hok hp hpz hpr hpa (fun x => Iff.rfl) hlo ⟨hu, hul, hus⟩ hQ
abbrev s_wb : Stmt := inClass (top 23) 12
abbrev nm_wb : List Str := ["self", "buttons"]
theorem sc_wb : FnScope nm_wb ["self", "buttons"] (defScope s_wb) := ⟨rfl, rfl, rfl, by decide +kernel, rfl, by decide +kernel, by decide +kernel⟩
/- slots: 0 self 1 buttons -/
def spWb (K : PySem.W.Frag) (CC DC : Addr) : Sp := fun vs H Q _ => ∃ F s bv c pd bo, vs = [s, bv] ∧ Same F H ∧ CaseAt K CC DC F s c (PD.dv pd) ∧ PdOk pd ∧ c.poss.length < 60 ∧ (∀ s ∈ c.poss, 0 ≤ s ∧ s < (pd.gvs.length : Int)) ∧ c.poss.Pairwise (· < ·) ∧ c.lamps.length < 1000 ∧ (∀ x ∈ c.lamps, x ∈ pd.lmp) ∧ ChV K F pd.btn bv bo ∧
  ∀ v F' H', Gr N0 F H F' H' → CaseAt K CC DC F' v (mkCS pd c.poss (chosen pd.lmp (some c.lamps)) (chosen pd.btn bo)) (PD.dv pd) → Q v H'
theorem met_wb (D : MetX K CC "with_buttons" "Case.with_buttons" s_wb) (T : Tx K mg CC DC) (cCase : MakC P w K mg base 5 CC (spCi K CC DC)) : C8.Met P w K mg base 7 CC "with_buttons" (spWb K CC DC) [] := by
  refine metD (ps := ["self", "buttons"]) D (fun _ _ _ _ _ _ us hl => match us, hl with | [_, _], _ => rfl) sc_wb ?_ ?_
  · rintro vs H Q E ⟨F, s, bv, c, pd, bo, rfl, _⟩; rfl
  rintro f cdv A outer s0 H vs Q E hr ⟨F, s, bv, c, pd, bo, rfl, hF, hs, hok, hpz, hpr, hpa, hll, hls, hbo, hQ⟩
  refine ⟨_, (pss_one (ps_ret (pe_mkC cCase hr (by decide) rfl (pa_cons (pe_fldK K rfl (pv 0) rfl) (pa_cons (pe_fldK K rfl (pv 0) rfl) pa_nil)) (pk_cons (pe_fldK K rfl (pv 0) rfl) (pk_cons (pv 1) pk_nil))))), ?_⟩
  obtain ⟨as, dx, w1, p1, l1, u1, t1, rfl, hi, hw, _, hp, hl, hu, _⟩ := hs
  refine ⟨_, rfl, as, CC, dx, _, _, rfl, hF _ _ hi, T.cc, T.whole, rfl, _, rfl, as, CC, dx, _, _, rfl, hF _ _ hi, T.cc, T.possible, rfl, _, rfl, as, CC, dx, _, _, rfl, hF _ _ hi, T.cc, T.watched, rfl, _, rfl, rfl, rfl, ?_⟩
  exact made_case (lo := some c.lamps) hF hw hok hp hpz hpr hpa (fun x => Iff.rfl) ⟨hl, hll, hls⟩ hbo hQ
/-- the class Case as it stands behind the top -/
structure CaseX (K : PySem.W.Frag) (mg : Str → Option Value) (CC : Addr) : Prop where
  ex : ∃ f fd, FunD K "__init__" "Case.__init__" (defArgs s_ci) (defBody s_ci) (defScope s_ci) [] [("lamps", .non), ("buttons", .non)] f fd ∧ Mk K CC f ∧ mg "Case" = some (.ref CC)
theorem mak_case (D : CaseX K mg CC) (T : Tx K mg CC DC) (cLen : C8.Met P w K mg base 1 DC "__len__" (spDLen K DC) []) (cCl : C8.Cal P w K mg base 3 "chosen_lamps" (spCl K DC) []) (cCb : C8.Cal P w K mg base 3 "chosen_buttons" (spCb K DC) []) (cSo : C8.Cal P w K mg base 4 "steps_of" (spSo K DC) []) : MakC P w K mg base 5 CC (spCi K CC DC) := by
  obtain ⟨f, fd, F, M, hm⟩ := D.ex
  obtain ⟨mv, hb⟩ := F.kbinds0 (ps := ["self", "device", "states", "lamps", "buttons"]) 3 ["lamps", "buttons"] [] (fun us _ ws => us ++ ws) (fun z => nomatch z) (fun q hq => by cases hq) (fun r1 _ r2 => r1.append r2) (fun D doc pm an cdv ct us mv ws h1 h2 h3 => match us, mv, ws, h1, h2, h3 with | [_, _, _], [], [_, _], _, _, _ => rfl)
  exact ⟨f, fd, _, M, fn_ci F T cLen cCl cCb cSo, hm, hb⟩
structure DevX (K : PySem.W.Frag) (mg : Str → Option Value) (DC : Addr) : Prop where
  ex : ∃ f fd, FunT K "__init__" "Device.__init__" s_di f fd ∧ Mk K DC f ∧ mg "Device" = some (.ref DC)
theorem mak_dev (D : DevX K mg DC) (T : Tx K mg CC DC) (cCn : C8.Cal P w K mg base 2 "check_names" (spCn K) []) (cCs : C8.Cal P w K mg base 1 "checked_steps" (spCs K DC) []) : C8.Mak P w K mg base 3 "Device" DC (spDi K DC) [] := by
  obtain ⟨f, fd, F, M, hm⟩ := D.ex
  obtain ⟨h1, h2⟩ := fn_di (P := P) (w := w) (mg := mg) (base := base) (CC := CC) F T cCn cCs
  exact ⟨f, fd, _, [], M, h1, hm, h2, .nil⟩
end
end S3

/-! ### L1: the law's model; a press, as the law asks it -/
namespace S3
open PySem PySem.Spec PyProof.Rows L2
structure MD where
  pd : PD
  order : List Int
  poss : List Int
  watched : List Str
  usable : List Str
  way : Int
def MD.cs (m : MD) : CS := mkCS m.pd m.poss m.watched m.usable
structure ModAt (K : PySem.W.Frag) (F : Hp) (d : Addr) (m : MD) : Prop where
  ex : ∃ kvs, F d = some (.dK kvs) ∧
    (∃ a, valV kvs (Sum.inr "pushes") = some (.ref a) ∧ F a = some (.lst (m.pd.btn.map V.str))) ∧
    (∃ a, valV kvs (Sum.inr "lights") = some (.ref a) ∧ F a = some (.lst (m.pd.lmp.map V.str))) ∧
    (∃ a, ∃ ds : List Addr, valV kvs (Sum.inr "steps") = some (.ref a) ∧ F a = some (.lst (ds.map V.ref)) ∧ Paired (fun d gv => GivAt K F d gv) ds m.pd.gvs) ∧
    (∃ a, valV kvs (Sum.inr "order") = some (.ref a) ∧ F a = some (.lst (m.order.map V.int))) ∧
    (∃ v, valV kvs (Sum.inr "start") = some v ∧ Dp K F v (pB m.cs.start)) ∧
    (∃ a, valV kvs (Sum.inr "watched") = some (.ref a) ∧ F a = some (.lst (m.watched.map V.str))) ∧
    (∃ a, valV kvs (Sum.inr "usable") = some (.ref a) ∧ F a = some (.lst (m.usable.map V.str))) ∧
    valV kvs (Sum.inr "way") = some (.int m.way)
theorem paired_giv {K : PySem.W.Frag} {F F' : Hp} {ds : List Addr} {gvs : List GV} (h : Paired (fun d gv => GivAt K F d gv) ds gvs) (e : Same F F') : Paired (fun d gv => GivAt K F' d gv) ds gvs := paired_mono (fun d gv q => q.mono e) h
section
variable {K : PySem.W.Frag} {F F' H : Hp} {d : Addr} {m : MD}
theorem ModAt.mono (h : ModAt K F d m) (e : Same F F') : ModAt K F' d m := by
  obtain ⟨kvs, h0, ⟨a1, h1, h1'⟩, ⟨a2, h2, h2'⟩, ⟨a3, ds, h3, h3', h3''⟩, ⟨a4, h4, h4'⟩, ⟨v5, h5, h5'⟩, ⟨a6, h6, h6'⟩, ⟨a7, h7, h7'⟩, h8⟩ := h.ex
  exact ⟨kvs, e _ _ h0, ⟨a1, h1, e _ _ h1'⟩, ⟨a2, h2, e _ _ h2'⟩, ⟨a3, ds, h3, e _ _ h3', paired_giv h3'' e⟩, ⟨a4, h4, e _ _ h4'⟩, ⟨v5, h5, dp_same e _ _ h5'⟩, ⟨a6, h6, e _ _ h6'⟩, ⟨a7, h7, e _ _ h7'⟩, h8⟩
theorem dget_s {kvs : List (Key × V)} {k : Str} {v : V} (h : H d = some (.dK kvs)) (e : valV kvs (Sum.inr k) = some v) : DGet H d (.str k) (some v) := by
  rw [← e]; exact DGet.k (k := Sum.inr k) h
theorem ModAt.pus (h : ModAt K F d m) (e : Same F H) : ∃ a, DGet H d (.str "pushes") (some (.ref a)) ∧ F a = some (.lst (m.pd.btn.map V.str)) := by
  obtain ⟨kvs, h0, ⟨a, h1, h2⟩, _⟩ := h.ex
  exact ⟨a, dget_s (e _ _ h0) h1, h2⟩
theorem ModAt.lig (h : ModAt K F d m) (e : Same F H) : ∃ a, DGet H d (.str "lights") (some (.ref a)) ∧ F a = some (.lst (m.pd.lmp.map V.str)) := by
  obtain ⟨kvs, h0, _, ⟨a, h1, h2⟩, _⟩ := h.ex
  exact ⟨a, dget_s (e _ _ h0) h1, h2⟩
theorem ModAt.stp (h : ModAt K F d m) (e : Same F H) : ∃ a, ∃ ds : List Addr, DGet H d (.str "steps") (some (.ref a)) ∧ F a = some (.lst (ds.map V.ref)) ∧ Paired (fun d gv => GivAt K F d gv) ds m.pd.gvs := by
  obtain ⟨kvs, h0, _, _, ⟨a, ds, h1, h2, h3⟩, _⟩ := h.ex
  exact ⟨a, ds, dget_s (e _ _ h0) h1, h2, h3⟩
theorem ModAt.ord (h : ModAt K F d m) (e : Same F H) : ∃ a, DGet H d (.str "order") (some (.ref a)) ∧ F a = some (.lst (m.order.map V.int)) := by
  obtain ⟨kvs, h0, _, _, _, ⟨a, h1, h2⟩, _⟩ := h.ex
  exact ⟨a, dget_s (e _ _ h0) h1, h2⟩
theorem ModAt.sta (h : ModAt K F d m) (e : Same F H) : ∃ v, DGet H d (.str "start") (some v) ∧ Dp K F v (pB m.cs.start) := by
  obtain ⟨kvs, h0, _, _, _, _, ⟨v, h1, h2⟩, _⟩ := h.ex
  exact ⟨v, dget_s (e _ _ h0) h1, h2⟩
theorem ModAt.wat (h : ModAt K F d m) (e : Same F H) : ∃ a, DGet H d (.str "watched") (some (.ref a)) ∧ F a = some (.lst (m.watched.map V.str)) := by
  obtain ⟨kvs, h0, _, _, _, _, _, ⟨a, h1, h2⟩, _⟩ := h.ex
  exact ⟨a, dget_s (e _ _ h0) h1, h2⟩
theorem ModAt.usa (h : ModAt K F d m) (e : Same F H) : ∃ a, DGet H d (.str "usable") (some (.ref a)) ∧ F a = some (.lst (m.usable.map V.str)) := by
  obtain ⟨kvs, h0, _, _, _, _, _, _, ⟨a, h1, h2⟩, _⟩ := h.ex
  exact ⟨a, dget_s (e _ _ h0) h1, h2⟩
theorem ModAt.wy (h : ModAt K F d m) (e : Same F H) : DGet H d (.str "way") (some (.int m.way)) := by
  obtain ⟨kvs, h0, _, _, _, _, _, _, _, h1⟩ := h.ex
  exact dget_s (e _ _ h0) h1
theorem valV_nokey {kvs : List (Key × V)} {k : Key} (h : k ∉ kvs.map (·.1)) : valV kvs k = none := by
  induction kvs with
  | nil => rfl
  | cons p kvs ih =>
    rw [List.map_cons, List.mem_cons, not_or] at h
    rw [valV_neg (fun z => h.1 z.symm)]
    exact ih h.2
theorem GivAt.get {gv : GV} (h : GivAt K F d gv) (hn : (gv.map (·.1)).Nodup) (e : Same F H) (b : Str) : ∃ o, DGet H d (.str b) o ∧ ((gv.lookup b = none ∧ o = none) ∨ ∃ p v, gv.lookup b = some p ∧ o = some v ∧ Dp K F v (.tuple [.int p.1, pW p.2])) := by
  obtain ⟨kvs, h1, h2, h3⟩ := h
  refine ⟨_, DGet.k (k := Sum.inr b) (e _ _ h1), ?_⟩
  cases hl : gv.lookup b with
  | none =>
    refine .inl ⟨rfl, valV_nokey fun hm => ?_⟩
    rw [h2] at hm
    obtain ⟨x, hx, ex⟩ := List.mem_map.mp hm
    injection ex with ex
    subst ex
    obtain ⟨q, hq, rfl⟩ := List.mem_map.mp hx
    rw [lookup_mem hn hq] at hl
    cases hl
  | some p =>
    obtain ⟨v, hv1, hv2⟩ := h3 (b, p) (lookup_some hl)
    exact .inr ⟨p, v, rfl, hv1, hv2⟩
end
structure MdOk (m : MD) : Prop where
  pd : PdOk m.pd
  cs : CaseOk m.cs
  us : ∀ x ∈ m.usable, x ∈ m.pd.btn
  wt : ∀ x ∈ m.watched, x ∈ m.pd.lmp
  op : m.order.Perm m.poss
theorem paired_dq {α β : Type} {R : α → β → Prop} {l : List α} {m : List β} (h : Paired R l m) {j : Nat} {b : β} (hb : m[j]? = some b) : ∃ a, l[j]? = some a ∧ R a b := by
  have hl : j < l.length := by rw [h.length]; exact lt_at hb
  obtain ⟨b', h1, h2⟩ := paired_getE h (List.getElem?_eq_getElem hl)
  rw [hb] at h1
  rw [← Option.some.inj h1] at h2
  exact ⟨_, List.getElem?_eq_getElem hl, h2⟩
theorem MD.step_at {m : MD} {i : Int} {gv : GV} (h0 : 0 ≤ i) (h : m.pd.gvs[i.toNat]? = some gv) (b : Str) : m.cs.step i b = (gv.lookup b).map fun p => (p.1, m.watched.filter fun x => decide (x ∈ p.2)) := by
  show ((m.pd.gvs.getD i.toNat []).lookup b).map _ = _
  rw [List.getD_eq_getElem?_getD, h]
  rfl
section
variable {P : Program} {w : World} {K : PySem.W.Frag} {mg : Str → Option Value} {base : Heap} {CC DC : Addr}
abbrev s_lpr : Stmt := top 59
abbrev nm_lpr : List Str := ["_law_model_here", "_law_belief", "_law_button", "_law_found", "_law_first", "_law_now", "_law_after_here", "_law_lit", "_law_answer", "_law_lamp"]
theorem sc_lpr : FnScope nm_lpr ["_law_model_here", "_law_belief", "_law_button"] (defScope s_lpr) := ⟨rfl, rfl, rfl, by decide +kernel, rfl, by decide +kernel, by decide +kernel⟩
/- slots: 0 _law_model_here 1 _law_belief 2 _law_button 3 _law_found 4 _law_first 5 _law_now 6 _law_after_here 7 _law_lit 8 _law_answer 9 _law_lamp -/
def spLpr (K : PySem.W.Frag) : Sp := fun vs H Q _ => ∃ F d b btn m bel, vs = [.ref d, b, .str btn] ∧ Same F H ∧ ModAt K F d m ∧ MdOk m ∧ Dp K H b (pB bel) ∧ NowOk m.cs.n bel ∧ bel.length < 1000 ∧
  ((btn ∈ m.usable → harmB (m.cs.st btn) bel = true → ∀ p ts bs F' H', Gr N0 F H F' H' → H p = none → F' p = none → H' p = some (.lst ts) → TsAt K F' ts bs → OwnB K F' H H' bs (partsB (m.cs.st btn) bel) → Q (.ref p) H') ∧
   ((btn ∉ m.usable ∨ harmB (m.cs.st btn) bel = false) → ∀ H', Same H H' → Q .non H'))
theorem cal_lpr (D : DefX K mg "_law_press" s_lpr) (T : Tx K mg CC DC) : C8.Cal P w K mg base 1 "_law_press" (spLpr K) [] := by
  refine calD (ps := ["_law_model_here", "_law_belief", "_law_button"]) D (fun _ _ _ _ _ _ us hl => match us, hl with | [_, _, _], _ => rfl) sc_lpr ?_ ?_
  · rintro vs H Q E ⟨F, d, b, btn, m, bel, rfl, _⟩; rfl
  rintro f cdv A outer s0 H vs Q E hr ⟨F, dm, b, btn, m, bel, rfl, hF, hm, hmo, hb, hok, hz, hQ, hN⟩
  have hu := up 1 hr
  have hu9 := up 9 hr
  have hu40 := up 40 hr
  refine ⟨_, (pss_cons (ps_if (pt_cmpR (op_notIn_seqK K rfl) (pv 2) (pe_dget hu (pv 0) pe_str (fun _ _ => rfl)) rfl)
      (pss_one (ps_ret pe_non))
      pss_nil)
      (pss_cons (ps_set (i := 3) sc_lpr.nd rfl (.inr rfl) pe_nnew)
      (pss_cons (ps_for PassesOwn.never rfl (pi_listK K rfl (pv 1)) (pg_tupK K rfl 2 rfl (pgs_cons (pg_name (i := 4) sc_lpr.nd rfl (.inl rfl)) (pgs_cons (pg_name (i := 5) sc_lpr.nd rfl (.inl rfl)) pgs_nil)))
      (pss_cons (ps_if (pt_cmp (pc_dnotin hu (pv 2) (pe_ix (ix_listK K rfl) (pe_dget hu (pv 0) pe_str (fun _ _ => rfl)) (pv 5) (fun _ _ => rfl))) rfl)
        (pss_one (ps_ret pe_non))
        pss_nil)
        (pss_cons (ps_asg (pe_dget hu (pe_ix (ix_listK K rfl) (pe_dget hu (pv 0) pe_str (fun _ _ => rfl)) (pv 5) (fun _ _ => rfl)) (pv 2) (fun _ _ => rfl)) (pg_tupK K rfl 2 rfl (pgs_cons (pg_name (i := 6) sc_lpr.nd rfl (.inl rfl)) (pgs_cons (pg_name (i := 7) sc_lpr.nd rfl (.inr rfl)) pgs_nil))))
        (pss_cons (ps_set (i := 8) sc_lpr.nd rfl (.inl rfl) (pe_callTy (call_tuple_ofK K rfl) (by rfl) T.tuple (by decide +kernel) (pa_cons (pe_lc (own := [("_law_lamp", 9)]) (g := (gName 9))  rfl sc_lpr.nd (pi_listK K rfl (pe_dget hu (pv 0) pe_str (fun _ _ => rfl))) (blkOk_by (own := [("_law_lamp", 9)]) (N := nm_lpr) (sc := defScope s_lpr) (by decide +kernel)) (fun _ _ _ _ _ => (pg_name (i := 9) sc_lpr.nd rfl (.inl rfl))) (fun _ _ _ _ _ => pts_one (pt_cmpR (op_in_seqK K rfl) (pv 9) (pv 7) rfl)) (fun _ _ _ _ _ => (pv 9))) pa_nil)))
        (C8.pss_cut (ps_if (pt_cmp (pc_nnotinK P w K rfl rfl rfl hu9 (pv 8) (pv 3)) rfl)
        (pss_one (ps_nput hu9 (pv 3) (pv 8) (pe_lst pa_nil) rfl))
        pss_nil)
        (pss_one (ps_expr (pe_bmK K rfl PySem.F.plainAttrs_list PySem.F.slot_list_append PySem.F.type_list_append mt_append (pe_ngetK P w K rfl rfl rfl hu9 (pv 3) (pv 8) (fun _ _ => rfl)) (pa_cons (pe_tup (pa_cons (pv 4) (pa_cons (pv 6) pa_nil))) pa_nil)))))))))
      (pss_one (ps_ret (pe_lc (own := [("_law_answer", 8)]) (g := (gName 8))  rfl sc_lpr.nd (pi_listK K rfl (pe_callB (cr_sortNT P w K rfl rfl rfl rfl hu40) (by rfl) T.sorted (by decide +kernel) (pa_cons (pv 3) pa_nil))) (blkOk_by (own := [("_law_answer", 8)]) (N := nm_lpr) (sc := defScope s_lpr) (by decide +kernel)) (fun _ _ _ _ _ => (pg_name (i := 8) sc_lpr.nd rfl (.inl rfl))) (fun _ _ _ _ _ => pts_nil) (fun _ _ _ _ _ => (pe_tup (pa_cons (pe_callTy (call_list_ofK K rfl) (by rfl) T.list (by decide +kernel) (pa_cons (pv 8) pa_nil)) (pa_cons (pe_ngetK P w K rfl rfl rfl hu9 (pv 3) (pv 8) (fun _ _ => rfl)) pa_nil)))))))))), ?_⟩
  obtain ⟨ab, xs, rfl, sb, db⟩ := dp_list hb
  have hlen := dpa_len db
  rw [List.length_map] at hlen
  obtain ⟨au, hud, hua⟩ := hm.usa hF
  refine ⟨_, rfl, _, rfl, dm, _, rfl, hud, au, _, rfl, .inl (.inl (.inl (hF _ _ hua))), rfl, flat_strs _, _, rfl, ?_⟩
  rw [if_pos rfl, inV_str]
  refine ite2 (fun hnu => hN (.inl (by simpa using hnu)) H (.refl _)) (fun hnu => ?_)
  have husb : btn ∈ m.usable := by simpa using hnu
  refine fun d hd => ⟨_, rfl, ab, rfl, ⟨_, same_l (same_new hd) sb⟩, for_list (K := K) (a := ab) (xs := xs) (fun i σ Hi => ∃ Fi zs x1 x2 x3 x4 x5, σ = [some (.ref dm), some (.ref ab), some (.str btn), some (.ref d), x1, x2, x3, x4, x5, none] ∧ Gr N0 F H Fi Hi ∧ PartsAt P w K Fi H Hi d zs ∧ zs.map (·.2.2) = (bel.take i).foldl (partStep (m.cs.st btn)) [] ∧ (bel.take i).all (fun p => (m.cs.st btn p.2).isSome) = true) ?_ ?_ ?_ ?_⟩
  · exact ⟨F, [], none, none, none, none, none, rfl, (Gr.refl hF).lay hd, PartsAt.new (same_none hF hd), rfl, by simp⟩
  · rintro i σ Hi _ ⟨Fi, zs, x1, x2, x3, x4, x5, rfl, g, hp, he, _⟩
    exact same_l g.same sb
  · rintro i x σ Hi hx ⟨Fi, zs, x1, x2, x3, x4, x5, rfl, g, hp, he, hall⟩
    obtain ⟨p, hp1, dp⟩ := dpa_at db hx
    obtain ⟨t, rfl, st⟩ := dp_pP dp
    obtain ⟨h0, h1⟩ := hok p (mem_at hp1)
    have e2 : Same F Hi := g.ff.trans g.fh
    obtain ⟨asx, ds, hsd, hsa, hsp⟩ := hm.stp e2
    have hlt : p.2.toNat < m.pd.gvs.length := by
      have : m.cs.n = m.pd.gvs.length := rfl
      omega
    have hgv : m.pd.gvs[p.2.toNat]? = some m.pd.gvs[p.2.toNat] := List.getElem?_eq_getElem hlt
    generalize m.pd.gvs[p.2.toNat] = gv at hgv
    obtain ⟨dd, hdd, hgiv⟩ := paired_dq hsp hgv
    have hgok := hmo.pd.gv gv (mem_at hgv)
    have hat : atI (ds.map V.ref) p.2 = some (.ref dd) := by
      have := atI_nat (xs := ds.map V.ref) (j := p.2.toNat) (v := .ref dd) (by rw [List.getElem?_map, hdd]; rfl)
      rwa [Int.toNat_of_nonneg h0] at this
    obtain ⟨o, hgo, hcase⟩ := hgiv.get hgok.1 e2 btn
    have hstp : m.cs.st btn p.2 = (gv.lookup btn).map fun q => (q.1, m.watched.filter fun x => decide (x ∈ q.2)) := MD.step_at h0 hgv btn
    refine ⟨t, _, rfl, same_t g.same st, rfl, _, _, rfl, _, _, rfl, rfl, ?_⟩
    refine ⟨_, rfl, _, rfl, dm, _, rfl, hsd, _, rfl, asx, _, p.2, .ref dd, rfl, rfl, .inl (.inl (e2 _ _ hsa)), hat, dd, o, rfl, hgo, _, rfl, ?_⟩
    rcases hcase with ⟨hlk, rfl⟩ | ⟨q, v, hlk, rfl, hv⟩
    · have hnh : harmB (m.cs.st btn) bel = false := by
        rw [Bool.eq_false_iff]
        intro ha
        have := List.all_eq_true.mp ha p (mem_at hp1)
        rw [hstp, hlk] at this
        cases this
      exact iteT (hN (.inr hnh) _ g.same)
    · refine iteF ?_
      rw [hlk] at hstp
      obtain ⟨tv, ys, rfl, sv, dv2⟩ := dp_tup hv
      obtain ⟨y1, y2, rfl, hy1, hy2⟩ := dpa_pair dv2
      obtain rfl := dp_int hy1
      obtain ⟨al, rfl, sal⟩ := dp_strs hy2
      refine ⟨_, rfl, dm, _, rfl, hsd, _, rfl, asx, _, p.2, .ref dd, rfl, rfl, .inl (.inl (e2 _ _ hsa)), hat, _, rfl, dd, _, rfl, hgo, tv, _, rfl, same_t e2 sv, rfl, _, _, rfl, _, _, rfl, rfl, ?_⟩
      obtain ⟨aw, hwd, hwa⟩ := hm.wat e2
      have hwl := hmo.cs.lm
      have hwl' : m.watched.length ≤ 10 := hwl
      refine ⟨_, rfl, dm, _, rfl, hwd, aw, rfl, ⟨_, .inl (.inl (e2 _ _ hwa))⟩, fun L hL => lc_list (K := K) (a := aw) (xs := m.watched.map V.str) (PvS Hi L fun k acc => acc = ((m.watched.take k).filter fun x => decide (x ∈ q.2)).map V.str) (PvS.zero hL rfl) (fun k H3 _ h => .inl (.inl (h.1 _ _ (e2 _ _ hwa)))) ?_ ?_⟩
      · rintro k y H3 hy ⟨e, acc, hacc, hl, r⟩
        obtain ⟨lm, hlm, rfl⟩ := get_map hy
        refine ⟨rfl, _, rfl, _, rfl, al, _, rfl, .inl (same_l (e2.trans e) sal), rfl, flat_strs _, _, rfl, ?_⟩
        rw [if_neg Bool.false_ne_true, inV_str]
        refine ite2 (fun hc => ?_) (fun hc => ?_)
        · refine ⟨_, rfl, PvS.snoc hL e hacc hl (by have := lt_at hlm; omega) (.refl _) ?_⟩
          rw [r, filter_take_at hlm, if_pos hc, List.map_append]; rfl
        · refine PvS.skip e hacc hl (.refl _) ?_
          rw [r, filter_take_at hlm, if_neg hc, List.append_nil]
      · rintro H3 ⟨e, acc, hacc, hl, r⟩
        rw [List.length_map, List.take_length] at r
        refine ⟨L, acc, rfl, .inl ⟨.inl (.inl hacc), fun ta hta => ?_⟩⟩
        generalize hans : (m.watched.filter fun x => decide (x ∈ q.2)) = ans at *
        have gA : Gr N0 Fi Hi (upd Fi ta (.tup acc)) (upd H3 ta (.tup acc)) := ((Gr.refl g.fh).ext e).new hta
        have hansA : Dp K (upd Fi ta (.tup acc)) (.ref ta) (pA ans) := .tup (.inl (.inl (by rw [upd_same, r]))) (dpa_strs _)
        have hpA := hp.ext gA
        have ggA := g.trans gA
        generalize (upd Fi ta (.tup acc)) = FA at *
        generalize (upd H3 ta (.tup acc)) = HA at *
        refine ⟨fun σ' H' => ∃ zs', σ' = [some (.ref dm), some (.ref ab), some (.str btn), some (.ref d), some (.int p.1), some (.int p.2), some (.int q.1), some (.ref al), some (.ref ta), none] ∧ Gr N0 F H FA H' ∧ PartsAt P w K FA H H' d zs' ∧ zs'.map (·.2.2) = ensureP (zs.map (·.2.2)) ans ∧ ans ∈ zs'.map (·.2.2.1), ?_, ?_⟩
        · refine ⟨_, rfl, _, rfl, d, _, rfl, hpA.look ggA.fh (dp_same ggA.fh _ _ hansA), _, rfl, ?_⟩
          have hps : (zs.map (·.2.2)).map (·.1) = zs.map (·.2.2.1) := by rw [List.map_map]; rfl
          by_cases hmm : ans ∈ zs.map (·.2.2.1)
          · obtain ⟨z, hzm, hza⟩ := PartsAt.at hmm
            have hy := hpA.yes hzm
            rw [hza] at hy
            rw [hy]
            refine iteF ⟨zs, rfl, ggA, hpA, ?_, hmm⟩
            unfold ensureP
            rw [if_pos (by rw [hps]; exact hmm)]
          · rw [PartsAt.no hmm]
            refine iteT ⟨Nat.zero_le _, fun l hl => ?_⟩
            have hdl := ne_of_none hpA.dict hl
            refine ⟨_, rfl, _, rfl, d, zs.map entZ, ta, kA ans, rfl, by rw [upd_ne hdl]; exact hpA.dict, hpA.keys (ggA.fh.trans (same_new hl)), rfl, by rw [kA_data]; exact dp_same (ggA.fh.trans (same_new hl)) _ _ hansA, kA_depth _, PartsAt.no hmm, ?_, ?_⟩
            · have h1 := congrArg List.length he
              have h2 := partFold_len (m.cs.st btn) (bel.take i) []
              rw [← he] at h2
              rw [List.length_map, List.length_take] at h2
              rw [List.length_map]
              exact Nat.lt_of_le_of_lt (m := 1000) (by simp at h2; omega) (by decide)
            · refine ⟨zs ++ [(ta, l, ans, [])], rfl, (ggA.lay hl).set (by exact hpA.fd) (.inr hd), hpA.put ggA.fh hl (ggA.fresh hl) hansA hmm, ?_, by simp⟩
              unfold ensureP
              rw [if_neg (by rw [hps]; exact hmm), List.map_append]
              rfl
        · rintro σ' H' ⟨zs', rfl, g', hp', he', hmm⟩
          obtain ⟨z, hzm, hza⟩ := PartsAt.at hmm
          have hy := hp'.yes hzm
          rw [hza] at hy
          obtain ⟨_, l0, _, xs', hx', dx'⟩ := hp'.lst z hzm
          refine ⟨_, rfl, _, rfl, d, .ref z.2.1, rfl, (by have qq := hp'.look g'.fh (dp_same g'.fh _ _ hansA); rw [hy] at qq; exact qq), .inl ⟨rfl, _, .inl (.inl hx')⟩, _, rfl, _, rfl, (by show 2 ≤ sizeLine; decide), fun t2 ht2 => ?_⟩
          have hne : z.2.1 ≠ t2 := ne_of_none hx' ht2
          refine ⟨z.2.1, xs', .ref t2, rfl, rfl, by rw [upd_ne hne]; exact hx', ?_, ?_⟩
          · have h1 := dpa_len dx'
            rw [List.length_map] at h1
            rw [h1]
            have b1 : ∀ q ∈ zs'.map (·.2.2), q.2.length ≤ i := by
              rw [he', he]
              exact ensureP_bound _ (fun q hq => Nat.le_trans (partFold_bound (m.cs.st btn) (bel.take i) [] 0 (by simp) q hq) (by rw [List.length_take]; omega))
            have b2 := b1 z.2.2 (List.mem_map.mpr ⟨z, hzm, rfl⟩)
            have b3 := lt_at hx
            exact Nat.lt_of_le_of_lt (m := 1000) (by omega) (by decide)
          · have g2 : Gr N0 FA H' (upd FA t2 (.tup [.int p.1, .int q.1])) (upd H' t2 (.tup [.int p.1, .int q.1])) := (Gr.refl g'.fh).new ht2
            have hp2 := hp'.ext g2
            have hd2 : Dp K (upd FA t2 (.tup [.int p.1, .int q.1])) (.ref t2) (pP (p.1, q.1)) := .tup (.inl (.inl (upd_same ..))) (.cons (.int _) (.cons (.int _) .nil))
            have hp3 := hp2.push hzm (by rw [upd_ne hne]; exact hx') hd2
            rw [hza] at hp3
            obtain ⟨u1, u2, u3, us, u4, u5⟩ := hp2.lst z hzm
            refine ⟨_, _, _, _, _, _, _, rfl, (g'.trans g2).set u1 (.inr l0), hp3, ?_, ?_⟩
            · rw [pushZ_ps, he', he, foldl_take hp1, partStep_some (af := q.1) (a := ans) (by rw [hstp]; show some (q.1, _) = _; rw [hans])]
            · rw [take_at hp1, List.all_append, hall, List.all_cons, List.all_nil, hstp]
              rfl
  · rintro σ Hi ⟨Fi, zs, x1, x2, x3, x4, x5, rfl, g, hp, he, hall⟩
    rw [hlen, List.take_length] at he hall
    have hQ' := hQ husb hall
    have hzl : zs.length ≤ bel.length := by
      have h1 := parts_len (m.cs.st btn) bel
      have h2 := congrArg List.length he
      rw [List.length_map] at h2
      unfold partsOf at h1
      omega
    refine ⟨_, rfl, d, zs.map entZ, rfl, hp.dict, hp.keys g.fh, zs_alike zs, zs_tup zs, zs_depth zs, fun p hp0 => ?_⟩
    rw [srtZ_ent, List.map_map, show ((fun e : NK × Addr × V => V.ref e.2.1) ∘ entZ) = fun z => V.ref z.1 from rfl]
    have gp : Gr N0 F H (upd Fi p (.lst ((srtZ zs).map fun z => V.ref z.1))) (upd Hi p (.lst ((srtZ zs).map fun z => V.ref z.1))) := g.new hp0
    have g1 : Gr N0 Fi Hi (upd Fi p (.lst ((srtZ zs).map fun z => V.ref z.1))) (upd Hi p (.lst ((srtZ zs).map fun z => V.ref z.1))) := (Gr.refl g.fh).new hp0
    have hp1 := hp.ext g1
    have hs1 : (upd Hi p (.lst ((srtZ zs).map fun z => V.ref z.1))) p = some (.lst ((srtZ zs).map fun z => V.ref z.1)) := upd_same ..
    refine ⟨p, rfl, ⟨_, .inl (.inl hs1)⟩, ?_⟩
    generalize hF1 : upd Fi p (.lst ((srtZ zs).map fun z => V.ref z.1)) = F1 at *
    generalize hH1 : (upd Hi p (.lst ((srtZ zs).map fun z => V.ref z.1))) = H1 at *
    intro L hL
    refine lc_list (K := K) (a := p) (xs := (srtZ zs).map fun z => .ref z.1) (PvF F1 H1 L fun i acc F' => TsAt K F' acc (((srtZ zs).take i).map (·.2.1))) (PvF.zero gp.fh hL .nil) ?_ ?_ ?_
    · rintro i H' _ ⟨F', acc, g', _⟩
      exact same_l g'.same (.inl (.inl hs1))
    · rintro i x H' hx ⟨F', acc, g', hn, hacc, hl, r⟩
      obtain ⟨z, hz2, rfl⟩ := get_map hx
      have hzm : z ∈ zs := srtZ_mem.mp (mem_at hz2)
      have hk := hp1.key z hzm
      obtain ⟨b2, ys, e, hk1, hk2⟩ := dp_tup hk
      injection e with e
      subst e
      have e1 : Same F1 H' := g'.ff.trans g'.fh
      have hp2 := hp1.ext g'
      have hy := hp2.yes hzm
      refine ⟨rfl, ?_⟩
      refine ⟨_, rfl, z.1, ys, rfl, .inr (same_t e1 hk1), fun l hl2 => ⟨_, rfl, _, rfl, d, .ref z.2.1, rfl, ?_, (by show 2 ≤ sizeLine; decide), fun t ht2 => ?_⟩⟩
      · have q := (hp2.ext ((Gr.refl g'.fh).lay (o := .lst ys) hl2)).look (g'.fh.trans (same_new hl2)) (dp_same (e1.trans (same_new hl2)) _ _ hk)
        rw [hy] at q
        exact q
      · have g4 : Gr N0 F' H' (upd F' t (.tup [.ref l, .ref z.2.1])) (upd (upd H' l (.lst ys)) t (.tup [.ref l, .ref z.2.1])) := ((Gr.refl g'.fh).lay hl2).new ht2
        refine PvF.snoc hL g' hn hacc hl ?_ g4 ?_
        · have := lt_at hz2
          have h3 : (srtZ zs).length = zs.length := List.length_mergeSort _
          omega
        · rw [map_take_at hz2]
          exact paired_app (TsAt.mono r g4.ff) (.cons ⟨t, _, rfl, .inl (.inl (upd_same ..))⟩ .nil)
    · rintro H' ⟨F', acc, g', hn, hacc, hl, r⟩
      rw [List.length_map, List.take_length] at r
      have h3 := (hp1.ext g').own
      have h4 : ((srtZ zs).map (·.2.2.2)) = partsB (m.cs.st btn) bel := by
        unfold partsB partsOf
        rw [← he, ← srtZ_ps, List.map_map]
        rfl
      rw [h4] at h3
      exact hQ' L acc _ F' H' (gp.trans g') (gp.fresh hL) hn hacc r h3
end
end S3

/-! ### L2: a press on a spread, a row, as the law asks them -/
namespace S3
open PySem PySem.Spec PyProof.Rows L2
theorem sortD_own {K : PySem.W.Frag} {F H0 H : Hp} {fo : Addr} {bs : List Addr} {s : Sprd} {Q : VK} (fh : Same F H) (hfo : SqL K H fo (bs.map V.ref)) (own : OwnB K F H0 H bs s)
    (h : ∀ p as, H p = none → p ∉ as → OwnB K F H0 (upd H p (.lst (as.map V.ref))) as (sortS s) → Q (.ref p) (upd H p (.lst (as.map V.ref)))) : rSortD K [.ref fo] H Q := by
  have hz2 : ∃ zs : List (Addr × Bel), bs = zs.map (·.1) ∧ s = zs.map (·.2) := ⟨bs.zip s, (List.map_fst_zip (Nat.le_of_eq own.len)).symm, (List.map_snd_zip (Nat.le_of_eq own.len.symm)).symm⟩
  obtain ⟨zs, rfl, rfl⟩ := hz2
  have hmp : ((zs.map fun z => (V.ref z.1, pB z.2)).mergeSort (PySem.W.dataLe false Prod.snd)) = (zs.mergeSort (PySem.W.dataLe false fun z => pB z.2)).map fun z => (V.ref z.1, pB z.2) := by
    refine (List.map_mergeSort (f := fun z : Addr × Bel => (V.ref z.1, pB z.2)) (r := PySem.W.dataLe false fun z : Addr × Bel => pB z.2) (s := PySem.W.dataLe false Prod.snd) fun a _ b _ => ?_).symm
    rfl
  have hms : sortS (zs.map (·.2)) = (zs.mergeSort (PySem.W.dataLe false fun z => pB z.2)).map (·.2) := by
    refine (List.map_mergeSort (f := fun z : Addr × Bel => z.2) (r := PySem.W.dataLe false fun z : Addr × Bel => pB z.2) (s := PySem.W.dataLe false pB) fun a _ b _ => ?_).symm
    rfl
  refine ⟨fo, zs.map fun z => (V.ref z.1, pB z.2), rfl, ?_, ?_, ?_, ?_, ?_, fun p hp0 => ?_⟩
  · rw [List.map_map]; rw [List.map_map] at hfo; exact hfo
  · intro b hb
    obtain ⟨z, hz, rfl⟩ := List.mem_map.mp hb
    obtain ⟨k, hk⟩ := List.getElem?_of_mem hz
    obtain ⟨a1, a2, ys, a3, a4⟩ := own.at_ k z.1 z.2 (by rw [List.getElem?_map, hk]; rfl) (by rw [List.getElem?_map, hk]; rfl)
    exact .lst (.inl (.inl a3)) (dpa_same fh _ _ a4)
  · rw [List.map_map]
    exact PySem.W.AllAlike.of (enc := fun z : Addr × Bel => pB z.2) fun a b => by simpa [pB, PySem.W.alike] using alike_pP a.2 b.2
  · rw [List.map_map]
    exact PySem.W.Sortable.others (enc := fun z : Addr × Bel => pB z.2) fun a => ⟨(fun q => nomatch q), fun ys q => nomatch q⟩
  · intro b hb
    obtain ⟨z, hz, rfl⟩ := List.mem_map.mp hb
    exact Nat.le_trans (depth_pB z.2) (by decide)
  · have hpm := List.mergeSort_perm zs (PySem.W.dataLe false fun z => pB z.2)
    have e : ((zs.mergeSort (PySem.W.dataLe false fun z => pB z.2)).map fun z => (V.ref z.1, pB z.2)).map (·.1) = ((zs.mergeSort (PySem.W.dataLe false fun z => pB z.2)).map (·.1)).map V.ref := by rw [List.map_map, List.map_map]; rfl
    rw [hmp, e]
    refine h p _ hp0 (fun hm => ?_) ?_
    · obtain ⟨z, hz, e⟩ := List.mem_map.mp hm
      have q := (own.mem (List.mem_map.mpr ⟨z, hpm.mem_iff.mp hz, rfl⟩)).2.2
      rw [e] at q
      exact q hp0
    · rw [hms]
      exact (own.ext ((Gr.refl fh).lay hp0)).perm hpm
theorem BelV.elems {K : PySem.W.Frag} {H : Hp} {v : V} {b : Bel} (h : BelV K H v b) : ∃ a xs, v = .ref a ∧ SqE K H a xs ∧ DpAll K H xs (b.map pP) := h
section
variable {P : Program} {w : World} {K : PySem.W.Frag} {mg : Str → Option Value} {base : Heap} {CC DC : Addr}
abbrev s_laf : Stmt := top 61
abbrev nm_laf : List Str := ["_law_model_here", "_law_beliefs", "_law_button", "_law_found", "_law_belief", "_law_after_here", "_law_answer", "_law_one"]
theorem sc_laf : FnScope nm_laf ["_law_model_here", "_law_beliefs", "_law_button"] (defScope s_laf) := ⟨rfl, rfl, rfl, by decide +kernel, rfl, by decide +kernel, by decide +kernel⟩
/- slots: 0 _law_model_here 1 _law_beliefs 2 _law_button 3 _law_found 4 _law_belief 5 _law_after_here 6 _law_answer 7 _law_one -/
def spLaf (K : PySem.W.Frag) : Sp := fun vs H Q _ => ∃ F d b btn m sp, vs = [.ref d, b, .str btn] ∧ Same F H ∧ ModAt K F d m ∧ MdOk m ∧ SpV K H b sp ∧ SprdOk m.cs sp ∧
  ((btn ∈ m.usable → harmS (m.cs.st btn) sp = true → ∀ p as F' H', Gr N0 F H F' H' → H p = none → F' p = none → H' p = some (.lst (as.map V.ref)) → p ∉ as → OwnB K F' H H' as (pressS (m.cs.st btn) sp) → Q (.ref p) H') ∧
   ((btn ∉ m.usable ∨ harmS (m.cs.st btn) sp = false) → ∀ H', Same H H' → Q .non H'))
theorem cal_laf (D : DefX K mg "_law_after" s_laf) (T : Tx K mg CC DC) (cPress : C8.Cal P w K mg base 1 "_law_press" (spLpr K) []) : C8.Cal P w K mg base 2 "_law_after" (spLaf K) [] := by
  refine calD (ps := ["_law_model_here", "_law_beliefs", "_law_button"]) D (fun _ _ _ _ _ _ us hl => match us, hl with | [_, _, _], _ => rfl) sc_laf ?_ ?_
  · rintro vs H Q E ⟨F, d, b, btn, m, sp, rfl, _⟩; rfl
  rintro f cdv A outer s0 H vs Q E hr ⟨F, dm, b, btn, m, sp, rfl, hF, hm, hmo, hb, hso, hQ, hN⟩
  have hu40 := up 40 hr
  refine ⟨_, (pss_cons (ps_set (i := 3) sc_laf.nd rfl (.inl rfl) (pe_lst pa_nil))
      (pss_cons (ps_for PassesOwn.never rfl (pi_seqK K rfl (pv 1)) (pg_name (i := 4) sc_laf.nd rfl (.inl rfl))
      (pss_cons (ps_set (i := 5) sc_laf.nd rfl (.inl rfl) (C8.pe_c cPress hr (by decide) rfl (pa_cons (pv 0) (pa_cons (pe_callTy (call_list_ofK K rfl) (by rfl) T.list (by decide +kernel) (pa_cons (pv 4) pa_nil)) (pa_cons (pv 2) pa_nil)))))
        (pss_cons (ps_if (pt_cmpR op_isN (pv 5) pe_non (nomark _))
        (pss_one (ps_ret pe_non))
        pss_nil)
        (pss_one (ps_set (i := 3) sc_laf.nd rfl (.inl rfl) (pe_op op_cat (pv 3) (pe_lc (own := [("_law_answer", 6), ("_law_one", 7)])  rfl sc_laf.nd (pi_listK K rfl (pv 5)) (blkOk_by (own := [("_law_answer", 6), ("_law_one", 7)]) (N := nm_laf) (sc := defScope s_laf) (by decide +kernel)) (fun _ _ _ _ _ => (pg_tupK K rfl 2 rfl (pgs_cons (pg_name (i := 6) sc_laf.nd rfl (.inl rfl)) (pgs_cons (pg_name (i := 7) sc_laf.nd rfl (.inl rfl)) pgs_nil)))) (fun _ _ _ _ _ => pts_nil) (fun _ _ _ _ _ => (pv 7)))))))))
      (pss_one (ps_ret (pe_callB (cr_sortDK K rfl hu40) (by rfl) T.sorted (by decide +kernel) (pa_cons (pv 3) pa_nil)))))), ?_⟩
  obtain ⟨ab, xs, rfl, sb, db⟩ := hb
  have hlen := db.length
  have hsl := hso.len hmo.cs
  have hbnd : ∀ i, ((sp.take i).flatMap (partsB (m.cs.st btn))).length ≤ 1000 := fun i => by
    have h1 := flat_bound (f := partsB (m.cs.st btn)) (n := 3) (l := sp.take i) fun b hb => by
      have := hso.blen hmo.cs (List.mem_of_mem_take hb)
      have := parts_bound (m.cs.st btn) b
      omega
    have h2 : (sp.take i).length ≤ 3 := by rw [List.length_take]; omega
    omega
  have hne : sp ≠ [] := fun z => by
    have := hso.prm
    rw [z] at this
    exact hmo.cs.ne (List.nil_perm.mp this)
  refine ⟨Nat.zero_le _, fun f0 hf0 => ⟨_, rfl, ab, rfl, for_seq (same_e (same_new hf0) sb) (fun i σ Hi => ∃ Fi bs fo x4 x5, σ = [some (.ref dm), some (.ref ab), some (.str btn), some (.ref fo), x4, x5, none, none] ∧ Same (upd H f0 (.lst [])) Hi ∧ Gr N0 F H Fi Hi ∧ H fo = none ∧ Fi fo = none ∧ Hi fo = some (.lst (bs.map V.ref)) ∧ fo ∉ bs ∧ OwnB K Fi H Hi bs ((sp.take i).flatMap (partsB (m.cs.st btn))) ∧ (sp.take i).all (harmB (m.cs.st btn)) = true ∧ (0 < i → btn ∈ m.usable)) ?_ ?_ ?_ ?_⟩⟩
  · exact ⟨F, [], f0, none, none, rfl, .refl _, (Gr.refl hF).lay hf0, hf0, same_none hF hf0, upd_same .., by simp, OwnB.nil, by simp, fun z => absurd z (Nat.lt_irrefl _)⟩
  · rintro i σ Hi ⟨Fi, bs, fo, x4, x5, rfl, e, _⟩
    exact e
  · rintro i x σ Hi hx ⟨Fi, bs, fo, x4, x5, rfl, e, g, hfo0, hfoF, hfo, hfob, hown, hall, hus⟩
    obtain ⟨b, hp, dp⟩ := paired_getE db hx
    obtain ⟨abl, ys, rfl, sbl, dbl⟩ := dp.mono g.same
    obtain ⟨o1, o2, o3⟩ := hso.bel b (mem_at hp)
    have hb3 := hso.blen hmo.cs (mem_at hp)
    refine ⟨_, rfl, _, rfl, abl, ys, rfl, sbl, fun l hl => ⟨_, rfl, ?_⟩⟩
    have gl : Gr N0 Fi Hi Fi (upd Hi l (.lst ys)) := (Gr.refl g.fh).lay hl
    have dl : Dp K (upd Hi l (.lst ys)) (.ref l) (pB b) := .lst (.inl (.inl (upd_same ..))) (dpa_same (same_new hl) _ _ dbl)
    have ggl := g.trans gl
    refine ⟨Fi, dm, .ref l, btn, m, b, rfl, gl.fh, hm.mono g.ff, hmo, dl, fun p hp => (o3 p hp).2, by omega, fun hu hh p ts bs2 F2 H2 g2 hp0 hp2 hp3 hts hown2 => ?_, fun hor H2 e2 => ?_⟩
    · refine ⟨_, rfl, rfl, _, rfl, noV (fun z => nomatch z) ?_⟩
      refine ⟨_, rfl, _, rfl, p, rfl, ⟨_, .inl (.inl hp3)⟩, fun L hL => lc_list (K := K) (a := p) (xs := ts) (PvS H2 L fun i acc => acc = (bs2.take i).map V.ref) (PvS.zero hL rfl) (fun i H' _ h => .inl (.inl (h.1 _ _ hp3))) ?_ ?_⟩
      · rintro j y H' hy ⟨e', acc, hacc, hl', r⟩
        obtain ⟨b2, hb2, t, al, rfl, hst⟩ := paired_getE hts hy
        refine ⟨t, _, rfl, same_t (g2.fh.trans e') hst, rfl, _, _, rfl, _, _, rfl, rfl, rfl, _, rfl, PvS.snoc hL e' hacc hl' ?_ (.refl _) ?_⟩
        · have h1 := lt_at hb2
          rw [hown2.len] at h1
          have h2 := parts_bound (m.cs.st btn) b
          omega
        · rw [r, map_take_at hb2]
      · rintro H' ⟨e', acc, hacc, hl', r⟩
        rw [hts.length, List.take_length] at r
        subst r
        have hfo2 : H' fo = some (.lst (bs.map V.ref)) := e' _ _ (g2.same _ _ (gl.same _ _ hfo))
        have gg := (ggl.trans g2).ext e'
        have g2e : Gr N0 Fi Hi F2 H' := (gl.trans g2).ext e'
        have w1 := hown.ext g2e
        have w2 : OwnB K F2 H H' bs2 (partsB (m.cs.st btn) b) := (hown2.ext ((Gr.refl g2.fh).ext e')).old fun a ha => ggl.fresh ha
        have hdis : ∀ z ∈ bs, z ∉ bs2 := fun z h1 h2 => by
          have q1 := (hown2.mem h2).2.1
          have q2 := (hown.mem h1).2.2
          cases q3 : Hi z with
          | none => exact q2 q3
          | some o => rw [gl.same _ _ q3] at q1; cases q1
        have w3 := w1.app w2 hdis
        refine ⟨fo, L, _, _, rfl, rfl, hfo2, hacc, ?_, fun q hq => ?_⟩
        · rw [List.length_map, List.length_map, hown.len, hown2.len]
          have h1 := hbnd i
          have h2 := parts_bound (m.cs.st btn) b
          exact big (by omega)
        · have hqn : q ∉ bs ++ bs2 := fun hm' => (w3.mem hm').2.2 hq
          refine ⟨F2, bs ++ bs2, q, _, _, rfl, ((e.trans gl.same).trans g2.same).trans (e'.trans (same_new hq)), gg.lay hq, gg.fresh hq, same_none gg.fh hq, by rw [List.map_append]; exact upd_same .., hqn, ?_, ?_, fun _ => hu⟩
          · rw [take_at hp, List.flatMap_append, List.flatMap_cons, List.flatMap_nil, List.append_nil]
            exact w3.upd' hqn
          · rw [take_at hp, List.all_append, hall]
            simpa using hh
    · refine ⟨_, rfl, rfl, _, rfl, yesV ?_⟩
      refine hN ?_ H2 (ggl.same.trans e2)
      rcases hor with hor | hor
      · exact .inl hor
      · refine .inr ?_
        rw [Bool.eq_false_iff]
        intro ha
        have := List.all_eq_true.mp ha b (mem_at hp)
        rw [hor] at this
        cases this
  · rintro σ Hi ⟨Fi, bs, fo, x4, x5, rfl, e, g, hfo0, hfoF, hfo, hfob, hown, hall, hus⟩
    rw [hlen, List.take_length] at hown hall
    have hus' : btn ∈ m.usable := hus (by rw [hlen]; exact List.length_pos_iff.mpr hne)
    refine ⟨_, rfl, ?_⟩
    dsimp only [tNil]
    refine sortD_own g.fh (.inl (.inl hfo)) hown fun p as hp hpas hown2 => ?_
    exact hQ hus' hall p as Fi _ (g.lay hp) (g.fresh hp) (same_none g.fh hp) (upd_same ..) hpas hown2
abbrev s_lso : Stmt := top 71
abbrev nm_lso : List Str := ["_law_model_here", "_law_line", "_law_beliefs", "_law_button"]
theorem sc_lso : FnScope nm_lso ["_law_model_here", "_law_line"] (defScope s_lso) := ⟨rfl, rfl, rfl, by decide +kernel, rfl, by decide +kernel, by decide +kernel⟩
/- slots: 0 _law_model_here 1 _law_line 2 _law_beliefs 3 _law_button -/
def stepL (c : CS) (o : Option Sprd) (b : Str) : Option Sprd := o.bind fun s => if b ∈ c.usable ∧ harmS (c.st b) s = true then some (pressS (c.st b) s) else none
theorem stepL_none (c : CS) : ∀ row : List Str, row.foldl (stepL c) none = none
  | [] => rfl
  | b :: row => stepL_none c row
theorem law_spread (c : CS) : ∀ (row : List Str) (s : Sprd), row.foldl (stepL c) (some s) = if row.all (fun b => decide (b ∈ c.usable)) = true then row.foldl (stepO c) (some s) else none
  | [], s => by simp
  | b :: row, s => by
    rw [List.foldl_cons, List.foldl_cons]
    by_cases hb : b ∈ c.usable
    · by_cases hh : harmS (c.st b) s = true
      · rw [show stepL c (some s) b = some (pressS (c.st b) s) from if_pos ⟨hb, hh⟩, show stepO c (some s) b = some (pressS (c.st b) s) from if_pos hh, law_spread c row]
        simp [hb]
      · rw [show stepL c (some s) b = none from if_neg (fun z => hh z.2), show stepO c (some s) b = none from if_neg hh, stepL_none, stepO_none]
        split <;> rfl
    · rw [show stepL c (some s) b = none from if_neg (fun z => hb z.1), stepL_none, if_neg (by simp [hb])]
theorem law_spreadOf (c : CS) (row : List Str) : row.foldl (stepL c) (some [c.start]) = spreadOf c row := law_spread c row _
def spLso (K : PySem.W.Frag) : Sp := fun vs H Q _ => ∃ F d r m row, vs = [.ref d, r] ∧ Same F H ∧ ModAt K F d m ∧ MdOk m ∧ Dp K H r (pW row) ∧ (∀ v F' H', Gr N0 F H F' H' → (spreadOf m.cs row = none → v = .non) → (∀ s, spreadOf m.cs row = some s → Dp K F' v (pS s)) → Q v H')
theorem cal_lso (D : DefX K mg "_law_spread_of" s_lso) (T : Tx K mg CC DC) (cAfter : C8.Cal P w K mg base 2 "_law_after" (spLaf K) []) : C8.Cal P w K mg base 3 "_law_spread_of" (spLso K) [] := by
  refine calD (ps := ["_law_model_here", "_law_line"]) D (fun _ _ _ _ _ _ us hl => match us, hl with | [_, _], _ => rfl) sc_lso ?_ ?_
  · rintro vs H Q E ⟨F, d, r, m, row, rfl, _⟩; rfl
  rintro f cdv A outer s0 H vs Q E hr ⟨F, dm, r, m, row, rfl, hF, hm, hmo, hrw, hQ⟩
  have hu := up 1 hr
  refine ⟨_, (pss_cons (ps_set (i := 2) sc_lso.nd rfl (.inl rfl) (pe_lst (pa_cons (pe_dget hu (pv 0) pe_str (fun _ _ => rfl)) pa_nil)))
      (pss_cons (ps_for PassesOwn.never rfl (pi_listK K rfl (pv 1)) (pg_name (i := 3) sc_lso.nd rfl (.inl rfl))
      (pss_cons (ps_set (i := 2) sc_lso.nd rfl (.inl rfl) (C8.pe_c cAfter hr (by decide) rfl (pa_cons (pv 0) (pa_cons (pv 2) (pa_cons (pv 3) pa_nil)))))
        (pss_one (ps_if (pt_cmpR op_isN (pv 2) pe_non (nomark _))
        (pss_one (ps_ret pe_non))
        pss_nil))))
      (pss_one (ps_ret (pv 2))))), ?_⟩
  obtain ⟨ar, rfl, sr⟩ := dp_strs hrw
  obtain ⟨v, hv1, hv2⟩ := hm.sta hF
  refine ⟨_, rfl, dm, v, rfl, hv1, (by show 1 ≤ sizeLine; decide), fun b0 hb0 => ?_⟩
  have g0 := (Gr.refl hF (S := N0)).new (o := .lst [v]) hb0
  refine ⟨_, rfl, ar, rfl, ⟨_, same_l g0.same sr⟩, for_list (K := K) (a := ar) (xs := row.map V.str) (fun j σ H' => ∃ Fi vb sp x3, σ = [some (.ref dm), some (.ref ar), some vb, x3] ∧ Gr N0 F H Fi H' ∧ Dp K Fi vb (pS sp) ∧ (row.take j).foldl (stepL m.cs) (some [m.cs.start]) = some sp ∧ SprdOk m.cs sp) ⟨_, _, [m.cs.start], none, rfl, g0, .lst (.inl (.inl (upd_same ..))) (.cons (dp_same (same_upd (.refl _) (same_none hF hb0)) _ _ hv2) .nil), rfl, start_ok hmo.cs⟩ ?_ ?_ ?_⟩
  · rintro j σ H' _ ⟨Fi, vb, sp, x3, rfl, g, _⟩
    exact same_l g.same sr
  · rintro j x σ H' hx ⟨Fi, vb, sp, x3, rfl, g, hvb, hfold, hso⟩
    obtain ⟨btn, hb, rfl⟩ := get_map hx
    refine ⟨_, rfl, _, rfl, _, rfl, Fi, dm, vb, btn, m, sp, rfl, g.fh, hm.mono g.ff, hmo, SpV.ofS (dp_same g.fh _ _ hvb), hso, fun hu2 hh p as F2 H2 g2 hp0 hp2 hp3 hpas hown => ?_, fun hor H2 e2 => ?_⟩
    · obtain ⟨F3, g3, e3, hd3⟩ := OwnB.pub g2 hp3 hp0 hp2 hown
      refine ⟨_, rfl, rfl, _, rfl, noV (fun z => nomatch z) ⟨F3, _, pressS (m.cs.st btn) sp, _, rfl, g.trans g3, hd3, ?_, press_ok hmo.cs hso hh⟩⟩
      rw [foldl_take hb, hfold]
      exact if_pos ⟨hu2, hh⟩
    · refine ⟨_, rfl, rfl, _, rfl, yesV ?_⟩
      have hnone : spreadOf m.cs row = none := by
        rw [← law_spreadOf, ← List.take_append_drop (j + 1) row, List.foldl_append, foldl_take hb, hfold]
        have : stepL m.cs (some sp) btn = none := by
          refine if_neg fun z => ?_
          rcases hor with h | h
          · exact h z.1
          · rw [z.2] at h; cases h
        rw [this, stepL_none]
      exact hQ .non Fi H2 (g.ext e2) (fun _ => rfl) fun s hs => by rw [hnone] at hs; cases hs
  · rintro σ H' ⟨Fi, vb, sp, x3, rfl, g, hvb, hfold, hso⟩
    rw [List.length_map, List.take_length, law_spreadOf] at hfold
    exact ⟨_, rfl, hQ vb Fi H' g (fun z => by rw [hfold] at z; cases z) fun s hs => by
      rw [hfold] at hs
      rw [← Option.some.inj hs]; exact hvb⟩
end
end S3

/-! ### L3: the law's search -/
namespace S3
open PySem PySem.Spec PyProof.Rows L2
abbrev Zl := Addr × Addr × Addr × Sprd × List Str
def entL (z : Zl) : NK × Addr × V := (kS z.2.2.2.1, z.1, .ref z.2.2.1)
structure RowsL (P : Program) (w : World) (K : PySem.W.Frag) (F H : Hp) (d wl : Addr) (zs : List Zl) : Prop where
  dict : H d = some (dnO P w d (zs.map entL))
  fd : F d = none
  wait : H wl = some (.lst (zs.map fun z => V.ref z.2.1))
  fw : F wl = none
  key : ∀ z ∈ zs, Dp K F (.ref z.1) (pK z.2.2.2.1) ∧ Dp K F (.ref z.2.1) (pK z.2.2.2.1)
  row : ∀ z ∈ zs, F z.2.2.1 = some (.lst (z.2.2.2.2.map V.str))
section
variable {P : Program} {w : World} {K : PySem.W.Frag} {F H F' H' : Hp} {d wl : Addr} {zs : List Zl}
theorem RowsL.ext (h : RowsL P w K F H d wl zs) (g : Gr N0 F H F' H') : RowsL P w K F' H' d wl zs :=
  ⟨g.same _ _ h.dict, g.hid h.dict h.fd, g.same _ _ h.wait, g.hid h.wait h.fw, fun z hz => ⟨dp_same g.ff _ _ (h.key z hz).1, dp_same g.ff _ _ (h.key z hz).2⟩, fun z hz => g.ff _ _ (h.row z hz)⟩
theorem RowsL.keys (h : RowsL P w K F H d wl zs) : KeysAt K F (zs.map entL) := fun x hx => by
  obtain ⟨z, hz, rfl⟩ := List.mem_map.mp hx
  exact ⟨by rw [show (entL z).1.data = pK z.2.2.2.1 from kS_data _]; exact (h.key z hz).1, kS_depth _⟩
theorem entL_keys (zs : List Zl) : (zs.map entL).map (·.1) = (zs.map (·.2.2.2.1)).map kS := by rw [List.map_map, List.map_map]; rfl
theorem RowsL.at (h : RowsL P w K F H d wl zs) (hn : (zs.map (·.2.2.2.1)).Nodup) {z : Zl} (hz : z ∈ zs) : atN (zs.map entL) (kS z.2.2.2.1) = some (.ref z.2.2.1) := by
  refine atN_mem (a := z.1) ?_ (List.mem_map.mpr ⟨z, hz, rfl⟩)
  rw [entL_keys]
  exact nodup_inj (fun x y q => kS_inj x y q) hn
theorem RowsL.look (h : RowsL P w K F H d wl zs) (e : Same F H) {kp : Addr} {s : Sprd} (hk : Dp K F (.ref kp) (pK s)) : DNK P w K H d (.ref kp) (atN (zs.map entL) (kS s)) := dnk_key (F := F) h.dict (keysAt_mono h.keys e) (dp_same e _ _ hk)
end
section
variable {P : Program} {w : World} {K : PySem.W.Frag} {mg : Str → Option Value} {base : Heap} {CC DC : Addr}
abbrev s_lrs : Stmt := top 64
abbrev nm_lrs : List Str := ["_law_model_here", "_law_wish", "_law_begin", "_law_first", "_law_rows_here", "_law_waiting", "_law_k", "_law_here", "_law_button", "_law_after_here"]
theorem sc_lrs : FnScope nm_lrs ["_law_model_here", "_law_wish", "_law_begin"] (defScope s_lrs) := ⟨rfl, rfl, rfl, by decide +kernel, rfl, by decide +kernel, by decide +kernel⟩
/- slots: 0 _law_model_here 1 _law_wish 2 _law_begin 3 _law_first 4 _law_rows_here 5 _law_waiting 6 _law_k 7 _law_here 8 _law_button 9 _law_after_here -/
/-- a def of the top with one default, None -/
structure DefN (K : PySem.W.Frag) (mg : Str → Option Value) (x : Str) (st : Stmt) : Prop where
  ex : ∃ f fd, FunD K x x (defArgs st) (defBody st) (defScope st) [.non] [] f fd ∧ mg x = some (.ref f)
def spLrs (K : PySem.W.Frag) : Sp := fun vs H Q _ => ∃ F d g m goal, vs = [.ref d, g, .non] ∧ Same F H ∧ ModAt K F d m ∧ MdOk m ∧ Dp K H g (pG goal) ∧ GoalOkC m.cs goal ∧
  ∀ t rv wv F' H', Gr N0 F H F' H' → SqT K F' t [rv, wv] → ((search m.cs goal).1 = none → rv = .non) → (∀ row, (search m.cs goal).1 = some row → Dp K F' rv (pW row)) → Dp K F' wv (.list ((search m.cs goal).2.map fun r => pK r.1)) → Q (.ref t) H'
theorem cal_lrs (D : DefN K mg "_law_rows" s_lrs) (T : Tx K mg CC DC) (cFrz : C8.Cal P w K mg base 1 "_law_frozen" (spKey K) []) (cLsm : C8.Cal P w K mg base 2 "_law_spread_meets" (spLsm K) []) (cAfter : C8.Cal P w K mg base 2 "_law_after" (spLaf K) []) : C8.Cal P w K mg base 3 "_law_rows" (spLrs K) [.non] := by
  obtain ⟨f, fd, FD, hm0⟩ := D.ex
  obtain ⟨dsv, hdv, hbi⟩ := FD.binds1 (ps := ["_law_model_here", "_law_wish", "_law_begin"]) 2 0 (fun z => nomatch z) rfl (fun T kV doc pm an cdv ct us its h1 h2 => match us, its, h1, h2 with | [_, _], [_], _, _ => ⟨_, rfl, rfl⟩)
  refine ⟨f, fd, ["_law_model_here", "_law_wish", "_law_begin"], dsv, FunD.ok FD sc_lrs ?_ ?_, hm0, FD.kp, hbi, hdv⟩
  · rintro vs H Q E ⟨F, d, g, m, goal, rfl, _⟩; rfl
  rintro cdv A outer s0 H vs Q E hr ⟨F, dm, g, m, goal, rfl, hF, hm, hmo, hg, hgo, hQ⟩
  suffices hh : ∃ t, PSs (cxOf CX0 P w K mg base nm_lrs "_law_rows" (defScope s_lrs) f cdv A outer s0 H E).nox (defBody s_lrs) t ∧ t { nx := fun _ H' => Q .non H', rt := Q } (start nm_lrs [.ref dm, g, .non]) H by
    obtain ⟨t, h1, h2⟩ := hh
    exact ⟨t, h1.nox, h2⟩
  have hu := up 1 hr
  have hu8 := up 8 hr
  have hu9 := up 9 hr
  refine ⟨_, (pss_cons (ps_set (i := 3) sc_lrs.nd rfl (.inl rfl) (C8.pe_c cFrz hr (by decide) rfl (pa_cons (pe_ifExp (pt_cmpR op_isN (pv 2) pe_non (nomark _)) (pe_lst (pa_cons (pe_dget hu (pv 0) pe_str (fun _ _ => rfl)) pa_nil)) (pv 2)) pa_nil)))
      (pss_cons (ps_set (i := 4) sc_lrs.nd rfl (.inl rfl) (pe_ndisp hu8 (pv 3) (pe_lst pa_nil)))
      (pss_cons (ps_set (i := 5) sc_lrs.nd rfl (.inl rfl) (pe_lst (pa_cons (pv 3) pa_nil)))
      (pss_cons (ps_set (i := 6) sc_lrs.nd rfl (.inl rfl) pe_int)
      (pss_cons (ps_while PassesOwn.never (pt_cmpR op_lt (pv 6) (pe_callB (call_len_seqK K rfl) (by rfl) T.len (by decide +kernel) (pa_cons (pv 5) pa_nil)) (nomark _))
      (pss_cons (ps_set (i := 7) sc_lrs.nd rfl (.inl rfl) (pe_ix (ix_listK K rfl) (pv 5) (pv 6) (fun _ _ => rfl)))
        (pss_cons (ps_if (pt_val (C8.pe_c cLsm hr (by decide) rfl (pa_cons (pv 7) (pa_cons (pv 1) pa_nil))))
        (pss_one (ps_ret (pe_tup (pa_cons (pe_ngetK P w K rfl rfl rfl hu9 (pv 4) (pv 7) (fun _ _ => rfl)) (pa_cons (pv 5) pa_nil)))))
        pss_nil)
        (C8.pss_cut (ps_for PassesOwn.never rfl (pi_listK K rfl (pe_dget hu (pv 0) pe_str (fun _ _ => rfl))) (pg_name (i := 8) sc_lrs.nd rfl (.inl rfl))
        (pss_cons (ps_set (i := 9) sc_lrs.nd rfl (.inl rfl) (C8.pe_c cAfter hr (by decide) rfl (pa_cons (pv 0) (pa_cons (pv 7) (pa_cons (pv 8) pa_nil)))))
          (pss_one (ps_if (PW.pt (pw_and (pt_cmpR op_notN (pv 9) pe_non (nomark _)) (pw_and1 (pt_cmp (pc_nnotinK P w K rfl rfl rfl hu9 (C8.pe_c cFrz hr (by decide) rfl (pa_cons (pv 9) pa_nil)) (pv 4)) rfl))))
          (pss_cons (ps_nput hu9 (pv 4) (C8.pe_c cFrz hr (by decide) rfl (pa_cons (pv 9) pa_nil)) (pe_op op_cat (pe_ngetK P w K rfl rfl rfl hu9 (pv 4) (pv 7) (fun _ _ => rfl)) (pe_lst (pa_cons (pv 8) pa_nil))) rfl)
            (pss_one (ps_expr (pe_bmK K rfl PySem.F.plainAttrs_list PySem.F.slot_list_append PySem.F.type_list_append mt_append (pv 5) (pa_cons (C8.pe_c cFrz hr (by decide) rfl (pa_cons (pv 9) pa_nil)) pa_nil)))))
          pss_nil))))
        (pss_one (ps_set (i := 6) sc_lrs.nd rfl (.inl rfl) (pe_op op_add (pv 6) pe_int)))))))
      (pss_one (ps_ret (pe_tup (pa_cons pe_non (pa_cons (pv 5) pa_nil)))))))))), ?_⟩
  have hc := hmo.cs
  have hpl := hc.len
  obtain ⟨vst, hst1, hst2⟩ := hm.sta hF
  obtain ⟨ast, xst, rfl, sst, dst⟩ := dp_list hst2
  refine ⟨_, rfl, rfl, _, rfl, yesV ⟨_, rfl, dm, _, rfl, hst1, (by show 1 ≤ sizeLine; decide), fun l hl => ?_⟩⟩
  have g3 : Gr N0 F H F (upd H l (.lst [.ref ast])) := (Gr.refl hF).lay hl
  have hspa : SpAt K F (upd H l (.lst [.ref ast])) (.ref l) [m.cs.start] := ⟨l, [.ref ast], rfl, .inl (.inl (upd_same ..)), .cons ⟨ast, xst, rfl, same_l g3.fh sst, dst⟩ .nil⟩
  refine ⟨F, _, [m.cs.start], rfl, g3.fh, hspa, by show 1 < 1000; decide, fun kp F4 H4 g4 hkp => ?_⟩
  have g04 := g3.trans g4
  refine fun d hd => ⟨_, rfl, Nat.zero_le _, fun rl hrl => ⟨_, _, rfl, kp, kS [m.cs.start], ?_⟩⟩
  have hdr : d ≠ rl := ne_of_none (upd_same ..) hrl
  have hd0 : H d = none := g04.fresh hd
  have g5 : Gr N0 F H F4 (upd H4 d (dnO P w d [])) := g04.lay hd
  have g6 : Gr N0 F H (upd F4 rl (.lst [])) (upd (upd H4 d (dnO P w d [])) rl (.lst [])) := g5.new hrl
  have hF6 : (upd F4 rl (.lst [])) d = none := by rw [upd_ne hdr]; exact same_none g04.fh hd
  have e46 : Same F4 (upd F4 rl (.lst [])) := same_upd (.refl _) (same_none g5.fh hrl)
  refine ⟨by rw [upd_ne hdr]; exact upd_same .., rfl, by rw [kS_data]; exact dp_same (e46.trans g6.fh) _ _ hkp, kS_depth _, ?_⟩
  refine ⟨_, rfl, (by show 1 ≤ sizeLine; decide), fun wl hwl => ?_⟩
  have hwd : d ≠ wl := ne_of_none (upd_same ..) hwl
  have gwl : H wl = none := (g6.set (p := d) (o := dnO P w d [(kS [m.cs.start], kp, .ref rl)]) hF6 (.inr hd0)).fresh hwl
  have g7 := g6.set (p := d) (o := dnO P w d [(kS [m.cs.start], kp, .ref rl)]) hF6 (.inr hd0)
  have g8 := g7.lay (o := .lst [.ref kp]) hwl
  have hr0 : RowsL P w K (upd F4 rl (.lst [])) (upd (upd (upd (upd H4 d (dnO P w d [])) rl (.lst [])) d (dnO P w d [(kS [m.cs.start], kp, .ref rl)])) wl (.lst [.ref kp])) d wl [(kp, kp, rl, [m.cs.start], [])] :=
    ⟨by rw [upd_ne hwd]; exact upd_same .., hF6, upd_same .., same_none g7.fh hwl, fun z hz => by rw [List.mem_singleton.mp hz]; exact ⟨dp_same e46 _ _ hkp, dp_same e46 _ _ hkp⟩, fun z hz => by rw [List.mem_singleton.mp hz]; exact upd_same ..⟩
  refine ⟨fun mm σ H' => ∃ i rs Fi zs x7 x8 x9, mm = 300000 - i ∧ σ = [some (.ref dm), some g, some .non, some (.ref kp), some (.ref d), some (.ref wl), some (.int ((i : Nat) : Int)), x7, x8, x9] ∧ Gr N0 F H Fi H' ∧ RowsL P w K Fi H' d wl zs ∧ zs.map (·.2.2.2) = rs ∧ BfsAt m.cs goal rs i ∧ bfs m.cs goal (most - i) rs i = search m.cs goal, ⟨300000, 0, rows0 m.cs, _, _, none, none, none, rfl, rfl, g8, hr0, rfl, BfsAt.start hc goal, rfl⟩, ?_⟩
  rintro mm σ H' ⟨i, rs, Fi, zs, x7, x8, x9, rfl, rfl, gi, hro, hrs, hbf, hse⟩
  have hle := hbf.ok.len hc
  have hzl : zs.length = rs.length := by rw [← hrs, List.length_map]
  have hwaitD : ∀ {F1 H1 : Hp} (zz : List Zl), RowsL P w K F1 H1 d wl zz → DpAll K F1 (zz.map fun z => V.ref z.2.1) ((zz.map (·.2.2.2)).map fun r => pK r.1) := fun zz h => by
    rw [List.map_map]
    exact dpa_map fun z hz => (h.key z hz).2
  refine ⟨_, rfl, _, rfl, wl, _, rfl, .inl (.inl (.inl hro.wait)), _, _, rfl, rfl, _, rfl, ?_⟩
  refine ite2 (fun hlt => ?_) (fun hlt => ?_)
  · have hlt' : i < zs.length := by
      have := of_decide_eq_true hlt
      rw [List.length_map] at this
      omega
    obtain ⟨f, hf⟩ : ∃ f, most - i = f + 1 := ⟨most - i - 1, by unfold most; omega⟩
    have hf2 : most - (i + 1) = f := by omega
    rw [hf] at hse
    have hz0 : zs[i]? = some zs[i] := List.getElem?_eq_getElem hlt'
    generalize zs[i] = z0 at hz0
    obtain ⟨kp0, wp0, rl0, s, row⟩ := z0
    have hri : rs[i]? = some (s, row) := by rw [← hrs, List.getElem?_map, hz0]; rfl
    have hso : SprdOk m.cs s := hbf.ok.at hri
    have hsl := hso.len hc
    have hwd0 := hbf.ok.wd _ (mem_at hri)
    have hln0 := hbf.ok.ln _ (mem_at hri)
    have hw0 := (hro.key _ (mem_at hz0)).2
    have hrow0 := hro.row _ (mem_at hz0)
    refine ⟨fun σ' H' => ∃ rs' Fi zs x7 x8 x9, σ' = [some (.ref dm), some g, some .non, some (.ref kp), some (.ref d), some (.ref wl), some (.int ((i + 1 : Nat) : Int)), x7, x8, x9] ∧ Gr N0 F H Fi H' ∧ RowsL P w K Fi H' d wl zs ∧ zs.map (·.2.2.2) = rs' ∧ BfsAt m.cs goal rs' (i + 1) ∧ bfs m.cs goal (most - (i + 1)) rs' (i + 1) = search m.cs goal, ?_, ?_⟩
    · rintro σ' H2 ⟨rs', Fi', zs', x7, x8, x9, h1, h2, h3, h4, h5, h6⟩
      exact ⟨300000 - (i + 1), by omega, i + 1, rs', Fi', zs', x7, x8, x9, rfl, h1, h2, h3, h4, h5, h6⟩
    refine ⟨_, rfl, _, rfl, wl, _, (i : Int), .ref wp0, rfl, rfl, .inl (.inl hro.wait), atI_nat (by rw [List.getElem?_map, hz0]; rfl), ?_⟩
    refine ⟨_, rfl, _, rfl, .ref wp0, g, goal, s, rfl, SpV.ofK (dp_same gi.fh _ _ hw0), dp_same gi.same _ _ hg, by show s.length < 1000; omega, hso.laws hc hgo, fun H3 e3 => ⟨_, rfl, ?_⟩⟩
    have g3 : Gr N0 Fi H' Fi H3 := (Gr.refl gi.fh).ext e3
    have hro3 := hro.ext g3
    have gi3 := gi.trans g3
    have hnd0 : (zs.map (·.2.2.2.1)).Nodup := by
      have := hbf.ok.nd
      rw [← hrs, List.map_map] at this
      exact this
    refine ite2 (fun hme => ?_) (fun hme => ?_)
    · rw [bfs_stop hri hme] at hse
      have hlk := hro3.look g3.fh hw0
      rw [hro3.at hnd0 (mem_at hz0)] at hlk
      refine ⟨_, rfl, _, rfl, d, .ref rl0, rfl, hlk, _, rfl, (by show 2 ≤ sizeLine; decide), fun t ht => ?_⟩
      have gp := gi3.pub hro3.wait gwl
      have ep := pub_same gi3.fh hro3.wait
      have gt := gp.new (o := .tup [.ref rl0, .ref wl]) ht
      have et : Same (upd Fi wl (.lst (zs.map fun z => V.ref z.2.1))) (upd (upd Fi wl (.lst (zs.map fun z => V.ref z.2.1))) t (.tup [.ref rl0, .ref wl])) := same_upd (.refl _) (same_none gp.fh ht)
      refine hQ t (.ref rl0) (.ref wl) _ _ gt (.inl (.inl (upd_same ..))) (fun z => by rw [← hse] at z; cases z) (fun row' hr' => ?_) ?_
      · rw [← hse] at hr'
        rw [← Option.some.inj hr']
        exact .lst (.inl (.inl (et _ _ (ep _ _ hrow0)))) (dpa_strs _)
      · rw [← hse, ← hrs]
        exact .lst (.inl (.inl (et _ _ (upd_same ..)))) (dpa_same (ep.trans et) _ _ (hwaitD zs hro3))
    · rw [bfs_go hri hme] at hse
      refine ⟨fun σ' H' => ∃ Fi zs' x8 x9, σ' = [some (.ref dm), some g, some .non, some (.ref kp), some (.ref d), some (.ref wl), some (.int (i : Int)), some (.ref wp0), x8, x9] ∧ Gr N0 F H Fi H' ∧ RowsL P w K Fi H' d wl zs' ∧ zs'.map (·.2.2.2) = m.cs.usable.foldl (expand1 m.cs s row) rs, ?_, ?_⟩
      · obtain ⟨au, hud, hua⟩ := (hm.mono gi3.ff).usa gi3.fh
        refine ⟨_, rfl, dm, _, rfl, hud, au, rfl, ⟨_, .inl (.inl (gi3.fh _ _ hua))⟩, for_list (K := K) (a := au) (xs := m.usable.map V.str) (fun j σ' H' => ∃ Fj zs' x8 x9, σ' = [some (.ref dm), some g, some .non, some (.ref kp), some (.ref d), some (.ref wl), some (.int (i : Int)), some (.ref wp0), x8, x9] ∧ Same Fi Fj ∧ Gr N0 F H Fj H' ∧ RowsL P w K Fj H' d wl zs' ∧ zs'.map (·.2.2.2) = (m.usable.take j).foldl (expand1 m.cs s row) rs) ⟨Fi, zs, _, _, rfl, .refl _, gi3, hro3, by rw [hrs]; rfl⟩ ?_ ?_ ?_⟩
        · rintro j σ' H' _ ⟨Fj, zs', x8, x9, rfl, ef, gj, _⟩
          exact .inl (.inl (gj.fh _ _ (ef _ _ hua)))
        · rintro j x σ' H' hx ⟨Fj, zs', x8, x9, rfl, ef, gj, hrj, hzj⟩
          obtain ⟨btn, hb0, rfl⟩ := get_map hx
          have husb : btn ∈ m.usable := mem_at hb0
          have hrok : RowsOk m.cs ((m.usable.take j).foldl (expand1 m.cs s row) rs) := fold_ok hc hso hwd0 hln0 (fun b hb => List.mem_of_mem_take (i := j) hb) hbf.ok
          have hmem : zs'.map (·.2.2.2.1) = (zs'.map (·.2.2.2)).map (·.1) := by rw [List.map_map]; rfl
          have hex : (m.usable.take (j + 1)).foldl (expand1 m.cs s row) rs = expand1 m.cs s row (zs'.map (·.2.2.2)) btn := by rw [foldl_take hb0, hzj]
          have hw0j := dp_same ef _ _ hw0
          refine ⟨_, rfl, _, rfl, _, rfl, Fj, dm, .ref wp0, btn, m, s, rfl, gj.fh, hm.mono gj.ff, hmo, SpV.ofK (dp_same gj.fh _ _ hw0j), hso, fun _ hh p as F6 H6 g6 hp0 hp6 hp6s hpas hown => ?_, fun hor H5 e5 => ?_⟩
          · have hpo := press_ok hc hso hh
            have hpl2 := hpo.len hc
            have hr6 := hrj.ext g6
            have gj6 := gj.trans g6
            have hspA := SpAt.own hown (.inl (.inl hp6s))
            refine ⟨_, rfl, rfl, ?_⟩
            rw [show (!decide (V.ref p = V.non)) = true from rfl]
            refine ⟨true, rfl, ?_⟩
            refine iteT ⟨_, rfl, F6, _, _, rfl, g6.fh, hspA, by omega, fun k1 F7 H7 g7 hk1 => ?_⟩
            have hr7 := hr6.ext g7
            have gj7 := gj6.trans g7
            refine ⟨_, rfl, d, _, rfl, hr7.look g7.fh hk1, _, rfl, ?_⟩
            rw [atN_some (entL_keys zs')]
            refine ite2 (fun hin => ?_) (fun hin => ?_)
            · have hni : pressS (m.cs.st btn) s ∉ zs'.map (·.2.2.2.1) := by simpa using hin
              obtain ⟨t, ht⟩ := fold_pre m.cs s row (m.usable.take j) rs
              have hzi : ∃ z, zs'[i]? = some z ∧ z.2.2.2 = (s, row) := by
                have h1 : (zs'.map (·.2.2.2))[i]? = some (s, row) := by
                  rw [hzj, ht, List.getElem?_append_left (lt_at hri)]; exact hri
                obtain ⟨z, hz, e⟩ := get_map h1
                exact ⟨z, hz, e.symm⟩
              obtain ⟨z, hz, hze⟩ := hzi
              obtain ⟨zk, zw, zr, z3⟩ := z
              have hze' : z3 = (s, row) := hze
              subst hze'
              have hnd : (zs'.map (·.2.2.2.1)).Nodup := by rw [hmem, hzj]; exact hrok.nd
              have hat := hr7.at hnd (mem_at hz)
              have hlk := hr7.look g7.fh (dp_same (g6.ff.trans g7.ff) _ _ hw0j)
              have hrow := hr7.row _ (mem_at hz)
              have hrow7 := g7.fh _ _ hrow
              refine ⟨_, rfl, _, rfl, d, .ref zr, rfl, (by rw [← hat]; exact hlk), _, rfl, (by show 1 ≤ sizeLine; decide), fun l2 hl2 => ?_⟩
              have hzl2 := ne_of_none hrow7 hl2
              have g8' : Gr N0 F7 H7 F7 (upd H7 l2 (.lst [.str btn])) := (Gr.refl g7.fh).lay hl2
              refine ⟨zr, l2, row.map V.str, [.str btn], rfl, rfl, by rw [upd_ne hzl2]; exact hrow7, upd_same .., ?_, fun p2 hp2 => ?_⟩
              · have h2 := hbf.ok.len hc
                rw [List.length_map]
                show row.length + 1 ≤ sizeLine
                have h3 : row.length ≤ rs.length := hln0
                exact big (by omega)
              · have g9 : Gr N0 F7 H7 (upd F7 p2 (.lst (row.map V.str ++ [.str btn]))) (upd (upd H7 l2 (.lst [.str btn])) p2 (.lst (row.map V.str ++ [.str btn]))) := g8'.new hp2
                have hp2F : (upd F7 p2 (.lst (row.map V.str ++ [.str btn]))) p2 = some (.lst ((row ++ [btn]).map V.str)) := by rw [upd_same, List.map_append]; rfl
                have gA := g7.trans g9
                have hspA9 := hspA.ext gA
                generalize (upd F7 p2 (.lst (row.map V.str ++ [.str btn]))) = F9 at *
                generalize (upd (upd H7 l2 (.lst [.str btn])) p2 (.lst (row.map V.str ++ [.str btn]))) = H9 at *
                refine ⟨_, rfl, _, rfl, F9, _, _, rfl, g9.fh, hspA9, by omega, fun k2 F10 H10 g10 hk2 => ?_⟩
                have hr10 := (hr7.ext g9).ext g10
                have gj10 := (gj7.trans g9).trans g10
                refine ⟨d, zs'.map entL, k2, kS (pressS (m.cs.st btn) s), rfl, hr10.dict, keysAt_mono hr10.keys g10.fh, rfl, by rw [kS_data]; exact dp_same g10.fh _ _ hk2, kS_depth _, ?_, ?_, ?_⟩
                · have h1 := atN_some (entL_keys zs') (pressS (m.cs.st btn) s)
                  rw [decide_eq_false hni] at h1
                  cases qq : atN (zs'.map entL) (kS (pressS (m.cs.st btn) s)) with
                  | none => rfl
                  | some v => rw [qq] at h1; cases h1
                · have h1 := hrok.len hc
                  rw [← hzj, List.length_map] at h1
                  rw [List.length_map]
                  exact bigS (by omega)
                · have g11 := gj10.set (o := dnO P w d (zs'.map entL ++ [(kS (pressS (m.cs.st btn) s), k2, .ref p2)])) hr10.fd (.inr hd0)
                  have hw11 : (upd H10 d (dnO P w d (zs'.map entL ++ [(kS (pressS (m.cs.st btn) s), k2, .ref p2)]))) wl = some (.lst (zs'.map fun z => V.ref z.2.1)) := by
                    rw [upd_ne hwd.symm]; exact hr10.wait
                  have hd11 : (upd H10 d (dnO P w d (zs'.map entL ++ [(kS (pressS (m.cs.st btn) s), k2, .ref p2)]))) d = some (dnO P w d (zs'.map entL ++ [(kS (pressS (m.cs.st btn) s), k2, .ref p2)])) := upd_same ..
                  have hspA11 : SpAt K F10 (upd H10 d (dnO P w d (zs'.map entL ++ [(kS (pressS (m.cs.st btn) s), k2, .ref p2)]))) (.ref p) (pressS (m.cs.st btn) s) := by
                    have ho10 := (hown.ext gA).ext g10
                    have hdas : d ∉ as := fun hm' => by
                      have := (hown.mem hm').2.1
                      rw [hrj.dict] at this; cases this
                    have hpd : p ≠ d := fun z => by
                      rw [z, hrj.dict] at hp0; cases hp0
                    refine SpAt.own (ho10.upd' hdas) (.inl (.inl ?_))
                    rw [upd_ne hpd]
                    exact g10.same _ _ (gA.same _ _ hp6s)
                  refine ⟨_, rfl, .inl ⟨rfl, _, .inl (.inl hw11)⟩, _, rfl, F10, _, _, rfl, g11.fh, hspA11, by omega, fun k3 F12 H12 g12 hk3 => ?_⟩
                  have hw12 := g12.same _ _ hw11
                  have hd12 := g12.same _ _ hd11
                  have hFd12 := g12.hid hd11 hr10.fd
                  have hFw12 := g12.hid hw11 hr10.fw
                  refine ⟨wl, _, _, rfl, rfl, hw12, ?_, F12, zs' ++ [(k2, k3, p2, pressS (m.cs.st btn) s, row ++ [btn])], _, _, rfl, ?_, (g11.trans g12).set hFw12 (.inr gwl), ?_, ?_⟩
                  · have h1 := hrok.len hc
                    rw [← hzj, List.length_map] at h1
                    rw [List.length_map]
                    exact bigS (by omega)
                  · exact ef.trans (g6.ff.trans (gA.ff.trans (g10.ff.trans g12.ff)))
                  · refine ⟨by rw [upd_ne hwd, hd12, List.map_append]; rfl, hFd12, by rw [upd_same, List.map_append]; rfl, hFw12, fun z hz' => ?_, fun z hz' => ?_⟩
                    · rcases List.mem_append.mp hz' with h | h
                      · exact ⟨dp_same g12.ff _ _ (hr10.key z h).1, dp_same g12.ff _ _ (hr10.key z h).2⟩
                      · rw [List.mem_singleton.mp h]
                        exact ⟨dp_same g12.ff _ _ hk2, hk3⟩
                    · rcases List.mem_append.mp hz' with h | h
                      · exact g12.ff _ _ (hr10.row z h)
                      · rw [List.mem_singleton.mp h]
                        exact g12.ff _ _ (g10.ff _ _ hp2F)
                  · rw [hex]
                    unfold expand1
                    rw [if_pos hh, if_neg (by rw [← hmem]; exact hni), List.map_append]
                    rfl
            · have hni : pressS (m.cs.st btn) s ∈ zs'.map (·.2.2.2.1) := by simpa using hin
              refine ⟨F7, zs', _, _, rfl, ef.trans (g6.ff.trans g7.ff), gj7, hr7, ?_⟩
              rw [hex]
              unfold expand1
              rw [if_pos hh, if_pos (by rw [← hmem]; exact hni)]
          · have hh : ¬ harmS (m.cs.st btn) s = true := by
              rcases hor with h | h
              · exact absurd husb h
              · rw [h]; exact Bool.false_ne_true
            have g5' : Gr N0 Fj H' Fj H5 := (Gr.refl gj.fh).ext e5
            refine ⟨_, rfl, rfl, ?_⟩
            rw [show (!decide (V.non = V.non)) = false from rfl]
            refine ⟨false, rfl, iteF ⟨Fj, zs', _, _, rfl, ef, gj.trans g5', hrj.ext g5', ?_⟩⟩
            rw [foldl_take hb0, hzj]
            unfold expand1
            rw [if_neg hh]
        · rintro σ' H' ⟨Fj, zs', x8, x9, rfl, ef, gj, hrj, hzj⟩
          rw [List.length_map, List.take_length] at hzj
          exact ⟨Fj, zs', x8, x9, rfl, gj, hrj, hzj⟩
      · rintro σ' H5 ⟨Fk, zs', x8, x9, rfl, gk, hrk, hzk⟩
        refine ⟨_, rfl, _, _, rfl, rfl, _, Fk, zs', _, _, _, rfl, gk, hrk, rfl, ?_, ?_⟩
        · rw [hzk]
          exact hbf.step hc hri (by simpa using hme)
        · rw [hf2, hzk]
          exact hse
  · have hlt' : rs.length ≤ i := by
      rw [decide_eq_true_eq, List.length_map] at hlt
      omega
    rw [bfs_out hlt'] at hse
    refine ⟨_, rfl, (by show 2 ≤ sizeLine; decide), fun t ht => ?_⟩
    have gp := gi.pub hro.wait gwl
    have ep := pub_same gi.fh hro.wait
    have gt := gp.new (o := .tup [.non, .ref wl]) ht
    have et : Same (upd Fi wl (.lst (zs.map fun z => V.ref z.2.1))) (upd (upd Fi wl (.lst (zs.map fun z => V.ref z.2.1))) t (.tup [.non, .ref wl])) := same_upd (.refl _) (same_none gp.fh ht)
    refine hQ t .non (.ref wl) _ _ gt (.inl (.inl (upd_same ..))) (fun _ => rfl) (fun row' hr' => by rw [← hse] at hr'; cases hr') ?_
    rw [← hse, ← hrs]
    exact .lst (.inl (.inl (et _ _ (upd_same ..)))) (dpa_same (ep.trans et) _ _ (hwaitD zs hro))
end
end S3

/-! ### L4: spreads and closed lists, as the law asks them; goals handed -/
namespace S3
open PySem PySem.Spec PyProof.Rows L2
/-- a list of spreads whose pairs are known for good -/
def FndAt (K : PySem.W.Frag) (F H : Hp) (v : V) (tl : List Sprd) : Prop := ∃ a xs, v = .ref a ∧ SqL K H a xs ∧ Paired (fun x s => SpAt K F H x s) xs tl
theorem FndAt.ext {K : PySem.W.Frag} {F H F' H' : Hp} {v : V} {tl : List Sprd} (h : FndAt K F H v tl) (g : Gr N0 F H F' H') : FndAt K F' H' v tl := let ⟨a, xs, h1, h2, h3⟩ := h
  ⟨a, xs, h1, same_l g.same h2, paired_mono (fun _ _ q => q.ext g) h3⟩
section
variable {P : Program} {w : World} {K : PySem.W.Frag} {mg : Str → Option Value} {base : Heap} {CC DC : Addr}
abbrev s_lis : Stmt := top 65
abbrev nm_lis : List Str := ["_law_model_here", "_law_found", "_law_firsts", "_law_belief", "_law_inside", "_law_first", "_law_now"]
theorem sc_lis : FnScope nm_lis ["_law_model_here", "_law_found"] (defScope s_lis) := ⟨rfl, rfl, rfl, by decide +kernel, rfl, by decide +kernel, by decide +kernel⟩
/- slots: 0 _law_model_here 1 _law_found 2 _law_firsts 3 _law_belief 4 _law_inside 5 _law_first 6 _law_now -/
def spLis (K : PySem.W.Frag) : Sp := fun vs H Q _ => ∃ F d bs m sp, vs = [.ref d, bs] ∧ Same F H ∧ ModAt K F d m ∧ MdOk m ∧ Dp K H bs (pS sp) ∧ SprdOk m.cs sp ∧ ∀ H', Same H H' → Q (.bl true) H'
theorem cal_lis (D : DefX K mg "_law_is_spread" s_lis) (T : Tx K mg CC DC) : C8.Cal P w K mg base 1 "_law_is_spread" (spLis K) [] := by
  refine calD (ps := ["_law_model_here", "_law_found"]) D (fun _ _ _ _ _ _ us hl => match us, hl with | [_, _], _ => rfl) sc_lis ?_ ?_
  · rintro vs H Q E ⟨F, d, bs, m, sp, rfl, _⟩; rfl
  rintro f cdv A outer s0 H vs Q E hr ⟨F, dm, bs, m, sp, rfl, hF, hm, hmo, hb, hok, hQ⟩
  have hu := up 1 hr
  have hu40 := up 40 hr
  have hu64 := up 64 hr
  refine ⟨_, (pss_cons (ps_set (i := 2) sc_lis.nd rfl (.inl rfl) (pe_lst pa_nil))
      (pss_cons (ps_for PassesOwn.never rfl (pi_listK K rfl (pv 1)) (pg_name (i := 3) sc_lis.nd rfl (.inl rfl))
      (pss_cons (ps_setLc (i := 4) (own := [("_law_first", 5), ("_law_now", 6)])  rfl sc_lis.nd rfl rfl (sw_true rfl rfl rfl (by decide +kernel)) (pi_listK K rfl (pv 3)) (blkOk_by (own := [("_law_first", 5), ("_law_now", 6)]) (N := nm_lis) (sc := defScope s_lis) (by decide +kernel)) (fun _ _ _ _ _ => (pg_tupK K rfl 2 rfl (pgs_cons (pg_name (i := 5) sc_lis.nd rfl (.inl rfl)) (pgs_cons (pg_name (i := 6) sc_lis.nd rfl (.inl rfl)) pgs_nil)))) (fun _ _ _ _ _ => pts_nil) (fun _ _ _ _ _ => (pv 5)))
        (pss_cons (ps_if (PW.pt (pw_or (pt_cmpR (op_eqDK K rfl hu64) (pv 3) (pe_lst pa_nil) (nomark _)) (pw_or1 (pt_cmpR (op_neDK K rfl hu64) (pv 4) (pe_callB (cr_sortedK K rfl) (by rfl) T.sorted (by decide +kernel) (pa_cons (pv 4) pa_nil)) (nomark _)))))
        (pss_one (ps_ret pe_bl))
        pss_nil)
        (pss_cons (ps_for PassesOwn.never rfl (pi_listK K rfl (pv 3)) (pg_tupK K rfl 2 rfl (pgs_cons (pg_name (i := 5) sc_lis.nd rfl (.inl rfl)) (pgs_cons (pg_name (i := 6) sc_lis.nd rfl (.inl rfl)) pgs_nil)))
        (pss_one (ps_if (PW.pt (pw_or (pt_cmpR op_lt (pv 6) pe_int (nomark _)) (pw_or1 (pt_cmpR op_ge (pv 6) (pe_callB (call_len_seqK K rfl) (by rfl) T.len (by decide +kernel) (pa_cons (pe_dget hu (pv 0) pe_str (fun _ _ => rfl)) pa_nil)) (nomark _)))))
          (pss_one (ps_ret pe_bl))
          pss_nil)))
        (pss_one (ps_set (i := 2) sc_lis.nd rfl (.inl rfl) (pe_op op_cat (pv 2) (pv 4))))))))
      (pss_one (ps_ret (pe_and (pe_cmpR (op_eqDK K rfl hu64) (pe_callB (cr_sortedK K rfl) (by rfl) T.sorted (by decide +kernel) (pa_cons (pv 2) pa_nil)) (pe_callB (cr_sortedK K rfl) (by rfl) T.sorted (by decide +kernel) (pa_cons (pe_dget hu (pv 0) pe_str (fun _ _ => rfl)) pa_nil)) (nomark _)) (pe_one (pe_cmpR (op_eqDK K rfl hu64) (pv 1) (pe_callB (cr_sortDK K rfl hu40) (by rfl) T.sorted (by decide +kernel) (pa_cons (pv 1) pa_nil)) (nomark _)))))))), ?_⟩
  obtain ⟨ab, xs, rfl, sb, db⟩ := dp_list hb
  have hlen := dpa_len db
  rw [List.length_map] at hlen
  have hc := hmo.cs
  have hsl := hok.len hc
  have hfl : ∀ i, (firsts (sp.take i)).length ≤ 3 * 3 := fun i => by
    have h1 := flat_bound (f := fun b : Bel => b.map (·.1)) (n := 3) (l := sp.take i) fun b hb => by
      rw [List.length_map]
      exact hok.blen hc (List.mem_of_mem_take hb)
    have h2 : (sp.take i).length ≤ 3 := by rw [List.length_take]; omega
    unfold firsts
    omega
  refine ⟨Nat.zero_le _, fun f0 hf0 => ⟨_, rfl, ab, rfl, ⟨_, same_l (same_new hf0) sb⟩, for_list (K := K) (a := ab) (xs := xs) (fun i σ H' => ∃ fo x3 x4 x5 x6, σ = [some (.ref dm), some (.ref ab), some (.ref fo), x3, x4, x5, x6] ∧ Same H H' ∧ H' fo = some (.lst ((firsts (sp.take i)).map V.int))) ⟨f0, none, none, none, none, rfl, same_new hf0, upd_same ..⟩ ?_ ?_ ?_⟩⟩
  · rintro i σ H' _ ⟨fo, x3, x4, x5, x6, rfl, e, _⟩
    exact same_l e sb
  · rintro i x σ H' hx ⟨fo, x3, x4, x5, x6, rfl, e, hfo⟩
    obtain ⟨b, hb0, db0⟩ := dpa_at db hx
    obtain ⟨a2, ys, rfl, sb2, db2⟩ := dp_list db0
    have hlen2 := dpa_len db2
    rw [List.length_map] at hlen2
    have hb3 := hok.blen hc (mem_at hb0)
    obtain ⟨o1, o2, o3⟩ := hok.bel b (mem_at hb0)
    refine ⟨_, rfl, a2, rfl, ⟨_, same_l e sb2⟩, fun L hL => lc_list (K := K) (a := a2) (xs := ys) (PvS H' L fun i acc => acc = (b.take i).map fun p => V.int p.1) (PvS.zero hL rfl) (fun i H3 _ h => same_l (e.trans h.1) sb2) ?_ ?_⟩
    · rintro j y H3 hy ⟨e3, acc, hacc, hl, r⟩
      obtain ⟨q, hq, dq⟩ := dpa_at db2 hy
      obtain ⟨t, rfl, st⟩ := dp_pP dq
      refine ⟨t, _, rfl, same_t (e.trans e3) st, rfl, _, _, rfl, _, _, rfl, rfl, rfl, _, rfl, PvS.snoc hL e3 hacc hl (by have := lt_at hq; omega) (.refl _) ?_⟩
      rw [r, map_take_at hq]
    · rintro H3 ⟨e3, acc, hacc, hl, r⟩
      rw [hlen2, List.take_length] at r
      have hr' : acc = (b.map (·.1)).map V.int := by rw [r, List.map_map]; rfl
      have e03 := e.trans e3
      refine ⟨_, rfl, Nat.zero_le _, fun p hp => ?_⟩
      have ep := same_new (o := .lst []) hp
      refine ⟨pB b, pB [], dp_same (e03.trans ep) _ _ db0, .lst (.inl (.inl (upd_same ..))) .nil, shaped_dq (dq_pB _) (Nat.le_trans (dep_pB _) (by decide)), shaped_dq (dq_pB _) (Nat.le_trans (dep_pB _) (by decide)), _, rfl, ?_⟩
      rw [eqv_pB, decide_eq_false o1]
      refine iteF ?_
      have haccp := ep _ _ hacc
      refine ⟨_, rfl, _, rfl, L, b.map (·.1), rfl, .inl (.inl (by rw [← hr']; exact haccp)), by rw [List.length_map]; omega, fun ns q hperm hsrt hq => ?_⟩
      have hns : ns = b.map (·.1) := sorted_uniq hperm hsrt (lt_le o2)
      subst hns
      have eq2 := same_new (o := .lst ((b.map (·.1)).map V.int)) hq
      refine ⟨.list ((b.map (·.1)).map .int), .list ((b.map (·.1)).map .int), .lst (.inl (.inl (by have z := eq2 _ _ haccp; rw [hr'] at z; exact z))) (dpa_ints _), .lst (.inl (.inl (upd_same ..))) (dpa_ints _), shaped_dq (dq_ints _) (dep_ints _), shaped_dq (dq_ints _) (dep_ints _), _, rfl, ?_⟩
      rw [eqv_ints, decide_eq_true rfl]
      refine iteF ?_
      have e05 := (e03.trans ep).trans eq2
      have e35 := (e3.trans ep).trans eq2
      have hL5 := eq2 _ _ haccp
      generalize (upd (upd H3 p (.lst [])) q (.lst ((b.map (·.1)).map V.int))) = H5 at *
      refine ⟨_, rfl, a2, rfl, ⟨_, same_l e05 sb2⟩, for_list (K := K) (a := a2) (xs := ys) (fun k σ' H2 => ∃ x5 x6, σ' = [some (.ref dm), some (.ref ab), some (.ref fo), some (.ref a2), some (.ref L), x5, x6] ∧ H2 = H5) ⟨_, _, rfl, rfl⟩ ?_ ?_ ?_⟩
      · rintro k σ' H2 _ ⟨x5, x6, rfl, rfl⟩
        exact same_l e05 sb2
      · rintro k y σ' H2 hy ⟨x5, x6, rfl, rfl⟩
        obtain ⟨pp, hpp, dq⟩ := dpa_at db2 hy
        obtain ⟨t, rfl, st⟩ := dp_pP dq
        obtain ⟨q1, q2, q3⟩ := o3 pp (mem_at hpp)
        obtain ⟨asx, ds, hsd, hsa, hsp⟩ := hm.stp (hF.trans e05)
        have hdl : ((ds.map V.ref).length : Int) = (m.cs.n : Int) := by rw [List.length_map, hsp.length]; rfl
        refine ⟨t, _, rfl, same_t e05 st, rfl, _, _, rfl, _, _, rfl, rfl, _, rfl, _, _, rfl, rfl, _, rfl, ?_⟩
        refine ite2 (fun h => absurd (of_decide_eq_true h) (by omega)) (fun _ => ?_)
        refine ⟨_, rfl, _, rfl, dm, _, rfl, hsd, asx, _, rfl, .inl (.inl (.inl ((hF.trans e05) _ _ hsa))), _, _, rfl, rfl, _, rfl, ?_⟩
        refine ite2 (fun h => absurd (of_decide_eq_true h) (by omega)) (fun _ => ⟨_, _, rfl, rfl⟩)
      · rintro σ' H2 ⟨x5, x6, rfl, rfl⟩
        refine ⟨_, rfl, _, rfl, fo, L, _, _, rfl, rfl, e35 _ _ hfo, hL5, ?_, fun nf hnf => ⟨nf, _, _, _, _, rfl, e05.trans (same_new hnf), ?_⟩⟩
        · have h1 := hfl i
          rw [hr', List.length_map, List.length_map, List.length_map]
          exact big (by omega)
        · rw [upd_same, hr', ← List.map_append]
          unfold firsts
          rw [take_at hb0, List.flatMap_append, List.flatMap_cons, List.flatMap_nil, List.append_nil]
  · rintro σ H' ⟨fo, x3, x4, x5, x6, rfl, e, hfo⟩
    rw [hlen, List.take_length] at hfo
    have hf9 := hfl sp.length
    rw [List.take_length] at hf9
    have hol : m.order.length ≤ 3 := by rw [hmo.op.length_eq]; exact hc.len
    refine ⟨_, rfl, fo, firsts sp, rfl, .inl (.inl hfo), by omega, fun ns1 p1 hperm1 hsrt1 hp1 => ?_⟩
    have e1 := e.trans (same_new (o := .lst (ns1.map V.int)) hp1)
    obtain ⟨ao, hod, hoa⟩ := hm.ord (hF.trans e1)
    refine ⟨_, rfl, dm, _, rfl, hod, ao, m.order, rfl, .inl (.inl ((hF.trans e1) _ _ hoa)), by omega, fun ns2 p2 hperm2 hsrt2 hp2 => ?_⟩
    have e2 := e1.trans (same_new (o := .lst (ns2.map V.int)) hp2)
    have hn12 : ns1 = ns2 := sorted_uniq (hperm1.trans (hok.prm.trans (hmo.op.symm.trans hperm2.symm))) hsrt1 hsrt2
    refine ⟨.list (ns1.map .int), .list (ns2.map .int), .lst (.inl (.inl (by rw [upd_ne (ne_of_none (upd_same ..) hp2)]; exact upd_same ..))) (dpa_ints _), .lst (.inl (.inl (upd_same ..))) (dpa_ints _), shaped_dq (dq_ints _) (dep_ints _), shaped_dq (dq_ints _) (dep_ints _), _, rfl, ?_⟩
    rw [eqv_ints, decide_eq_true hn12]
    refine iteT ⟨_, rfl, _, rfl, ?_⟩
    dsimp only [tNil]
    refine sortD_sp (same_l e2 sb) (dpa_same e2 _ _ db) fun p ys hp dys => ?_
    have ep := same_new (o := .lst ys) hp
    refine ⟨pS sp, pS (sortS sp), dp_same (e2.trans ep) _ _ hb, .lst (.inl (.inl (upd_same ..))) (dpa_same ep _ _ dys), shaped_dq (dq_pS _) (Nat.le_trans (dep_pS _) (by decide)), shaped_dq (dq_pS _) (Nat.le_trans (dep_pS _) (by decide)), ?_⟩
    rw [eqv_pS, hok.srt, decide_eq_true rfl]
    exact hQ _ (e2.trans ep)
abbrev s_lcr : Stmt := top 66
abbrev nm_lcr : List Str := ["_law_model_here", "_law_wish", "_law_found", "_law_entries", "_law_beliefs", "_law_button", "_law_after_here"]
theorem sc_lcr : FnScope nm_lcr ["_law_model_here", "_law_wish", "_law_found"] (defScope s_lcr) := ⟨rfl, rfl, rfl, by decide +kernel, rfl, by decide +kernel, by decide +kernel⟩
/- slots: 0 _law_model_here 1 _law_wish 2 _law_found 3 _law_entries 4 _law_beliefs 5 _law_button 6 _law_after_here -/
def spLcr (K : PySem.W.Frag) : Sp := fun vs H Q _ => ∃ F d g fv m goal tl, vs = [.ref d, g, fv] ∧ Same F H ∧ ModAt K F d m ∧ MdOk m ∧ Dp K H g (pG goal) ∧ GoalOkC m.cs goal ∧ FndAt K F H fv tl ∧ tl.length < 10000000 ∧ (∀ s ∈ tl, SprdOk m.cs s) ∧ ∀ H', Same H H' → Q (.bl (closedB m.cs goal tl)) H'
theorem cal_lcr (D : DefX K mg "_law_closed_rows" s_lcr) (T : Tx K mg CC DC) (cLis : C8.Cal P w K mg base 1 "_law_is_spread" (spLis K) []) (cLsm : C8.Cal P w K mg base 2 "_law_spread_meets" (spLsm K) []) (cFrz : C8.Cal P w K mg base 1 "_law_frozen" (spKey K) []) (cAfter : C8.Cal P w K mg base 2 "_law_after" (spLaf K) []) : C8.Cal P w K mg base 3 "_law_closed_rows" (spLcr K) [] := by
  refine calD (ps := ["_law_model_here", "_law_wish", "_law_found"]) D (fun _ _ _ _ _ _ us hl => match us, hl with | [_, _, _], _ => rfl) sc_lcr ?_ ?_
  · rintro vs H Q E ⟨F, d, g, fv, m, goal, tl, rfl, _⟩; rfl
  rintro f cdv A outer s0 H vs Q E hr ⟨F, dm, g, fv, m, goal, tl, rfl, hF, hm, hmo, hg, hgo, hfv, hz, hok, hQ⟩
  have hu := up 1 hr
  have hu9 := up 9 hr
  refine ⟨_, (pss_cons (ps_set (i := 3) sc_lcr.nd rfl (.inl rfl) pe_nnew)
      (pss_cons (ps_for PassesOwn.never rfl (pi_listK K rfl (pv 2)) (pg_name (i := 4) sc_lcr.nd rfl (.inl rfl))
      (pss_cons (ps_if (PW.pt (pw_or (pt_not (pt_val (C8.pe_c cLis hr (by decide) rfl (pa_cons (pv 0) (pa_cons (pv 4) pa_nil))))) (pw_or1 (pt_val (C8.pe_c cLsm hr (by decide) rfl (pa_cons (pv 4) (pa_cons (pv 1) pa_nil)))))))
        (pss_one (ps_ret pe_bl))
        pss_nil)
        (pss_cons (ps_if (pt_cmp (pc_ninK P w K rfl rfl rfl hu9 (C8.pe_c cFrz hr (by decide) rfl (pa_cons (pv 4) pa_nil)) (pv 3)) rfl)
        (pss_one (ps_ret pe_bl))
        pss_nil)
        (pss_one (ps_nput hu9 (pv 3) (C8.pe_c cFrz hr (by decide) rfl (pa_cons (pv 4) pa_nil)) pe_bl rfl)))))
      (pss_cons (ps_if (pt_cmp (pc_nnotinK P w K rfl rfl rfl hu9 (C8.pe_c cFrz hr (by decide) rfl (pa_cons (pe_lst (pa_cons (pe_dget hu (pv 0) pe_str (fun _ _ => rfl)) pa_nil)) pa_nil)) (pv 3)) rfl)
      (pss_one (ps_ret pe_bl))
      pss_nil)
      (pss_cons (ps_for PassesOwn.never rfl (pi_listK K rfl (pv 2)) (pg_name (i := 4) sc_lcr.nd rfl (.inl rfl))
      (pss_one (ps_for PassesOwn.never rfl (pi_listK K rfl (pe_dget hu (pv 0) pe_str (fun _ _ => rfl))) (pg_name (i := 5) sc_lcr.nd rfl (.inl rfl))
        (pss_cons (ps_set (i := 6) sc_lcr.nd rfl (.inl rfl) (C8.pe_c cAfter hr (by decide) rfl (pa_cons (pv 0) (pa_cons (pv 4) (pa_cons (pv 5) pa_nil)))))
          (pss_one (ps_if (PW.pt (pw_and (pt_cmpR op_notN (pv 6) pe_non (nomark _)) (pw_and1 (pt_cmp (pc_nnotinK P w K rfl rfl rfl hu9 (C8.pe_c cFrz hr (by decide) rfl (pa_cons (pv 6) pa_nil)) (pv 3)) rfl))))
          (pss_one (ps_ret pe_bl))
          pss_nil))))))
      (pss_one (ps_ret pe_bl)))))), ?_⟩
  have hc := hmo.cs
  obtain ⟨ab, xs, rfl, sb, db⟩ := hfv
  have hlen := db.length
  refine fun d hd => ⟨_, rfl, ab, rfl, ⟨_, same_l (same_new hd) sb⟩, ?_⟩
  have g0 : Gr N0 F H F (upd H d (dnO P w d [])) := (Gr.refl hF).lay hd
  refine for_list (K := K) (a := ab) (xs := xs) (fun i σ H' => ∃ Fi es x4, σ = [some (.ref dm), some g, some (.ref ab), some (.ref d), x4, none, none] ∧ Gr N0 F H Fi H' ∧ Fi d = none ∧ H' d = some (dnO P w d es) ∧ KeysAt K Fi es ∧ es.map (·.1) = (tl.take i).map kS ∧ (tl.take i).Nodup ∧ (tl.take i).all (fun s => !meetsS goal s) = true) ⟨F, [], none, rfl, g0, same_none hF hd, upd_same .., (fun x hx => by cases hx), rfl, by simp, by simp⟩ ?_ ?_ ?_
  · rintro i σ H' _ ⟨Fi, es, x4, rfl, gi, _⟩
    exact same_l gi.same sb
  · rintro i x σ H' hx ⟨Fi, es, x4, rfl, gi, hfd, hes, hke, hks, hnd, hall⟩
    obtain ⟨s, hs0, hsp0⟩ := paired_getE db hx
    have hso := hok s (mem_at hs0)
    have hsl := hso.len hc
    have hspi := hsp0.ext gi
    refine ⟨_, rfl, _, rfl, Fi, dm, x, m, s, rfl, gi.fh, hm.mono gi.ff, hmo, hspi.dp gi.fh, hso, fun H3 e3 => ⟨_, rfl, iteF ?_⟩⟩
    have g3 : Gr N0 Fi H' Fi H3 := (Gr.refl gi.fh).ext e3
    have gi3 := gi.trans g3
    refine ⟨_, rfl, _, rfl, x, g, goal, s, rfl, (hspi.ext g3).spv g3.fh, dp_same gi3.same _ _ hg, by omega, hso.laws hc hgo, fun H4 e4 => ⟨_, rfl, ?_⟩⟩
    have g4 : Gr N0 Fi H' Fi H4 := g3.ext e4
    have gi4 := gi.trans g4
    refine ite2 (fun hme => ?_) (fun hme => ?_)
    · have hcl : closedB m.cs goal tl = false := by
        unfold closedB
        have : tl.all (fun s => !meetsS goal s) = false := by
          rw [Bool.eq_false_iff]
          intro ha
          have := List.all_eq_true.mp ha s (mem_at hs0)
          rw [hme] at this
          cases this
        rw [this, Bool.false_and, Bool.and_false]
      have := hQ H4 gi4.same
      rw [hcl] at this
      exact this
    have hes4 := g4.same _ _ hes
    refine ⟨_, rfl, Fi, x, s, rfl, gi4.fh, hspi.ext g4, by omega, fun kp F5 H5 g5 hkp => ?_⟩
    have hes5 := g5.same _ _ hes4
    have hke5 := keysAt_mono hke g5.ff
    have gi5 := gi4.trans g5
    refine ⟨_, rfl, d, _, rfl, dnk_key (F := H) hes5 (keysAt_mono hke5 g5.fh) (dp_same g5.fh _ _ hkp), _, rfl, ?_⟩
    rw [atN_some hks]
    refine ite2 (fun hm' => ?_) (fun hm' => ?_)
    · have hcl : closedB m.cs goal tl = false := by
        unfold closedB
        rw [decide_eq_false (not_nodup hs0 (by simpa using hm')), Bool.false_and]
      have := hQ H5 gi5.same
      rw [hcl] at this
      exact this
    have hni : s ∉ tl.take i := by simpa using hm'
    refine ⟨_, rfl, _, rfl, F5, x, s, rfl, g5.fh, (hspi.ext g4).ext g5, by omega, fun kp6 F6 H6 g6 hkp6 => ?_⟩
    have hes6 := g6.same _ _ hes5
    have hke6 := keysAt_mono hke5 g6.ff
    have gi6 := gi5.trans g6
    refine ⟨d, es, kp6, kS s, rfl, hes6, keysAt_mono hke6 g6.fh, rfl, by rw [kS_data]; exact dp_same g6.fh _ _ hkp6, kS_depth s, ?_, ?_, ?_⟩
    · have h1 := atN_some hks s
      rw [decide_eq_false hni] at h1
      cases q : atN es (kS s) with
      | none => rfl
      | some v => rw [q] at h1; cases h1
    · have h1 := congrArg List.length hks
      rw [List.length_map, List.length_map, List.length_take] at h1
      exact bigS (by omega)
    · have hfd6 := g6.hid hes5 (g5.hid hes4 hfd)
      refine ⟨F6, es ++ [(kS s, kp6, .bl true)], _, rfl, gi6.set hfd6 (.inr hd), hfd6, upd_same .., fun y hy => ?_, ?_, ?_, ?_⟩
      · rcases List.mem_append.mp hy with hy | hy
        · exact hke6 y hy
        · rw [List.mem_singleton.mp hy]
          exact ⟨by rw [kS_data]; exact hkp6, kS_depth s⟩
      · rw [List.map_append, hks, map_take_at hs0]; rfl
      · rw [take_at hs0, List.nodup_append]
        exact ⟨hnd, by simp, fun y hy z hz e => hni (by simp at hz; rw [← hz, ← e]; exact hy)⟩
      · rw [take_at hs0, List.all_append, hall]
        simpa using hme
  · rintro σ H' ⟨Fi, es, x4, rfl, gi, hfd, hes, hke, hks, hnd, hall⟩
    rw [hlen, List.take_length] at hks hnd hall
    obtain ⟨vst, hst1, hst2⟩ := hm.sta (gi.ff.trans gi.fh)
    obtain ⟨ast, xst, rfl, sst, dst⟩ := dp_list hst2
    refine ⟨_, rfl, dm, _, rfl, hst1, (by show 1 ≤ sizeLine; decide), fun l hl => ?_⟩
    have g3 : Gr N0 Fi H' Fi (upd H' l (.lst [.ref ast])) := (Gr.refl gi.fh).lay hl
    have hspa : SpAt K Fi (upd H' l (.lst [.ref ast])) (.ref l) [m.cs.start] := ⟨l, [.ref ast], rfl, .inl (.inl (upd_same ..)), .cons ⟨ast, xst, rfl, same_l (gi.ff.trans g3.fh) sst, dpa_same gi.ff _ _ dst⟩ .nil⟩
    refine ⟨Fi, _, [m.cs.start], rfl, g3.fh, hspa, by show 1 < 1000; decide, fun kp F4 H4 g4 hkp => ?_⟩
    have g34 := g3.trans g4
    have g5 := gi.trans g34
    have hes5 := g34.same _ _ hes
    have hke5 := keysAt_mono hke g34.ff
    refine ⟨_, rfl, d, _, rfl, dnk_key (F := H) hes5 (keysAt_mono hke5 g5.fh) (dp_same g5.fh _ _ hkp), _, rfl, ?_⟩
    rw [atN_some hks]
    refine ite2 (fun hm' => ?_) (fun hm' => ?_)
    · have hcl : closedB m.cs goal tl = false := by
        unfold closedB
        have hm'' : [m.cs.start] ∉ tl := by simpa using hm'
        rw [decide_eq_false hm'', Bool.false_and, Bool.and_false, Bool.and_false]
      have := hQ H4 g5.same
      rw [hcl] at this
      exact this
    have hm'' : [m.cs.start] ∈ tl := by simpa using hm'
    have hcl : closedB m.cs goal tl = tl.all (staysB m.cs tl) := by
      unfold closedB
      rw [decide_eq_true hnd, hall, decide_eq_true hm'', Bool.true_and, Bool.true_and, Bool.true_and]
    refine ⟨_, rfl, ab, rfl, ⟨_, same_l g5.same sb⟩, for_list (K := K) (a := ab) (xs := xs) (fun i σ H' => ∃ Fj x4 x5 x6, σ = [some (.ref dm), some g, some (.ref ab), some (.ref d), x4, x5, x6] ∧ Gr N0 F4 H4 Fj H' ∧ (tl.take i).all (staysB m.cs tl) = true) ⟨F4, _, _, _, rfl, Gr.refl g5.fh, by simp⟩ ?_ ?_ ?_⟩
    · rintro i σ H' _ ⟨Fj, x4, x5, x6, rfl, gj, _⟩
      exact same_l (g5.same.trans gj.same) sb
    · rintro i x σ Hj hx ⟨Fj, x4, x5, x6, rfl, gj, hst⟩
      obtain ⟨s, hs0, hsp0⟩ := paired_getE db hx
      have hso := hok s (mem_at hs0)
      have hsl := hso.len hc
      have g5j := g5.trans gj
      obtain ⟨au, hud, hua⟩ := (hm.mono g5j.ff).usa g5j.fh
      refine ⟨_, rfl, dm, _, rfl, hud, au, rfl, ⟨_, .inl (.inl (g5j.fh _ _ hua))⟩, for_list (K := K) (a := au) (xs := m.usable.map V.str) (fun k σ' H' => ∃ Fk x5 x6, σ' = [some (.ref dm), some g, some (.ref ab), some (.ref d), some x, x5, x6] ∧ Gr N0 Fj Hj Fk H' ∧ (m.usable.take k).all (fun b => !(harmS (m.cs.st b) s && !decide (pressS (m.cs.st b) s ∈ tl))) = true) ⟨Fj, _, _, rfl, Gr.refl gj.fh, by simp⟩ ?_ ?_ ?_⟩
      · rintro k σ' H' _ ⟨Fk, x5, x6, rfl, gk, _⟩
        exact .inl (.inl (gk.fh _ _ (gk.ff _ _ hua)))
      · rintro k y σ' Hk hy ⟨Fk, x5, x6, rfl, gk, hallk⟩
        obtain ⟨btn, hb0, rfl⟩ := get_map hy
        have g5k := g5j.trans gk
        have gk4 := gj.trans gk
        refine ⟨_, rfl, _, rfl, _, rfl, Fk, dm, x, btn, m, s, rfl, gk.fh, hm.mono g5k.ff, hmo, (hsp0.ext g5k).spv gk.fh, hso, fun _ hh p as F6 H6 g6 hp0 hp6 hp6s hpas hown => ?_, fun hor H6 e6 => ?_⟩
        · have hpl2 := (press_ok hc hso hh).len hc
          refine ⟨_, rfl, rfl, ?_⟩
          rw [show (!decide (V.ref p = V.non)) = true from rfl]
          refine ⟨true, rfl, iteT ⟨_, rfl, F6, _, _, rfl, g6.fh, SpAt.own hown (.inl (.inl hp6s)), by omega, fun k1 F7 H7 g7 hk1 => ?_⟩⟩
          have gA := (gk4.trans g6).trans g7
          have hes7 := gA.same _ _ hes5
          refine ⟨_, rfl, d, _, rfl, dnk_key (F := H) hes7 (keysAt_mono hke5 (gA.ff.trans g7.fh)) (dp_same g7.fh _ _ hk1), _, rfl, ?_⟩
          rw [atN_some hks]
          refine ite2 (fun hn => ?_) (fun hn => ?_)
          · have hall0 : tl.all (staysB m.cs tl) = false := by
              rw [Bool.eq_false_iff]
              intro ha
              have h1 := List.all_eq_true.mp ha s (mem_at hs0)
              have h2 := List.all_eq_true.mp h1 btn (mem_at hb0)
              rw [hh, hn] at h2
              cases h2
            have := hQ H7 (g5.same.trans gA.same)
            rw [hcl, hall0] at this
            exact this
          · refine ⟨F7, _, _, rfl, (gk.trans g6).trans g7, ?_⟩
            rw [take_at hb0, List.all_append, hallk]
            simp [hh]
            simpa using hn
        · have hh : harmS (m.cs.st btn) s = false := by
            rcases hor with h | h
            · exact absurd (mem_at hb0) h
            · exact h
          refine ⟨_, rfl, rfl, ?_⟩
          rw [show (!decide (V.non = V.non)) = false from rfl]
          refine ⟨false, rfl, iteF ⟨Fk, _, _, rfl, gk.ext e6, ?_⟩⟩
          rw [take_at hb0, List.all_append, hallk]
          simp [hh]
      · rintro σ' Hk ⟨Fk, x5, x6, rfl, gk, hallk⟩
        rw [List.length_map, List.take_length] at hallk
        refine ⟨Fk, _, _, _, rfl, gj.trans gk, ?_⟩
        rw [take_at hs0, List.all_append, hst]
        simp only [List.all_cons, List.all_nil, Bool.and_true, Bool.true_and]
        exact hallk
    · rintro σ H6 ⟨Fj, x4, x5, x6, rfl, gj, hst⟩
      rw [hlen, List.take_length] at hst
      have := hQ H6 (g5.same.trans gj.same)
      rw [hcl, hst] at this
      exact this
abbrev s_lha : Stmt := top 58
abbrev nm_lha : List Str := ["_law_wish", "_law_one"]
theorem sc_lha : FnScope nm_lha ["_law_wish"] (defScope s_lha) := ⟨rfl, rfl, rfl, by decide +kernel, rfl, by decide +kernel, by decide +kernel⟩
/- slots: 0 _law_wish 1 _law_one -/
def spLha (K : PySem.W.Frag) : Sp := fun vs H Q _ => ∃ F g goal, vs = [g] ∧ Same F H ∧ Dp K F g (pG goal) ∧ (match goal with | .grp gs => gs.length < 1000 | _ => True) ∧ ∀ v F' H', Gr N0 F H F' H' → Dp K F' v (pG goal) → Q v H'
theorem cal_lha (D : DefX K mg "_law_handed" s_lha) (T : Tx K mg CC DC) : C8.Cal P w K mg base 1 "_law_handed" (spLha K) [] := by
  refine calD (ps := ["_law_wish"]) D (fun _ _ _ _ _ _ us hl => match us, hl with | [_], _ => rfl) sc_lha ?_ ?_
  · rintro vs H Q E ⟨F, g, goal, rfl, _⟩; rfl
  rintro f cdv A outer s0 H vs Q E hr ⟨F, g, goal, rfl, hF, hg, hz, hQ⟩
  refine ⟨_, (pss_cons (ps_if (pt_cmpR op_eq (pe_ix (ix_tupK K rfl) (pv 0) pe_int (fun _ _ => rfl)) pe_str (nomark _))
      (pss_one (ps_ret (pe_tup (pa_cons pe_str (pa_cons (pe_lc (own := [("_law_one", 1)]) (g := (gName 1))  rfl sc_lha.nd (pi_listK K rfl (pe_ix (ix_tupK K rfl) (pv 0) pe_int (fun _ _ => rfl))) (blkOk_by (own := [("_law_one", 1)]) (N := nm_lha) (sc := defScope s_lha) (by decide +kernel)) (fun _ _ _ _ _ => (pg_name (i := 1) sc_lha.nd rfl (.inl rfl))) (fun _ _ _ _ _ => pts_nil) (fun _ _ _ _ _ => (pe_callTy (call_list_ofK K rfl) (by rfl) T.list (by decide +kernel) (pa_cons (pv 1) pa_nil)))) pa_nil)))))
      pss_nil)
      (pss_cons (ps_if (pt_cmpR op_eq (pe_ix (ix_tupK K rfl) (pv 0) pe_int (fun _ _ => rfl)) pe_str (nomark _))
      (pss_one (ps_ret (pe_tup (pa_cons pe_str (pa_cons (pe_callTy (call_list_ofK K rfl) (by rfl) T.list (by decide +kernel) (pa_cons (pe_ix (ix_tupK K rfl) (pv 0) pe_int (fun _ _ => rfl)) pa_nil)) pa_nil)))))
      pss_nil)
      (pss_one (ps_ret (pv 0))))), ?_⟩
  cases goal with
  | now =>
    obtain ⟨ag, gs, rfl, sg, dg⟩ := dp_tup hg
    obtain ⟨g1, rfl, hg1⟩ := dpa_one dg
    obtain rfl := dp_str hg1
    refine ⟨_, rfl, ag, _, 0, _, rfl, rfl, same_t hF sg, rfl, rfl, _, rfl, noV (str_ne (by decide)) ?_⟩
    refine ⟨_, rfl, ag, _, 0, _, rfl, rfl, same_t hF sg, rfl, rfl, _, rfl, noV (str_ne (by decide)) ?_⟩
    exact ⟨_, rfl, hQ _ F H (Gr.refl hF) hg⟩
  | first =>
    obtain ⟨ag, gs, rfl, sg, dg⟩ := dp_tup hg
    obtain ⟨g1, rfl, hg1⟩ := dpa_one dg
    obtain rfl := dp_str hg1
    refine ⟨_, rfl, ag, _, 0, _, rfl, rfl, same_t hF sg, rfl, rfl, _, rfl, noV (str_ne (by decide)) ?_⟩
    refine ⟨_, rfl, ag, _, 0, _, rfl, rfl, same_t hF sg, rfl, rfl, _, rfl, noV (str_ne (by decide)) ?_⟩
    exact ⟨_, rfl, hQ _ F H (Gr.refl hF) hg⟩
  | inn ns =>
    obtain ⟨ag, gs, rfl, sg, dg⟩ := dp_tup hg
    obtain ⟨g1, g2, rfl, hg1, hg2⟩ := dpa_pair dg
    obtain rfl := dp_str hg1
    obtain ⟨an, rfl, sn⟩ := dp_ints hg2
    refine ⟨_, rfl, ag, _, 0, _, rfl, rfl, same_t hF sg, rfl, rfl, _, rfl, noV (str_ne (by decide)) ?_⟩
    refine ⟨_, rfl, ag, _, 0, _, rfl, rfl, same_t hF sg, rfl, rfl, _, rfl, yesV ?_⟩
    refine ⟨_, rfl, ag, _, 1, _, rfl, rfl, same_t hF sg, rfl, an, _, rfl, .inl (same_l hF sn), fun l hl => ⟨(by show 2 ≤ sizeLine; decide), fun t ht => ?_⟩⟩
    have g2' := ((Gr.refl hF (S := N0)).new (o := .lst (ns.map V.int)) hl).new (o := .tup [.str "in", .ref l]) ht
    refine hQ _ _ _ g2' (.tup (.inl (.inl (upd_same ..))) (.cons (.str _) (.cons (.lst (.inl (.inl ?_)) (dpa_ints _)) .nil)))
    rw [upd_ne (ne_of_none (upd_same ..) ht)]; exact upd_same ..
  | grp ns =>
    obtain ⟨ag, gs, rfl, sg, dg⟩ := dp_tup hg
    obtain ⟨g1, g2, rfl, hg1, hg2⟩ := dpa_pair dg
    obtain rfl := dp_str hg1
    obtain ⟨an, zs, rfl, sn, dn⟩ := dp_list hg2
    have hlz := dpa_len dn
    rw [List.length_map] at hlz
    have hz' : ns.length < 1000 := hz
    refine ⟨_, rfl, ag, _, 0, _, rfl, rfl, same_t hF sg, rfl, rfl, _, rfl, yesV ?_⟩
    refine ⟨_, rfl, ag, _, 1, _, rfl, rfl, same_t hF sg, rfl, an, rfl, ⟨_, same_l hF sn⟩, fun L hL => lc_list (K := K) (a := an) (xs := zs) (PvF F H L fun i acc F' => DpAll K F' acc ((ns.take i).map fun g => .list (g.map .int))) (PvF.zero hF hL .nil) (fun i H' _ ⟨_, _, g, _⟩ => same_l g.same (same_l hF sn)) ?_ ?_⟩
    · rintro i x H' hx ⟨Fi, acc, gi, hn, hacc, hl, r⟩
      obtain ⟨g, hg0, dg0⟩ := dpa_at dn hx
      obtain ⟨a0, rfl, sa0⟩ := dp_ints dg0
      refine ⟨rfl, _, rfl, a0, _, rfl, .inl (same_l (gi.ff.trans gi.fh) sa0), fun l hl2 => ?_⟩
      have g4 := (Gr.refl gi.fh (S := N0)).new (o := .lst (g.map V.int)) hl2
      refine PvF.snoc hL gi hn hacc hl (by have := lt_at hg0; omega) g4 ?_
      rw [map_take_at hg0]
      exact dpa_snoc (dpa_same g4.ff _ _ r) (.lst (.inl (.inl (upd_same ..))) (dpa_ints _))
    · rintro H' ⟨Fi, acc, gi, hn, hacc, hl, r⟩
      rw [hlz, List.take_length] at r
      refine ⟨(by show 2 ≤ sizeLine; decide), fun t ht => ?_⟩
      have gp := gi.pub hacc hL
      have gt := gp.new (o := .tup [.str "group", .ref L]) ht
      have hne : L ≠ t := ne_of_none hacc ht
      have et : Same (upd Fi L (.lst acc)) (upd (upd Fi L (.lst acc)) t (.tup [.str "group", .ref L])) := same_upd (.refl _) (same_none gp.fh ht)
      refine hQ _ _ _ gt (.tup (.inl (.inl (upd_same ..))) (.cons (.str _) (.cons (.lst (.inl (.inl ?_)) (dpa_same ((pub_same gi.fh hacc).trans et) _ _ r)) .nil)))
      exact et _ _ (upd_same ..)
end
end S3

/-! ### L5: lists apart -/
namespace S3
open PySem PySem.Spec PyProof.Rows L2
theorem not_in_take {α : Type} {l : List α} (h : l.Nodup) {i : Nat} {x : α} (hx : l[i]? = some x) : x ∉ l.take i := fun hm => by
  obtain ⟨j, hj⟩ := List.getElem?_of_mem hm
  rw [List.getElem?_take] at hj
  split at hj
  · rename_i hlt
    have h1 := (List.getElem?_eq_some_iff.mp hj)
    have h2 := (List.getElem?_eq_some_iff.mp hx)
    obtain ⟨q1, r1⟩ := h1
    obtain ⟨q2, r2⟩ := h2
    have := (List.getElem_inj h).mp (r1.trans r2.symm)
    omega
  · cases hj
/-- an item of an answer, and the lists in it -/
def GrpAt (K : PySem.W.Frag) (H : Hp) (y : V) (as : List Addr) : Prop := ((∃ z, y = .str z) ∧ as = []) ∨ ∃ b xs cs, y = .ref b ∧ H b = some (.lst xs) ∧ as = b :: cs ∧ ((cs = [] ∧ ∀ x ∈ xs, ∃ t zs, x = .ref t ∧ SqT K H t zs) ∨ (xs = cs.map V.ref ∧ ∀ c ∈ cs, ∃ zs, H c = some (.lst zs)))
theorem ty_tup {K : PySem.W.Frag} {H : Hp} {t : Addr} {zs : List V} (h : SqT K H t zs) : TyX K H (.ref t) (.type "tuple") := by
  rcases h with (h | ⟨o, h⟩) | ⟨o, its, n, h1, h2, _⟩
  · exact .base (.tup h)
  · exact .fTuple h
  · exact .kTuple h1 h2
theorem flat_take {α : Type} {ass : List (List α)} {i : Nat} {as : List α} (h : ass[i]? = some as) : (ass.take (i + 1)).flatten = (ass.take i).flatten ++ as := by
  rw [take_at h, List.flatten_append, List.flatten_cons, List.flatten_nil, List.append_nil]
section
variable {P : Program} {w : World} {K : PySem.W.Frag} {mg : Str → Option Value} {base : Heap} {CC DC : Addr}
abbrev s_lap : Stmt := top 67
abbrev nm_lap : List Str := ["_law_lists", "_law_sizes", "_law_k", "_law_one", "_law_size"]
theorem sc_lap : FnScope nm_lap ["_law_lists"] (defScope s_lap) := ⟨rfl, rfl, rfl, by decide +kernel, rfl, by decide +kernel, by decide +kernel⟩
/- slots: 0 _law_lists 1 _law_sizes 2 _law_k 3 _law_one 4 _law_size -/
def spLap (K : PySem.W.Frag) : Sp := fun vs H Q _ => ∃ F a, ∃ ps : List Addr, ∃ c : Addr → List V, vs = [.ref a] ∧ Same F H ∧ H a = some (.lst (ps.map V.ref)) ∧ ps.Nodup ∧ a ∉ ps ∧ (∀ p ∈ ps, H p = some (.lst (c p)) ∧ (c p).length < 10000000 ∧ F p = none) ∧ ps.length < 10000000 ∧ ∀ H', Same F H' → Q (.bl true) H'
theorem cal_lap (D : DefX K mg "_law_apart" s_lap) (T : Tx K mg CC DC) : C8.Cal P w K mg base 1 "_law_apart" (spLap K) [] := by
  refine calD (ps := ["_law_lists"]) D (fun _ _ _ _ _ _ us hl => match us, hl with | [_], _ => rfl) sc_lap ?_ ?_
  · rintro vs H Q E ⟨F, a, ps, c, rfl, _⟩; rfl
  rintro f cdv A outer s0 H vs Q E hr ⟨F, a, ps, c, rfl, hF, ha, hnd, hap, hps, hz, hQ⟩
  have hu := up 1 hr
  have hu64 := up 64 hr
  refine ⟨_, (pss_cons (ps_setLc (i := 1) (own := [("_law_one", 3)]) (g := (gName 3))  rfl sc_lap.nd rfl rfl (sw_true rfl rfl rfl (by decide +kernel)) (pi_listK K rfl (pv 0)) (blkOk_by (own := [("_law_one", 3)]) (N := nm_lap) (sc := defScope s_lap) (by decide +kernel)) (fun _ _ _ _ _ => (pg_name (i := 3) sc_lap.nd rfl (.inl rfl))) (fun _ _ _ _ _ => pts_nil) (fun _ _ _ _ _ => (pe_callB (call_len_seqK K rfl) (by rfl) T.len (by decide +kernel) (pa_cons (pv 3) pa_nil))))
      (pss_cons (ps_for PassesOwn.never rfl (pi_range1 (by rfl) T.range (pa_cons (pe_callB (call_len_seqK K rfl) (by rfl) T.len (by decide +kernel) (pa_cons (pv 0) pa_nil)) pa_nil)) (pg_name (i := 2) sc_lap.nd rfl (.inl rfl))
      (pss_one (ps_expr (pe_bmK K rfl PySem.F.plainAttrs_list PySem.F.slot_list_append PySem.F.type_list_append mt_append (pe_ix (ix_listK K rfl) (pv 0) (pv 2) (fun _ _ => rfl)) (pa_cons pe_str pa_nil)))))
      (pss_one (ps_ret (pe_cmpR (op_eqDK K rfl hu64) (pe_lc (own := [("_law_one", 3)]) (g := (gName 3))  rfl sc_lap.nd (pi_listK K rfl (pv 0)) (blkOk_by (own := [("_law_one", 3)]) (N := nm_lap) (sc := defScope s_lap) (by decide +kernel)) (fun _ _ _ _ _ => (pg_name (i := 3) sc_lap.nd rfl (.inl rfl))) (fun _ _ _ _ _ => pts_nil) (fun _ _ _ _ _ => (pe_callB (call_len_seqK K rfl) (by rfl) T.len (by decide +kernel) (pa_cons (pv 3) pa_nil)))) (pe_lc (own := [("_law_size", 4)]) (g := (gName 4))  rfl sc_lap.nd (pi_listK K rfl (pv 1)) (blkOk_by (own := [("_law_size", 4)]) (N := nm_lap) (sc := defScope s_lap) (by decide +kernel)) (fun _ _ _ _ _ => (pg_name (i := 4) sc_lap.nd rfl (.inl rfl))) (fun _ _ _ _ _ => pts_nil) (fun _ _ _ _ _ => (pe_op op_add (pv 4) pe_int))) (nomark _)))))), ?_⟩
  refine ⟨_, rfl, a, rfl, ⟨_, .inl (.inl ha)⟩, fun L hL => lc_list (K := K) (a := a) (xs := ps.map V.ref) (PvS H L fun i acc => acc = ((ps.take i).map fun p => V.int (c p).length)) (PvS.zero hL rfl) (fun i H3 _ h => .inl (.inl (h.1 _ _ ha))) ?_ ?_⟩
  · rintro j y H3 hy ⟨e3, acc, hacc, hl, r⟩
    obtain ⟨q, hq, rfl⟩ := get_map hy
    obtain ⟨c1, c2, c3⟩ := hps q (mem_at hq)
    refine ⟨rfl, _, rfl, q, _, rfl, .inl (.inl (.inl (e3 _ _ c1))), PvS.snoc hL e3 hacc hl (by have := lt_at hq; omega) (.refl _) ?_⟩
    rw [r, map_take_at hq]
  · rintro H3 ⟨e3, acc, hacc, hl, r⟩
    rw [List.length_map, List.take_length] at r
    subst r
    have ha3 := e3 _ _ ha
    have hLps : L ∉ ps := fun z => by
      have := (hps L z).1
      rw [hL] at this; cases this
    have haL := ne_of_none ha hL
    refine ⟨_, rfl, a, _, rfl, .inl (.inl (.inl ha3)), _, rfl, by rw [List.length_map]; omega, by rw [List.length_map]; omega, ?_⟩
    refine for_it walk_range (fun i σ H' => ∃ x2, σ = [some (.ref a), some (.ref L), x2, none, none] ∧ Same F H' ∧ H' a = some (.lst (ps.map V.ref)) ∧ H' L = some (.lst (ps.map fun p => V.int (c p).length)) ∧ ∀ p ∈ ps, H' p = some (.lst (if p ∈ ps.take i then c p ++ [V.str "mark"] else c p))) ⟨none, rfl, hF.trans e3, ha3, hacc, fun p hp => by rw [List.take_zero, if_neg List.not_mem_nil]; exact e3 _ _ (hps p hp).1⟩ (fun _ _ _ _ _ => trivial) ?_ ?_
    · rintro i x σ H' H'' hi ⟨x2, rfl, e', ha', hL', hp'⟩ ⟨rfl, rfl⟩
      rw [List.length_map, Int.toNat_natCast] at hi
      have hpi : ps[i]? = some ps[i] := List.getElem?_eq_getElem hi
      generalize ps[i] = p at hpi
      obtain ⟨c1, c2, c3⟩ := hps p (mem_at hpi)
      have hni : p ∉ ps.take i := not_in_take hnd hpi
      have h1 := hp' p (mem_at hpi)
      rw [if_neg hni] at h1
      have hpa : a ≠ p := fun z => hap (z ▸ mem_at hpi)
      have hpL : L ≠ p := fun z => hLps (z ▸ mem_at hpi)
      refine ⟨_, rfl, _, rfl, a, _, _, .ref p, rfl, rfl, .inl (.inl ha'), (by rw [Int.zero_add]; exact atI_nat (by rw [List.getElem?_map, hpi]; rfl)), (.inl ⟨rfl, _, .inl (.inl h1)⟩), p, c p, .str "mark", rfl, rfl, h1, Nat.lt_of_lt_of_le c2 (by decide), _, rfl, same_upd e' c3, by rw [upd_ne hpa]; exact ha', by rw [upd_ne hpL]; exact hL', fun q hq => ?_⟩
      rw [take_at hpi]
      by_cases e : q = p
      · subst e
        rw [upd_same, if_pos (by simp)]
      · rw [upd_ne e]
        have h1 := hp' q hq
        have h2 : q ∈ ps.take i ++ [p] ↔ q ∈ ps.take i := by simp [e]
        simp only [h2]
        exact h1
    · rintro σ H' ⟨x2, rfl, e', ha', hL', hp'⟩
      rw [List.length_map, Int.toNat_natCast, List.take_length] at hp'
      refine ⟨_, rfl, a, rfl, ⟨_, .inl (.inl ha')⟩, fun L2 hL2 => lc_list (K := K) (a := a) (xs := ps.map V.ref) (PvS H' L2 fun i acc => acc = ((ps.take i).map fun p => (((c p).length + 1 : Nat) : Int)).map V.int) (PvS.zero hL2 rfl) (fun i H3 _ h => .inl (.inl (h.1 _ _ ha'))) ?_ ?_⟩
      · rintro j y H3 hy ⟨e3, acc, hacc, hl, r⟩
        obtain ⟨q, hq, rfl⟩ := get_map hy
        have h1 := hp' q (mem_at hq)
        rw [if_pos (mem_at hq)] at h1
        refine ⟨rfl, _, rfl, q, _, rfl, .inl (.inl (.inl (e3 _ _ h1))), PvS.snoc hL2 e3 hacc hl (by have := lt_at hq; omega) (.refl _) ?_⟩
        rw [r, map_take_at hq, List.map_append, List.length_append]; rfl
      · rintro H3 ⟨e3, acc, hacc, hl, r⟩
        rw [List.length_map, List.take_length] at r
        subst r
        have hL3 := e3 _ _ hL'
        refine ⟨_, rfl, L, rfl, ⟨_, .inl (.inl hL3)⟩, fun L3 hL3n => lc_list (K := K) (a := L) (xs := ps.map fun p => V.int (c p).length) (PvS H3 L3 fun i acc => acc = ((ps.take i).map fun p => (((c p).length + 1 : Nat) : Int)).map V.int) (PvS.zero hL3n rfl) (fun i H4 _ h => .inl (.inl (h.1 _ _ hL3))) ?_ ?_⟩
        · rintro j y H4 hy ⟨e4, acc, hacc4, hl, r⟩
          obtain ⟨q, hq, rfl⟩ := get_map hy
          refine ⟨rfl, _, rfl, _, _, rfl, rfl, PvS.snoc hL3n e4 hacc4 hl (by have := lt_at hq; omega) (.refl _) ?_⟩
          rw [r, map_take_at hq, List.map_append]; rfl
        · rintro H4 ⟨e4, acc, hacc4, hl, r⟩
          rw [List.length_map, List.take_length] at r
          subst r
          have e := e4 _ _ hacc
          refine ⟨.list ((ps.map fun p => (((c p).length + 1 : Nat) : Int)).map .int), .list ((ps.map fun p => (((c p).length + 1 : Nat) : Int)).map .int), .lst (.inl (.inl e)) (dpa_ints _), .lst (.inl (.inl hacc4)) (dpa_ints _), shaped_dq (dq_ints _) (dep_ints _), shaped_dq (dq_ints _) (dep_ints _), ?_⟩
          rw [eqv_ints, decide_eq_true rfl]
          exact hQ _ ((e'.trans e3).trans e4)
abbrev s_lmk : Stmt := top 72
abbrev nm_lmk : List Str := ["_law_found", "_law_lists", "_law_one", "_law_part"]
theorem sc_lmk : FnScope nm_lmk ["_law_found"] (defScope s_lmk) := ⟨rfl, rfl, rfl, by decide +kernel, rfl, by decide +kernel, by decide +kernel⟩
/- slots: 0 _law_found 1 _law_lists 2 _law_one 3 _law_part -/
def spLmk (K : PySem.W.Frag) : Sp := fun vs H Q _ => ∃ F p ys, ∃ ass : List (List Addr), vs = [.ref p] ∧ Same F H ∧ H p = some (.lst ys) ∧ Paired (GrpAt K H) ys ass ∧ (p :: ass.flatten).Nodup ∧ (∀ a ∈ p :: ass.flatten, F a = none ∧ ∃ xs, H a = some (.lst xs) ∧ xs.length < 10000000) ∧ ass.flatten.length < 1000000 ∧ ∀ H', Same F H' → Q (.bl true) H'
theorem cal_lmk (D : DefX K mg "_law_marked" s_lmk) (T : Tx K mg CC DC) (cApart : C8.Cal P w K mg base 1 "_law_apart" (spLap K) []) : C8.Cal P w K mg base 2 "_law_marked" (spLmk K) [] := by
  refine calD (ps := ["_law_found"]) D (fun _ _ _ _ _ _ us hl => match us, hl with | [_], _ => rfl) sc_lmk ?_ ?_
  · rintro vs H Q E ⟨F, p, ys, ass, rfl, _⟩; rfl
  rintro f cdv A outer s0 H vs Q E hr ⟨F, p, ys, ass, rfl, hF, hp, hg, hnd, hown, hz, hQ⟩
  refine ⟨_, (pss_cons (ps_set (i := 1) sc_lmk.nd rfl (.inl rfl) (pe_lst (pa_cons (pv 0) pa_nil)))
      (pss_cons (ps_for PassesOwn.never rfl (pi_listK K rfl (pv 0)) (pg_name (i := 2) sc_lmk.nd rfl (.inl rfl))
      (pss_one (ps_if (pt_val (pe_callB (call_isiK K rfl) (by rfl) T.isinstance (by decide +kernel) (pa_cons (pv 2) (pa_cons (pe_bltn (v := .ty "list") (by rfl) T.list (by decide +kernel) rfl) pa_nil))))
        (pss_cons (ps_expr (pe_bmK K rfl PySem.F.plainAttrs_list PySem.F.slot_list_append PySem.F.type_list_append mt_append (pv 1) (pa_cons (pv 2) pa_nil)))
          (pss_one (ps_expr (pe_bmK K rfl PySem.F.plainAttrs_list PySem.F.slot_list_extend PySem.F.type_list_extend mt_extend (pv 1) (pa_cons (pe_lc (own := [("_law_part", 3)]) (g := (gName 3))  rfl sc_lmk.nd (pi_listK K rfl (pv 2)) (blkOk_by (own := [("_law_part", 3)]) (N := nm_lmk) (sc := defScope s_lmk) (by decide +kernel)) (fun _ _ _ _ _ => (pg_name (i := 3) sc_lmk.nd rfl (.inl rfl))) (fun _ _ _ _ _ => pts_one (pt_val (pe_callB (call_isiK K rfl) (by rfl) T.isinstance (by decide +kernel) (pa_cons (pv 3) (pa_cons (pe_bltn (v := .ty "list") (by rfl) T.list (by decide +kernel) rfl) pa_nil))))) (fun _ _ _ _ _ => (pv 3))) pa_nil)))))
        pss_nil)))
      (pss_one (ps_ret (C8.pe_c cApart hr (by decide) rfl (pa_cons (pv 1) pa_nil)))))), ?_⟩
  refine ⟨_, rfl, (by show 1 ≤ sizeLine; decide), fun L hL => ⟨_, rfl, p, rfl, ⟨_, .inl (.inl (same_new hL _ _ hp))⟩, for_list (K := K) (a := p) (xs := ys) (fun i σ H' => ∃ x2, σ = [some (.ref p), some (.ref L), x2, none] ∧ Same H H' ∧ H' L = some (.lst ((p :: (ass.take i).flatten).map V.ref))) ⟨none, rfl, same_new hL, upd_same ..⟩ ?_ ?_ ?_⟩⟩
  · rintro i σ H' _ ⟨x2, rfl, e, _⟩
    exact .inl (.inl (e _ _ hp))
  · rintro i y σ H' hy ⟨x2, rfl, e, hL'⟩
    obtain ⟨as, has, hga⟩ := paired_getE hg hy
    rcases hga with ⟨⟨z, rfl⟩, rfl⟩ | ⟨b, xs, cs, rfl, hb, rfl, hcs⟩
    · refine ⟨_, rfl, _, _, _, _, false, rfl, .ty "list", .base (.str z), kit_ty (by decide +kernel), false, rfl, iteF ⟨_, rfl, e, ?_⟩⟩
      rw [take_at has, List.flatten_append, List.flatten_cons, List.flatten_nil, List.append_nil, List.append_nil]
      exact hL'
    · refine ⟨_, rfl, _, _, _, _, true, rfl, .ty "list", .base (.lst (e _ _ hb)), kit_ty (by decide +kernel), true, rfl, iteT ?_⟩
      have hfl := flat_take has
      have hbL : b ≠ L := ne_of_none hb hL
      have hlen : (ass.take i).flatten.length + (b :: cs).length ≤ 1000000 := by
        rw [← List.length_append, ← hfl]
        have h1 : ((ass.take (i + 1)).flatten).length ≤ ass.flatten.length := by
          rw [← List.take_append_drop (i + 1) ass, List.flatten_append, List.length_append]
          simp
        omega
      have e1 : Same H (upd H' L (.lst ((p :: (ass.take i).flatten).map V.ref ++ [V.ref b]))) := same_same e hL
      refine ⟨_, rfl, (.inl ⟨rfl, _, .inl (.inl hL')⟩), _, rfl, L, _, .ref b, rfl, rfl, hL', ?_, ?_⟩
      · rw [List.length_map, List.length_cons]
        exact big (by simp at hlen ⊢; omega)
      refine ⟨_, rfl, (.inl ⟨rfl, _, .inl (.inl (upd_same ..))⟩), _, rfl, b, rfl, ⟨_, .inl (.inl (e1 _ _ hb))⟩, ?_⟩
      have hL1 : (upd H' L (.lst ((p :: (ass.take i).flatten).map V.ref ++ [V.ref b]))) L = some (.lst ((p :: (ass.take i).flatten).map V.ref ++ [V.ref b])) := upd_same ..
      generalize (upd H' L (.lst ((p :: (ass.take i).flatten).map V.ref ++ [V.ref b]))) = H1 at *
      intro L2 hL2
      have hxl : xs.length < 10000000 := by
        obtain ⟨_, xs', h1, h2⟩ := hown b (List.mem_cons_of_mem _ (List.mem_flatten.mpr ⟨_, mem_at has, List.mem_cons_self ..⟩))
        rw [hb] at h1; cases h1; exact h2
      have hLL2 : L ≠ L2 := ne_of_none hL1 hL2
      have fin : ∀ H3, Same H1 H3 → ∀ hL3 : H3 L2 = some (.lst (cs.map V.ref)), ∃ l b' xs' zs, V.ref L = V.ref l ∧ [V.ref L2] = [V.ref b'] ∧ H3 l = some (.lst xs') ∧ H3 b' = some (.lst zs) ∧ xs'.length + zs.length ≤ sizeLine ∧ ∃ x2, [some (V.ref p), some (V.ref L), some (V.ref b), none] = [some (.ref p), some (.ref L), x2, none] ∧ Same H (upd H3 l (.lst (xs' ++ zs))) ∧ (upd H3 l (.lst (xs' ++ zs))) L = some (.lst ((p :: (ass.take (i + 1)).flatten).map V.ref)) := fun H3 e3 hL3 => by
        refine ⟨L, L2, _, _, rfl, rfl, e3 _ _ hL1, hL3, ?_, _, rfl, same_same (e1.trans e3) hL, ?_⟩
        · rw [List.length_append, List.length_map, List.length_map]
          refine Nat.le_of_lt (big ?_)
          simp at hlen ⊢; omega
        · rw [upd_same, hfl]
          simp
      have hsb : ∀ H3, Same H1 H3 → SqL K H3 b xs := fun H3 e3 => .inl (.inl (e3 _ _ (e1 _ _ hb)))
      rcases hcs with ⟨rfl, htu⟩ | ⟨rfl, hls⟩
      · refine lc_list (K := K) (a := b) (xs := xs) (PvS H1 L2 fun _ acc => acc = []) (PvS.zero hL2 rfl) (fun i H3 _ h => hsb H3 h.1) ?_ ?_
        · rintro j x H3 hx ⟨e3, acc, hacc, hl, r⟩
          obtain ⟨t, zs, rfl, ht⟩ := htu x (mem_at hx)
          refine ⟨rfl, _, rfl, _, _, _, _, false, rfl, .ty "list", ty_tup (same_t (e1.trans e3) ht), kit_ty (by decide +kernel), false, rfl, ?_⟩
          exact iteF (PvS.skip e3 hacc hl (.refl _) r)
        · rintro H3 ⟨e3, acc, hacc, hl, r⟩
          subst r
          exact fin H3 e3 hacc
      · refine lc_list (K := K) (a := b) (xs := cs.map V.ref) (PvS H1 L2 fun i acc => acc = (cs.take i).map V.ref) (PvS.zero hL2 rfl) (fun i H3 _ h => hsb H3 h.1) ?_ ?_
        · rintro j x H3 hx ⟨e3, acc, hacc, hl, r⟩
          obtain ⟨c, hc, rfl⟩ := get_map hx
          obtain ⟨zs, hzs⟩ := hls c (mem_at hc)
          refine ⟨rfl, _, rfl, _, _, _, _, true, rfl, .ty "list", .base (.lst (e3 _ _ (e1 _ _ hzs))), kit_ty (by decide +kernel), true, rfl, ?_⟩
          refine iteT ⟨_, rfl, PvS.snoc hL2 e3 hacc hl (by have := lt_at hx; omega) (.refl _) ?_⟩
          rw [r, map_take_at hc]
        · rintro H3 ⟨e3, acc, hacc, hl, r⟩
          rw [List.length_map, List.take_length] at r
          subst r
          exact fin H3 e3 hacc
  · rintro σ H' ⟨x2, rfl, e, hL'⟩
    rw [hg.length, List.take_length] at hL'
    have hLo : L ∉ p :: ass.flatten := fun z => by
      obtain ⟨_, xs, h1, _⟩ := hown L z
      rw [hL] at h1; cases h1
    exact ⟨_, rfl, F, L, p :: ass.flatten, fun a => (match H a with | some (.lst xs) => xs | _ => []), rfl, hF.trans e, hL', hnd, hLo, fun a ha => (by
      obtain ⟨h1, xs, h2, h3⟩ := hown a ha
      simp only [h2]
      exact ⟨e _ _ h2, h3, h1⟩), by rw [List.length_cons]; omega, hQ⟩
end
end S3

/-! ### L6: one question asked -/
namespace S3
open PySem PySem.Spec PyProof.Rows L2
theorem and_if {c1 c2 : Bool} {L A B : Prop} (hL : (if c2 = true then A else B) → L) (h : if (c1 && c2) = true then A else B) : if c1 = true then L else (if false = true then A else B) := by
  cases c1 with
  | true => exact iteT (hL h)
  | false => exact iteF (iteF (by simpa using h))
theorem flat_ones {α : Type} (l : List α) : (l.map fun b => [b]).flatten = l := by
  induction l with
  | nil => rfl
  | cons a l ih => simp only [List.map_cons, List.flatten_cons, ih]; rfl
theorem OwnB.grp {K : PySem.W.Frag} {F H0 H : Hp} {bs : List Addr} {s : Sprd} (h : OwnB K F H0 H bs s) (e : Same F H) : Paired (GrpAt K H) (bs.map V.ref) (bs.map fun b => [b]) := by
  refine paired_of (by rw [List.length_map, List.length_map]) fun i x as h1 h2 => ?_
  obtain ⟨b, hb, rfl⟩ := get_map h1
  rw [List.getElem?_map, hb] at h2
  cases h2
  have hlt : i < s.length := by rw [← h.len]; exact lt_at hb
  obtain ⟨_, _, xs, q1, q2⟩ := h.at_ i b _ hb (List.getElem?_eq_getElem hlt)
  refine .inr ⟨b, xs, [], rfl, q1, rfl, .inl ⟨rfl, fun x hx => ?_⟩⟩
  obtain ⟨j, hj⟩ := List.getElem?_of_mem hx
  obtain ⟨p, _, dp⟩ := dpa_at q2 hj
  obtain ⟨t, rfl, st⟩ := dp_pP dp
  exact ⟨t, _, rfl, same_t e st⟩
theorem OwnB.sh {K : PySem.W.Frag} {F H0 H : Hp} {bs : List Addr} {s : Sprd} {k : Nat} (h : OwnB K F H0 H bs s) (hb : ∀ bel ∈ s, bel.length < k) : ∀ a ∈ bs, F a = none ∧ ∃ xs, H a = some (.lst xs) ∧ xs.length < k := fun a ha => by
  obtain ⟨i, hi⟩ := List.getElem?_of_mem ha
  have hlt : i < s.length := by rw [← h.len]; exact lt_at hi
  have hs := List.getElem?_eq_getElem hlt
  obtain ⟨q0, _, xs, q1, q2⟩ := h.at_ i a _ hi hs
  refine ⟨q0, xs, q1, ?_⟩
  have h1 := dpa_len q2
  rw [List.length_map] at h1
  rw [h1]
  exact hb _ (mem_at hs)
theorem shaped_bool (b : Bool) : SeqAt.shaped (.bool b) = true := by cases b <;> decide
theorem eqv_bool (b : Bool) : PyData.eqv (.bool b) (.bool b) = true := by cases b <;> decide
theorem flat_none {α β : Type} (l : List α) : (l.map fun _ => ([] : List β)).flatten = [] := by
  induction l with
  | nil => rfl
  | cons a l ih => rw [List.map_cons, List.flatten_cons, ih]; rfl
theorem lets_lay : letters.cps.toList.all (fun c => decide (c < 0x110000)) = true := by decide +kernel
theorem IsName.lay {x : Str} (h : IsName x) : PyData.canLay0 (.str x) = true := by
  have h1 : PyData.strOk x = true := by
    unfold PyData.strOk
    rw [← Array.all_toList, List.all_eq_true]
    intro c hc
    exact List.all_eq_true.mp lets_lay c (h.2.2 c hc)
  simpa [PyData.canLay0] using h1
theorem paired_dpa' {K : PySem.W.Frag} {F : Hp} {R : V → Sprd → Prop} {g : Sprd → PyData} (h : ∀ v s, Dp K F v (g s) → R v s) : ∀ {xs : List V} {tl : List Sprd}, DpAll K F xs (tl.map g) → Paired R xs tl
  | _, [], q => by cases q; exact .nil
  | _, b :: s, q => by
    cases q with
    | cons q1 q2 => exact .cons (h _ _ q1) (paired_dpa' h q2)
section
variable {P : Program} {w : World} {K : PySem.W.Frag} {mg : Str → Option Value} {base : Heap} {CC DC UB HF : Addr}
abbrev s_las : Stmt := top 73
abbrev nm_las : List Str := ["_law_number", "_law_task_here", "_law_model_here", "_law_wish", "_law_line", "_law_beliefs", "_law_first", "_law_seen", "_law_listed", "_law_found", "_law_due", "_law_one", "_law_belief"]
theorem sc_las : FnScope nm_las ["_law_number", "_law_task_here", "_law_model_here", "_law_wish", "_law_line"] (defScope s_las) := ⟨rfl, rfl, rfl, by decide +kernel, rfl, by decide +kernel, by decide +kernel⟩
/- slots: 0 _law_number 1 _law_task_here 2 _law_model_here 3 _law_wish 4 _law_line 5 _law_beliefs 6 _law_first 7 _law_seen 8 _law_listed 9 _law_found 10 _law_due 11 _law_one 12 _law_belief -/
def spLas (K : PySem.W.Frag) (CC DC : Addr) : Sp := fun vs H Q _ => ∃ F t d g l, ∃ n : Int, ∃ m dv goal row, vs = [.int n, t, .ref d, g, l] ∧ Same F H ∧ ModAt K F d m ∧ MdOk m ∧ CaseAt K CC DC F t m.cs dv ∧ Dp K F g (pG goal) ∧ GoalOkC m.cs goal ∧ (match goal with | .grp gs => gs.length < 1000 | _ => True) ∧ Dp K F l (pW row) ∧ row.length < 1000 ∧ ∀ H', Same F H' → Q (.bl true) H'
theorem cal_las (D : DefX K mg "_law_asked" s_las) (T : Tx K mg CC DC) (cLso : C8.Cal P w K mg base 3 "_law_spread_of" (spLso K) []) (cLrs : C8.Cal P w K mg base 3 "_law_rows" (spLrs K) [.non]) (cSpr : CalX (L2.CX P w) P w K mg base 3 "spread" (spSpr K CC DC UB HF)) (cLmk : C8.Cal P w K mg base 2 "_law_marked" (spLmk K) [])
    (cLsm : C8.Cal P w K mg base 2 "_law_spread_meets" (spLsm K) []) (cLha : C8.Cal P w K mg base 1 "_law_handed" (spLha K) []) (cIrr : C8.Cal P w K mg base 5 "is_right_row" (spIrr K CC DC) []) (cLr : C8.Cal P w K mg base 5 "least_row" (spLr K CC DC) [])
    (cCr : C8.Cal P w K mg base 6 "closed_rows" (spCr K CC DC) []) (cLcr : C8.Cal P w K mg base 3 "_law_closed_rows" (spLcr K) []) (cJr : C8.Cal P w K mg base 5 "judge_rows" (spJr K CC DC) []) : C8.Cal P w K mg base 7 "_law_asked" (spLas K CC DC) [] := by
  refine calD (ps := ["_law_number", "_law_task_here", "_law_model_here", "_law_wish", "_law_line"]) D (fun _ _ _ _ _ _ us hl => match us, hl with | [_, _, _, _, _], _ => rfl) sc_las ?_ ?_
  · rintro vs H Q E ⟨F, t, d, g, l, n, m, dv, goal, row, rfl, _⟩; rfl
  rintro f cdv A outer s0 H vs Q E hr ⟨F, t, dm, g, l, n, m, dv, goal, row, rfl, hF, hm, hmo, ht, hg, hgo, hgz, hl, hrz, hQ⟩
  have hu := up 1 hr
  have hu64 := up 64 hr
  obtain ⟨fS, fdS, psS, FS, gS, kpS, bS⟩ := cSpr.ex
  refine ⟨_, (pss_cons (ps_set (i := 5) sc_las.nd rfl (.inl rfl) (C8.pe_c cLso hr (by decide) rfl (pa_cons (pv 2) (pa_cons (pv 4) pa_nil))))
      (pss_cons (ps_asg (C8.pe_c cLrs hr (by decide) rfl (pa_cons (pv 2) (pa_cons (pv 3) pa_nil))) (pg_tupK K rfl 2 rfl (pgs_cons (pg_name (i := 6) sc_las.nd rfl (.inl rfl)) (pgs_cons (pg_name (i := 7) sc_las.nd rfl (.inl rfl)) pgs_nil))))
      (pss_cons (ps_setLc (i := 8) (own := [("_law_one", 11)]) (g := (gName 11))  rfl sc_las.nd rfl rfl (sw_true rfl rfl rfl (by decide +kernel)) (pi_listK K rfl (pv 7)) (blkOk_by (own := [("_law_one", 11)]) (N := nm_las) (sc := defScope s_las) (by decide +kernel)) (fun _ _ _ _ _ => (pg_name (i := 11) sc_las.nd rfl (.inl rfl))) (fun _ _ _ _ _ => pts_nil) (fun _ _ _ _ _ => (pe_lc (own := [("_law_belief", 12)]) (g := (gName 12))  rfl sc_las.nd (pi_tupK K rfl (pv 11)) (blkOk_by (own := [("_law_belief", 12)]) (N := nm_las) (sc := (lcSc (stE ((defBody s_las).getD 2 (.Pass ⟨0, 0, 0, 0⟩))))) (by decide +kernel)) (fun _ _ _ _ _ => (pg_name (i := 12) sc_las.nd rfl (.inl rfl))) (fun _ _ _ _ _ => pts_nil) (fun _ _ _ _ _ => (pe_callTy (call_list_ofK K rfl) (by rfl) T.list (by decide +kernel) (pa_cons (pv 12) pa_nil))))))
      (pss_cons (ps_if (PW.pt (pw_and (pt_cmpR op_eq (pv 0) pe_int (nomark _)) (pw_and1 (pt_cmpR op_notN (pv 5) pe_non (nomark _)))))
      (pss_cons (ps_set (i := 9) sc_las.nd rfl (.inl rfl) (pe_call FS (hr.mono (by decide)) rfl gS kpS bS .nil passL (pa_cons (pv 1) (pa_cons (pe_callTy (call_list_ofK K rfl) (by rfl) T.list (by decide +kernel) (pa_cons (pv 4) pa_nil)) pa_nil))))
        (pss_one (ps_ret (pe_and (pe_cmpR (op_eqDK K rfl hu64) (pv 9) (pv 5) (nomark _)) (pe_one (C8.pe_c cLmk hr (by decide) rfl (pa_cons (pv 9) pa_nil)))))))
      pss_nil)
      (pss_cons (ps_if (pt_cmpR op_lt (pv 0) pe_int (nomark _))
      (pss_cons (ps_set (i := 10) sc_las.nd rfl (.inl rfl) (pe_and (pe_cmpR op_notN (pv 5) pe_non (nomark _)) (pe_one (C8.pe_c cLsm hr (by decide) rfl (pa_cons (pv 5) (pa_cons (pv 3) pa_nil))))))
        (pss_one (ps_ret (pe_cmpR (op_eqDK K rfl hu64) (C8.pe_c cIrr hr (by decide) rfl (pa_cons (pv 1) (pa_cons (C8.pe_c cLha hr (by decide) rfl (pa_cons (pv 3) pa_nil)) (pa_cons (pe_callTy (call_list_ofK K rfl) (by rfl) T.list (by decide +kernel) (pa_cons (pv 4) pa_nil)) pa_nil)))) (pv 10) (nomark _)))))
      pss_nil)
      (pss_cons (ps_if (pt_cmpR op_eq (pv 0) pe_int (nomark _))
      (pss_cons (ps_set (i := 9) sc_las.nd rfl (.inl rfl) (C8.pe_c cLr hr (by decide) rfl (pa_cons (pv 1) (pa_cons (C8.pe_c cLha hr (by decide) rfl (pa_cons (pv 3) pa_nil)) pa_nil))))
        (pss_one (ps_ret (pe_and (pe_cmpR (op_eqDK K rfl hu64) (pv 9) (pv 6) (nomark _)) (pe_one (pe_or (pe_cmpR op_isN (pv 9) pe_non (nomark _)) (pe_one (C8.pe_c cLmk hr (by decide) rfl (pa_cons (pv 9) pa_nil)))))))))
      pss_nil)
      (pss_cons (ps_if (pt_cmpR op_eq (pv 0) pe_int (nomark _))
      (pss_cons (ps_set (i := 9) sc_las.nd rfl (.inl rfl) (C8.pe_c cCr hr (by decide) rfl (pa_cons (pv 1) (pa_cons (C8.pe_c cLha hr (by decide) rfl (pa_cons (pv 3) pa_nil)) pa_nil))))
        (pss_cons (ps_if (PW.pt (pw_or (pt_cmpR op_notN (pv 6) pe_non (nomark _)) (pw_or1 (pt_cmpR op_isN (pv 9) pe_non (nomark _)))))
        (pss_one (ps_ret (pe_and (pe_cmpR op_notN (pv 6) pe_non (nomark _)) (pe_one (pe_cmpR op_isN (pv 9) pe_non (nomark _))))))
        pss_nil)
        (pss_one (ps_ret (pe_and (C8.pe_c cLcr hr (by decide) rfl (pa_cons (pv 2) (pa_cons (pv 3) (pa_cons (pv 9) pa_nil)))) (pe_one (C8.pe_c cLmk hr (by decide) rfl (pa_cons (pv 9) pa_nil))))))))
      pss_nil)
      (pss_cons (ps_set (i := 10) sc_las.nd rfl (.inl rfl) (C8.pe_c cLcr hr (by decide) rfl (pa_cons (pv 2) (pa_cons (pv 3) (pa_cons (pv 8) pa_nil)))))
      (pss_one (ps_ret (pe_cmpR (op_eqDK K rfl hu64) (C8.pe_c cJr hr (by decide) rfl (pa_cons (pv 1) (pa_cons (C8.pe_c cLha hr (by decide) rfl (pa_cons (pv 3) pa_nil)) (pa_cons (pv 8) pa_nil)))) (pv 10) (nomark _)))))))))))), ?_⟩
  have hc := hmo.cs
  have hend := search_end hc goal
  have hel := hend.ok.len hc
  refine ⟨_, rfl, _, rfl, F, dm, l, m, row, rfl, hF, hm, hmo, dp_same hF _ _ hl, fun bv F1 H1 g1 hbn hbs => ?_⟩
  refine ⟨_, rfl, _, rfl, F1, dm, g, m, goal, rfl, g1.fh, hm.mono g1.ff, hmo, dp_same (g1.ff.trans g1.fh) _ _ hg, hgo, fun tt rv wv F2 H2 g2 htt hrn hrs hwv => ?_⟩
  refine ⟨tt, _, rfl, same_t g2.fh htt, rfl, _, _, rfl, _, _, rfl, rfl, ?_⟩
  obtain ⟨aw, ws, rfl, sw, dw⟩ := dp_list hwv
  have hwl := dpa_len dw
  rw [List.length_map] at hwl
  have g02 := g1.trans g2
  refine ⟨_, rfl, aw, rfl, ⟨_, same_l g2.fh sw⟩, fun L hL => lc_list (K := K) (a := aw) (xs := ws) (PvF F2 H2 L fun i acc F' => DpAll K F' acc (((search m.cs goal).2.take i).map fun r => pS r.1)) (PvF.zero g2.fh hL .nil) (fun i H' _ ⟨_, _, g, _⟩ => same_l (g.ff.trans g.fh) sw) ?_ ?_⟩
  · rintro i x H' hx ⟨Fi, acc, gi, hn, hacc, hal, r⟩
    obtain ⟨r1, hr1, dk⟩ := dpa_at dw hx
    obtain ⟨kp, kxs, rfl, sk, dks⟩ := dp_tup (dp_same gi.ff _ _ dk)
    have hso : SprdOk m.cs r1.1 := hend.ok.at hr1
    have hsl := hso.len hc
    refine ⟨rfl, _, rfl, kp, rfl, ⟨_, same_t gi.fh sk⟩, fun L2 hL2 => lc_lists (by show 12 < 13; decide) gi.fh sk dks (by omega) hL2 fun H3 bs g3 hL3 hLF hLb hown => ?_⟩
    obtain ⟨F3, g4, e34, hd4⟩ := hown.pub g3 hL3 hL2 hLF
    refine PvF.snoc hL gi hn hacc hal (by have := lt_at hr1; omega) g4 ?_
    rw [map_take_at hr1]
    exact dpa_snoc (dpa_same g4.ff _ _ r) hd4
  rintro H3 ⟨F3, acc, g3, hn, hacc, hal, r⟩
  rw [hwl, List.take_length] at r
  have gp := g02.trans (g3.pub hacc hL)
  have e3 : Same F3 (upd F3 L (.lst acc)) := pub_same g3.fh hacc
  have hLl : (upd F3 L (.lst acc)) L = some (.lst acc) := upd_same ..
  have g23 : Same F2 (upd F3 L (.lst acc)) := g3.ff.trans e3
  have hrn' := hrn
  have hrs' : ∀ row', (search m.cs goal).1 = some row' → Dp K (upd F3 L (.lst acc)) rv (pW row') := fun row' q => dp_same g23 _ _ (hrs row' q)
  have hbs' : ∀ s, spreadOf m.cs row = some s → Dp K (upd F3 L (.lst acc)) bv (pS s) := fun s q => dp_same (g2.ff.trans g23) _ _ (hbs s q)
  have hr' := dpa_same e3 _ _ r
  generalize (upd F3 L (.lst acc)) = F4 at *
  clear hrs hbs g3 r hn
  obtain ⟨al, rfl, sal⟩ := dp_strs hl
  have hgH : ∀ {F' H'}, Gr N0 F4 H3 F' H' → Dp K H' g (pG goal) := fun q => dp_same (gp.ff.trans (q.ff.trans q.fh)) _ _ hg
  have hgF : Dp K F4 g (pG goal) := dp_same gp.ff _ _ hg
  have htF : CaseAt K CC DC F4 t m.cs dv := ht.mono gp.ff
  have hs0 : spreadOf m.cs row = none → bv = .non := hbn
  have hs1 : ∀ s, spreadOf m.cs row = some s → bv ≠ .non := fun s q z => by
    obtain ⟨a, xs, e, _⟩ := dp_list (hbs' s q)
    rw [z] at e; cases e
  refine ⟨_, rfl, rfl, _, rfl, ?_⟩
  refine and_if (c2 := !decide (bv = .non)) (fun h => ⟨_, rfl, rfl, _, rfl, h⟩) ?_
  refine ite2 (fun h0 => ?_) (fun _ => ?_)
  · cases hsp : spreadOf m.cs row with
    | none =>
      rw [hs0 hsp] at h0
      simp at h0
    | some s =>
      have hso : SprdOk m.cs s := spreadOf_ok hc hsp
      refine ⟨_, rfl, _, rfl, al, _, rfl, .inl (same_l gp.fh (same_l gp.ff sal)), fun l2 hl2 => ?_⟩
      have g5 : Gr N0 F4 H3 F4 (upd H3 l2 (.lst (row.map V.str))) := (Gr.refl gp.fh).lay hl2
      refine ⟨F4, t, _, m.cs, dv, row, rfl, g5.fh, htF, hc, .lst (.inl (.inl (upd_same ..))) (dpa_strs _), hrz, fun s' q p bs F6 H6 g6 hp0 hp6 hp hpb own => ?_, fun z => by rw [hsp] at z; cases z⟩
      rw [hsp] at q
      cases q
      have gg := (gp.trans g5).trans g6
      refine ⟨_, rfl, _, rfl, pS s, pS s, own.dp g6.fh (.inl (.inl hp)), dp_same (g6.ff.trans g6.fh) _ _ (hbs' s hsp), shaped_dq (dq_pS _) (Nat.le_trans (dep_pS _) (by decide)), shaped_dq (dq_pS _) (Nat.le_trans (dep_pS _) (by decide)), _, rfl, ?_⟩
      rw [eqv_pS, decide_eq_true rfl]
      refine iteT ⟨_, rfl, F6, p, bs.map V.ref, bs.map fun b => [b], rfl, g6.fh, hp, own.grp g6.fh, ?_, ?_, ?_, fun H7 e7 => hQ _ (gg.ff.trans e7)⟩
      · rw [flat_ones]; exact List.nodup_cons.mpr ⟨hpb, own.nd⟩
      · rw [flat_ones]
        have hol := own.len
        have hsl := hso.len hc
        intro a ha
        rcases List.mem_cons.mp ha with rfl | ha
        · exact ⟨hp6, _, hp, by rw [List.length_map]; omega⟩
        · exact own.sh (fun bel hb => Nat.lt_of_le_of_lt (hso.blen hc hb) (by decide)) a ha
      · rw [flat_ones]
        have := own.len
        have := hso.len hc
        omega
  refine ⟨_, rfl, _, _, rfl, rfl, _, rfl, ?_⟩
  refine ite2 (fun h1 => ?_) (fun h1 => ?_)
  · have fin : ∀ due H5, Same H3 H5 → due = rightB m.cs goal row → ∀ x9 x11 x12, tRet (tOp (rEqD K)
                      (tCall (spIrr K CC DC) [] C8.E0
                        (tCons (tVar 1)
                          (tCons (tCall (spLha K) [] C8.E0 (tCons (tVar 3) tNil))
                            (tCons (tCB (rListOf K) (tCons (tVar 4) tNil)) tNil))))
                      (tVar 10)) { nx := fun _ H' => Q .non H', rt := Q } [some (.int n), some t, some (.ref dm), some g, some (.ref al), some bv, some rv, some (.ref aw), some (.ref L), x9, some (.bl due), x11, x12] H5 := fun due H5 e5 hdue x9 x11 x12 => by
      have g5 : Gr N0 F4 H3 F4 H5 := (Gr.refl gp.fh).ext e5
      refine ⟨_, rfl, _, rfl, F4, g, goal, rfl, g5.fh, hgF, hgz, fun v F6 H6 g6 hv => ?_⟩
      have g56 := g5.trans g6
      refine ⟨_, rfl, al, _, rfl, .inl (same_l g56.same (same_l gp.fh (same_l gp.ff sal))), fun l2 hl2 => ?_⟩
      have g7 : Gr N0 F6 H6 F6 (upd H6 l2 (.lst (row.map V.str))) := (Gr.refl g6.fh).lay hl2
      have e7 : Same F6 (upd H6 l2 (.lst (row.map V.str))) := g7.fh
      refine ⟨t, v, _, m.cs, dv, goal, row, rfl, (htF.mono g6.ff).mono e7, hc, dp_same e7 _ _ hv, hgo, .lst (.inl (.inl (upd_same ..))) (dpa_strs _), hrz, fun H8 e8 => ?_⟩
      refine ⟨_, rfl, .bool _, .bool _, .bl _, .bl _, shaped_bool _, shaped_bool _, ?_⟩
      rw [hdue, eqv_bool]
      exact hQ _ ((gp.ff.trans g6.ff).trans (e7.trans e8))
    cases hsp : spreadOf m.cs row with
    | none =>
      obtain rfl := hs0 hsp
      refine ⟨_, rfl, rfl, _, rfl, iteF ?_⟩
      exact fin false H3 (.refl _) (by unfold rightB; rw [hsp]) _ _ _
    | some s =>
      have hso : SprdOk m.cs s := spreadOf_ok hc hsp
      have hsl := hso.len hc
      refine ⟨_, rfl, rfl, _, rfl, ?_⟩
      rw [decide_eq_false (hs1 s hsp)]
      refine iteT ⟨_, rfl, _, rfl, bv, g, goal, s, rfl, .ofS (dp_same gp.fh _ _ (hbs' s hsp)), dp_same gp.fh _ _ hgF, by omega, hso.laws hc hgo, fun H5 e5 => ?_⟩
      exact fin _ H5 e5 (by unfold rightB; rw [hsp]) _ _ _
  have hend := search_end hc goal
  have hel := hend.ok.len hc
  refine ⟨_, rfl, rfl, _, rfl, ?_⟩
  refine ite2 (fun h2 => ?_) (fun h2 => ?_)
  · refine ⟨_, rfl, _, rfl, F4, g, goal, rfl, gp.fh, hgF, hgz, fun v F6 H6 g6 hv => ?_⟩
    refine ⟨F6, t, v, m.cs, dv, goal, rfl, g6.fh, htF.mono g6.ff, hc, dp_same g6.fh _ _ hv, hgo, fun u F7 H7 g7 hnon hsome => ?_⟩
    have g67 := g6.trans g7
    cases hse : (search m.cs goal).1 with
    | none =>
      obtain rfl := hnon hse
      obtain rfl := hrn hse
      refine ⟨_, rfl, _, rfl, .none, .none, .non, .non, rfl, rfl, _, rfl, ?_⟩
      refine iteT ⟨_, rfl, rfl, _, rfl, ?_⟩
      rw [decide_eq_true rfl]
      exact iteT (hQ _ (gp.ff.trans (g67.ff.trans g67.fh)))
    | some r =>
      obtain ⟨p, rfl, hp0, hp7, hp⟩ := hsome r hse
      have hrw : ∃ q ∈ (search m.cs goal).2, q.2 = r := by
        have h1 := hend.fd
        rw [hse] at h1
        obtain ⟨q, q1, q2⟩ := Option.map_eq_some_iff.mp h1.symm
        exact ⟨q, List.mem_of_find?_eq_some q1, q2⟩
      obtain ⟨q, hq, rfl⟩ := hrw
      have hln := hend.ok.ln q hq
      have hok : ∀ x ∈ q.2, PyData.canLay0 (.str x) = true := fun x hx => (hmo.pd.bi x (hmo.us x (hend.ok.wd q hq x hx))).lay
      have hdr : ∀ v, Dp K F7 v (pW q.2) → Dp K H7 v (pW q.2) := fun v => dp_same g7.fh _ _
      refine ⟨_, rfl, _, rfl, pW q.2, pW q.2, .lst (.inl (.inl hp)) (dpa_strs _), dp_same (g67.ff.trans g67.fh) _ _ (hrs' _ hse), shaped_dq (dq_pW hok) (dep_pW _), shaped_dq (dq_pW hok) (dep_pW _), _, rfl, ?_⟩
      rw [eqv_pW hok hok, decide_eq_true rfl]
      refine iteT ⟨_, rfl, rfl, _, rfl, ?_⟩
      rw [decide_eq_false (fun z => nomatch z)]
      refine iteF ⟨_, rfl, F7, p, _, q.2.map fun _ => [], rfl, g7.fh, hp, ?_, ?_, ?_, ?_, fun H8 e8 => hQ _ (gp.ff.trans (g67.ff.trans e8))⟩
      · refine paired_of (by rw [List.length_map, List.length_map]) fun i x as h1 h2 => ?_
        obtain ⟨b, hb, rfl⟩ := get_map h1
        obtain ⟨c, hc', rfl⟩ := get_map h2
        exact .inl ⟨⟨_, rfl⟩, rfl⟩
      · rw [flat_none]; simp
      · rw [flat_none]
        intro a ha
        rw [List.mem_singleton.mp ha]
        exact ⟨hp7, _, hp, by rw [List.length_map]; omega⟩
      · rw [flat_none]; decide
  refine ⟨_, rfl, rfl, _, rfl, ?_⟩
  refine ite2 (fun h3 => ?_) (fun h3 => ?_)
  · refine ⟨_, rfl, _, rfl, F4, g, goal, rfl, gp.fh, hgF, hgz, fun v F6 H6 g6 hv => ?_⟩
    refine ⟨F6, t, v, m.cs, dv, goal, rfl, g6.fh, htF.mono g6.ff, hc, dp_same g6.fh _ _ hv, hgo, fun u F7 H7 g7 hnon hsome => ?_⟩
    have g67 := g6.trans g7
    cases hse : (search m.cs goal).1 with
    | some r =>
      obtain rfl := hnon (by rw [hse]; exact fun z => nomatch z)
      obtain ⟨ar, xr, rfl, _⟩ := dp_list (hrs' r hse)
      refine ⟨_, rfl, rfl, _, rfl, ?_⟩
      rw [decide_eq_false (fun z => nomatch z)]
      refine iteT (iteT ⟨_, rfl, rfl, _, rfl, ?_⟩)
      rw [decide_eq_false (fun z => nomatch z)]
      refine iteT ⟨_, rfl, rfl, ?_⟩
      exact qT (decide_eq_true rfl) (hQ _ (gp.ff.trans (g67.ff.trans g67.fh)))
    | none =>
      obtain rfl := hrn hse
      obtain ⟨p, zs, rfl, hp0, hp7, hp, hzs, hown, hpz⟩ := hsome hse
      have hzl := congrArg List.length hzs
      rw [List.length_map, List.length_map] at hzl
      refine ⟨_, rfl, rfl, _, rfl, ?_⟩
      rw [decide_eq_true rfl]
      refine iteF ⟨_, rfl, rfl, _, rfl, ?_⟩
      rw [decide_eq_false (fun z => nomatch z)]
      refine iteF ⟨_, rfl, _, rfl, _, rfl, F7, dm, g, _, m, goal, (search m.cs goal).2.map (·.1), rfl, g7.fh, (hm.mono gp.ff).mono g67.ff, hmo, dp_same (g67.ff.trans g67.fh) _ _ hgF, hgo, ⟨p, _, rfl, .inl (.inl hp), ?_⟩, by rw [List.length_map]; omega, hend.ok.ok, fun H8 e8 => ⟨_, rfl, ?_⟩⟩
      · rw [← hzs]
        refine paired_of (by rw [List.length_map, List.length_map]) fun i x s h1 h2 => ?_
        obtain ⟨z, hz, rfl⟩ := get_map h1
        rw [List.getElem?_map, hz] at h2
        cases h2
        obtain ⟨_, _, q1, q2⟩ := hown.at_ z (mem_at hz)
        exact SpAt.own q2 (.inl (.inl q1))
      rw [closed_search hc hse]
      have hsz : ∀ z ∈ zs, SprdOk m.cs z.2.2 := fun z hz => hend.ok.ok _ (by rw [← hzs]; exact List.mem_map.mpr ⟨z, hz, rfl⟩)
      have hfl : (zs.map fun z => z.1 :: z.2.1).flatten = zs.flatMap fun z => z.1 :: z.2.1 := rfl
      refine iteT ⟨_, rfl, F7, p, _, zs.map fun z => z.1 :: z.2.1, rfl, g7.fh.trans e8, e8 _ _ hp, ?_, ?_, ?_, ?_, fun H9 e9 => hQ _ (gp.ff.trans (g67.ff.trans e9))⟩
      · refine paired_of (by rw [List.length_map, List.length_map]) fun i x as h1 h2 => ?_
        obtain ⟨z, hz, rfl⟩ := get_map h1
        rw [List.getElem?_map, hz] at h2
        cases h2
        obtain ⟨_, _, q1, q2⟩ := hown.at_ z (mem_at hz)
        refine .inr ⟨z.1, _, z.2.1, rfl, e8 _ _ q1, rfl, .inr ⟨rfl, fun c hcm => ?_⟩⟩
        obtain ⟨_, xs, q3, _⟩ := q2.sh (k := 10000000) (fun bel hb => Nat.lt_of_le_of_lt ((hsz z (mem_at hz)).blen hc hb) (by decide)) c hcm
        exact ⟨xs, e8 _ _ q3⟩
      · rw [hfl]; exact List.nodup_cons.mpr ⟨hpz, hown.nd⟩
      · rw [hfl]
        intro a ha
        rcases List.mem_cons.mp ha with rfl | ha
        · exact ⟨hp7, _, e8 _ _ hp, by rw [List.length_map]; omega⟩
        · obtain ⟨z, hz, hm'⟩ := List.mem_flatMap.mp ha
          obtain ⟨q0, _, q1, q2⟩ := hown.at_ z hz
          have hzl' := (hsz z hz).len hc
          have hol := q2.len
          rcases List.mem_cons.mp hm' with rfl | hm'
          · exact ⟨q0, _, e8 _ _ q1, by rw [List.length_map]; omega⟩
          · obtain ⟨q3, xs, q4, q5⟩ := q2.sh (k := 10000000) (fun bel hb => Nat.lt_of_le_of_lt ((hsz z hz).blen hc hb) (by decide)) a hm'
            exact ⟨q3, xs, e8 _ _ q4, q5⟩
      · rw [hfl]
        have := flat_bound (f := fun z : Zo => z.1 :: z.2.1) (n := 4) (l := zs) fun z hz => by
          have hzl' := (hsz z hz).len hc
          have hol := (hown.at_ z hz).2.2.2.len
          rw [List.length_cons]; omega
        omega
  have hfnd : FndAt K F4 H3 (.ref L) ((search m.cs goal).2.map (·.1)) := ⟨L, acc, rfl, .inl (.inl hacc), paired_dpa' (g := pS) (fun _ _ q => SpAt.ofS q gp.fh) (by rw [List.map_map]; exact hr')⟩
  refine ⟨_, rfl, _, rfl, _, rfl, F4, dm, g, _, m, goal, (search m.cs goal).2.map (·.1), rfl, gp.fh, hm.mono gp.ff, hmo, dp_same gp.fh _ _ hgF, hgo, hfnd, by rw [List.length_map]; omega, hend.ok.ok, fun H5 e5 => ?_⟩
  have g5 : Gr N0 F4 H3 F4 H5 := (Gr.refl gp.fh).ext e5
  refine ⟨_, rfl, _, rfl, F4, g, goal, rfl, g5.fh, hgF, hgz, fun v F6 H6 g6 hv => ?_⟩
  have g56 := g5.trans g6
  refine ⟨_, rfl, t, v, _, m.cs, dv, goal, (search m.cs goal).2.map (·.1), rfl, (htF.mono g6.ff).mono g6.fh, hc, dp_same g6.fh _ _ hv, hgo, .lst (.inl (.inl (g56.same _ _ hacc))) (by rw [List.map_map]; exact dpa_same (g56.ff.trans g56.fh) _ _ hr'), by rw [List.length_map]; omega, hend.ok.ok, fun H8 e8 => ?_⟩
  refine ⟨_, rfl, .bool _, .bool _, .bl _, .bl _, shaped_bool _, shaped_bool _, ?_⟩
  rw [eqv_bool]
  exact hQ _ ((gp.ff.trans g6.ff).trans (g6.fh.trans e8))
end
end S3

/-! ### L7: the law's device, case, cases -/
namespace S3
open PySem PySem.Spec PyProof.Rows L2
/-- lists and tuples are as they were -/
structure SameV (H H' : Hp) : Prop where
  l : ∀ a xs, Rd H a (.lst xs) → Rd H' a (.lst xs)
  t : ∀ a xs, Rd H a (.tup xs) → Rd H' a (.tup xs)
section
variable {K : PySem.W.Frag} {H H' : Hp}
theorem sameV_l {a : Addr} {xs : List V} (e : SameV H H') (h : SqL K H a xs) : SqL K H' a xs := h.imp (e.l _ _) id
theorem sameV_t {a : Addr} {xs : List V} (e : SameV H H') (h : SqT K H a xs) : SqT K H' a xs := h.imp (e.t _ _) id
mutual
theorem dp_sameV (e : SameV H H') : ∀ (d : PyData) (v : V), Dp K H v d → Dp K H' v d
  | .none, _, h => by cases h; exact .non
  | .bool b, _, h => by cases h; exact .bl b
  | .int i, _, h => by cases h; exact .int i
  | .str x, _, h => by cases h; exact .str x
  | .list ds, _, h => by
    cases h with
    | lst hs ha => exact .lst (sameV_l e hs) (dpa_sameV e ds _ ha)
  | .tuple ds, _, h => by
    cases h with
    | tup hs ha => exact .tup (sameV_t e hs) (dpa_sameV e ds _ ha)
  | .dict _, _, h => by cases h
theorem dpa_sameV (e : SameV H H') : ∀ (ds : List PyData) (vs : List V), DpAll K H vs ds → DpAll K H' vs ds
  | [], _, h => by cases h; exact .nil
  | d :: ds, _, h => by
    cases h with
    | cons h1 h2 => exact .cons (dp_sameV e d _ h1) (dpa_sameV e ds _ h2)
end
theorem sameV_del {F : Hp} {d : Addr} {kvs : List (Key × V)} (h : F d = some (.dK kvs)) : SameV F (del F d) := by
  refine ⟨fun a xs q => ?_, fun a xs q => ?_⟩
  all_goals
    have hne : a ≠ d := fun z => by
      subst z
      rcases q with q | ⟨_, q⟩
      · rw [h] at q; cases q
      · rw [h] at q; cases q
    rcases q with q | ⟨o, q⟩
    · exact .inl (by rw [del_ne hne]; exact q)
    · exact .inr ⟨o, by rw [del_ne hne]; exact q⟩
theorem del_sub {F : Hp} {d : Addr} : Same (del F d) F := fun a o q => by
  by_cases e : a = d
  · subst e; rw [del_same] at q; cases q
  · rwa [del_ne e] at q
/-- while the dict at d is locked -/
theorem Gr.locked {F : Hp} {d : Addr} {u u' : HO} (fh : Same F H) : Same (del F d) (upd H d u') := fun a o q => by
  by_cases e : a = d
  · subst e; rw [del_same] at q; cases q
  · rw [del_ne e] at q
    rw [upd_ne e]; exact fh _ _ q
theorem Gr.unlock {S : Addr → Prop} {F F1 H1 : Hp} {d : Addr} {u u' : HO} (hF : F d = some u) (fh : Same F H) (g : Gr S (del F d) (upd H d u') F1 H1) : Gr S F H (upd F1 d u) (upd H1 d u) := by
  have hHd := fh _ _ hF
  refine ⟨fun b o q => ?_, fun b o q => ?_, fun b o ns q => ?_, fun b q => ?_, fun b q n => ?_⟩
  · by_cases e : b = d
    · subst e; rw [upd_same, ← q, hF]
    · rw [upd_ne e]
      exact g.ff _ _ (by rw [del_ne e]; exact q)
  · by_cases e : b = d
    · subst e; rw [upd_same] at q ⊢; exact q
    · rw [upd_ne e] at q ⊢
      exact g.fh _ _ q
  · by_cases e : b = d
    · subst e; rw [upd_same, ← q, hHd]
    · rw [upd_ne e]
      exact g.hh b o ns (by rw [upd_ne e]; exact q)
  · by_cases e : b = d
    · subst e; rw [upd_same]; exact fun z => nomatch z
    · rw [upd_ne e]
      exact g.dom b (by rw [upd_ne e]; exact q)
  · have e : b ≠ d := fun z => by subst z; rw [hF] at n; cases n
    rw [upd_ne e]
    exact g.no b (by rw [upd_ne e]; exact q) (by rw [del_ne e]; exact n)
/-- changes to what is new since the outer start -/
theorem Gr.join {S : Addr → Prop} {F F1 F2 H1 H2 : Hp} (g : Gr N0 F H F1 H1) (g2 : Gr S F1 H1 F2 H2) (hs : ∀ a, S a → H a = none) : Gr N0 F H F2 H2 :=
  ⟨g.ff.trans g2.ff, g2.fh, fun b o ns q => g2.hh b o (fun z => by rw [hs b z] at q; cases q) (g.hh b o ns q), fun b q => g2.dom b (g.dom b q), fun b q n => g2.no b (g.dom b q) (g.no b q n)⟩
end
/-- a dict of steps, as far as it is filled -/
def GrowD (K : PySem.W.Frag) (F : Hp) (kvs : List (Key × V)) (gv : GV) : Prop := kvs.map (·.1) = (gv.map (·.1)).map Sum.inr ∧ ∀ q ∈ gv, ∃ v, valV kvs (Sum.inr q.1) = some v ∧ Dp K F v (.tuple [.int q.2.1, pW q.2.2])
section
variable {K : PySem.W.Frag} {F F' H : Hp} {kvs : List (Key × V)} {gv : GV}
theorem GrowD.mono (h : GrowD K F kvs gv) (e : Same F F') : GrowD K F' kvs gv := ⟨h.1, fun q hq => let ⟨v, h1, h2⟩ := h.2 q hq; ⟨v, h1, dp_same e _ _ h2⟩⟩
theorem GrowD.nil : GrowD K F [] [] := ⟨rfl, fun q hq => by cases hq⟩
theorem GrowD.put {q : Str × Int × List Str} {v : V} (h : GrowD K F kvs gv) (hn : q.1 ∉ gv.map (·.1)) (hv : Dp K F v (.tuple [.int q.2.1, pW q.2.2])) : GrowD K F (putK kvs (Sum.inr q.1) v) (gv ++ [q]) := by
  have hno : valV kvs (Sum.inr q.1) = none := valV_nokey (by
    rw [h.1]
    intro hm
    obtain ⟨x, hx, e⟩ := List.mem_map.mp hm
    injection e with e
    exact hn (e ▸ hx))
  refine ⟨?_, fun p hp => ?_⟩
  · rw [putK_new v hno, List.map_append, h.1, List.map_append, List.map_append]; rfl
  · rw [valV_put]
    rcases List.mem_append.mp hp with hp | hp
    · obtain ⟨v', h1, h2⟩ := h.2 p hp
      have hne : p.1 ≠ q.1 := fun z => hn (by rw [← z]; exact List.mem_map.mpr ⟨p, hp, rfl⟩)
      rw [if_neg (fun z => hne (by injection z))]
      exact ⟨v', h1, h2⟩
    · rw [List.mem_singleton.mp hp, if_pos rfl]
      exact ⟨v, rfl, hv⟩
end
section
variable {P : Program} {w : World} {K : PySem.W.Frag} {mg : Str → Option Value} {base : Heap} {CC DC UB HF : Addr}
abbrev s_lde : Stmt := top 54
abbrev nm_lde : List Str := ["_law_model_here", "_law_states", "_law_line", "_law_name"]
theorem sc_lde : FnScope nm_lde ["_law_model_here"] (defScope s_lde) := ⟨rfl, rfl, rfl, by decide +kernel, rfl, by decide +kernel, by decide +kernel⟩
/- slots: 0 _law_model_here 1 _law_states 2 _law_line 3 _law_name -/
def spLde (K : PySem.W.Frag) (DC : Addr) : Sp := fun vs H Q _ => ∃ F d m, vs = [.ref d] ∧ Same F H ∧ ModAt K F d m ∧ PdOk m.pd ∧ ∀ v F' H', Gr N0 F H F' H' → DevAt K DC F' v (PD.dv m.pd) → Q v H'
theorem cal_lde (D : DefX K mg "_law_device" s_lde) (T : Tx K mg CC DC) (cDev : C8.Mak P w K mg base 3 "Device" DC (spDi K DC) []) : C8.Cal P w K mg base 5 "_law_device" (spLde K DC) [] := by
  refine calD (ps := ["_law_model_here"]) D (fun _ _ _ _ _ _ us hl => match us, hl with | [_], _ => rfl) sc_lde ?_ ?_
  · rintro vs H Q E ⟨F, d, m, rfl, _⟩; rfl
  rintro f cdv A outer s0 H vs Q E hr ⟨F, dm, m, rfl, hF, hm, hok, hQ⟩
  have hu := up 1 hr
  refine ⟨_, (pss_cons (ps_set (i := 1) sc_lde.nd rfl (.inl rfl) (pe_lst pa_nil))
      (pss_cons (ps_for PassesOwn.never rfl (pi_listK K rfl (pe_dget hu (pv 0) pe_str (fun _ _ => rfl))) (pg_name (i := 2) sc_lde.nd rfl (.inl rfl))
      (pss_cons (ps_expr (pe_bmK K rfl PySem.F.plainAttrs_list PySem.F.slot_list_append PySem.F.type_list_append mt_append (pv 1) (pa_cons pe_dnewK pa_nil)))
        (pss_one (ps_lock (ps_for PassesOwn.never rfl (pi_keys (pv 2)) (pg_name (i := 3) sc_lde.nd rfl (.inl rfl))
        (pss_one (ps_dput hu (pe_ix (ix_listK K rfl) (pv 1) (pe_un un_neg pe_int) (fun _ _ => rfl)) (pv 3) (pe_tup (pa_cons (pe_ix (ix_tupK K rfl) (pe_dget hu (pv 2) (pv 3) (fun _ _ => rfl)) pe_int (fun _ _ => rfl)) (pa_cons (pe_callTy (call_list_ofK K rfl) (by rfl) T.list (by decide +kernel) (pa_cons (pe_ix (ix_tupK K rfl) (pe_dget hu (pv 2) (pv 3) (fun _ _ => rfl)) pe_int (fun _ _ => rfl)) pa_nil)) pa_nil))) rfl)))))))
      (pss_one (ps_ret (C8.pe_mk cDev hr (by decide) rfl (pa_cons (pe_callTy (call_list_ofK K rfl) (by rfl) T.list (by decide +kernel) (pa_cons (pe_dget hu (pv 0) pe_str (fun _ _ => rfl)) pa_nil)) (pa_cons (pe_callTy (call_list_ofK K rfl) (by rfl) T.list (by decide +kernel) (pa_cons (pe_dget hu (pv 0) pe_str (fun _ _ => rfl)) pa_nil)) (pa_cons (pv 1) pa_nil)))))))), ?_⟩
  refine ⟨Nat.zero_le _, fun S hS => ?_⟩
  have hS1 := same_new (o := .lst []) hS
  obtain ⟨asx', ds', hsd', hsa', hsp'⟩ := hm.stp (hF.trans hS1)
  refine ⟨_, rfl, dm, _, rfl, hsd', asx', rfl, ⟨_, .inl (.inl ((hF.trans hS1) _ _ hsa'))⟩, for_list (K := K) (a := asx') (xs := ds'.map V.ref) (fun i σ H' => ∃ Fi, ∃ es : List Addr, ∃ x2 x3, σ = [some (.ref dm), some (.ref S), x2, x3] ∧ Gr N0 F H Fi H' ∧ Fi S = none ∧ H' S = some (.lst (es.map V.ref)) ∧ Paired (fun d gv => GivAt K Fi d gv) es (m.pd.gvs.take i)) ⟨F, [], none, none, rfl, (Gr.refl hF).lay hS, same_none hF hS, upd_same .., .nil⟩ ?_ ?_ ?_⟩
  · rintro i σ H' _ ⟨Fi, es, x2, x3, rfl, g, _⟩
    exact .inl (.inl (g.fh _ _ (g.ff _ _ hsa')))
  · rintro i x σ H' hx ⟨Fi, es, x2, x3, rfl, g, hSF, hS', hes⟩
    obtain ⟨dd, hdd, rfl⟩ := get_map hx
    obtain ⟨gv, hgv0, hgiv⟩ := paired_getE hsp' hdd
    obtain ⟨kvs, hk1, hk2, hk3⟩ := hgiv
    obtain ⟨gnd, glen, gok⟩ := hok.gv gv (mem_at hgv0)
    have hel := hes.length
    rw [List.length_take] at hel
    have hgl := hok.gl
    refine ⟨_, rfl, .inl ⟨rfl, _, .inl (.inl hS')⟩, fun dn hdn => ⟨S, es.map V.ref, .ref dn, rfl, rfl, ?_, ?_, ?_⟩⟩
    · exact same_new hdn _ _ hS'
    · rw [List.length_map]; exact bigS (by omega)
    have hSdn : S ≠ dn := ne_of_none hS' hdn
    have gA : Gr N0 F H Fi (upd (upd H' dn (.dK [])) S (.lst (es.map V.ref ++ [.ref dn]))) := (g.lay hdn).set hSF (.inr hS)
    have hSA : (upd (upd H' dn (.dK [])) S (.lst (es.map V.ref ++ [.ref dn]))) S = some (.lst (es.map V.ref ++ [.ref dn])) := upd_same ..
    have hnA : (upd (upd H' dn (.dK [])) S (.lst (es.map V.ref ++ [.ref dn]))) dn = some (.dK []) := by rw [upd_ne hSdn.symm]; exact upd_same ..
    have hnF : Fi dn = none := same_none g.fh hdn
    generalize (upd (upd H' dn (.dK [])) S (.lst (es.map V.ref ++ [.ref dn]))) = HA at *
    have hdF := g.ff _ _ hk1
    have hdA := gA.fh _ _ hdF
    refine ⟨dd, .dK kvs, hdA, trivial, fun od => ?_⟩
    have hSdd : S ≠ dd := fun z => by rw [← z, hSF] at hdF; cases hdF
    have hnd : dn ≠ dd := fun z => by rw [← z, hnF] at hdF; cases hdF
    refine ⟨_, rfl, dd, od, rfl, .inl ⟨kvs, upd_same .., for_it walk_keys (fun j σ H2 => ∃ Fj kvs' x3, σ = [some (.ref dm), some (.ref S), some (.ref dd), x3] ∧ Gr (fun z => z = dn) (del Fi dd) (upd HA dd (.frz od (.dK kvs))) Fj H2 ∧ H2 dd = some (.frz od (.dK kvs)) ∧ H2 S = some (.lst (es.map V.ref ++ [.ref dn])) ∧ Fj S = none ∧ H2 dn = some (.dK kvs') ∧ Fj dn = none ∧ GrowD K Fj kvs' (gv.take j)) ?_ ?_ ?_ ?_⟩⟩
    · exact ⟨_, [], x3, rfl, Gr.refl (Gr.locked (u := .dK kvs) gA.fh), upd_same .., by rw [upd_ne hSdd]; exact hSA, by rw [del_ne hSdd]; exact hSF, by rw [upd_ne hnd]; exact hnA, by rw [del_ne hnd]; exact hnF, by rw [List.take_zero]; exact GrowD.nil⟩
    · rintro j σ H2 _ ⟨Fj, kvs', y3, rfl, gj, hd2, _⟩
      exact hd2
    · rintro j y σ H2 H3 hj ⟨Fj, kvs', y3, rfl, gj, hd2, hS2, hSj, hn2, hnj, hgr⟩ ⟨rfl, k, v0, hkv, rfl⟩
      have hkj : (kvs.map (·.1))[j]? = some k := by rw [List.getElem?_map, hkv]; rfl
      rw [hk2, List.map_map] at hkj
      obtain ⟨q, hq, hqe⟩ := get_map hkj
      obtain rfl : k = Sum.inr q.1 := hqe
      obtain ⟨v, hv1, hv2⟩ := hk3 q (mem_at hq)
      have hv3 : Dp K Fj v (.tuple [.int q.2.1, pW q.2.2]) := dp_same gj.ff _ _ (dp_sameV (sameV_del hdF) _ _ (dp_same g.ff _ _ hv2))
      have hget : DGet H3 dd (.str q.1) (some v) := .inl ⟨kvs, Sum.inr q.1, .inr ⟨od, hd2⟩, rfl, hv1.symm⟩
      obtain ⟨tv, ys, rfl, st, dt⟩ := dp_tup hv3
      obtain ⟨y1, y2, rfl, hy1, hy2⟩ := dpa_pair dt
      obtain rfl := dp_int hy1
      obtain ⟨al, rfl, sal⟩ := dp_strs hy2
      have st3 := same_t gj.fh st
      refine ⟨_, rfl, _, rfl, dd, _, rfl, hget, tv, _, 0, _, rfl, rfl, st3, rfl, _, rfl, _, rfl, dd, _, rfl, hget, tv, _, 1, _, rfl, rfl, st3, rfl, al, _, rfl, .inl (same_l gj.fh sal), fun l hl => ⟨(by show 2 ≤ sizeLine; decide), fun t ht => ?_⟩⟩
      have g5 := ((Gr.refl gj.fh (S := fun z => z = dn)).new (o := .lst (q.2.2.map V.str)) hl).new (o := .tup [.int q.2.1, .ref l]) ht
      have hlt := ne_of_none (upd_same (H := H3) (a := l) (o := .lst (q.2.2.map V.str))) ht
      have hdp : Dp K (upd (upd Fj l (.lst (q.2.2.map V.str))) t (.tup [.int q.2.1, .ref l])) (.ref t) (.tuple [.int q.2.1, pW q.2.2]) := by
        refine .tup (.inl (.inl (upd_same ..))) (.cons (.int _) (.cons (.lst (.inl (.inl ?_)) (dpa_strs _)) .nil))
        rw [upd_ne hlt]; exact upd_same ..
      have hS5 := g5.keep hS2 hSdn
      have e15 : upd (upd H3 l (.lst (q.2.2.map V.str))) t (.tup [.int q.2.1, .ref l]) dn = some (.dK kvs') := same_new ht _ _ (same_new hl _ _ hn2)
      have hn5 := e15
      have hd5 := g5.keep hd2 hnd.symm
      have hSj5 := g5.hid hS2 hSj
      have hnj5 := g5.hid hn2 hnj
      clear e15
      have hgr5 := hgr.mono g5.ff
      generalize (upd (upd Fj l (.lst (q.2.2.map V.str))) t (.tup [.int q.2.1, .ref l])) = F5 at *
      generalize (upd (upd H3 l (.lst (q.2.2.map V.str))) t (.tup [.int q.2.1, .ref l])) = H5 at *
      have hqn : q.1 ∉ (gv.take j).map (·.1) := by
        rw [List.map_take]
        exact not_in_take gnd (by rw [List.getElem?_map, hq]; rfl)
      have hkl : kvs'.length ≤ 10 := by
        have h1 := congrArg List.length hgr.1
        rw [List.length_map, List.length_map, List.length_map, List.length_take] at h1
        omega
      refine ⟨_, rfl, _, rfl, S, _, -1, .ref dn, rfl, rfl, .inl (.inl hS5), atI_last _ _, _, rfl, dn, _, rfl, DPut.k (k := Sum.inr q.1) hn5 (bigS (by omega)), F5, _, _, rfl, (gj.trans g5).set hnj5 (.inl rfl), ?_, ?_, hSj5, upd_same .., hnj5, ?_⟩
      · rw [upd_ne hnd.symm]; exact hd5
      · rw [upd_ne hSdn]; exact hS5
      · rw [take_at hq]
        exact hgr5.put hqn hdp
    · rintro σ H2 ⟨Fj, kvs', y3, rfl, gj, hd2, hS2, hSj, hn2, hnj, hgr⟩
      refine ⟨hd2, ?_⟩
      have hkl : kvs.length = gv.length := by
        have h1 := congrArg List.length hk2
        rwa [List.length_map, List.length_map, List.length_map] at h1
      rw [hkl, List.take_length] at hgr
      have hjd : Fj dd = none := gj.no dd (some_ne (upd_same ..)) del_same
      have gU := Gr.unlock hdF gA.fh gj
      have hdnH : H dn = none := g.fresh hdn
      have gJ := gA.join gU (fun a z => by rw [z]; exact hdnH)
      have hnU : (upd H2 dd (.dK kvs)) dn = some (.dK kvs') := by rw [upd_ne hnd]; exact hn2
      have hSU : (upd H2 dd (.dK kvs)) S = some (.lst (es.map V.ref ++ [.ref dn])) := by rw [upd_ne hSdd]; exact hS2
      have gP := gJ.pub hnU hdnH
      have eP : Same (upd Fj dd (.dK kvs)) (upd (upd Fj dd (.dK kvs)) dn (.dK kvs')) := pub_same gJ.fh hnU
      have hgr2 := (hgr.mono (same_new (o := .dK kvs) hjd)).mono eP
      refine ⟨_, es ++ [dn], _, _, rfl, gP, by rw [upd_ne hSdn, upd_ne hSdd]; exact hSj, by rw [List.map_append]; exact hSU, ?_⟩
      rw [take_at hgv0]
      exact paired_app (paired_giv hes (gU.ff.trans eP)) (.cons ⟨kvs', upd_same .., hgr2.1, hgr2.2⟩ .nil)
  · rintro σ H' ⟨Fi, es, x2, x3, rfl, g, hSF, hS', hes⟩
    rw [List.length_map, hsp'.length, List.take_length] at hes
    have gS := g.pub hS' hS
    have eS : Same Fi (upd Fi S (.lst (es.map V.ref))) := pub_same g.fh hS'
    have hes2 := paired_giv hes eS
    have hsS : SqL K (upd Fi S (.lst (es.map V.ref))) S (es.map V.ref) := .inl (.inl (upd_same ..))
    generalize (upd Fi S (.lst (es.map V.ref))) = F1 at *
    have hm1 := hm.mono gS.ff
    obtain ⟨ap, hp1, hp2⟩ := hm1.pus gS.fh
    refine ⟨_, rfl, dm, _, rfl, hp1, ap, _, rfl, .inl (.inl (.inl (gS.fh _ _ hp2))), fun l1 hl1 => ?_⟩
    have g1 := gS.new (o := .lst (m.pd.btn.map V.str)) hl1
    have e1 := same_new (o := .lst (m.pd.btn.map V.str)) (same_none gS.fh hl1)
    obtain ⟨ag, hg1, hg2⟩ := (hm1.mono e1).lig g1.fh
    refine ⟨_, rfl, dm, _, rfl, hg1, ag, _, rfl, .inl (.inl (.inl (g1.fh _ _ hg2))), fun l2 hl2 => ?_⟩
    have g2 := g1.new (o := .lst (m.pd.lmp.map V.str)) hl2
    have e2 := same_new (o := .lst (m.pd.lmp.map V.str)) (same_none g1.fh hl2)
    refine ⟨_, rfl, ?_⟩
    exact made_dev g2.fh (.inl (.inl (e2 _ _ (upd_same ..)))) (.inl (.inl (upd_same ..))) (same_l (e1.trans e2) hsS) (paired_giv hes2 (e1.trans e2)) hok fun v F' H' g3 hd => hQ v F' H' (g2.trans g3) hd
end
end S3

/-! ### L8: the law's case -/
namespace S3
open PySem PySem.Spec PyProof.Rows L2
theorem chosen_mem {g a b : List Str} (h : ∀ x, x ∈ a ↔ x ∈ b) : chosen g (some a) = chosen g (some b) := by
  unfold chosen
  refine List.filter_congr fun x _ => ?_
  rw [Bool.eq_iff_iff, decide_eq_true_eq, decide_eq_true_eq, h x]
/-- what is chosen stands in the order of the device -/
structure MdS (m : MD) : Prop where
  ok : MdOk m
  wt : chosen m.pd.lmp (some m.watched) = m.watched
  us : chosen m.pd.btn (some m.usable) = m.usable
  wy : 0 ≤ m.way ∧ m.way < 8
def alt {α : Type} (w : Int) (xs : List α) : List α := (if w.fmod 2 = 0 then xs else xs.reverse) ++ xs.take ((w.fdiv 2).fmod 2).toNat
theorem alt_mem {α : Type} {w : Int} {xs : List α} {x : α} : x ∈ alt w xs ↔ x ∈ xs := by
  unfold alt
  rw [List.mem_append]
  constructor
  · rintro (h | h)
    · split at h
      · exact h
      · exact List.mem_reverse.mp h
    · exact List.mem_of_mem_take h
  · intro h
    refine .inl ?_
    split
    · exact h
    · exact List.mem_reverse.mpr h
theorem alt_len {α : Type} {w : Int} {xs : List α} : (alt w xs).length ≤ xs.length + xs.length := by
  unfold alt
  rw [List.length_append, List.length_take]
  split
  · omega
  · rw [List.length_reverse]; omega
theorem alt_map {α β : Type} {w : Int} {xs : List α} (f : α → β) : alt w (xs.map f) = (alt w xs).map f := by
  unfold alt
  rw [List.map_append, List.map_take]
  split
  · rfl
  · rw [List.map_reverse]
theorem fmod2 (a : Int) : a.fmod 2 = 0 ∨ a.fmod 2 = 1 := by
  have h1 := Int.fmod_nonneg_of_pos a (b := 2) (by decide)
  have h2 := Int.fmod_lt_of_pos a (b := 2) (by decide)
  omega
section
variable {P : Program} {w : World} {K : PySem.W.Frag} {mg : Str → Option Value} {base : Heap} {CC DC UB HF : Addr}
abbrev s_lca : Stmt := top 56
abbrev nm_lca : List Str := ["_law_model_here", "_law_way", "_law_parts", "_law_one"]
theorem sc_lca : FnScope nm_lca ["_law_model_here"] (defScope s_lca) := ⟨rfl, rfl, rfl, by decide +kernel, rfl, by decide +kernel, by decide +kernel⟩
/- slots: 0 _law_model_here 1 _law_way 2 _law_parts 3 _law_one -/
def spLca (K : PySem.W.Frag) (CC DC : Addr) : Sp := fun vs H Q _ => ∃ F d m, vs = [.ref d] ∧ Same F H ∧ ModAt K F d m ∧ MdS m ∧ ∀ v F' H', Gr N0 F H F' H' → CaseAt K CC DC F' v m.cs (PD.dv m.pd) → Q v H'
theorem cal_lca (D : DefX K mg "_law_case" s_lca) (T : Tx K mg CC DC) (cDvc : C8.Cal P w K mg base 5 "_law_device" (spLde K DC) []) (cCase : MakC P w K mg base 5 CC (spCi K CC DC)) : C8.Cal P w K mg base 7 "_law_case" (spLca K CC DC) [] := by
  refine calD (ps := ["_law_model_here"]) D (fun _ _ _ _ _ _ us hl => match us, hl with | [_], _ => rfl) sc_lca ?_ ?_
  · rintro vs H Q E ⟨F, d, m, rfl, _⟩; rfl
  rintro f cdv A outer s0 H vs Q E hr ⟨F, dm, m, rfl, hF, hm, hms, hQ⟩
  have hu := up 1 hr
  have hu64 := up 64 hr
  have hmo := hms.ok
  have hc := hmo.cs
  refine ⟨_, (pss_cons (ps_set (i := 1) sc_lca.nd rfl (.inr rfl) (pe_callTy call_int1 (by rfl) T.int (by decide +kernel) (pa_cons (pe_dget hu (pv 0) pe_str (fun _ _ => rfl)) pa_nil)))
      (pss_cons (ps_set (i := 2) sc_lca.nd rfl (.inl rfl) (pe_lst (pa_cons (pe_dget hu (pv 0) pe_str (fun _ _ => rfl)) (pa_cons (pe_dget hu (pv 0) pe_str (fun _ _ => rfl)) (pa_cons (pe_dget hu (pv 0) pe_str (fun _ _ => rfl)) pa_nil)))))
      (pss_cons (ps_setLc (i := 2) (own := [("_law_one", 3)]) (g := (gName 3))  rfl sc_lca.nd rfl rfl (sw_true rfl rfl rfl (by decide +kernel)) (pi_listK K rfl (pv 2)) (blkOk_by (own := [("_law_one", 3)]) (N := nm_lca) (sc := defScope s_lca) (by decide +kernel)) (fun _ _ _ _ _ => (pg_name (i := 3) sc_lca.nd rfl (.inl rfl))) (fun _ _ _ _ _ => pts_nil) (fun _ _ _ _ _ => (pe_op op_cat (pe_stepLK K rfl (pv 3) (pe_op op_sub pe_int (pe_op op_mul pe_int (pe_op op_modN (pv 1) pe_int)))) (pe_slice (sl_listK K rfl) (pv 3) po_none (po_some (pe_op op_modN (pe_op op_fdivN (pv 1) pe_int) pe_int))))))
      (pss_cons (ps_if (PW.pt (pw_and (pt_cmpR op_gt (pv 1) pe_int (nomark _)) (pw_and1 (pt_cmpR (op_eqDK K rfl hu64) (pe_dget hu (pv 0) pe_str (fun _ _ => rfl)) (pe_dget hu (pv 0) pe_str (fun _ _ => rfl)) (nomark _)))))
      (pss_one (ps_asg pe_non (pg_sub (pv 2) pe_int set_list)))
      pss_nil)
      (pss_one (ps_ret (pe_mkC cCase hr (by decide) rfl (pa_cons (C8.pe_c cDvc hr (by decide) rfl (pa_cons (pv 0) pa_nil)) (pa_cons (pe_ix (ix_listK K rfl) (pv 2) pe_int (fun _ _ => rfl)) pa_nil)) (pk_cons (pe_ix (ix_listK K rfl) (pv 2) pe_int (fun _ _ => rfl)) (pk_cons (pe_ix (ix_listK K rfl) (pv 2) pe_int (fun _ _ => rfl)) pk_nil))))))))), ?_⟩
  obtain ⟨hw0, hw8⟩ := hms.wy
  have wy1 := hm.wy hF
  obtain ⟨ao, ho1, ho2⟩ := hm.ord hF
  obtain ⟨aw, hw1, hw2⟩ := hm.wat hF
  obtain ⟨au, hu1, hu2⟩ := hm.usa hF
  refine ⟨_, rfl, dm, _, rfl, wy1, .inl ⟨_, rfl, ?_⟩⟩
  refine ⟨_, rfl, dm, _, rfl, ho1, _, rfl, dm, _, rfl, hw1, _, rfl, dm, _, rfl, hu1, (by show 3 ≤ sizeLine; decide), fun L0 hL0 => ?_⟩
  have g0 := (Gr.refl hF (S := N0)).new (o := .lst [.ref ao, .ref aw, .ref au]) hL0
  have e0 := same_new (o := .lst [.ref ao, .ref aw, .ref au]) (same_none hF hL0)
  have ho3 := e0 _ _ ho2
  have hw3 := e0 _ _ hw2
  have hu3 := e0 _ _ hu2
  have hm0 := hm.mono e0
  have hL00 : (upd H L0 (.lst [.ref ao, .ref aw, .ref au])) L0 = some (.lst [.ref ao, .ref aw, .ref au]) := upd_same ..
  have hL0F : (upd F L0 (.lst [.ref ao, .ref aw, .ref au])) L0 = some (.lst [.ref ao, .ref aw, .ref au]) := upd_same ..
  generalize (upd H L0 (.lst [.ref ao, .ref aw, .ref au])) = H0 at *
  generalize (upd F L0 (.lst [.ref ao, .ref aw, .ref au])) = F0 at *
  have hP : Paired (fun v xs => ∃ p, v = .ref p ∧ F0 p = some (.lst xs)) [V.ref ao, .ref aw, .ref au] [m.order.map V.int, m.watched.map V.str, m.usable.map V.str] := .cons ⟨ao, rfl, ho3⟩ (.cons ⟨aw, rfl, hw3⟩ (.cons ⟨au, rfl, hu3⟩ .nil))
  have hlen3 : ∀ xs ∈ [m.order.map V.int, m.watched.map V.str, m.usable.map V.str], xs.length ≤ 10 := by
    have h1 := hc.len
    have h2 := hc.us
    have h3 := hc.lm
    have h4 := hmo.op.length_eq
    have h5 : m.watched.length ≤ 10 := h3
    have h6 : m.usable.length ≤ 10 := h2
    have h7 : m.poss.length ≤ 3 := h1
    intro xs hxs
    simp at hxs
    rcases hxs with rfl | rfl | rfl
    · rw [List.length_map]; omega
    · rw [List.length_map]; exact h5
    · rw [List.length_map]; exact h6
  refine ⟨_, rfl, L0, rfl, ⟨_, .inl (.inl hL00)⟩, fun L hL => lc_list (K := K) (a := L0) (xs := [V.ref ao, .ref aw, .ref au]) (PvF F0 H0 L fun i acc F' => Paired (fun v xs => ∃ p, v = .ref p ∧ F' p = some (.lst (alt m.way xs))) acc (([m.order.map V.int, m.watched.map V.str, m.usable.map V.str] : List (List V)).take i)) (PvF.zero g0.fh hL .nil) (fun i H' _ ⟨_, _, g, _⟩ => .inl (.inl (g.same _ _ hL00))) ?_ ?_⟩
  · rintro i x H' hx ⟨Fi, acc, gi, hn, hacc, hl, r⟩
    obtain ⟨xs, hxs, p, rfl, hp⟩ := paired_getE hP hx
    have hx10 := hlen3 xs (mem_at hxs)
    have hpi := gi.fh _ _ (gi.ff _ _ hp)
    have hil := lt_at hx
    simp at hil
    have hk := fmod2 (m.way.fdiv 2)
    have hkn : ((((m.way.fdiv 2).fmod 2).toNat : Nat) : Int) = (m.way.fdiv 2).fmod 2 := Int.toNat_of_nonneg (by omega)
    have hcut : cutV xs none (some ((m.way.fdiv 2).fmod 2)) = xs.take ((m.way.fdiv 2).fmod 2).toNat := by rw [← cut_to, hkn]
    refine ⟨rfl, _, rfl, _, rfl, _, _, rfl, rfl, (by show (2 : Int) ≠ 0; decide), _, _, rfl, rfl, .inl (by decide), _, _, rfl, rfl, p, xs, rfl, .inl (.inl hpi), ?_⟩
    have hcase : (1 - 2 * m.way.fmod 2 = 1 ∧ alt m.way xs = xs ++ xs.take ((m.way.fdiv 2).fmod 2).toNat) ∨ (1 - 2 * m.way.fmod 2 = -1 ∧ alt m.way xs = xs.reverse ++ xs.take ((m.way.fdiv 2).fmod 2).toNat) := by
      rcases fmod2 m.way with h2 | h2
      · exact .inl ⟨by omega, by unfold alt; rw [if_pos h2]⟩
      · exact .inr ⟨by omega, by unfold alt; rw [if_neg (by omega)]⟩
    rcases hcase with ⟨h2, hys⟩ | ⟨h2, hys⟩
    · refine .inl ⟨congrArg V.int h2, fun p1 hp1 => ?_⟩
      refine ⟨_, rfl, _, rfl, _, _, rfl, rfl, ⟨by decide, by decide⟩, _, _, rfl, rfl, (by show (2 : Int) ≠ 0; decide), _, rfl, p, xs, rfl, .inl (.inl (same_new hp1 _ _ hpi)), fun q hq => ?_⟩
      have hne : p1 ≠ q := fun z => by rw [← z, upd_same] at hq; cases hq
      refine ⟨p1, q, _, _, rfl, rfl, by rw [upd_ne hne]; exact upd_same .., upd_same .., ?_, fun nf hnf => ?_⟩
      · have := cutV_length xs none (some ((m.way.fdiv 2).fmod 2))
        exact Nat.le_of_lt (bigS (by omega))
      · have gB := (((Gr.refl gi.fh (S := N0)).lay hp1).lay hq).new (o := .lst (xs ++ cutV xs none (some ((m.way.fdiv 2).fmod 2)))) hnf
        refine PvF.snoc hL gi hn hacc hl (by omega) gB ?_
        rw [take_at hxs]
        exact paired_app (paired_mono (fun _ _ ⟨p, q1, q2⟩ => ⟨p, q1, gB.ff _ _ q2⟩) r) (.cons ⟨nf, rfl, by rw [hys, ← hcut]; exact upd_same ..⟩ .nil)
    · refine .inr ⟨congrArg V.int h2, fun p1 hp1 => ?_⟩
      refine ⟨_, rfl, _, rfl, _, _, rfl, rfl, ⟨by decide, by decide⟩, _, _, rfl, rfl, (by show (2 : Int) ≠ 0; decide), _, rfl, p, xs, rfl, .inl (.inl (same_new hp1 _ _ hpi)), fun q hq => ?_⟩
      have hne : p1 ≠ q := fun z => by rw [← z, upd_same] at hq; cases hq
      refine ⟨p1, q, _, _, rfl, rfl, by rw [upd_ne hne]; exact upd_same .., upd_same .., ?_, fun nf hnf => ?_⟩
      · have := cutV_length xs none (some ((m.way.fdiv 2).fmod 2))
        exact Nat.le_of_lt (bigS (by rw [List.length_reverse]; omega))
      · have gB := (((Gr.refl gi.fh (S := N0)).lay hp1).lay hq).new (o := .lst (xs.reverse ++ cutV xs none (some ((m.way.fdiv 2).fmod 2)))) hnf
        refine PvF.snoc hL gi hn hacc hl (by omega) gB ?_
        rw [take_at hxs]
        exact paired_app (paired_mono (fun _ _ ⟨p, q1, q2⟩ => ⟨p, q1, gB.ff _ _ q2⟩) r) (.cons ⟨nf, rfl, by rw [hys, ← hcut]; exact upd_same ..⟩ .nil)
  rintro H1 ⟨F1, acc, g1, hn, hacc, hl, r⟩
  have r' : Paired (fun v xs => ∃ p, v = .ref p ∧ F1 p = some (.lst (alt m.way xs))) acc [m.order.map V.int, m.watched.map V.str, m.usable.map V.str] := r
  clear r
  obtain ⟨p0, p1, p2, rfl, hp0, hp1, hp2⟩ : ∃ p0 p1 p2, acc = [V.ref p0, .ref p1, .ref p2] ∧ F1 p0 = some (.lst ((alt m.way m.order).map V.int)) ∧ F1 p1 = some (.lst ((alt m.way m.watched).map V.str)) ∧ F1 p2 = some (.lst ((alt m.way m.usable).map V.str)) := by
    match acc, r' with
    | [_, _, _], .cons ⟨p0, rfl, q0⟩ (.cons ⟨p1, rfl, q1⟩ (.cons ⟨p2, rfl, q2⟩ .nil)) => exact ⟨p0, p1, p2, rfl, by rw [q0, alt_map], by rw [q1, alt_map], by rw [q2, alt_map]⟩
  clear r'
  have g01 := g0.trans g1
  have hwok : ∀ x ∈ m.watched, PyData.canLay0 (.str x) = true := fun x hx => (hmo.pd.li x (hmo.wt x hx)).lay
  have hlok : ∀ x ∈ m.pd.lmp, PyData.canLay0 (.str x) = true := fun x hx => (hmo.pd.li x hx).lay
  have hm1 := hm0.mono g1.ff
  obtain ⟨aw', hw1', hw2'⟩ := hm1.wat g1.fh
  obtain ⟨al', hl1', hl2'⟩ := hm1.lig g1.fh
  have hlen := hc.len
  have hus := hc.us
  have hlm := hc.lm
  have hol := hmo.op.length_eq
  have hlen' : m.poss.length ≤ 3 := hlen
  have hus' : m.usable.length ≤ 10 := hus
  have hlm' : m.watched.length ≤ 10 := hlm
  have ao1 := alt_len (w := m.way) (xs := m.order)
  have ao2 := alt_len (w := m.way) (xs := m.watched)
  have ao3 := alt_len (w := m.way) (xs := m.usable)
  have fin : ∀ lv lo, ChV K F1 m.pd.lmp lv lo → chosen m.pd.lmp lo = m.watched → ∀ H2, Gr N0 F H F1 H2 → H2 L = some (.lst [V.ref p0, lv, .ref p2]) → tRet
        (tMakeK CC 2 2 (spCi K CC DC) (fun vs zs => vs ++ zs) C8.E0
          (tCons (tCall (spLde K DC) [] C8.E0 (tCons (tVar 0) tNil)) (tCons (tOp (rIxL K) (tVar 2) (tC (V.int 0))) tNil))
          (tCons (tOp (rIxL K) (tVar 2) (tC (V.int 1))) (tCons (tOp (rIxL K) (tVar 2) (tC (V.int 2))) tNil)))
        { nx := fun x H' => Q V.non H', rt := Q } [some (.ref dm), some (.int m.way), some (.ref L), none] H2 := fun lv lo hlo hcl H2 g2 hL2 => by
    refine ⟨_, rfl, F1, dm, m, rfl, g2.fh, hm1, hmo.pd, fun v F3 H3 g3 hdv => ?_⟩
    have hL3 := g3.same _ _ hL2
    refine ⟨_, rfl, L, _, 0, _, rfl, rfl, .inl (.inl hL3), rfl, _, rfl, L, _, 1, _, rfl, rfl, .inl (.inl hL3), rfl, _, rfl, L, _, 2, _, rfl, rfl, .inl (.inl hL3), rfl, rfl, rfl, ?_⟩
    have g23 := g2.trans g3
    refine made_case (sts := alt m.way m.order) (poss := m.poss) (lo := lo) (bo := some (alt m.way m.usable)) g3.fh hdv hmo.pd (.lst (.inl (.inl (g3.ff _ _ hp0))) (dpa_ints _)) (by omega) ?_ hc.asc ?_ (hlo.mono g3.ff) ⟨.lst (.inl (.inl (g3.ff _ _ hp2))) (dpa_strs _), by omega, fun x hx => hmo.us x (alt_mem.mp hx)⟩ fun v' F' H' g4 hcase => ?_
    · intro s hs
      exact hc.rng s (hmo.op.mem_iff.mp (alt_mem.mp hs))
    · intro x
      exact hmo.op.mem_iff.symm.trans alt_mem.symm
    · refine hQ v' F' H' (g23.trans g4) ?_
      rw [hcl, chosen_mem (b := m.usable) (fun x => alt_mem), hms.us] at hcase
      exact hcase
  refine ⟨_, rfl, _, _, rfl, rfl, _, rfl, ?_⟩
  refine and_if (c2 := decide (m.watched = m.pd.lmp)) (fun h => ⟨_, rfl, dm, _, rfl, hw1', _, rfl, dm, _, rfl, hl1', pW m.watched, pW m.pd.lmp, .lst (.inl (.inl (g1.fh _ _ hw2'))) (dpa_strs _), .lst (.inl (.inl (g1.fh _ _ hl2'))) (dpa_strs _), shaped_dq (dq_pW hwok) (dep_pW _), shaped_dq (dq_pW hlok) (dep_pW _), _, rfl, by rw [eqv_pW hwok hlok]; exact h⟩) ?_
  refine ite2 (fun h => ?_) (fun _ => ?_)
  · rw [Bool.and_eq_true] at h
    have hwl : m.watched = m.pd.lmp := of_decide_eq_true h.2
    refine ⟨_, rfl, L, _, 1, 1, rfl, rfl, hacc, rfl, ?_⟩
    exact fin .non none rfl hwl.symm _ (g01.set hn (.inr (g0.fresh hL))) (upd_same ..)
  · refine fin (.ref p1) (some (alt m.way m.watched)) ⟨.lst (.inl (.inl hp1)) (dpa_strs _), by omega, fun x hx => hmo.wt x (alt_mem.mp hx)⟩ ?_ _ g01 hacc
    rw [chosen_mem (b := m.watched) (fun x => alt_mem)]
    exact hms.wt
end
end S3

/-! ### L9: the law's four cases -/
namespace S3
open PySem PySem.Spec PyProof.Rows L2
theorem MdS.chosen_rev {m : MD} (h : MdS m) : chosen m.pd.lmp (some m.watched.reverse) = m.watched ∧ chosen m.pd.btn (some m.usable.reverse) = m.usable :=
  ⟨(chosen_mem fun x => List.mem_reverse).trans h.wt, (chosen_mem fun x => List.mem_reverse).trans h.us⟩
/-- the models of the four tasks -/
structure Four (m0 m1 m2 m3 : MD) : Prop where
  s0 : MdS m0
  s1 : MdS m1
  s2 : MdS m2
  s3 : MdS m3
  e1 : m1.pd = m0.pd ∧ m1.poss = m0.poss ∧ m1.usable = m0.usable
  e2 : m2.pd = m0.pd ∧ m2.poss = m0.poss ∧ m2.watched = m0.watched
  e3 : m3.pd = m0.pd ∧ m3.watched = m0.watched ∧ m3.usable = m0.usable
section
variable {P : Program} {w : World} {K : PySem.W.Frag} {mg : Str → Option Value} {base : Heap} {CC DC UB HF : Addr}
abbrev s_lcs : Stmt := top 69
abbrev nm_lcs : List Str := ["_law_models_here", "_law_one", "_law_tasks", "_law_fewer"]
theorem sc_lcs : FnScope nm_lcs ["_law_models_here"] (defScope s_lcs) := ⟨rfl, rfl, rfl, by decide +kernel, rfl, by decide +kernel, by decide +kernel⟩
/- slots: 0 _law_models_here 1 _law_one 2 _law_tasks 3 _law_fewer -/
def spLcs (K : PySem.W.Frag) (CC DC : Addr) : Sp := fun vs H Q _ => ∃ F a d0 d1 d2 d3 m0 m1 m2 m3, vs = [.ref a] ∧ Same F H ∧ SqL K F a [.ref d0, .ref d1, .ref d2, .ref d3] ∧ ModAt K F d0 m0 ∧ ModAt K F d1 m1 ∧ ModAt K F d2 m2 ∧ ModAt K F d3 m3 ∧ Four m0 m1 m2 m3 ∧
  ∀ p v0 v1 v2 v3 F' H', Gr N0 F H F' H' → F' p = some (.lst [v0, v1, v2, v3]) → CaseAt K CC DC F' v0 m0.cs (PD.dv m0.pd) → CaseAt K CC DC F' v1 m1.cs (PD.dv m1.pd) → CaseAt K CC DC F' v2 m2.cs (PD.dv m2.pd) → CaseAt K CC DC F' v3 m3.cs (PD.dv m3.pd) → Q (.ref p) H'
theorem cal_lcs (D : DefX K mg "_law_cases" s_lcs) (T : Tx K mg CC DC) (cLca : C8.Cal P w K mg base 7 "_law_case" (spLca K CC DC) []) (cWl : C8.Met P w K mg base 7 CC "with_lamps" (spWl K CC DC) []) (cWb : C8.Met P w K mg base 7 CC "with_buttons" (spWb K CC DC) [])
    (cCase : MakC P w K mg base 5 CC (spCi K CC DC)) (cDev : Prp P w K mg base 1 CC "device" (spDevice K CC DC)) (cLmp : Prp P w K mg base 1 CC "lamps" (spLamps K CC DC)) (cBtn : Prp P w K mg base 1 CC "buttons" (spButtons K CC DC)) : C8.Cal P w K mg base 8 "_law_cases" (spLcs K CC DC) [] := by
  refine calD (ps := ["_law_models_here"]) D (fun _ _ _ _ _ _ us hl => match us, hl with | [_], _ => rfl) sc_lcs ?_ ?_
  · rintro vs H Q E ⟨F, a, d0, d1, d2, d3, m0, m1, m2, m3, rfl, _⟩; rfl
  rintro f cdv A outer s0 H vs Q E hr ⟨F, a, d0, d1, d2, d3, m0, m1, m2, m3, rfl, hF, hsq, hm0, hm1, hm2, hm3, hfr, hQ⟩
  have hu := up 1 hr
  refine ⟨_, (pss_cons (ps_set (i := 1) sc_lcs.nd rfl (.inl rfl) (C8.pe_c cLca hr (by decide) rfl (pa_cons (pe_ix (ix_listK K rfl) (pv 0) pe_int (fun _ _ => rfl)) pa_nil)))
      (pss_cons (ps_set (i := 2) sc_lcs.nd rfl (.inl rfl) (pe_lst (pa_cons (pv 1) (pa_cons (C8.pe_mt cWl hr (by decide) (pv 1) (pa_cons (pe_stepLK K rfl (pe_dget hu (pe_ix (ix_listK K rfl) (pv 0) pe_int (fun _ _ => rfl)) pe_str (fun _ _ => rfl)) (pe_un un_neg pe_int)) pa_nil)) pa_nil))))
      (pss_cons (ps_expr (pe_bmK K rfl PySem.F.plainAttrs_list PySem.F.slot_list_append PySem.F.type_list_append mt_append (pv 2) (pa_cons (C8.pe_mt cWb hr (by decide) (pv 1) (pa_cons (pe_stepLK K rfl (pe_dget hu (pe_ix (ix_listK K rfl) (pv 0) pe_int (fun _ _ => rfl)) pe_str (fun _ _ => rfl)) (pe_un un_neg pe_int)) pa_nil)) pa_nil)))
      (pss_cons (ps_set (i := 3) sc_lcs.nd rfl (.inl rfl) (pe_stepLK K rfl (pe_dget hu (pe_ix (ix_listK K rfl) (pv 0) pe_int (fun _ _ => rfl)) pe_str (fun _ _ => rfl)) (pe_un un_neg pe_int)))
      (pss_one (ps_ret (pe_op op_cat (pv 2) (pe_lst (pa_cons (pe_mkC cCase hr (by decide) rfl (pa_cons (pe_pr cDev hr (by decide) (pv 1)) (pa_cons (pv 3) pa_nil)) (pk_cons (pe_pr cLmp hr (by decide) (pv 1)) (pk_cons (pe_pr cBtn hr (by decide) (pv 1)) pk_nil))) pa_nil))))))))), ?_⟩
  obtain ⟨e11, e12, e13⟩ := hfr.e1
  obtain ⟨e21, e22, e23⟩ := hfr.e2
  obtain ⟨e31, e32, e33⟩ := hfr.e3
  have hok := hfr.s0.ok
  have hc := hok.cs
  have hlen : m0.poss.length ≤ 3 := hc.len
  have hus : m0.usable.length ≤ 10 := hc.us
  have hlm : m0.watched.length ≤ 10 := hc.lm
  refine ⟨_, rfl, a, _, 0, _, rfl, rfl, same_l hF hsq, rfl, F, d0, m0, rfl, hF, hm0, hfr.s0, fun v0 F1 H1 g1 hc0 => ?_⟩
  obtain ⟨aw, hw1, hw2⟩ := (hm1.mono g1.ff).wat g1.fh
  have hc0' := hc0
  obtain ⟨as, dx, q1, q2, q3, q4, q5, rfl, hi, _⟩ := hc0'
  refine ⟨_, rfl, _, rfl, as, dx, _, rfl, g1.fh _ _ hi, rfl, ?_⟩
  have hsq1 : ∀ {F' H'}, Gr N0 F H F' H' → SqL K H' a [.ref d0, .ref d1, .ref d2, .ref d3] := fun q => same_l (q.ff.trans q.fh) hsq
  refine ⟨_, rfl, a, _, 1, _, rfl, rfl, hsq1 g1, rfl, d1, _, rfl, hw1, _, rfl, aw, _, rfl, .inl (.inl (g1.fh _ _ hw2)), .inr ⟨rfl, fun lw hlw => ?_⟩⟩
  have g2 := g1.new (o := .lst (m1.watched.map V.str).reverse) hlw
  have e2 := same_new (o := .lst (m1.watched.map V.str).reverse) (same_none g1.fh hlw)
  have hrev1 := hfr.s1.chosen_rev
  have hlm1 : m1.watched.length ≤ 10 := hfr.s1.ok.cs.lm
  refine ⟨_, _, _, m0.cs, m0.pd, some m1.watched.reverse, rfl, g2.fh, hc0.mono e2, hok.pd, (by show m0.poss.length < 60; omega), hc.rng, hc.asc, (by show m0.usable.length < 1000; omega), hok.us, ⟨.lst (.inl (.inl (upd_same ..))) (by rw [← List.map_reverse]; exact dpa_strs _), by rw [List.length_reverse]; omega, fun x hx => by rw [← e11]; exact hfr.s1.ok.wt x (List.mem_reverse.mp hx)⟩, fun v1 F2 H2 g3 hc1 => ?_⟩
  have hc1' : CaseAt K CC DC F2 v1 m1.cs (PD.dv m1.pd) := by
    have z1 : chosen m0.pd.lmp (some m1.watched.reverse) = m1.watched := by rw [← e11]; exact hrev1.1
    have z2 : chosen m0.pd.btn (some m0.cs.usable) = m1.usable := by rw [e13]; exact hfr.s0.us
    rw [z1, z2] at hc1
    have z3 : m1.cs = mkCS m0.pd m0.cs.poss m1.watched m1.usable := by show mkCS m1.pd m1.poss _ _ = mkCS m0.pd m0.poss _ _; rw [e11, e12]
    rw [z3, e11]
    exact hc1
  clear hc1
  have g23 := g2.trans g3
  have hc02 := (hc0.mono e2).mono g3.ff
  refine ⟨(by show 2 ≤ sizeLine; decide), fun lt hlt => ?_⟩
  have g4 := g23.lay (o := .lst [V.ref as, v1]) hlt
  have hlt0 := g23.fresh hlt
  have hltF := same_none g23.fh hlt
  have hL4 : (upd H2 lt (.lst [V.ref as, v1])) lt = some (.lst [V.ref as, v1]) := upd_same ..
  obtain ⟨au, hu1, hu2⟩ := (((hm2.mono g1.ff).mono e2).mono g3.ff).usa g4.fh
  have hc02' := hc02
  obtain ⟨as2, dx2, q1, q2, q3, q4, q5, eas, hi2, _⟩ := hc02'
  injection eas with eas
  subst eas
  refine ⟨_, rfl, .inl ⟨rfl, _, .inl (.inl hL4)⟩, _, rfl, as, dx2, _, rfl, g4.fh _ _ hi2, rfl, ?_⟩
  refine ⟨_, rfl, a, _, 2, _, rfl, rfl, hsq1 g4, rfl, d2, _, rfl, hu1, _, rfl, au, _, rfl, .inl (.inl (g4.fh _ _ hu2)), .inr ⟨rfl, fun lu hlu => ?_⟩⟩
  have g5 := g4.new (o := .lst (m2.usable.map V.str).reverse) hlu
  have e5 := same_new (o := .lst (m2.usable.map V.str).reverse) (same_none g4.fh hlu)
  have hne : lt ≠ lu := ne_of_none hL4 hlu
  have hrev2 := hfr.s2.chosen_rev
  have hus2 : m2.usable.length ≤ 10 := hfr.s2.ok.cs.us
  refine ⟨_, _, _, m0.cs, m0.pd, some m2.usable.reverse, rfl, g5.fh, hc02.mono e5, hok.pd, (by show m0.poss.length < 60; omega), hc.rng, hc.asc, (by show m0.watched.length < 1000; omega), hok.wt, ⟨.lst (.inl (.inl (upd_same ..))) (by rw [← List.map_reverse]; exact dpa_strs _), by rw [List.length_reverse]; omega, fun x hx => by rw [← e21]; exact hfr.s2.ok.us x (List.mem_reverse.mp hx)⟩, fun v2 F6 H6 g6 hc2 => ?_⟩
  have hc2' : CaseAt K CC DC F6 v2 m2.cs (PD.dv m2.pd) := by
    have z1 : chosen m0.pd.btn (some m2.usable.reverse) = m2.usable := by rw [← e21]; exact hrev2.2
    have z2 : chosen m0.pd.lmp (some m0.cs.lamps) = m2.watched := by rw [e23]; exact hfr.s0.wt
    rw [z1, z2] at hc2
    have z3 : m2.cs = mkCS m0.pd m0.cs.poss m2.watched m2.usable := by show mkCS m2.pd m2.poss _ _ = mkCS m0.pd m0.poss _ _; rw [e21, e22]
    rw [z3, e21]
    exact hc2
  clear hc2
  have g56 := g5.trans g6
  have hL6 : H6 lt = some (.lst [V.ref as, v1]) := g6.same _ _ (by rw [upd_ne hne]; exact hL4)
  have hF6 : F6 lt = none := g6.hid (by rw [upd_ne hne]; exact hL4) (by rw [upd_ne hne]; exact hltF)
  have hc06 := (hc02.mono e5).mono g6.ff
  have hc16 := (hc1'.mono e5).mono g6.ff
  refine ⟨lt, _, _, rfl, rfl, hL6, (by show 2 < sizeLine; decide), ?_⟩
  have g7 : Gr N0 F H F6 (upd H6 lt (.lst ([V.ref as, v1] ++ [v2]))) := g56.set hF6 (.inr hlt0)
  have hL7 : (upd H6 lt (.lst ([V.ref as, v1] ++ [v2]))) lt = some (.lst ([V.ref as, v1] ++ [v2])) := upd_same ..
  generalize (upd H6 lt (.lst ([V.ref as, v1] ++ [v2]))) = H7 at *
  obtain ⟨ao, ho1, ho2⟩ := (hm3.mono g7.ff).ord g7.fh
  refine ⟨_, rfl, a, _, 3, _, rfl, rfl, hsq1 g7, rfl, d3, _, rfl, ho1, _, rfl, ao, _, rfl, .inl (.inl (g7.fh _ _ ho2)), .inr ⟨rfl, fun lo hlo => ?_⟩⟩
  have g8 := g7.new (o := .lst (m3.order.map V.int).reverse) hlo
  have e8 := same_new (o := .lst (m3.order.map V.int).reverse) (same_none g7.fh hlo)
  have hlo8 : (upd F6 lo (.lst (m3.order.map V.int).reverse)) lo = some (.lst (m3.order.map V.int).reverse) := upd_same ..
  have hL8 := same_new (o := .lst (m3.order.map V.int).reverse) hlo _ _ hL7
  have hF8 : (upd F6 lo (.lst (m3.order.map V.int).reverse)) lt = none := by rw [upd_ne (ne_of_none hL7 hlo)]; exact hF6
  have hc08 := hc06.mono e8
  have hc18 := hc16.mono e8
  have hc28 := hc2'.mono e8
  generalize (upd F6 lo (.lst (m3.order.map V.int).reverse)) = F8 at *
  generalize (upd H7 lo (.lst (m3.order.map V.int).reverse)) = H8 at *
  have hc08' := hc08
  obtain ⟨as8, dx8, r1, r2, r3, r4, r5, eas, hi8, _⟩ := hc08'
  injection eas with eas
  subst eas
  have hrl : (m3.order.map V.int).reverse = m3.order.reverse.map V.int := List.map_reverse.symm
  refine ⟨_, rfl, _, rfl, as, dx8, _, rfl, g8.fh _ _ hi8, F8, _, m0.cs, _, rfl, g8.fh, hc08, fun dvv hdv => ⟨_, rfl, _, rfl, as, dx8, _, rfl, g8.fh _ _ hi8, _, m0.cs, _, rfl, hc08.mono g8.fh, fun lp hlp => ?_⟩⟩
  have g9 := g8.new (o := .lst (m0.cs.lamps.map V.str)) hlp
  have e9 := same_new (o := .lst (m0.cs.lamps.map V.str)) (same_none g8.fh hlp)
  have hlp9 : (upd F8 lp (.lst (m0.cs.lamps.map V.str))) lp = some (.lst (m0.cs.lamps.map V.str)) := upd_same ..
  have hL9 := same_new (o := .lst (m0.cs.lamps.map V.str)) hlp _ _ hL8
  have hF9 : (upd F8 lp (.lst (m0.cs.lamps.map V.str))) lt = none := by rw [upd_ne (ne_of_none hL8 hlp)]; exact hF8
  generalize (upd F8 lp (.lst (m0.cs.lamps.map V.str))) = F9 at *
  generalize (upd H8 lp (.lst (m0.cs.lamps.map V.str))) = H9 at *
  refine ⟨_, rfl, as, dx8, _, rfl, g9.fh _ _ (e9 _ _ hi8), _, m0.cs, _, rfl, (hc08.mono e9).mono g9.fh, fun bp hbp => ⟨rfl, rfl, ?_⟩⟩
  have g10 := g9.new (o := .lst (m0.cs.usable.map V.str)) hbp
  have e10 := same_new (o := .lst (m0.cs.usable.map V.str)) (same_none g9.fh hbp)
  have hbp10 : (upd F9 bp (.lst (m0.cs.usable.map V.str))) bp = some (.lst (m0.cs.usable.map V.str)) := upd_same ..
  have hL10 := same_new (o := .lst (m0.cs.usable.map V.str)) hbp _ _ hL9
  have hF10 : (upd F9 bp (.lst (m0.cs.usable.map V.str))) lt = none := by rw [upd_ne (ne_of_none hL9 hbp)]; exact hF9
  generalize (upd F9 bp (.lst (m0.cs.usable.map V.str))) = F10 at *
  generalize (upd H9 bp (.lst (m0.cs.usable.map V.str))) = H10 at *
  have e810 := e9.trans e10
  have hc3 := hfr.s3.ok.cs
  have hlen3 : m3.poss.length ≤ 3 := hc3.len
  have hop3 := hfr.s3.ok.op
  have hol3 := hop3.length_eq
  refine made_case (CC := CC) (Q := fun v H3 => [v].length ≤ sizeLine ∧ ∀ p, H3 p = none → rCat (V.ref lt) (.ref p) (upd H3 p (.lst [v])) Q) (pd := m0.pd) (sts := m3.order.reverse) (poss := m3.poss) (lo := some m0.watched) (bo := some m0.usable) g10.fh (hdv.mono e810) hok.pd (.lst (.inl (.inl (e810 _ _ (by rw [hlo8, hrl])))) (dpa_ints _)) (by rw [List.length_reverse]; omega) ?_ hc3.asc ?_ ⟨.lst (.inl (.inl (e10 _ _ hlp9))) (dpa_strs _), by omega, hok.wt⟩ ⟨.lst (.inl (.inl hbp10)) (dpa_strs _), by omega, hok.us⟩ fun v3 F11 H11 g11 hcc => ?_
  · intro s hs
    rw [← e31]
    exact hc3.rng s (hop3.mem_iff.mp (List.mem_reverse.mp hs))
  · intro x
    exact hop3.mem_iff.symm.trans List.mem_reverse.symm
  have hcc' : CaseAt K CC DC F11 v3 m3.cs (PD.dv m3.pd) := by
    rw [hfr.s0.wt, hfr.s0.us] at hcc
    have z3 : m3.cs = mkCS m0.pd m3.poss m0.watched m0.usable := by show mkCS m3.pd m3.poss _ _ = _; rw [e31, e32, e33]
    rw [z3, e31]
    exact hcc
  have g110 := g10.trans g11
  have hL11 := g11.same _ _ hL10
  have hF11 := g11.hid hL10 hF10
  refine ⟨(by show 1 ≤ sizeLine; decide), fun l1 hl1 => ⟨lt, l1, _, _, rfl, rfl, same_new hl1 _ _ hL11, upd_same .., (by show 3 + 1 ≤ sizeLine; decide), fun p hp => ?_⟩⟩
  have g12 := (g110.lay (o := .lst [v3]) hl1).new (o := .lst ([V.ref as, v1] ++ [v2] ++ [v3])) hp
  have eF : Same F11 (upd F11 p (.lst ([V.ref as, v1] ++ [v2] ++ [v3]))) := same_new (same_none g110.fh (by
    cases q : H11 p with
    | none => rfl
    | some o => have := same_new (o := .lst [v3]) hl1 _ _ q; rw [hp] at this; cases this))
  have e8e := (e810.trans g11.ff).trans eF
  exact hQ p (.ref as) v1 v2 v3 _ _ g12 (upd_same ..) (hc08.mono e8e) (hc18.mono e8e) (hc28.mono e8e) (hcc'.mono eF)
end
end S3

/-! ### L10: a draw -/
namespace S3
open PySem PySem.Spec PyProof.Rows L2
def srcL (gl : Addr) (mx t : Int) : List (Key × V) := [(Sum.inr "great", .ref gl), (Sum.inr "mixed", .int mx), (Sum.inr "turn", .int t)]
theorem srcL_g {gl : Addr} {mx t : Int} : valV (srcL gl mx t) (Sum.inr "great") = some (.ref gl) := valV_pos rfl
theorem ky_ne {a b : Str} (h : a ≠ b) : ¬ (Sum.inr a : Key) = Sum.inr b := fun e => h (by injection e)
theorem srcL_m {gl : Addr} {mx t : Int} : valV (srcL gl mx t) (Sum.inr "mixed") = some (.int mx) := (valV_neg (ky_ne (by decide))).trans (valV_pos rfl)
theorem srcL_t {gl : Addr} {mx t : Int} : valV (srcL gl mx t) (Sum.inr "turn") = some (.int t) := (valV_neg (ky_ne (by decide))).trans ((valV_neg (ky_ne (by decide))).trans (valV_pos rfl))
theorem srcL_put {gl : Addr} {mx t : Int} {k : Str} {v x : V} (h : valV (srcL gl mx t) (Sum.inr k) = some x) : putK (srcL gl mx t) (Sum.inr k) v = (srcL gl mx t).map (fun kv => if kv.1 = Sum.inr k then (kv.1, v) else kv) := by
  unfold putK
  rw [if_pos (by rw [valV_any, h]; rfl)]
theorem srcL_pt {gl : Addr} {mx t u : Int} : putK (srcL gl mx t) (Sum.inr "turn") (.int u) = srcL gl mx u := by
  rw [srcL_put srcL_t]
  unfold srcL
  rw [List.map_cons, List.map_cons, List.map_cons, List.map_nil, if_neg (ky_ne (by decide)), if_neg (ky_ne (by decide)), if_pos rfl]
theorem srcL_pm {gl : Addr} {mx t u : Int} : putK (srcL gl mx t) (Sum.inr "mixed") (.int u) = srcL gl u t := by
  rw [srcL_put srcL_m]
  unfold srcL
  rw [List.map_cons, List.map_cons, List.map_cons, List.map_nil, if_neg (ky_ne (by decide)), if_pos rfl, if_neg (ky_ne (by decide))]
theorem seq0 {n : Nat} (h : 0 < n) : seqIndex? 0 n = some 0 := by
  unfold seqIndex?
  simp [h]
/-- the source of draws: the frame in which all else stands does not know it -/
structure SrcAt (F H : Hp) (ds gl : Addr) (t : Int) : Prop where
  fd : F ds = none
  fg : F gl = none
  ne : ds ≠ gl
  t0 : 0 ≤ t
  ex : ∃ mx, ∃ gs : List Int, H ds = some (.dK (srcL gl mx t)) ∧ H gl = some (.lst (gs.map V.int)) ∧ 0 ≤ mx ∧ mx < 2305843009213693951 ∧ gs.length ≤ 100
abbrev Sg (ds gl : Addr) : Addr → Prop := fun z => z = ds ∨ z = gl
section
variable {F H F' H' : Hp} {ds gl : Addr} {t : Int}
theorem SrcAt.ext (h : SrcAt F H ds gl t) (g : Gr N0 F H F' H') : SrcAt F' H' ds gl t := by
  obtain ⟨mx, gs, h1, h2, h3⟩ := h.ex
  exact ⟨g.hid h1 h.fd, g.hid h2 h.fg, h.ne, h.t0, mx, gs, g.same _ _ h1, g.same _ _ h2, h3⟩
theorem Gr.w (g : Gr N0 F H F' H') {S : Addr → Prop} : Gr S F H F' H' := g.weak fun _ z => z.elim
end
section
variable {P : Program} {w : World} {K : PySem.W.Frag} {mg : Str → Option Value} {base : Heap} {CC DC UB HF : Addr}
abbrev s_ldr : Stmt := top 46
abbrev nm_ldr : List Str := ["_law_source_here", "_law_limit", "_law_cell", "_law_turn", "_law_mixed"]
theorem sc_ldr : FnScope nm_ldr ["_law_source_here", "_law_limit"] (defScope s_ldr) := ⟨rfl, rfl, rfl, by decide +kernel, rfl, by decide +kernel, by decide +kernel⟩
/- slots: 0 _law_source_here 1 _law_limit 2 _law_cell 3 _law_turn 4 _law_mixed -/
def spLdr : Sp := fun vs H Q _ => ∃ F ds gl t lim, vs = [.ref ds, .int lim] ∧ Same F H ∧ SrcAt F H ds gl t ∧ t < 2 ^ 40 ∧ lim < 2 ^ 200 ∧ ∀ r t' H', Gr (Sg ds gl) F H F H' → SrcAt F H' ds gl t' → t ≤ t' → t' ≤ t + 1 → 0 ≤ r → (1 ≤ lim → r < lim) → Q (.int r) H'
theorem cal_ldr (D : DefX K mg "_law_draw" s_ldr) (T : Tx K mg CC DC) : C8.Cal P w K mg base 1 "_law_draw" spLdr [] := by
  refine calD (ps := ["_law_source_here", "_law_limit"]) D (fun _ _ _ _ _ _ us hl => match us, hl with | [_, _], _ => rfl) sc_ldr ?_ ?_
  · rintro vs H Q E ⟨F, ds, gl, t, lim, rfl, _⟩; rfl
  rintro f cdv A outer s0 H vs Q E hr ⟨F, ds, gl, t, lim, rfl, hF, hs, ht, hlim, hQ⟩
  have hu := up 1 hr
  have hu64 := up 64 hr
  refine ⟨_, (pss_cons (ps_if (pt_cmpR op_lt (pv 1) pe_int (nomark _))
      (pss_one (ps_ret pe_int))
      pss_nil)
      (pss_cons (ps_dput hu (pv 0) pe_str (pe_op op_add (pe_dget hu (pv 0) pe_str (fun _ _ => rfl)) pe_int) rfl)
      (pss_cons (ps_if (pt_cmpR (op_neDK K rfl hu64) (pe_dget hu (pv 0) pe_str (fun _ _ => rfl)) (pe_lst pa_nil) (nomark _))
      (pss_cons (ps_set (i := 2) sc_ldr.nd rfl (.inl rfl) (pe_bmK K rfl PySem.F.plainAttrs_list PySem.F.slot_list_pop PySem.F.type_list_pop mt_popAt (pe_dget hu (pv 0) pe_str (fun _ _ => rfl)) (pa_cons pe_int pa_nil)))
        (pss_cons (ps_if (pt_cmpR op_ge (pv 2) (pv 1) (nomark _))
        (pss_one (ps_expr (pe_bmK K rfl PySem.F.plainAttrs_list PySem.F.slot_list_insert PySem.F.type_list_insert mt_insert (pe_dget hu (pv 0) pe_str (fun _ _ => rfl)) (pa_cons pe_int (pa_cons (pe_op op_fdivW (pv 2) (pv 1)) pa_nil)))))
        pss_nil)
        (pss_one (ps_ret (pe_op op_mod (pe_callTy call_int1 (by rfl) T.int (by decide +kernel) (pa_cons (pv 2) pa_nil)) (pv 1))))))
      pss_nil)
      (pss_cons (ps_set (i := 3) sc_ldr.nd rfl (.inl rfl) (pe_dget hu (pv 0) pe_str (fun _ _ => rfl)))
      (pss_cons (ps_set (i := 4) sc_ldr.nd rfl (.inl rfl) (pe_op op_add (pe_op op_add (pe_op op_mul (pe_dget hu (pv 0) pe_str (fun _ _ => rfl)) (pe_dget hu (pv 0) pe_str (fun _ _ => rfl))) (pe_op op_mul (pv 3) (pe_op op_add (pe_op op_mul pe_int (pv 3)) pe_int))) pe_int))
      (pss_cons (ps_dput hu (pv 0) pe_str (pe_op op_modN (pe_callTy call_int1 (by rfl) T.int (by decide +kernel) (pa_cons (pv 4) pa_nil)) pe_int) rfl)
      (pss_one (ps_ret (pe_op op_mod (pe_callTy call_int1 (by rfl) T.int (by decide +kernel) (pa_cons (pe_op op_fdivN (pe_dget hu (pv 0) pe_str (fun _ _ => rfl)) pe_int) pa_nil)) (pv 1)))))))))), ?_⟩
  refine ⟨_, rfl, _, _, rfl, rfl, _, rfl, ?_⟩
  refine ite2 (fun h => ?_) (fun h => ?_)
  · have h2 : lim < 2 := of_decide_eq_true h
    exact hQ 0 t H (Gr.refl hF) hs (Int.le_refl _) (by omega) (by decide) (by omega)
  have hl2 : 2 ≤ lim := by
    have : ¬ lim < 2 := fun z => h (decide_eq_true z)
    omega
  have hl1 : 1 ≤ lim → ∀ x : Int, 0 ≤ x % lim ∧ x % lim < lim := fun _ x => ⟨Int.emod_nonneg _ (by omega), Int.emod_lt_of_pos _ (by omega)⟩
  obtain ⟨mx, gs, h1, h2, h3, h4, h5⟩ := hs.ex
  have ht0 := hs.t0
  have hdiv : CDivW 0 lim := wide_div (b := 200) (by omega) (by omega) (by decide) (by decide)
  refine ⟨_, rfl, ds, _, rfl, dget_s h1 srcL_t, _, _, rfl, rfl, _, rfl, ds, _, rfl, DPut.k (k := Sum.inr "turn") h1 (by show 3 < sizeLine; decide), ?_⟩
  rw [srcL_pt]
  have g1 : Gr (Sg ds gl) F H F (upd H ds (.dK (srcL gl mx (t + 1)))) := (Gr.refl hF).set hs.fd (.inl (.inl rfl))
  have k1 : (upd H ds (.dK (srcL gl mx (t + 1)))) ds = some (.dK (srcL gl mx (t + 1))) := upd_same ..
  have k2 : (upd H ds (.dK (srcL gl mx (t + 1)))) gl = some (.lst (gs.map V.int)) := by rw [upd_ne hs.ne.symm]; exact h2
  show tSeq _ _ _ _ (upd H ds (.dK (srcL gl mx (t + 1))))
  generalize (upd H ds (.dK (srcL gl mx (t + 1)))) = H1 at *
  refine ⟨_, rfl, ds, _, rfl, dget_s k1 srcL_g, Nat.zero_le _, fun l hl => ?_⟩
  have g2 := g1.lay (o := .lst []) hl
  have k3 := same_new (o := .lst []) hl _ _ k1
  have k4 := same_new (o := .lst []) hl _ _ k2
  refine ⟨.list (gs.map .int), .list (([] : List Int).map .int), .lst (.inl (.inl k4)) (dpa_ints _), .lst (.inl (.inl (upd_same ..))) .nil, shaped_dq (dq_ints _) (dep_ints _), shaped_dq (dq_ints _) (dep_ints _), _, rfl, ?_⟩
  generalize (upd H1 l (.lst [])) = H2 at *
  rw [eqv_ints]
  cases gs with
  | cons g gs =>
    rw [decide_eq_false (fun z => nomatch z)]
    refine iteT ⟨_, rfl, ds, _, rfl, dget_s k3 srcL_g, .inl ⟨rfl, _, .inl (.inl k4)⟩, gl, _, 0, 0, .int g, rfl, rfl, k4, by decide, by decide, seq0 (by simp), rfl, ?_⟩
    have g3 : Gr (Sg ds gl) F H F (upd H2 gl (.lst (gs.map V.int))) := g2.set hs.fg (.inl (.inr rfl))
    have k5 : (upd H2 gl (.lst (gs.map V.int))) ds = some (.dK (srcL gl mx (t + 1))) := by rw [upd_ne hs.ne]; exact k3
    have k6 : (upd H2 gl (.lst (gs.map V.int))) gl = some (.lst (gs.map V.int)) := upd_same ..
    show tSeq _ _ _ _ (upd H2 gl (.lst (gs.map V.int)))
    generalize (upd H2 gl (.lst (gs.map V.int))) = H3 at *
    rw [List.length_cons] at h5
    refine ⟨_, rfl, _, rfl, _, _, rfl, rfl, _, rfl, ?_⟩
    refine ite2 (fun hge => ?_) (fun hge => ?_)
    · refine ⟨_, rfl, ds, _, rfl, dget_s k5 srcL_g, .inl ⟨rfl, _, .inl (.inl k6)⟩, _, rfl, _, rfl, _, _, rfl, rfl, hdiv, gl, _, 0, _, rfl, rfl, k6, ?_, by decide, by decide, ?_⟩
      · rw [List.length_map]; exact bigS (by omega)
      · have g4 : Gr (Sg ds gl) F H F (upd H3 gl (.lst ((g / lim :: gs).map V.int))) := g3.set hs.fg (.inl (.inr rfl))
        refine ⟨_, rfl, .inl ⟨_, rfl, _, rfl, _, _, rfl, rfl, (by show 0 < lim; omega), ?_⟩⟩
        obtain ⟨m1, m2⟩ := hl1 (by omega) g
        exact hQ _ (t + 1) _ g4 ⟨hs.fd, hs.fg, hs.ne, by omega, mx, g / lim :: gs, by rw [upd_ne hs.ne]; exact k5, upd_same .., h3, h4, by rw [List.length_cons]; omega⟩ (by omega) (Int.le_refl _) m1 (fun _ => m2)
    · refine ⟨_, rfl, .inl ⟨_, rfl, _, rfl, _, _, rfl, rfl, (by show 0 < lim; omega), ?_⟩⟩
      obtain ⟨m1, m2⟩ := hl1 (by omega) g
      exact hQ _ (t + 1) _ g3 ⟨hs.fd, hs.fg, hs.ne, by omega, mx, gs, k5, k6, h3, h4, by omega⟩ (by omega) (Int.le_refl _) m1 (fun _ => m2)
  | nil =>
    rw [decide_eq_true rfl]
    refine iteF ?_
    refine ⟨_, rfl, ds, _, rfl, dget_s k3 srcL_t, ?_⟩
    refine ⟨_, rfl, ds, _, rfl, dget_s k3 srcL_m, _, rfl, ds, _, rfl, dget_s k3 srcL_m, _, _, rfl, rfl, .inl (by omega), _, rfl, _, rfl, _, _, rfl, rfl, .inl (by omega), _, _, rfl, rfl, _, _, rfl, rfl, .inl (by omega), _, _, rfl, rfl, _, _, rfl, rfl, ?_⟩
    refine ⟨_, rfl, .inl ⟨_, rfl, _, _, rfl, rfl, (by show (2305843009213693951 : Int) ≠ 0; decide), _, rfl, ds, _, rfl, DPut.k (k := Sum.inr "mixed") k3 (by show 3 < sizeLine; decide), ?_⟩⟩
    rw [srcL_pm]
    generalize hmm : (mx * mx + (t + 1) * (48611 * (t + 1) + 7919) + 1 : Int) = big0
    have m0 := Int.fmod_nonneg_of_pos big0 (b := 2305843009213693951) (by decide)
    have m1 := Int.fmod_lt_of_pos big0 (b := 2305843009213693951) (by decide)
    have g4 : Gr (Sg ds gl) F H F (upd H2 ds (.dK (srcL gl (big0.fmod 2305843009213693951) (t + 1)))) := g2.set hs.fd (.inl (.inl rfl))
    have k5 : (upd H2 ds (.dK (srcL gl (big0.fmod 2305843009213693951) (t + 1)))) ds = some (.dK (srcL gl (big0.fmod 2305843009213693951) (t + 1))) := upd_same ..
    have k6 : (upd H2 ds (.dK (srcL gl (big0.fmod 2305843009213693951) (t + 1)))) gl = some (.lst (([] : List Int).map V.int)) := by rw [upd_ne hs.ne.symm]; exact k4
    refine ⟨_, rfl, ds, _, rfl, dget_s k5 srcL_m, _, _, rfl, rfl, ⟨by decide, by decide⟩, .inl ⟨_, rfl, _, rfl, _, _, rfl, rfl, (by show 0 < lim; omega), ?_⟩⟩
    obtain ⟨n1, n2⟩ := hl1 (by omega) ((big0.fmod 2305843009213693951).fdiv 64)
    exact hQ _ (t + 1) _ g4 ⟨hs.fd, hs.fg, hs.ne, by omega, _, [], k5, k6, m0, m1, by decide⟩ (by omega) (Int.le_refl _) n1 (fun _ => n2)
end
end S3

/-! ### L11: the source of draws -/
namespace S3
open PySem PySem.Spec PyProof.Rows L2
theorem srcL_merge {gl : Addr} {mx t : Int} : mergeK [] (srcL gl mx t) = srcL gl mx t := by
  have h1 : valV [((Sum.inr "great" : Key), V.ref gl)] (Sum.inr "mixed") = none := valV_neg (ky_ne (by decide))
  have h2 : valV ([((Sum.inr "great" : Key), V.ref gl)] ++ [((Sum.inr "mixed" : Key), V.int mx)]) (Sum.inr "turn") = none := (valV_neg (ky_ne (a := "great") (b := "turn") (by decide))).trans (valV_neg (ky_ne (a := "mixed") (b := "turn") (by decide)))
  unfold srcL mergeK
  rw [List.foldl_cons, List.foldl_cons, List.foldl_cons, List.foldl_nil, putK_new _ valV_nil, List.nil_append, putK_new _ h1, putK_new _ h2]
  rfl
section
variable {P : Program} {w : World} {K : PySem.W.Frag} {mg : Str → Option Value} {base : Heap} {CC DC UB HF : Addr}
abbrev s_lsr : Stmt := top 45
abbrev nm_lsr : List Str := ["_law_script", "_law_mixed", "_law_cell"]
theorem sc_lsr : FnScope nm_lsr ["_law_script"] (defScope s_lsr) := ⟨rfl, rfl, rfl, by decide +kernel, rfl, by decide +kernel, by decide +kernel⟩
/- slots: 0 _law_script 1 _law_mixed 2 _law_cell -/
def spLsr (K : PySem.W.Frag) : Sp := fun vs H Q _ => ∃ F a, ∃ cs : List Int, vs = [.ref a] ∧ Same F H ∧ SqL K H a (cs.map V.int) ∧ cs.length ≤ 100 ∧ ∀ ds gl H', Gr N0 F H F H' → SrcAt F H' ds gl 0 → Q (.ref ds) H'
theorem cal_lsr (D : DefX K mg "_law_source" s_lsr) (T : Tx K mg CC DC) : C8.Cal P w K mg base 1 "_law_source" (spLsr K) [] := by
  refine calD (ps := ["_law_script"]) D (fun _ _ _ _ _ _ us hl => match us, hl with | [_], _ => rfl) sc_lsr ?_ ?_
  · rintro vs H Q E ⟨F, a, cs, rfl, _⟩; rfl
  rintro f cdv A outer s0 H vs Q E hr ⟨F, a, cs, rfl, hF, hsq, hz, hQ⟩
  have hu := up 1 hr
  refine ⟨_, (pss_cons (ps_set (i := 1) sc_lsr.nd rfl (.inl rfl) pe_int)
      (pss_cons (ps_for PassesOwn.never rfl (pi_listK K rfl (pv 0)) (pg_name (i := 2) sc_lsr.nd rfl (.inl rfl))
      (pss_one (ps_if (pt_cmpR op_lt (pv 2) (pe_op op_pow pe_int pe_int) (nomark _))
        (pss_cons (ps_set (i := 1) sc_lsr.nd rfl (.inl rfl) (pe_op op_add (pe_op op_add (pe_op op_mul (pv 1) (pv 1)) (pe_op op_mul (pe_op op_mod (pe_callTy call_int1 (by rfl) T.int (by decide +kernel) (pa_cons (pv 2) pa_nil)) (pe_op op_pow pe_int pe_int)) pe_int)) pe_int))
          (pss_one (ps_set (i := 1) sc_lsr.nd rfl (.inl rfl) (pe_op op_modN (pe_callTy call_int1 (by rfl) T.int (by decide +kernel) (pa_cons (pv 1) pa_nil)) pe_int))))
        pss_nil)))
      (pss_one (ps_ret (pe_disp (pps_cons pe_str (pe_lc (own := [("_law_cell", 2)]) (g := (gName 2))  rfl sc_lsr.nd (pi_listK K rfl (pv 0)) (blkOk_by (own := [("_law_cell", 2)]) (N := nm_lsr) (sc := defScope s_lsr) (by decide +kernel)) (fun _ _ _ _ _ => (pg_name (i := 2) sc_lsr.nd rfl (.inl rfl))) (fun _ _ _ _ _ => pts_one (pt_cmpR op_ge (pv 2) (pe_op op_pow pe_int pe_int) (nomark _))) (fun _ _ _ _ _ => (pv 2))) (pps_cons pe_str (pv 1) (pps_cons pe_str pe_int pps_nil))) (by rfl) (by rfl) (fun z => by cases z) (by decide)))))), ?_⟩
  refine ⟨_, rfl, a, rfl, ⟨_, hsq⟩, for_list (K := K) (a := a) (xs := cs.map V.int) (fun i σ H' => ∃ mx x2, σ = [some (.ref a), some (.int mx), x2] ∧ H' = H ∧ 0 ≤ mx ∧ mx < 2305843009213693951) ⟨_, none, rfl, rfl, by decide, by decide⟩ ?_ ?_ ?_⟩
  · rintro i σ H' _ ⟨mx, x2, rfl, rfl, _⟩
    exact hsq
  · rintro i x σ H' hx ⟨mx, x2, rfl, rfl, hm0, hm1⟩
    obtain ⟨c, hc, rfl⟩ := get_map hx
    refine ⟨_, rfl, _, _, rfl, rfl, ⟨by decide, by decide, by decide⟩, _, _, rfl, rfl, _, rfl, ?_⟩
    refine ite2 (fun h => ?_) (fun h => ⟨_, _, rfl, rfl, hm0, hm1⟩)
    refine ⟨_, rfl, _, rfl, _, _, rfl, rfl, .inl (by omega), _, rfl, .inl ⟨_, rfl, _, _, rfl, rfl, ⟨by decide, by decide, by decide⟩, _, _, rfl, rfl, (by show (0 : Int) < 10 ^ 18; decide), _, _, rfl, rfl, .inr (by decide), _, _, rfl, rfl, _, _, rfl, rfl, ?_⟩⟩
    refine ⟨_, rfl, .inl ⟨_, rfl, _, _, rfl, rfl, (by show (2305843009213693951 : Int) ≠ 0; decide), _, _, rfl, rfl, ?_, ?_⟩⟩
    · exact Int.fmod_nonneg_of_pos _ (by decide)
    · exact Int.fmod_lt_of_pos _ (by decide)
  · rintro σ H' ⟨mx, x2, rfl, rfl, hm0, hm1⟩
    refine fun p hp => ?_
    have hsq1 := same_l (same_new (o := .dK []) hp) hsq
    refine ⟨_, rfl, a, rfl, ⟨_, hsq1⟩, fun L hL => lc_list (K := K) (a := a) (xs := cs.map V.int) (PvS (upd H' p (.dK [])) L fun i acc => ∃ gs : List Int, acc = gs.map V.int ∧ gs.length ≤ i) (PvS.zero hL ⟨[], rfl, Nat.le_refl _⟩) (fun i H3 _ h => same_l h.1 hsq1) ?_ ?_⟩
    · rintro i x H3 hx ⟨e3, acc, hacc, hl, gs, rfl, hgl⟩
      obtain ⟨c, hc, rfl⟩ := get_map hx
      have hlt := lt_at hc
      refine ⟨rfl, _, rfl, _, _, rfl, rfl, ⟨by decide, by decide, by decide⟩, _, _, rfl, rfl, _, rfl, ?_⟩
      refine ite2 (fun h => ?_) (fun h => ?_)
      · refine ⟨_, rfl, PvS.snoc hL e3 hacc hl (by omega) (.refl _) ⟨gs ++ [c], by rw [List.map_append]; rfl, by rw [List.length_append]; exact Nat.succ_le_succ hgl⟩⟩
      · exact PvS.skip e3 hacc hl (.refl _) ⟨gs, rfl, Nat.le_succ_of_le hgl⟩
    · rintro H3 ⟨e3, acc, hacc, hl, gs, rfl, hgl⟩
      rw [List.length_map] at hgl
      have hpL : p ≠ L := ne_of_none (upd_same (H := H') (a := p) (o := .dK [])) hL
      have hp3 := e3 _ _ (upd_same (H := H') (a := p) (o := .dK []))
      refine ⟨_, rfl, hp3, srcL L mx 0, rfl, (by show 3 ≤ 15; decide), ?_⟩
      rw [srcL_merge]
      have gA : Gr N0 F H' F H3 := ((Gr.refl hF).lay (o := .dK []) hp).ext e3
      have hpF := same_none hF hp
      have hLF := same_none ((Gr.refl hF (S := N0)).lay (o := .dK []) hp).fh hL
      exact hQ p L _ (gA.set hpF (.inr hp)) ⟨hpF, hLF, hpL, Int.le_refl _, mx, gs, upd_same .., by rw [upd_ne hpL.symm]; exact hacc, hm0, hm1, by omega⟩
end
end S3

/-! ### L12: a word -/
namespace S3
open PySem PySem.Spec PyProof.Rows L2
/-- a list in the making while draws are made -/
def PvD (F H1 : Hp) (ds gl D : Addr) (t c : Int) (R : Nat → List V → Prop) (i : Nat) (H : Hp) : Prop := ∃ acc t', Gr (Sg ds gl) F H1 F H ∧ H D = some (.lst acc) ∧ acc.length ≤ i ∧ SrcAt F H ds gl t' ∧ t ≤ t' ∧ t' ≤ t + c * i ∧ R i acc
section
variable {F H1 H H4 : Hp} {ds gl D : Addr} {t c t' t4 : Int} {R : Nat → List V → Prop} {i : Nat} {acc : List V} {y : V}
theorem SrcAt.look (s : SrcAt F H ds gl t) : H ds ≠ none ∧ H gl ≠ none := by
  obtain ⟨mx, gs, h1, h2, _⟩ := s.ex
  exact ⟨some_ne h1, some_ne h2⟩
theorem SrcAt.off (s : SrcAt F H ds gl t) (hD : H D = none) : ¬ Sg ds gl D := by
  rintro (z | z)
  · exact s.look.1 (z ▸ hD)
  · exact s.look.2 (z ▸ hD)
theorem SrcAt.lay {o : HO} (s : SrcAt F H ds gl t) (e : Same F H) (hD : H D = none) : SrcAt F (upd H D o) ds gl t := s.ext ((Gr.refl e).lay hD)
theorem SrcAt.set {o : HO} (s : SrcAt F H ds gl t) (n : ¬ Sg ds gl D) : SrcAt F (upd H D o) ds gl t := by
  obtain ⟨mx, gs, h1, h2, h3⟩ := s.ex
  exact ⟨s.fd, s.fg, s.ne, s.t0, mx, gs, by rw [upd_ne (fun z => n (.inl z.symm))]; exact h1, by rw [upd_ne (fun z => n (.inr z.symm))]; exact h2, h3⟩
theorem PvD.zero (e : Same F H1) (hD : H1 D = none) (s : SrcAt F H1 ds gl t) (h0 : R 0 []) : PvD F H1 ds gl D t c R 0 (upd H1 D (.lst [])) :=
  ⟨[], t, (Gr.refl e).lay hD, upd_same .., Nat.le_refl _, s.lay e hD, Int.le_refl _, by simp, h0⟩
theorem PvD.snoc (hF : F D = none) (hD : H1 D = none) (nD : ¬ Sg ds gl D) (g : Gr (Sg ds gl) F H1 F H) (hacc : H D = some (.lst acc)) (hl : acc.length ≤ i) (hi : i < 10000000) (ht : t ≤ t') (ht' : t' ≤ t + c * i)
    (g4 : Gr (Sg ds gl) F H F H4) (s4 : SrcAt F H4 ds gl t4) (k1 : t' ≤ t4) (k2 : t4 ≤ t' + c) (r : R (i + 1) (acc ++ [y])) : ∃ acc, H4 D = some (.lst acc) ∧ acc.length < sizeLine ∧ PvD F H1 ds gl D t c R (i + 1) (upd H4 D (.lst (acc ++ [y]))) := by
  refine ⟨acc, g4.keep hacc nD, Nat.lt_of_le_of_lt (Nat.le_trans hl (Nat.le_of_lt hi)) (by decide), _, t4, (g.trans g4).set hF (.inr hD), upd_same .., by rw [List.length_append]; exact Nat.succ_le_succ hl, s4.set nD, by omega, ?_, r⟩
  have : c * ((i + 1 : Nat) : Int) = c * i + c := by rw [Int.natCast_add, Int.mul_add]; simp
  omega
end
theorem one_letter {r : Int} (h0 : 0 ≤ r) (h1 : r < 26) : ∃ c, atI letters.cps.toList r = some c ∧ c ∈ letters.cps.toList := by
  have hl : letters.cps.toList.length = 26 := by decide +kernel
  have hlt : r.toNat < letters.cps.toList.length := by omega
  refine ⟨letters.cps.toList[r.toNat], ?_, List.getElem_mem hlt⟩
  have := atI_nat (List.getElem?_eq_getElem hlt)
  rwa [Int.toNat_of_nonneg h0] at this
theorem cps_app (a b : Str) : (a ++ b).cps.toList = a.cps.toList ++ b.cps.toList := by
  show (a.cps ++ b.cps).toList = _
  rw [Array.toList_append]
theorem join_cps : ∀ ws : List Str, (Str.join "" ws).cps.toList = (ws.map fun w => w.cps.toList).flatten
  | [] => rfl
  | [x] => by simp [Str.join]
  | x :: y :: ws => by
    show (x ++ ("" : Str) ++ Str.join "" (y :: ws)).cps.toList = _
    rw [cps_app, cps_app, join_cps (y :: ws), show (("" : Str)).cps.toList = [] by decide]
    simp
theorem txt_cps (ws : List Str) : (Txt.join "" ws).cps.toList = (ws.map fun w => w.cps.toList).flatten := by
  show (Builtin.Str.glued "" ws).cps.toList = _
  rw [StrLaws.glued_eq_join]
  exact join_cps ws
section
variable {P : Program} {w : World} {K : PySem.W.Frag} {mg : Str → Option Value} {base : Heap} {CC DC UB HF : Addr}
abbrev s_lwd : Stmt := top 47
abbrev nm_lwd : List Str := ["_law_source_here", "_law_letters", "_law_k"]
theorem sc_lwd : FnScope nm_lwd ["_law_source_here"] (defScope s_lwd) := ⟨rfl, rfl, rfl, by decide +kernel, rfl, by decide +kernel, by decide +kernel⟩
/- slots: 0 _law_source_here 1 _law_letters 2 _law_k -/
def spLwd : Sp := fun vs H Q _ => ∃ F ds gl t, vs = [.ref ds] ∧ Same F H ∧ SrcAt F H ds gl t ∧ t < 2 ^ 39 ∧ ∀ x t' H', Gr (Sg ds gl) F H F H' → SrcAt F H' ds gl t' → t ≤ t' → t' ≤ t + 9 → IsName x → Q (.str x) H'
theorem cal_lwd (D : DefX K mg "_law_word" s_lwd) (T : Tx K mg CC DC) (cDr : C8.Cal P w K mg base 1 "_law_draw" spLdr []) : C8.Cal P w K mg base 2 "_law_word" spLwd [] := by
  refine calD (ps := ["_law_source_here"]) D (fun _ _ _ _ _ _ us hl => match us, hl with | [_], _ => rfl) sc_lwd ?_ ?_
  · rintro vs H Q E ⟨F, ds, gl, t, rfl, _⟩; rfl
  rintro f cdv A outer s0 H vs Q E hr ⟨F, ds, gl, t, rfl, hF, hs, ht, hQ⟩
  refine ⟨_, (pss_cons (ps_set (i := 1) sc_lwd.nd rfl (.inr rfl) pe_str)
      (pss_one (ps_ret (pe_join pe_str (pe_lc (own := [("_law_k", 2)]) (g := (gName 2))  rfl sc_lwd.nd (pi_range1 (by rfl) T.range (pa_cons (pe_op op_add pe_int (C8.pe_c cDr hr (by decide) rfl (pa_cons (pv 0) (pa_cons pe_int pa_nil)))) pa_nil)) (blkOk_by (own := [("_law_k", 2)]) (N := nm_lwd) (sc := defScope s_lwd) (by decide +kernel)) (fun _ _ _ _ _ => (pg_name (i := 2) sc_lwd.nd rfl (.inl rfl))) (fun _ _ _ _ _ => pts_nil) (fun _ _ _ _ _ => (pe_ix ix_str (pv 1) (C8.pe_c cDr hr (by decide) rfl (pa_cons (pv 0) (pa_cons pe_int pa_nil))) (fun _ _ => rfl)))))))), ?_⟩
  have ht0 := hs.t0
  refine ⟨⟨_, rfl⟩, _, rfl, F, ds, gl, t, 8, rfl, hF, hs, by omega, by decide, fun n t1 H1 g1 s1 k1 k2 n0 n1 => ⟨_, _, rfl, rfl, _, rfl, ?_, ?_, fun L hL => ?_⟩⟩
  · omega
  · omega
  have n8 : n < 8 := n1 (by decide)
  have nL := s1.off hL
  have hLF := same_none g1.fh hL
  refine lc_it walk_range (PvD F H1 ds gl L t1 1 fun i acc => ∃ cs : List Nat, acc = cs.map (fun c => V.str ⟨#[c]⟩) ∧ cs.length = i ∧ ∀ c ∈ cs, c ∈ letters.cps.toList) (PvD.zero g1.fh hL s1 ⟨[], rfl, rfl, fun _ h => by cases h⟩) (fun _ _ _ _ => trivial) ?_ ?_
  · rintro i x H2 H3 hi ⟨acc, t2, g2, hacc, hl, s2, k3, k4, cs, rfl, hcl, hcs⟩ ⟨rfl, rfl⟩
    refine ⟨rfl, _, rfl, _, rfl, F, ds, gl, t2, 26, rfl, g2.fh, s2, by omega, by decide, fun r t3 H4 g3 s3 k5 k6 r0 r1 => ?_⟩
    obtain ⟨c, hc, hcm⟩ := one_letter r0 (r1 (by decide))
    refine ⟨letters, r, c, rfl, rfl, by decide +kernel, hc, ?_⟩
    refine PvD.snoc hLF hL nL g2 hacc hl (by omega) k3 k4 g3 s3 k5 k6 ⟨cs ++ [c], by rw [List.map_append]; rfl, by rw [List.length_append, hcl]; rfl, fun d hd => ?_⟩
    rcases List.mem_append.mp hd with h | h
    · exact hcs d h
    · rw [List.mem_singleton.mp h]; exact hcm
  · rintro H2 ⟨acc, t2, g2, hacc, hl, s2, k3, k4, cs, rfl, hcl, hcs⟩
    refine ⟨"", L, cs.map fun c => ⟨#[c]⟩, rfl, rfl, .inl (.inl (.inl (by rw [List.map_map]; exact hacc))), ?_, ?_⟩
    · have h1 : ∀ l : List Nat, ((l.map fun c => (⟨#[c]⟩ : Str)).map (·.length)).sum = l.length := fun l => by
        induction l with
        | nil => rfl
        | cons a l ih => rw [List.map_cons, List.map_cons, List.sum_cons, ih, List.length_cons, Nat.add_comm]; rfl
      rw [h1, List.length_map, show ((("" : Str)).length) = 0 by decide, Nat.mul_zero]
      omega
    · refine hQ _ t2 H2 (g1.trans g2) s2 (by omega) (by omega) ?_
      have hcp : (Txt.join "" (cs.map fun c => (⟨#[c]⟩ : Str))).cps.toList = cs := by
        rw [txt_cps, List.map_map]
        clear hacc hcl hcs hl
        induction cs with
        | nil => rfl
        | cons a l ih => rw [List.map_cons, List.flatten_cons, ih]; rfl
      have hlen : (Txt.join "" (cs.map fun c => (⟨#[c]⟩ : Str))).length = cs.length := by
        have h1 := congrArg List.length hcp
        rw [Array.length_toList] at h1
        exact h1
      refine ⟨fun z => ?_, by omega, fun c hc => hcs c (by rwa [hcp] at hc)⟩
      rw [z] at hlen
      have : (("" : Str)).length = 0 := by decide
      omega
end
end S3

/-! ### L13: names -/
namespace S3
open PySem PySem.Spec PyProof.Rows L2
def LW (l : List Nat) : Prop := 1 ≤ l.length ∧ l.length ≤ 8 ∧ ∀ c ∈ l, c ∈ letters.cps.toList
theorem LW.name {x : Str} (h : LW x.cps.toList) : IsName x := by
  have hl : x.cps.toList.length = x.length := Array.length_toList
  refine ⟨fun z => ?_, by rw [← hl]; exact h.2.1, h.2.2⟩
  have h1 := h.1
  rw [z, show ((("" : Str)).cps.toList.length) = 0 by decide] at h1
  omega
theorem IsName.pos {x : Str} (h : IsName x) : 1 ≤ x.length := by
  rcases Nat.eq_zero_or_pos x.length with z | z
  · refine absurd ?_ h.1
    have : x.cps = #[] := Array.eq_empty_of_size_eq_zero z
    cases x
    simp at this
    rw [this]; decide
  · exact z
theorem IsName.lw {x : Str} (h : IsName x) : LW x.cps.toList := by
  have hl : x.cps.toList.length = x.length := Array.length_toList
  exact ⟨by rw [hl]; exact h.pos, by rw [hl]; exact h.2.1, h.2.2⟩
theorem cutS_to (z : Str) (i : Nat) : (cutS z none (some (i : Int))).cps.toList = z.cps.toList.take i := by
  unfold cutS
  rw [List.toList_toArray, HT.sIx_none, HT.sIx_nat, List.drop_zero, Nat.sub_zero]
  show z.cps.toList.take (min i z.cps.size) = _
  rw [← Array.length_toList]
  rcases Nat.le_total i z.cps.toList.length with h | h
  · rw [Nat.min_eq_left h]
  · rw [Nat.min_eq_right h, List.take_of_length_le (Nat.le_refl _), List.take_of_length_le h]
theorem cutS_from (z : Str) (i : Nat) : (cutS z (some (i : Int)) none).cps.toList = z.cps.toList.drop i := by
  unfold cutS
  rw [List.toList_toArray, HT.sIx_none, HT.sIx_nat]
  show (z.cps.toList.drop (min i z.cps.size)).take (z.cps.size - min i z.cps.size) = _
  rw [← Array.length_toList]
  rcases Nat.le_total i z.cps.toList.length with h | h
  · rw [Nat.min_eq_left h, List.take_of_length_le (by rw [List.length_drop]; omega)]
  · rw [Nat.min_eq_right h, List.drop_eq_nil_of_le (Nat.le_refl _), List.drop_eq_nil_of_le h, List.take_nil]
theorem LW.take {l : List Nat} (h : LW l) (i : Nat) (hi : 1 ≤ i) : LW (l.take i) := ⟨by rw [List.length_take]; have := h.1; omega, by rw [List.length_take]; have := h.2.1; omega, fun c hc => h.2.2 c (List.mem_of_mem_take hc)⟩
theorem LW.rev {l : List Nat} (h : LW l) : LW l.reverse := ⟨by rw [List.length_reverse]; exact h.1, by rw [List.length_reverse]; exact h.2.1, fun c hc => h.2.2 c (List.mem_reverse.mp hc)⟩
theorem LW.swap {l : List Nat} (h : LW l) {i c : Nat} (hi : i < l.length) (hc : c ∈ letters.cps.toList) : LW (l.take i ++ [c] ++ l.drop (i + 1)) := by
  obtain ⟨h1, h2, h3⟩ := h
  refine ⟨?_, ?_, fun d hd => ?_⟩
  · simp; omega
  · simp; omega
  · rcases List.mem_append.mp hd with hd | hd
    · rcases List.mem_append.mp hd with hd | hd
      · exact h3 d (List.mem_of_mem_take hd)
      · rw [List.mem_singleton.mp hd]; exact hc
    · exact h3 d (List.mem_of_mem_drop hd)
theorem LW.longer {l : List Nat} (h : LW l) {c : Nat} (hc : c ∈ letters.cps.toList) : LW ((l ++ [c]).take 8) := by
  obtain ⟨h1, h2, h3⟩ := h
  refine ⟨?_, ?_, fun d hd => ?_⟩
  · simp; omega
  · simp; omega
  · rcases List.mem_append.mp (List.mem_of_mem_take hd) with hd | hd
    · exact h3 d hd
    · rw [List.mem_singleton.mp hd]; exact hc
def spares : List Str := ["q", "zx", "mna", "kjhgfdsa", "bo"]
theorem spares_ok : ∀ x ∈ spares, IsName x := by
  have h : spares.all (fun x => decide (1 ≤ x.cps.toList.length) && decide (x.cps.toList.length ≤ 8) && x.cps.toList.all fun c => decide (c ∈ letters.cps.toList)) = true := by decide +kernel
  intro x hx
  have h1 := List.all_eq_true.mp h x hx
  rw [Bool.and_eq_true, Bool.and_eq_true] at h1
  exact LW.name ⟨of_decide_eq_true h1.1.1, of_decide_eq_true h1.1.2, fun c hc => of_decide_eq_true (List.all_eq_true.mp h1.2 c hc)⟩
theorem spares_nd : spares.Nodup := by decide +kernel
/-- one of the spare words is new -/
theorem spare_new {ns : List Str} (x : Str) (h : ns.length < 5) : ∃ y ys, (x :: spares).filter (fun o => decide (o ∉ ns)) = y :: ys := by
  cases hf : (x :: spares).filter (fun o => decide (o ∉ ns)) with
  | cons y ys => exact ⟨y, ys, rfl⟩
  | nil =>
    have h1 : ∀ o ∈ spares, o ∈ ns := fun o ho => by
      have := List.filter_eq_nil_iff.mp hf o (List.mem_cons_of_mem _ ho)
      simpa using this
    have h2 := nodup_len spares_nd h1
    have h3 : spares.length = 5 := rfl
    omega
section
variable {P : Program} {w : World} {K : PySem.W.Frag} {mg : Str → Option Value} {base : Heap} {CC DC UB HF : Addr}
theorem SrcAt.pub {F H : Hp} {ds gl p : Addr} {t : Int} {o : HO} (s : SrcAt F H ds gl t) (n : ¬ Sg ds gl p) : SrcAt (upd F p o) H ds gl t :=
  ⟨by rw [upd_ne (fun z => n (.inl z.symm))]; exact s.fd, by rw [upd_ne (fun z => n (.inr z.symm))]; exact s.fg, s.ne, s.t0, s.ex⟩
abbrev s_lnm : Stmt := top 48
abbrev nm_lnm : List Str := ["_law_source_here", "_law_count", "_law_letters", "_law_word_here", "_law_names_here", "_law_k", "_law_way", "_law_at", "_law_letter", "_law_other_here", "_law_longer", "_law_some_here", "_law_spare", "_law_one"]
theorem sc_lnm : FnScope nm_lnm ["_law_source_here", "_law_count"] (defScope s_lnm) := ⟨rfl, rfl, rfl, by decide +kernel, rfl, by decide +kernel, by decide +kernel⟩
/- slots: 0 _law_source_here 1 _law_count 2 _law_letters 3 _law_word_here 4 _law_names_here 5 _law_k 6 _law_way 7 _law_at 8 _law_letter 9 _law_other_here 10 _law_longer 11 _law_some_here 12 _law_spare 13 _law_one -/
def spLnm : Sp := fun vs H Q _ => ∃ F ds gl t, ∃ n : Nat, vs = [.ref ds, .int (n : Nat)] ∧ Same F H ∧ SrcAt F H ds gl t ∧ t < 2 ^ 38 ∧ n ≤ 4 ∧ ∀ p, ∀ ns : List Str, ∀ t' F' H', Gr (Sg ds gl) F H F' H' → SrcAt F' H' ds gl t' → t ≤ t' → t' ≤ t + 9 + 12 * n → F' p = some (.lst (ns.map V.str)) → ns.length = n → ns.Nodup → (∀ x ∈ ns, IsName x) → Q (.ref p) H'
theorem cal_lnm (D : DefX K mg "_law_names" s_lnm) (T : Tx K mg CC DC) (cDr : C8.Cal P w K mg base 1 "_law_draw" spLdr []) (cWd : C8.Cal P w K mg base 2 "_law_word" spLwd []) : C8.Cal P w K mg base 3 "_law_names" spLnm [] := by
  refine calD (ps := ["_law_source_here", "_law_count"]) D (fun _ _ _ _ _ _ us hl => match us, hl with | [_, _], _ => rfl) sc_lnm ?_ ?_
  · rintro vs H Q E ⟨F, ds, gl, t, n, rfl, _⟩; rfl
  rintro f cdv A outer s0 H vs Q E hr ⟨F, ds, gl, t, n, rfl, hF, hs, ht, hn4, hQ⟩
  refine ⟨_, (pss_cons (ps_set (i := 2) sc_lnm.nd rfl (.inl rfl) pe_str)
      (pss_cons (ps_set (i := 3) sc_lnm.nd rfl (.inl rfl) (C8.pe_c cWd hr (by decide) rfl (pa_cons (pv 0) pa_nil)))
      (pss_cons (ps_set (i := 4) sc_lnm.nd rfl (.inr rfl) (pe_lst pa_nil))
      (pss_cons (ps_for PassesOwn.never rfl (pi_range1 (by rfl) T.range (pa_cons (pv 1) pa_nil)) (pg_name (i := 5) sc_lnm.nd rfl (.inl rfl))
      (pss_cons (ps_set (i := 6) sc_lnm.nd rfl (.inl rfl) (C8.pe_c cDr hr (by decide) rfl (pa_cons (pv 0) (pa_cons pe_int pa_nil))))
        (pss_cons (ps_set (i := 7) sc_lnm.nd rfl (.inl rfl) (C8.pe_c cDr hr (by decide) rfl (pa_cons (pv 0) (pa_cons (pe_callB call_len_str (by rfl) T.len (by decide +kernel) (pa_cons (pv 3) pa_nil)) pa_nil))))
        (pss_cons (ps_set (i := 8) sc_lnm.nd rfl (.inl rfl) (pe_ix ix_str (pv 2) (C8.pe_c cDr hr (by decide) rfl (pa_cons (pv 0) (pa_cons pe_int pa_nil))) (fun _ _ => rfl)))
        (pss_cons (ps_set (i := 9) sc_lnm.nd rfl (.inl rfl) (pe_op op_add_str (pe_op op_add_str (pe_slice sl_str (pv 3) po_none (po_some (pv 7))) (pv 8)) (pe_slice sl_str (pv 3) (po_some (pe_op op_add (pv 7) pe_int)) po_none)))
        (pss_cons (ps_set (i := 10) sc_lnm.nd rfl (.inl rfl) (pe_slice sl_str (pe_op op_add_str (pv 3) (pv 8)) po_none (po_some pe_int)))
        (pss_cons (ps_set (i := 11) sc_lnm.nd rfl (.inl rfl) (pe_lst (pa_cons (pv 3) (pa_cons (pe_slice sl_str (pv 3) po_none (po_some (pe_op op_add (pv 7) pe_int))) (pa_cons (pe_revS (pv 3)) (pa_cons (pv 9) (pa_cons (pv 10) pa_nil)))))))
        (pss_cons (ps_expr (pe_bmK K rfl PySem.F.plainAttrs_list PySem.F.slot_list_append PySem.F.type_list_append mt_append (pv 11) (pa_cons (C8.pe_c cWd hr (by decide) rfl (pa_cons (pv 0) pa_nil)) pa_nil)))
        (pss_cons (ps_set (i := 12) sc_lnm.nd rfl (.inl rfl) (pe_lst (pa_cons (pe_ix (ix_listK K rfl) (pv 11) (pv 6) (fun _ _ => rfl)) (pa_cons pe_str (pa_cons pe_str (pa_cons pe_str (pa_cons pe_str (pa_cons pe_str pa_nil))))))))
        (pss_one (ps_expr (pe_bmK K rfl PySem.F.plainAttrs_list PySem.F.slot_list_append PySem.F.type_list_append mt_append (pv 4) (pa_cons (pe_ix (ix_listK K rfl) (pe_lc (own := [("_law_one", 13)]) (g := (gName 13))  rfl sc_lnm.nd (pi_listK K rfl (pv 12)) (blkOk_by (own := [("_law_one", 13)]) (N := nm_lnm) (sc := defScope s_lnm) (by decide +kernel)) (fun _ _ _ _ _ => (pg_name (i := 13) sc_lnm.nd rfl (.inl rfl))) (fun _ _ _ _ _ => pts_one (pt_cmpR (op_notIn_seqK K rfl) (pv 13) (pv 4) rfl)) (fun _ _ _ _ _ => (pv 13))) pe_int (fun _ _ => rfl)) pa_nil)))))))))))))
      (pss_one (ps_ret (pv 4))))))), ?_⟩
  have ht0 := hs.t0
  refine ⟨_, rfl, F, ds, gl, t, rfl, hF, hs, by omega, fun wd t1 H1 g1 s1 k1 k2 hwd => ⟨Nat.zero_le _, fun N hN => ?_⟩⟩
  have nN := s1.off hN
  have hNF := same_none g1.fh hN
  have hNH := g1.fresh hN
  have hlw := hwd.lw
  have hwl : wd.cps.toList.length = wd.length := Array.length_toList
  refine ⟨_, rfl, _, rfl, by omega, by omega, ?_⟩
  rw [Int.toNat_natCast]
  refine for_it walk_range (fun i σ H' => ∃ ns : List Str, ∃ t2 x5 x6 x7 x8 x9 x10 x11 x12, σ = [some (.ref ds), some (.int (n : Nat)), some (.str letters), some (.str wd), some (.ref N), x5, x6, x7, x8, x9, x10, x11, x12, none] ∧ Gr (Sg ds gl) F H F H' ∧ SrcAt F H' ds gl t2 ∧ t1 ≤ t2 ∧ t2 ≤ t1 + 12 * i ∧ H' N = some (.lst (ns.map V.str)) ∧ ns.length = i ∧ ns.Nodup ∧ ∀ x ∈ ns, IsName x) ⟨[], t1, none, none, none, none, none, none, none, none, rfl, g1.lay hN, s1.lay g1.fh hN, Int.le_refl _, by simp, upd_same .., rfl, List.nodup_nil, fun _ h => by cases h⟩ (fun _ _ _ _ _ => trivial) ?_ ?_
  · rintro i x σ H2 H3 hi ⟨ns, t2, x5, x6, x7, x8, x9, x10, x11, x12, rfl, g2, s2, k3, k4, hN2, hnl, hnd, hok⟩ ⟨rfl, rfl⟩
    refine ⟨_, rfl, F, ds, gl, t2, 6, rfl, g2.fh, s2, by omega, by decide, fun way t3 H4 g3 s3 k5 k6 w0 w1 => ?_⟩
    have w6 := w1 (by decide)
    refine ⟨_, rfl, _, rfl, wd, rfl, ?_, F, ds, gl, t3, _, rfl, g3.fh, s3, by omega, ?_, fun at' t4 H5 g4 s4 k7 k8 a0 a1 => ?_⟩
    · have := hlw.2.1
      rw [hwl] at this
      exact Nat.le_of_lt (bigS (by omega))
    · have := hlw.2.1
      rw [hwl] at this
      exact Int.lt_of_le_of_lt (b := 8) (by omega) (by decide)
    obtain ⟨a, rfl⟩ := Int.eq_ofNat_of_zero_le a0
    have ha : a < wd.length := by have := a1 (by have := hwd.pos; omega); omega
    have hw8 := hwd.2.1
    have hz : ∀ k, k ≤ 20 → k ≤ sizeLine := fun k h => Nat.le_trans h (by decide)
    have lc : ∀ x : Str, x.cps.toList.length = x.length := fun x => Array.length_toList
    refine ⟨_, rfl, _, rfl, F, ds, gl, t4, 26, rfl, g4.fh, s4, by omega, by decide, fun r t5 H6 g5 s5 k9 k10 r0 r1 => ?_⟩
    obtain ⟨c, hc, hcm⟩ := one_letter r0 (r1 (by decide))
    refine ⟨letters, r, c, rfl, rfl, by decide +kernel, hc, ?_⟩
    have ho1 := cutS_to wd a
    have ho2 := cutS_from wd (a + 1)
    have ho3 := cutS_to wd (a + 1)
    have hl1 : (cutS wd none (some (a : Int))).length ≤ 8 := by rw [← lc, ho1, List.length_take, hwl]; omega
    have hl2 : (cutS wd (some ((a + 1 : Nat) : Int)) none).length ≤ 8 := by rw [← lc, ho2, List.length_drop, hwl]; omega
    have hone : (⟨#[c]⟩ : Str).length = 1 := rfl
    have hapl : ∀ x y : Str, (x ++ y).length = x.length + y.length := fun x y => by rw [← lc, cps_app, List.length_append, lc, lc]
    refine ⟨_, rfl, _, rfl, _, rfl, wd, rfl, hz _ (by omega), _, rfl, _, _, rfl, rfl, hz _ (by omega), _, rfl, _, rfl, _, _, rfl, rfl, _, rfl, wd, rfl, hz _ (by omega), _, _, rfl, rfl, ?_, ?_⟩
    · rw [hapl]; exact hz _ (by have : ((a : Int) + 1) = ((a + 1 : Nat) : Int) := rfl; rw [this]; omega)
    have hother : LW (cutS wd none (some (a : Int)) ++ ⟨#[c]⟩ ++ cutS wd (some ((a : Int) + 1)) none : Str).cps.toList := by
      rw [cps_app, cps_app, ho1, show ((a : Int) + 1) = ((a + 1 : Nat) : Int) from rfl, ho2]
      exact hlw.swap (by rw [hwl]; exact ha) hcm
    refine ⟨_, rfl, _, rfl, _, _, rfl, rfl, hz _ (by omega), _, rfl, _, rfl, by rw [hapl]; exact hz _ (by omega), ?_⟩
    have hlonger : LW (cutS (wd ++ ⟨#[c]⟩) none (some 8)).cps.toList := by
      rw [show (8 : Int) = ((8 : Nat) : Int) from rfl, cutS_to, cps_app]
      exact hlw.longer hcm
    have hpre : LW (cutS wd none (some ((a : Int) + 1))).cps.toList := by
      rw [show ((a : Int) + 1) = ((a + 1 : Nat) : Int) from rfl, cutS_to]
      exact hlw.take _ (by omega)
    have hrev : LW (revS wd).cps.toList := by
      unfold revS
      rw [List.toList_toArray]
      exact hlw.rev
    refine ⟨_, rfl, _, rfl, _, rfl, _, _, rfl, rfl, _, rfl, wd, rfl, hz _ (by omega), _, rfl, wd, rfl, hz _ (by omega), _, rfl, _, rfl, (by show 5 ≤ sizeLine; decide), fun S hS => ?_⟩
    generalize (cutS wd none (some (a : Int)) ++ ⟨#[c]⟩ ++ cutS wd (some ((a : Int) + 1)) none : Str) = other at *
    generalize (cutS (wd ++ ⟨#[c]⟩) none (some 8)) = longer at *
    generalize (cutS wd none (some ((a : Int) + 1))) = pre at *
    generalize (revS wd) = rev at *
    have g25 := ((g2.trans g3).trans g4).trans g5
    have nS := s5.off hS
    have hSF := same_none g5.fh hS
    have hN6 : H6 N = some (.lst (ns.map V.str)) := g5.keep (g4.keep (g3.keep hN2 nN) nN) nN
    have hNS : N ≠ S := ne_of_none hN6 hS
    have g6 : Gr (Sg ds gl) F H F (upd H6 S (.lst [.str wd, .str pre, .str rev, .str other, .str longer])) := g25.lay hS
    have s6 := s5.lay (o := .lst [.str wd, .str pre, .str rev, .str other, .str longer]) g5.fh hS
    have hS6 : (upd H6 S (.lst [.str wd, .str pre, .str rev, .str other, .str longer])) S = some (.lst [.str wd, .str pre, .str rev, .str other, .str longer]) := upd_same ..
    have hN7 : (upd H6 S (.lst [.str wd, .str pre, .str rev, .str other, .str longer])) N = some (.lst (ns.map V.str)) := by rw [upd_ne hNS]; exact hN6
    have hS0 := g25.fresh hS
    generalize (upd H6 S (.lst [.str wd, .str pre, .str rev, .str other, .str longer])) = H7 at *
    refine ⟨_, rfl, .inl ⟨rfl, _, .inl (.inl hS6)⟩, _, rfl, F, ds, gl, t5, rfl, g6.fh, s6, by omega, fun x2 t6 H8 g7 s7 k11 k12 hx2 => ?_⟩
    have hS8 := g7.keep hS6 nS
    have hN8 := g7.keep hN7 nN
    refine ⟨S, _, .str x2, rfl, rfl, hS8, (by show 5 < sizeLine; decide), ?_⟩
    have g8 : Gr (Sg ds gl) F H F (upd H8 S (.lst ([.str wd, .str pre, .str rev, .str other, .str longer] ++ [.str x2]))) := (g6.trans g7).set hSF (.inr hS0)
    have s8 := s7.set (o := .lst ([.str wd, .str pre, .str rev, .str other, .str longer] ++ [.str x2])) nS
    have hS9 : (upd H8 S (.lst ([.str wd, .str pre, .str rev, .str other, .str longer] ++ [.str x2]))) S = some (.lst (([wd, pre, rev, other, longer, x2] : List Str).map V.str)) := upd_same ..
    have hN9 : (upd H8 S (.lst ([.str wd, .str pre, .str rev, .str other, .str longer] ++ [.str x2]))) N = some (.lst (ns.map V.str)) := by rw [upd_ne hNS]; exact hN8
    generalize (upd H8 S (.lst ([.str wd, .str pre, .str rev, .str other, .str longer] ++ [.str x2]))) = H9 at *
    have hall : ∀ x ∈ ([wd, pre, rev, other, longer, x2] : List Str), IsName x := by
      intro x hx
      simp at hx
      rcases hx with rfl | rfl | rfl | rfl | rfl | rfl
      · exact hwd
      · exact hpre.name
      · exact hrev.name
      · exact hother.name
      · exact hlonger.name
      · exact hx2
    obtain ⟨wn, rfl⟩ := Int.eq_ofNat_of_zero_le w0
    have hwn : wn < ([wd, pre, rev, other, longer, x2] : List Str).length := by show wn < 6; omega
    have hy0 := List.getElem?_eq_getElem hwn
    have hym := List.getElem_mem hwn
    generalize ([wd, pre, rev, other, longer, x2] : List Str)[wn] = y at hy0 hym
    have hyn := hall y hym
    refine ⟨_, rfl, _, rfl, S, _, _, .str y, rfl, rfl, .inl (.inl hS9), atI_nat (by rw [List.getElem?_map, hy0]; rfl), (by show 6 ≤ sizeLine; decide), fun Z hZ => ?_⟩
    have g10 := g8.lay (o := .lst ((y :: spares).map V.str)) hZ
    have s10 := s8.lay (o := .lst ((y :: spares).map V.str)) g8.fh hZ
    have hZ10 : (upd H9 Z (.lst ((y :: spares).map V.str))) Z = some (.lst ((y :: spares).map V.str)) := upd_same ..
    have hN10 : (upd H9 Z (.lst ((y :: spares).map V.str))) N = some (.lst (ns.map V.str)) := by rw [upd_ne (ne_of_none hN9 hZ)]; exact hN9
    show tSeq _ _ _ _ (upd H9 Z (.lst ((y :: spares).map V.str)))
    generalize (upd H9 Z (.lst ((y :: spares).map V.str))) = H10 at *
    obtain ⟨y1, ys1, hflt⟩ := spare_new (ns := ns) y (by omega)
    have hy1 : y1 ∈ (y :: spares).filter (fun o => decide (o ∉ ns)) := by rw [hflt]; exact List.mem_cons_self ..
    have hy1n : y1 ∉ ns := by simpa using (List.mem_filter.mp hy1).2
    have hy1k : IsName y1 := by
      rcases List.mem_cons.mp (List.mem_filter.mp hy1).1 with h | h
      · rw [h]; exact hyn
      · exact spares_ok y1 h
    refine ⟨_, rfl, .inl ⟨rfl, _, .inl (.inl hN10)⟩, _, rfl, Z, rfl, ⟨_, .inl (.inl hZ10)⟩, fun L hL => lc_list (K := K) (a := Z) (xs := (y :: spares).map V.str) (PvS H10 L fun i acc => acc = (((y :: spares).take i).filter fun o => decide (o ∉ ns)).map V.str) (PvS.zero hL rfl) (fun i H3 _ h => .inl (.inl (h.1 _ _ hZ10))) ?_ ?_⟩
    · rintro j z H11 hz' ⟨e, acc, hacc, hl, r⟩
      obtain ⟨o, hox, rfl⟩ := get_map hz'
      refine ⟨rfl, _, rfl, _, rfl, N, _, rfl, .inl (.inl (.inl (e _ _ hN10))), rfl, flat_strs _, _, rfl, ?_⟩
      rw [if_pos rfl, inV_str]
      refine ite2 (fun hc => ?_) (fun hc => ?_)
      · refine ⟨_, rfl, PvS.snoc hL e hacc hl (by have h1 := lt_at hox; have h2 : (y :: spares).length = 6 := rfl; omega) (.refl _) ?_⟩
        rw [r, filter_take_at hox, if_pos (by simpa using hc), List.map_append]; rfl
      · refine PvS.skip e hacc hl (.refl _) ?_
        rw [r, filter_take_at hox, if_neg (by simpa using hc), List.append_nil]
    · rintro H11 ⟨e, acc, hacc, hl, r⟩
      rw [List.length_map, List.take_length, hflt] at r
      subst r
      refine ⟨L, _, 0, .str y1, rfl, rfl, .inl (.inl hacc), (atI_nat (xs := (y1 :: ys1).map V.str) (j := 0) rfl), N, _, .str y1, rfl, rfl, e _ _ hN10, ?_, ?_⟩
      · rw [List.length_map]; exact bigS (by omega)
      · have g11 := g10.ext e
        have s11 : SrcAt F H11 ds gl t6 := s10.ext ((Gr.refl g10.fh).ext e)
        refine ⟨ns ++ [y1], t6, _, _, _, _, _, _, _, _, rfl, g11.set hNF (.inr hNH), s11.set nN, by omega, by have : ((i + 1 : Nat) : Int) = i + 1 := rfl; omega, by rw [List.map_append]; exact upd_same .., by rw [List.length_append, hnl]; rfl, List.nodup_append.mpr ⟨hnd, by simp, fun u hu v hv e' => hy1n (by rw [List.mem_singleton.mp hv] at e'; rw [← e']; exact hu)⟩, fun x hx => ?_⟩
        rcases List.mem_append.mp hx with h | h
        · exact hok x h
        · rw [List.mem_singleton.mp h]; exact hy1k
  · rintro σ H2 ⟨ns, t2, x5, x6, x7, x8, x9, x10, x11, x12, rfl, g2, s2, k3, k4, hN2, hnl, hnd, hok⟩
    exact ⟨_, rfl, hQ N ns t2 _ H2 (g2.pub hN2 hNH) (s2.pub nN) (by omega) (by omega) (upd_same ..) hnl hnd hok⟩
end
end S3

/-! ### L14: some of a list; bits; a step -/
namespace S3
open PySem PySem.Spec PyProof.Rows L2
theorem pi_zipK {X : Cx} (K : PySem.W.Frag) (hK : X.K = K) {e e2 : Expr} {ta : TA} {p pos tpos : Pos} {elts : List Expr} {kk : Nat} (hg : Gl X "zip") (hm : X.mg "zip" = none) (ha : PA X [e, e2] ta)
    (hs : starEach [e, e2] X.env = (false, eval e X.env) :: starEach [e2] X.env := by rfl) (hpl : (backTo pos (starEach [e2] X.env)).any (·.1) = false := by rfl) :
    PI X (.Tuple elts kk tpos) (.Call (.Name "zip" p) [e, e2] [] pos) (iZip K ta) := by subst hK; exact pi_zip hg hm ha hs hpl
/-- a test that changes nothing; yes only where p -/
def Tst (t : TT) (σ : L2.St) (H : Hp) (p : Prop) : Prop := ∀ Q : Bool → Hp → Prop, (∀ b, (b = true → p) → Q b H) → t σ H Q
theorem Tst.and {t u : TT} {σ : L2.St} {H : Hp} {p q : Prop} (h1 : Tst t σ H p) (h2 : Tst u σ H q) : Tst (tAnd t u) σ H (p ∧ q) := fun Q hQ => h1 _ fun b hb => by
  cases b with
  | true => exact iteT (h2 _ fun c hc => hQ c fun e => ⟨hb rfl, hc e⟩)
  | false => exact iteF (hQ false fun e => nomatch e)
theorem Tst.or {t u : TT} {σ : L2.St} {H : Hp} {p q : Prop} (h1 : Tst t σ H p) (h2 : Tst u σ H q) : Tst (tOr t u) σ H (p ∨ q) := fun Q hQ => h1 _ fun b hb => by
  cases b with
  | true => exact iteT (hQ true fun _ => .inl (hb rfl))
  | false => exact iteF (h2 _ fun c hc => hQ c fun e => .inr (hc e))
theorem Tst.weak {t : TT} {σ : L2.St} {H : Hp} {p q : Prop} (h : Tst t σ H p) (f : p → q) : Tst t σ H q := fun Q hQ => h Q fun b hb => hQ b fun e => f (hb e)
theorem Tst.if {t : TT} {T U : TS} {D : Ends} {σ : L2.St} {H : Hp} {p : Prop} (h : Tst t σ H p) (hT : p → T D σ H) (hU : U D σ H) : tIfS t T U D σ H := h _ fun b hb => by
  cases b with
  | true => exact iteT (hT (hb rfl))
  | false => exact iteF hU
section
variable {P : Program} {w : World} {K : PySem.W.Frag} {mg : Str → Option Value} {base : Heap} {CC DC UB HF : Addr}
abbrev s_lsm2 : Stmt := top 50
abbrev nm_lsm2 : List Str := ["_law_names_here", "_law_bits_here", "_law_sizes", "_law_one", "_law_size"]
theorem sc_lsm2 : FnScope nm_lsm2 ["_law_names_here", "_law_bits_here"] (defScope s_lsm2) := ⟨rfl, rfl, rfl, by decide +kernel, rfl, by decide +kernel, by decide +kernel⟩
/- slots: 0 _law_names_here 1 _law_bits_here 2 _law_sizes 3 _law_one 4 _law_size -/
def spSome (K : PySem.W.Frag) : Sp := fun vs H Q _ => ∃ a, ∃ ns : List Str, ∃ b : Int, vs = [.ref a, .int b] ∧ SqL K H a (ns.map V.str) ∧ ns.length ≤ 4 ∧ ∀ p, ∀ sub : List Str, ∀ H', Same H H' → H p = none → H' p = some (.lst (sub.map V.str)) → sub.Sublist ns → Q (.ref p) H'
theorem cal_lsome (D : DefX K mg "_law_some" s_lsm2) (T : Tx K mg CC DC) : C8.Cal P w K mg base 1 "_law_some" (spSome K) [] := by
  refine calD (ps := ["_law_names_here", "_law_bits_here"]) D (fun _ _ _ _ _ _ us hl => match us, hl with | [_, _], _ => rfl) sc_lsm2 ?_ ?_
  · rintro vs H Q E ⟨a, ns, b, rfl, _⟩; rfl
  rintro f cdv A outer s0 H vs Q E hr ⟨a, ns, b, rfl, hsq, hz, hQ⟩
  refine ⟨_, (pss_cons (ps_set (i := 2) sc_lsm2.nd rfl (.inl rfl) (pe_lst (pa_cons pe_int (pa_cons pe_int (pa_cons pe_int (pa_cons pe_int pa_nil))))))
      (pss_one (ps_ret (pe_lc (own := [("_law_one", 3), ("_law_size", 4)])  rfl sc_lsm2.nd (pi_zipK K rfl (by rfl) T.zip (pa_cons (pv 0) (pa_cons (pv 2) pa_nil))) (blkOk_by (own := [("_law_one", 3), ("_law_size", 4)]) (N := nm_lsm2) (sc := defScope s_lsm2) (by decide +kernel)) (fun _ _ _ _ _ => (pg_tupK K rfl 2 rfl (pgs_cons (pg_name (i := 3) sc_lsm2.nd rfl (.inl rfl)) (pgs_cons (pg_name (i := 4) sc_lsm2.nd rfl (.inl rfl)) pgs_nil)))) (fun _ _ _ _ _ => pts_one (pt_cmpR op_eq (pe_op op_modN (pe_op op_fdivN (pv 1) (pv 4)) pe_int) pe_int (nomark _))) (fun _ _ _ _ _ => (pv 3)))))), ?_⟩
  refine ⟨(by show 4 ≤ sizeLine; decide), fun L0 hL0 => ?_⟩
  have e0 := same_new (o := .lst (([1, 2, 4, 8] : List Int).map V.int)) hL0
  have hs1 := same_l e0 hsq
  have hL1 : (upd H L0 (.lst (([1, 2, 4, 8] : List Int).map V.int))) L0 = some (.lst (([1, 2, 4, 8] : List Int).map V.int)) := upd_same ..
  rw [show ([V.int 1, .int 2, .int 4, .int 8] : List V) = ([1, 2, 4, 8] : List Int).map V.int from rfl]
  have hnone : ∀ p, (upd H L0 (.lst (([1, 2, 4, 8] : List Int).map V.int))) p = none → H p = none := fun p hp => by
    cases q : H p with
    | none => rfl
    | some o => rw [e0 _ _ q] at hp; cases hp
  generalize (upd H L0 (.lst (([1, 2, 4, 8] : List Int).map V.int))) = H1 at *
  refine ⟨_, rfl, _, rfl, a, L0, _, _, rfl, hs1, .inl (.inl hL1), fun L hL => lc_it (walk_zip (xs := ns.map V.str) (ys := ([1, 2, 4, 8] : List Int).map V.int) (n := ns.length) (by rw [List.length_map]; show _ = min _ 4; omega)) (PvS H1 L fun i acc => ∃ sub : List Str, acc = sub.map V.str ∧ sub.Sublist (ns.take i)) (PvS.zero hL ⟨[], rfl, List.nil_sublist _⟩) (fun i H3 _ h => ⟨same_l h.1 hs1, .inl (.inl (h.1 _ _ hL1))⟩) ?_ ?_⟩
  · rintro i x H2 H3 hi ⟨e2, acc, hacc, hl, sub, rfl, hsub⟩ ⟨t, x1, y1, rfl, ht, rfl, hx1, hy1⟩
    obtain ⟨n, hn, rfl⟩ := get_map hx1
    obtain ⟨sz, hsz, rfl⟩ := get_map hy1
    have hszm : sz ∈ ([1, 2, 4, 8] : List Int) := mem_at hsz
    have hszd : CDivN b sz := by
      simp at hszm
      rcases hszm with rfl | rfl | rfl | rfl <;> exact ⟨by decide, by decide⟩
    have et := same_new (o := .tup [.str n, .int sz]) ht
    refine ⟨t, _, rfl, .inl (.inl (upd_same ..)), rfl, _, _, rfl, _, _, rfl, rfl, rfl, ?_⟩
    refine ⟨_, rfl, _, rfl, _, _, rfl, rfl, hszd, _, _, rfl, rfl, (by show (2 : Int) ≠ 0; decide), rfl, _, rfl, ?_⟩
    refine ite2 (fun _ => ?_) (fun _ => ?_)
    · refine ⟨_, rfl, PvS.snoc hL e2 hacc hl (by omega) et ⟨sub ++ [n], by rw [List.map_append]; rfl, ?_⟩⟩
      rw [take_at hn]
      exact List.Sublist.append hsub (List.Sublist.refl _)
    · refine PvS.skip e2 hacc hl et ⟨sub, rfl, ?_⟩
      rw [take_at hn]
      exact hsub.trans (List.sublist_append_left ..)
  · rintro H2 ⟨e2, acc, hacc, hl, sub, rfl, hsub⟩
    rw [List.take_length] at hsub
    exact hQ L sub H2 (e0.trans e2) (hnone L hL) hacc hsub
abbrev s_lbt : Stmt := top 51
abbrev nm_lbt : List Str := ["_law_number", "_law_dim", "_law_low"]
theorem sc_lbt : FnScope nm_lbt ["_law_number", "_law_dim"] (defScope s_lbt) := ⟨rfl, rfl, rfl, by decide +kernel, rfl, by decide +kernel, by decide +kernel⟩
/- slots: 0 _law_number 1 _law_dim 2 _law_low -/
def spBits : Sp := fun vs H Q _ => ∃ n d : Int, vs = [.int n, .int d] ∧ 0 ≤ d ∧ d < 3 ∧ ∀ b H', Same H H' → Q (.int b) H'
theorem cal_lbits (D : DefX K mg "_law_bits" s_lbt) (T : Tx K mg CC DC) : C8.Cal P w K mg base 1 "_law_bits" spBits [] := by
  refine calD (ps := ["_law_number", "_law_dim"]) D (fun _ _ _ _ _ _ us hl => match us, hl with | [_, _], _ => rfl) sc_lbt ?_ ?_
  · rintro vs H Q E ⟨n, d, rfl, _⟩; rfl
  rintro f cdv A outer s0 H vs Q E hr ⟨n, d, rfl, hd0, hd3, hQ⟩
  refine ⟨_, (pss_cons (ps_set (i := 2) sc_lbt.nd rfl (.inl rfl) (pe_op op_modN (pe_callTy call_int1 (by rfl) T.int (by decide +kernel) (pa_cons (pv 0) pa_nil)) pe_int))
      (pss_one (ps_ret (pe_ix (ix_listK K rfl) (pe_lst (pa_cons (pv 2) (pa_cons (pe_op op_and (pv 2) (pe_op op_fdivN (pv 0) pe_int)) (pa_cons (pe_op op_and (pe_op op_and (pv 2) (pe_op op_fdivN (pv 0) pe_int)) (pe_op op_fdivN (pv 0) pe_int)) pa_nil)))) (pv 1) (fun _ _ => rfl))))), ?_⟩
  refine ⟨_, rfl, .inl ⟨_, rfl, _, _, rfl, rfl, (by show (8 : Int) ≠ 0; decide), ?_⟩⟩
  refine ⟨_, rfl, _, rfl, _, rfl, _, _, rfl, rfl, ⟨by decide, by decide⟩, _, _, rfl, rfl, _, rfl, _, rfl, _, _, rfl, rfl, ⟨by decide, by decide⟩, _, _, rfl, rfl, _, rfl, _, _, rfl, rfl, ⟨by decide, by decide⟩, _, _, rfl, rfl, (by show 3 ≤ sizeLine; decide), fun L hL => ?_⟩
  obtain ⟨k, rfl⟩ := Int.eq_ofNat_of_zero_le hd0
  have hk : k = 0 ∨ k = 1 ∨ k = 2 := by omega
  rcases hk with rfl | rfl | rfl
  · exact ⟨_, rfl, L, _, _, _, rfl, rfl, .inl (.inl (upd_same ..)), rfl, hQ _ _ (same_new hL)⟩
  · exact ⟨_, rfl, L, _, _, _, rfl, rfl, .inl (.inl (upd_same ..)), rfl, hQ _ _ (same_new hL)⟩
  · exact ⟨_, rfl, L, _, _, _, rfl, rfl, .inl (.inl (upd_same ..)), rfl, hQ _ _ (same_new hL)⟩
abbrev s_lst : Stmt := top 49
abbrev nm_lst : List Str := ["_law_source_here", "_law_shape", "_law_size", "_law_turn", "_law_at", "_law_after_here"]
theorem sc_lst : FnScope nm_lst ["_law_source_here", "_law_shape", "_law_size", "_law_turn", "_law_at"] (defScope s_lst) := ⟨rfl, rfl, rfl, by decide +kernel, rfl, by decide +kernel, by decide +kernel⟩
/- slots: 0 _law_source_here 1 _law_shape 2 _law_size 3 _law_turn 4 _law_at 5 _law_after_here -/
def spStepTo (K : PySem.W.Frag) : Sp := fun vs H Q _ => ∃ F ds gl t, ∃ sh sz tu : Int, ∃ a, ∃ i k : Int, vs = [.ref ds, .int sh, .int sz, .int tu, .ref a] ∧ Same F H ∧ SrcAt F H ds gl t ∧ t < 2 ^ 37 ∧ 1 ≤ sz ∧ sz < 100 ∧ 0 ≤ tu ∧ tu < sz ∧ F a = some (.tup [.int i, .int k]) ∧ 0 ≤ i ∧ i < sz ∧ ∀ r t' H', Gr (Sg ds gl) F H F H' → SrcAt F H' ds gl t' → t ≤ t' → t' ≤ t + 1 → 0 ≤ r → r < sz → Q (.int r) H'
theorem cal_lstep (D : DefX K mg "_law_step_to" s_lst) (T : Tx K mg CC DC) (cDr : C8.Cal P w K mg base 1 "_law_draw" spLdr []) : C8.Cal P w K mg base 2 "_law_step_to" (spStepTo K) [] := by
  refine calD (ps := ["_law_source_here", "_law_shape", "_law_size", "_law_turn", "_law_at"]) D (fun _ _ _ _ _ _ us hl => match us, hl with | [_, _, _, _, _], _ => rfl) sc_lst ?_ ?_
  · rintro vs H Q E ⟨F, ds, gl, t, sh, sz, tu, a, i, k, rfl, _⟩; rfl
  rintro f cdv A outer s0 H vs Q E hr ⟨F, ds, gl, t, sh, sz, tu, a, i, k, rfl, hF, hs, ht, hz1, hz9, hu0, hu1, ha, hi0, hi1, hQ⟩
  refine ⟨_, (pss_cons (ps_set (i := 5) sc_lst.nd rfl (.inl rfl) (C8.pe_c cDr hr (by decide) rfl (pa_cons (pv 0) (pa_cons (pv 2) pa_nil))))
      (C8.pss_cut (ps_if (PW.pt (pw_or (PW.pt (pw_and (pt_cmpR op_gt (pv 1) pe_int (nomark _)) (pw_and1 (pt_cmpR op_lt (pv 1) pe_int (nomark _))))) (pw_or1 (PW.pt (pw_and (pt_cmpR op_eq (pv 1) pe_int (nomark _)) (pw_and1 (pt_cmpR op_eq (pe_ix (ix_tupK K rfl) (pv 4) pe_int (fun _ _ => rfl)) pe_int (nomark _))))))))
      (pss_one (ps_set (i := 5) sc_lst.nd rfl (.inl rfl) (pe_op op_modN (pe_callTy call_int1 (by rfl) T.int (by decide +kernel) (pa_cons (pe_op op_add (pe_ix (ix_tupK K rfl) (pv 4) pe_int (fun _ _ => rfl)) (pe_ix (ix_listK K rfl) (pe_lst (pa_cons (pv 3) (pa_cons pe_int pa_nil))) (pe_callTy call_int1 (by rfl) T.int (by decide +kernel) (pa_cons (pe_cmpR op_eq (pv 1) pe_int (nomark _)) pa_nil)) (fun _ _ => rfl))) pa_nil)) (pv 2))))
      pss_nil)
      (C8.pss_cut (ps_if (PW.pt (pw_and (pt_cmpR op_eq (pv 1) pe_int (nomark _)) (pw_and (pt_cmpR op_eq (pe_ix (ix_tupK K rfl) (pv 4) pe_int (fun _ _ => rfl)) pe_int (nomark _)) (pw_and (pt_cmpR op_lt (pe_ix (ix_tupK K rfl) (pv 4) pe_int (fun _ _ => rfl)) pe_int (nomark _)) (pw_and1 (pt_cmpR op_gt (pv 2) pe_int (nomark _)))))))
      (pss_one (ps_set (i := 5) sc_lst.nd rfl (.inl rfl) (pe_op op_sub pe_int (pe_ix (ix_tupK K rfl) (pv 4) pe_int (fun _ _ => rfl)))))
      pss_nil)
      (C8.pss_cut (ps_if (PW.pt (pw_and (pt_cmpR op_gt (pv 1) pe_int (nomark _)) (pw_and1 (pt_cmpR op_eq (pe_ix (ix_tupK K rfl) (pv 4) pe_int (fun _ _ => rfl)) pe_int (nomark _)))))
      (pss_one (ps_set (i := 5) sc_lst.nd rfl (.inl rfl) (pe_ix (ix_listK K rfl) (pe_lst (pa_cons (pe_ix (ix_tupK K rfl) (pv 4) pe_int (fun _ _ => rfl)) (pa_cons (pv 3) pa_nil))) (pe_callTy call_int1 (by rfl) T.int (by decide +kernel) (pa_cons (pe_cmpR op_eq (pe_ix (ix_tupK K rfl) (pv 4) pe_int (fun _ _ => rfl)) (pe_op op_sub (pv 2) pe_int) (nomark _)) pa_nil)) (fun _ _ => rfl))))
      pss_nil)
      (pss_one (ps_ret (pv 5))))))), ?_⟩
  refine ⟨_, rfl, _, rfl, F, ds, gl, t, sz, rfl, hF, hs, by omega, Int.lt_trans hz9 (by decide), fun r t1 H1 g1 s1 k1 k2 r0 r1 => ?_⟩
  have ha1 := g1.fh _ _ ha
  have r1' := r1 hz1
  have hsq : ∀ H', Same H1 H' → SqT K H' a [.int i, .int k] := fun H' e => .inl (.inl (e _ _ ha1))
  have mid : ∀ r' H', Gr (Sg ds gl) F H1 F H' → Same H1 H' → 0 ≤ r' → r' < sz → ∃ r'', [some (V.ref ds), some (.int sh), some (.int sz), some (.int tu), some (.ref a), some (.int r')] = [some (V.ref ds), some (.int sh), some (.int sz), some (.int tu), some (.ref a), some (.int r'')] ∧ Same H1 H' ∧ 0 ≤ r'' ∧ r'' < sz := fun r' H' _ e h0 h1 => ⟨r', rfl, e, h0, h1⟩
  refine ⟨fun σ H' => ∃ r', σ = [some (.ref ds), some (.int sh), some (.int sz), some (.int tu), some (.ref a), some (.int r')] ∧ Same H1 H' ∧ 0 ≤ r' ∧ r' < sz, ?_, ?_⟩
  · refine Tst.if (p := True) (Tst.weak (Tst.or (Tst.and (p := True) (q := True) (fun Q hQ => ⟨_, rfl, _, _, rfl, rfl, _, rfl, hQ _ fun _ => trivial⟩) (fun Q hQ => ⟨_, rfl, _, _, rfl, rfl, _, rfl, hQ _ fun _ => trivial⟩)) (Tst.and (p := True) (q := True) (fun Q hQ => ⟨_, rfl, rfl, _, rfl, hQ _ fun _ => trivial⟩) (fun Q hQ => ⟨_, rfl, a, _, 1, _, rfl, rfl, hsq _ (.refl _), rfl, rfl, _, rfl, hQ _ fun _ => trivial⟩))) (fun _ => trivial)) (fun _ => ?_) ⟨r, rfl, .refl _, r0, r1'⟩
    refine ⟨_, rfl, a, _, 0, _, rfl, rfl, hsq _ (.refl _), rfl, _, rfl, (by show 2 ≤ sizeLine; decide), fun L hL => ?_⟩
    have eL := same_new (o := .lst [.int tu, .int 1]) hL
    refine ⟨_, rfl, rfl, .inr ⟨_, rfl, ?_⟩⟩
    have fin : ∀ x : Int, 0 ≤ x.fmod sz ∧ x.fmod sz < sz := fun x => ⟨Int.fmod_nonneg_of_pos _ (by omega), Int.fmod_lt_of_pos _ (by omega)⟩
    by_cases h4 : sh = 4
    · subst h4
      exact ⟨L, _, 1, .int 1, rfl, by rw [decide_eq_true rfl]; rfl, .inl (.inl (upd_same ..)), rfl, _, _, rfl, rfl, .inl ⟨_, rfl, _, rfl, _, _, rfl, rfl, (by show sz ≠ 0; omega), _, rfl, eL, (fin _).1, (fin _).2⟩⟩
    · exact ⟨L, _, 0, .int tu, rfl, by rw [decide_eq_false (fun z => h4 (by injection z))]; rfl, .inl (.inl (upd_same ..)), rfl, _, _, rfl, rfl, .inl ⟨_, rfl, _, rfl, _, _, rfl, rfl, (by show sz ≠ 0; omega), _, rfl, eL, (fin _).1, (fin _).2⟩⟩
  rintro σ H2 ⟨r2, rfl, e2, q0, q1⟩
  refine ⟨fun σ H' => ∃ r', σ = [some (.ref ds), some (.int sh), some (.int sz), some (.int tu), some (.ref a), some (.int r')] ∧ Same H1 H' ∧ 0 ≤ r' ∧ r' < sz, ?_, ?_⟩
  · refine Tst.if (p := i < 2 ∧ 1 < sz) (fun Q hQ => Tst.and (p := True) (q := True ∧ i < 2 ∧ 1 < sz) (fun Q hQ => ⟨_, rfl, rfl, _, rfl, hQ _ fun _ => trivial⟩) (Tst.and (fun Q hQ => ⟨_, rfl, a, _, 1, _, rfl, rfl, hsq _ e2, rfl, rfl, _, rfl, hQ _ fun _ => trivial⟩) (Tst.and (fun Q hQ => ⟨_, rfl, a, _, 0, _, rfl, rfl, hsq _ e2, rfl, _, _, rfl, rfl, _, rfl, hQ _ fun e => of_decide_eq_true e⟩) (fun Q hQ => ⟨_, rfl, _, _, rfl, rfl, _, rfl, hQ _ fun e => of_decide_eq_true e⟩))) Q fun b hb => hQ b fun e => (hb e).2.2) (fun hp => ?_) ⟨r2, rfl, e2, q0, q1⟩
    exact ⟨_, rfl, a, _, 0, _, rfl, rfl, hsq _ e2, rfl, _, _, rfl, rfl, _, rfl, e2, by omega, by omega⟩
  rintro σ H3 ⟨r3, rfl, e3, q2, q3⟩
  refine ⟨fun σ H' => ∃ r', σ = [some (.ref ds), some (.int sh), some (.int sz), some (.int tu), some (.ref a), some (.int r')] ∧ Same H1 H' ∧ 0 ≤ r' ∧ r' < sz, ?_, ?_⟩
  · refine Tst.if (p := True) (Tst.weak (Tst.and (p := True) (q := True) (fun Q hQ => ⟨_, rfl, _, _, rfl, rfl, _, rfl, hQ _ fun _ => trivial⟩) (fun Q hQ => ⟨_, rfl, a, _, 1, _, rfl, rfl, hsq _ e3, rfl, rfl, _, rfl, hQ _ fun _ => trivial⟩)) (fun _ => trivial)) (fun _ => ?_) ⟨r3, rfl, e3, q2, q3⟩
    refine ⟨_, rfl, a, _, 0, _, rfl, rfl, hsq _ e3, rfl, _, rfl, (by show 2 ≤ sizeLine; decide), fun L hL => ?_⟩
    have eL := same_new (o := .lst [.int i, .int tu]) hL
    refine ⟨_, rfl, a, _, 0, _, rfl, rfl, hsq _ (e3.trans eL), rfl, _, rfl, _, _, rfl, rfl, rfl, .inr ⟨_, rfl, ?_⟩⟩
    by_cases h4 : i = sz - 1
    · exact ⟨L, _, 1, .int tu, rfl, by rw [decide_eq_true (congrArg V.int h4)]; rfl, .inl (.inl (upd_same ..)), rfl, _, rfl, e3.trans eL, hu0, hu1⟩
    · exact ⟨L, _, 0, .int i, rfl, by rw [decide_eq_false (fun z => h4 (by injection z))]; rfl, .inl (.inl (upd_same ..)), rfl, _, rfl, e3.trans eL, hi0, hi1⟩
  rintro σ H4 ⟨r4, rfl, e4, q4, q5⟩
  exact ⟨_, rfl, hQ r4 t1 H4 (g1.ext e4) (s1.ext ((Gr.refl g1.fh).ext e4)) k1 k2 q4 q5⟩
end
end S3

/-! ### L15: the steps of a drawn device -/
namespace S3
open PySem PySem.Spec PyProof.Rows L2
theorem nodup_at {α : Type} {l : List α} (h : l.Nodup) {i j : Nat} {a : α} (hi : l[i]? = some a) (hj : l[j]? = some a) : i = j := by
  obtain ⟨h1, h2⟩ := List.getElem?_eq_some_iff.mp hi
  obtain ⟨h3, h4⟩ := List.getElem?_eq_some_iff.mp hj
  rcases Nat.lt_trichotomy i j with z | z | z
  · exact absurd (h2.trans h4.symm) (List.pairwise_iff_getElem.mp h i j h1 h3 z)
  · exact z
  · exact absurd (h4.trans h2.symm) (List.pairwise_iff_getElem.mp h j i h3 h1 z)
theorem seqLast {n : Nat} (h : 0 < n) : seqIndex? ((n : Int) - 1) n = some (n - 1) := by
  unfold seqIndex?
  have h1 : ¬ ((n : Int) - 1 < 0) := by omega
  have h2 : ((n : Int) - 1).toNat = n - 1 := by omega
  simp [h1, h2]
  omega
theorem ixLast {n : Nat} (h : 0 < n) : ixN n ((n : Int) - 1) = some (n - 1) := by
  unfold ixN
  rw [if_pos (by omega), if_pos (by omega)]
  congr 1
  omega
theorem SrcAt.frame {F F' H : Hp} {ds gl : Addr} {t : Int} (s : SrcAt F H ds gl t) (h1 : F' ds = none) (h2 : F' gl = none) : SrcAt F' H ds gl t := ⟨h1, h2, s.ne, s.t0, s.ex⟩
structure StepOk (btn lmp : List Str) (size lim : Nat) (gv : GV) : Prop where
  ks : (gv.map (·.1)).Sublist (btn.take lim)
  vs : ∀ q ∈ gv, 0 ≤ q.2.1 ∧ q.2.1 < (size : Int) ∧ q.2.2.Sublist lmp
section
variable {btn lmp : List Str} {size lim : Nat} {gv : GV}
theorem StepOk.okG (h : StepOk btn lmp size lim gv) (hb : btn.Nodup) (hbl : btn.length ≤ 10) (hll : lmp.length ≤ 10) : GvOk btn lmp size gv := by
  have h1 := h.ks.trans (List.take_sublist lim btn)
  refine ⟨h1.nodup hb, ?_, fun q hq => ?_⟩
  · have := h1.length_le
    rw [List.length_map] at this
    omega
  · obtain ⟨a, b, c⟩ := h.vs q hq
    refine ⟨h1.subset (List.mem_map.mpr ⟨q, hq, rfl⟩), a, b, ?_, fun x hx => c.subset hx⟩
    have := c.length_le
    omega
theorem StepOk.more (h : StepOk btn lmp size lim gv) {lim' : Nat} (hl : lim ≤ lim') : StepOk btn lmp size lim' gv := ⟨h.ks.trans (List.take_sublist_take_left hl), h.vs⟩
theorem StepOk.add (h : StepOk btn lmp size lim gv) {b : Str} (hb : btn[lim]? = some b) (hn : btn.Nodup) {v : Int} {ls : List Str} (h0 : 0 ≤ v) (h1 : v < (size : Int)) (h2 : ls.Sublist lmp) : StepOk btn lmp size (lim + 1) (gv ++ [(b, v, ls)]) ∧ b ∉ gv.map (·.1) := by
  refine ⟨⟨?_, fun q hq => ?_⟩, fun hm => not_in_take hn hb (h.ks.subset hm)⟩
  · rw [List.map_append, take_at hb]
    exact List.Sublist.append h.ks (List.Sublist.refl _)
  · rcases List.mem_append.mp hq with hq | hq
    · exact h.vs q hq
    · rw [List.mem_singleton.mp hq]; exact ⟨h0, h1, h2⟩
end
/-- the dicts of steps, still their maker's own -/
def StepsAt (K : PySem.W.Frag) (F H : Hp) (ds : List Addr) (btn lmp : List Str) (size : Nat) (lim : Nat → Nat) : Prop := ∀ (j : Nat) d, ds[j]? = some d → F d = none ∧ ∃ kvs gv, H d = some (.dK kvs) ∧ GrowD K F kvs gv ∧ StepOk btn lmp size (lim j) gv
section
variable {K : PySem.W.Frag} {F H F' H' : Hp} {ds : List Addr} {btn lmp : List Str} {size : Nat} {lim : Nat → Nat}
theorem StepsAt.ext {S : Addr → Prop} (h : StepsAt K F H ds btn lmp size lim) (g : Gr S F H F' H') (hS : ∀ d ∈ ds, ¬ S d) : StepsAt K F' H' ds btn lmp size lim := fun j d hj => by
  obtain ⟨h1, kvs, gv, h2, h3, h4⟩ := h j d hj
  exact ⟨g.hid h2 h1, kvs, gv, g.keep h2 (hS d (mem_at hj)), h3.mono g.ff, h4⟩
theorem StepsAt.lim' (h : StepsAt K F H ds btn lmp size lim) {lim' : Nat → Nat} (hl : ∀ j, lim j ≤ lim' j) : StepsAt K F H ds btn lmp size lim' := fun j d hj => by
  obtain ⟨h1, kvs, gv, h2, h3, h4⟩ := h j d hj
  exact ⟨h1, kvs, gv, h2, h3, h4.more (hl j)⟩
theorem StepsAt.put (h : StepsAt K F H ds btn lmp size lim) {i : Nat} {e : Addr} (hi : ds[i]? = some e) (nd : ds.Nodup) {b : Str} (hb : btn[lim i]? = some b) (hbn : btn.Nodup) {x : V} {r : Int} {sub : List Str} (hx : Dp K F x (.tuple [.int r, pW sub])) (h0 : 0 ≤ r) (h1 : r < (size : Int)) (h2 : sub.Sublist lmp) :
    ∃ kvs, H e = some (.dK kvs) ∧ kvs.length ≤ lim i ∧ F e = none ∧ StepsAt K F (upd H e (.dK (putK kvs (Sum.inr b) x))) ds btn lmp size (fun j => if j = i then lim i + 1 else lim j) := by
  obtain ⟨q1, kvs, gv, q2, q3, q4⟩ := h i e hi
  obtain ⟨q5, q6⟩ := q4.add hb hbn h0 h1 h2
  refine ⟨kvs, q2, ?_, q1, fun j d hj => ?_⟩
  · have z1 := congrArg List.length q3.1
    have z2 := q4.ks.length_le
    rw [List.length_map, List.length_map] at z1
    rw [List.length_take] at z2
    omega
  · by_cases hji : j = i
    · subst hji
      rw [hi] at hj
      cases hj
      refine ⟨q1, _, _, upd_same .., q3.put (q := (b, r, sub)) q6 hx, ?_⟩
      show StepOk btn lmp size (if j = j then lim j + 1 else lim j) _
      rw [if_pos rfl]
      exact q5
    · obtain ⟨p1, kvs', gv', p2, p3, p4⟩ := h j d hj
      have hne : d ≠ e := fun z => hji (nodup_at nd hj (z ▸ hi))
      refine ⟨p1, kvs', gv', by rw [upd_ne hne]; exact p2, p3, ?_⟩
      show StepOk btn lmp size (if j = i then lim i + 1 else lim j) _
      rw [if_neg hji]
      exact p4
theorem StepsAt.off {W : Addr} {o : HO} (h : StepsAt K F H ds btn lmp size lim) (hW : W ∉ ds) : StepsAt K F (upd H W o) ds btn lmp size lim := fun j d hj => by
  obtain ⟨h1, kvs, gv, h2, h3, h4⟩ := h j d hj
  exact ⟨h1, kvs, gv, by rw [upd_ne fun z => hW (by rw [← z]; exact mem_at hj)]; exact h2, h3, h4⟩
end
/-- dicts made since are known for good from now on -/
theorem pub_dicts {K : PySem.W.Frag} {S : Addr → Prop} {F0 H0 H : Hp} {Pg : GV → Prop} : ∀ (l : List Addr) {F : Hp}, Gr S F0 H0 F H → (∀ e ∈ l, H0 e = none ∧ ∃ kvs gv, H e = some (.dK kvs) ∧ GrowD K F kvs gv ∧ Pg gv) →
    ∃ F', Gr S F0 H0 F' H ∧ Same F F' ∧ (∀ a, a ∉ l → F' a = F a) ∧ ∃ gvs : List GV, Paired (fun d gv => GivAt K F' d gv) l gvs ∧ ∀ gv ∈ gvs, Pg gv
  | [], F, g, _ => ⟨F, g, .refl _, fun _ _ => rfl, [], .nil, fun _ h => by cases h⟩
  | e :: l, F, g, h => by
    obtain ⟨F', g', e', n', gvs, p, q⟩ := pub_dicts l g fun e' he => h e' (List.mem_cons_of_mem _ he)
    obtain ⟨h0, kvs, gv, h1, h2, h3⟩ := h e (List.mem_cons_self ..)
    have e2 : Same F' (upd F' e (.dK kvs)) := pub_same g'.fh h1
    refine ⟨_, g'.pub h1 h0, e'.trans e2, fun a ha => ?_, gv :: gvs, .cons ?_ (paired_giv p e2), fun x hx => ?_⟩
    · rw [upd_ne (fun z => ha (by rw [z]; exact List.mem_cons_self ..))]
      exact n' a fun z => ha (List.mem_cons_of_mem _ z)
    · have h4 := h2.mono (e'.trans e2)
      exact ⟨kvs, upd_same .., h4.1, h4.2⟩
    · rcases List.mem_cons.mp hx with rfl | hx
      · exact h3
      · exact q x hx
/-- changes to what the outer start may change, or did not know -/
theorem Gr.joinS {S S2 : Addr → Prop} {F H F1 F2 H1 H2 : Hp} (g : Gr S F H F1 H1) (g2 : Gr S2 F1 H1 F2 H2) (hs : ∀ a, S2 a → S a ∨ H a = none) : Gr S F H F2 H2 :=
  ⟨g.ff.trans g2.ff, g2.fh, fun b o ns q => g2.hh b o (fun z => by
    rcases hs b z with h | h
    · exact ns h
    · rw [h] at q; cases q) (g.hh b o ns q), fun b q => g2.dom b (g.dom b q), fun b q n => g2.no b (g.dom b q) (g.no b q n)⟩
section
variable {P : Program} {w : World} {K : PySem.W.Frag} {mg : Str → Option Value} {base : Heap} {CC DC UB HF : Addr}
abbrev s_lsp : Stmt := top 52
abbrev nm_lsp : List Str := ["_law_source_here", "_law_size", "_law_pushes", "_law_lights", "_law_shape", "_law_dim", "_law_harm", "_law_turns", "_law_many", "_law_places", "_law_name", "_law_steps_here", "_law_site", "_law_k", "_law_at", "_law_after_here", "_law_lit", "_law_one", "_law_spot"]
theorem sc_lsp : FnScope nm_lsp ["_law_source_here", "_law_size", "_law_pushes", "_law_lights"] (defScope s_lsp) := ⟨rfl, rfl, rfl, by decide +kernel, rfl, by decide +kernel, by decide +kernel⟩
/- slots: 0 _law_source_here 1 _law_size 2 _law_pushes 3 _law_lights 4 _law_shape 5 _law_dim 6 _law_harm 7 _law_turns 8 _law_many 9 _law_places 10 _law_name 11 _law_steps_here 12 _law_site 13 _law_k 14 _law_at 15 _law_after_here 16 _law_lit 17 _law_one 18 _law_spot -/
def spSteps (K : PySem.W.Frag) : Sp := fun vs H Q _ => ∃ F ds gl t, ∃ n : Nat, ∃ ab al, ∃ btn lmp : List Str, vs = [.ref ds, .int (n : Nat), .ref ab, .ref al] ∧ Same F H ∧ SrcAt F H ds gl t ∧ t < 2 ^ 36 ∧ 1 ≤ n ∧ n ≤ 4 ∧ F ab = some (.lst (btn.map V.str)) ∧ F al = some (.lst (lmp.map V.str)) ∧ btn.length ≤ 4 ∧ lmp.length ≤ 4 ∧ btn.Nodup ∧
  ∀ p, ∀ es : List Addr, ∀ gvs : List GV, ∀ t' F' H', Gr (Sg ds gl) F H F' H' → SrcAt F' H' ds gl t' → t ≤ t' → t' ≤ t + 200 → F' p = some (.lst (es.map V.ref)) → Paired (fun d gv => GivAt K F' d gv) es gvs → gvs.length = n → (∀ gv ∈ gvs, GvOk btn lmp n gv) → Q (.ref p) H'
theorem cal_lsteps (D : DefX K mg "_law_steps" s_lsp) (T : Tx K mg CC DC) (cDr : C8.Cal P w K mg base 1 "_law_draw" spLdr []) (cStep : C8.Cal P w K mg base 2 "_law_step_to" (spStepTo K) []) (cSome : C8.Cal P w K mg base 1 "_law_some" (spSome K) []) (cBits : C8.Cal P w K mg base 1 "_law_bits" spBits []) : C8.Cal P w K mg base 3 "_law_steps" (spSteps K) [] := by
  refine calD (ps := ["_law_source_here", "_law_size", "_law_pushes", "_law_lights"]) D (fun _ _ _ _ _ _ us hl => match us, hl with | [_, _, _, _], _ => rfl) sc_lsp ?_ ?_
  · rintro vs H Q E ⟨F, ds, gl, t, n, ab, al, btn, lmp, rfl, _⟩; rfl
  rintro f cdv A outer s0 H vs Q E hr ⟨F, ds, gl, t, n, ab, al, btn, lmp, rfl, hF, hs, ht, hn1, hn4, hab, hal, hbl, hll, hbn, hQ⟩
  have hu := up 1 hr
  have hu64 := up 64 hr
  refine ⟨_, (pss_cons (ps_set (i := 4) sc_lsp.nd rfl (.inl rfl) (C8.pe_c cDr hr (by decide) rfl (pa_cons (pv 0) (pa_cons pe_int pa_nil))))
      (pss_cons (ps_set (i := 5) sc_lsp.nd rfl (.inl rfl) (C8.pe_c cDr hr (by decide) rfl (pa_cons (pv 0) (pa_cons pe_int pa_nil))))
      (pss_cons (ps_set (i := 6) sc_lsp.nd rfl (.inl rfl) (pe_ix (ix_listK K rfl) (pe_lst (pa_cons pe_int (pa_cons pe_int (pa_cons pe_int (pa_cons pe_int pa_nil))))) (C8.pe_c cDr hr (by decide) rfl (pa_cons (pv 0) (pa_cons pe_int pa_nil))) (fun _ _ => rfl)))
      (pss_cons (ps_setLc (i := 7) (own := [("_law_name", 10)]) (g := (gName 10))  rfl sc_lsp.nd rfl rfl (sw_true rfl rfl rfl (by decide +kernel)) (pi_listK K rfl (pv 2)) (blkOk_by (own := [("_law_name", 10)]) (N := nm_lsp) (sc := defScope s_lsp) (by decide +kernel)) (fun _ _ _ _ _ => (pg_name (i := 10) sc_lsp.nd rfl (.inl rfl))) (fun _ _ _ _ _ => pts_nil) (fun _ _ _ _ _ => (C8.pe_c cDr hr (by decide) rfl (pa_cons (pv 0) (pa_cons (pv 1) pa_nil)))))
      (pss_cons (ps_set (i := 8) sc_lsp.nd rfl (.inl rfl) (pe_callB (call_len_seqK K rfl) (by rfl) T.len (by decide +kernel) (pa_cons (pv 2) pa_nil)))
      (pss_cons (ps_set (i := 9) sc_lsp.nd rfl (.inl rfl) (pe_lst pa_nil))
      (pss_cons (ps_for PassesOwn.never rfl (pi_listK K rfl (pv 3)) (pg_name (i := 10) sc_lsp.nd rfl (.inl rfl))
      (pss_one (ps_expr (pe_bmK K rfl PySem.F.plainAttrs_list PySem.F.slot_list_append PySem.F.type_list_append mt_append (pv 9) (pa_cons (pe_tup (pa_cons (C8.pe_c cDr hr (by decide) rfl (pa_cons (pv 0) (pa_cons (pv 1) pa_nil))) (pa_cons (C8.pe_c cDr hr (by decide) rfl (pa_cons (pv 0) (pa_cons (pv 8) pa_nil))) pa_nil))) pa_nil)))))
      (pss_cons (ps_setLc (i := 11) (own := [("_law_site", 12)]) (g := (gName 12))  rfl sc_lsp.nd rfl rfl (sw_true rfl rfl rfl (by decide +kernel)) (pi_range1 (by rfl) T.range (pa_cons (pv 1) pa_nil)) (blkOk_by (own := [("_law_site", 12)]) (N := nm_lsp) (sc := defScope s_lsp) (by decide +kernel)) (fun _ _ _ _ _ => (pg_name (i := 12) sc_lsp.nd rfl (.inl rfl))) (fun _ _ _ _ _ => pts_nil) (fun _ _ _ _ _ => pe_dnewK))
      (pss_cons (ps_for PassesOwn.never rfl (pi_range1 (by rfl) T.range (pa_cons (pv 1) pa_nil)) (pg_name (i := 12) sc_lsp.nd rfl (.inl rfl))
      (pss_one (ps_for PassesOwn.never rfl (pi_range1 (by rfl) T.range (pa_cons (pv 8) pa_nil)) (pg_name (i := 13) sc_lsp.nd rfl (.inl rfl))
        (pss_cons (ps_set (i := 14) sc_lsp.nd rfl (.inr rfl) (pe_tup (pa_cons (pv 12) (pa_cons (pv 13) pa_nil))))
          (pss_cons (ps_set (i := 15) sc_lsp.nd rfl (.inl rfl) (C8.pe_c cStep hr (by decide) rfl (pa_cons (pv 0) (pa_cons (pv 4) (pa_cons (pv 1) (pa_cons (pe_ix (ix_listK K rfl) (pv 7) (pv 13) (fun _ _ => rfl)) (pa_cons (pv 14) pa_nil)))))))
          (pss_cons (ps_set (i := 16) sc_lsp.nd rfl (.inl rfl) (C8.pe_c cSome hr (by decide) rfl (pa_cons (pv 3) (pa_cons (C8.pe_c cBits hr (by decide) rfl (pa_cons (C8.pe_c cDr hr (by decide) rfl (pa_cons (pv 0) (pa_cons pe_int pa_nil))) (pa_cons (pv 5) pa_nil))) pa_nil))))
          (C8.pss_cut (ps_if (pt_cmpR op_gt (pv 4) pe_int (nomark _))
          (pss_one (ps_setLc (i := 16) (own := [("_law_one", 17), ("_law_spot", 18)])  rfl sc_lsp.nd rfl rfl (sw_true rfl rfl rfl (by decide +kernel)) (pi_zipK K rfl (by rfl) T.zip (pa_cons (pv 3) (pa_cons (pv 9) pa_nil))) (blkOk_by (own := [("_law_one", 17), ("_law_spot", 18)]) (N := nm_lsp) (sc := defScope s_lsp) (by decide +kernel)) (fun _ _ _ _ _ => (pg_tupK K rfl 2 rfl (pgs_cons (pg_name (i := 17) sc_lsp.nd rfl (.inl rfl)) (pgs_cons (pg_name (i := 18) sc_lsp.nd rfl (.inl rfl)) pgs_nil)))) (fun _ _ _ _ _ => pts_one (pt_cmpR (op_eqDK K rfl hu64) (pv 18) (pv 14) (nomark _))) (fun _ _ _ _ _ => (pv 17))))
          pss_nil)
          (pss_one (ps_if (pt_cmpR op_ge (C8.pe_c cDr hr (by decide) rfl (pa_cons (pv 0) (pa_cons pe_int pa_nil))) (pv 6) (nomark _))
          (pss_one (ps_dput hu (pe_ix (ix_listK K rfl) (pv 11) (pv 12) (fun _ _ => rfl)) (pe_ix (ix_listK K rfl) (pv 2) (pv 13) (fun _ _ => rfl)) (pe_tup (pa_cons (pv 15) (pa_cons (pv 16) pa_nil))) rfl))
          pss_nil)))))))))
      (C8.pss_cut (ps_if (pt_cmpR op_eq (C8.pe_c cDr hr (by decide) rfl (pa_cons (pv 0) (pa_cons pe_int pa_nil))) pe_int (nomark _))
      (pss_one (ps_asg (pe_ix (ix_listK K rfl) (pv 11) (C8.pe_c cDr hr (by decide) rfl (pa_cons (pv 0) (pa_cons (pv 1) pa_nil))) (fun _ _ => rfl)) (pg_sub (pv 11) (pe_op op_sub (pv 1) pe_int) set_list)))
      pss_nil)
      (pss_one (ps_ret (pv 11))))))))))))), ?_⟩
  have ht0 := hs.t0
  refine ⟨_, rfl, F, ds, gl, t, 5, rfl, hF, hs, by omega, by decide, fun sh t1 H1 g1 s1 k1 k2 sh0 sh1 => ?_⟩
  refine ⟨_, rfl, F, ds, gl, t1, 3, rfl, g1.fh, s1, by omega, by decide, fun dim t2 H2 g2 s2 k3 k4 dim0 dim1 => ?_⟩
  have g02 := g1.trans g2
  refine ⟨(by show 4 ≤ sizeLine; decide), fun Lh hLh => ?_⟩
  have nLh := s2.off hLh
  have gh := g02.lay (o := .lst (([0, 1, 0, 3] : List Int).map V.int)) hLh
  have sh' := s2.lay (o := .lst (([0, 1, 0, 3] : List Int).map V.int)) g02.fh hLh
  have hLh1 : (upd H2 Lh (.lst (([0, 1, 0, 3] : List Int).map V.int))) Lh = some (.lst (([0, 1, 0, 3] : List Int).map V.int)) := upd_same ..
  rw [show ([V.int 0, .int 1, .int 0, .int 3] : List V) = ([0, 1, 0, 3] : List Int).map V.int from rfl]
  generalize (upd H2 Lh (.lst (([0, 1, 0, 3] : List Int).map V.int))) = H3 at *
  refine ⟨_, rfl, F, ds, gl, t2, 4, rfl, gh.fh, sh', by omega, by decide, fun hi t3 H4 g4 s4 k5 k6 hi0 hi1 => ?_⟩
  have hi4 := hi1 (by decide)
  obtain ⟨hn, rfl⟩ := Int.eq_ofNat_of_zero_le hi0
  have hhn : hn < ([0, 1, 0, 3] : List Int).length := by show hn < 4; omega
  have hh0 := List.getElem?_eq_getElem hhn
  generalize ([0, 1, 0, 3] : List Int)[hn] = harm at hh0
  have hLh4 := g4.keep hLh1 nLh
  refine ⟨Lh, _, _, .int harm, rfl, rfl, .inl (.inl hLh4), atI_nat (by rw [List.getElem?_map, hh0]; rfl), ?_⟩
  have g04 := gh.trans g4
  have hab4 := g04.fh _ _ hab
  refine ⟨_, rfl, ab, rfl, ⟨_, .inl (.inl hab4)⟩, fun T1 hT1 => ?_⟩
  have nT := s4.off hT1
  have hTF := same_none g04.fh hT1
  refine lc_list (K := K) (a := ab) (xs := btn.map V.str) (PvD F H4 ds gl T1 t3 1 fun i acc => ∃ tu : List Int, acc = tu.map V.int ∧ tu.length = i ∧ ∀ x ∈ tu, 0 ≤ x ∧ x < (n : Int)) (PvD.zero g04.fh hT1 s4 ⟨[], rfl, rfl, fun _ h => by cases h⟩) (fun i H' _ ⟨_, _, g, _⟩ => .inl (.inl (g.fh _ _ hab))) ?_ ?_
  · rintro i x H5 hx ⟨acc, t5, g5, hacc, hl, s5, k7, k8, tu, rfl, htl, htu⟩
    have hil := lt_at hx
    rw [List.length_map] at hil
    refine ⟨rfl, _, rfl, _, rfl, F, ds, gl, t5, n, rfl, g5.fh, s5, by omega, Int.lt_of_le_of_lt (b := 4) (by omega) (by decide), fun r t6 H6 g6 s6 k9 k10 r0 r1 => ?_⟩
    refine PvD.snoc hTF hT1 nT g5 hacc hl (by omega) k7 k8 g6 s6 k9 k10 ⟨tu ++ [r], by rw [List.map_append]; rfl, by rw [List.length_append, htl]; rfl, fun d hd => ?_⟩
    rcases List.mem_append.mp hd with h | h
    · exact htu d h
    · rw [List.mem_singleton.mp h]; exact ⟨r0, r1 (by omega)⟩
  rintro H5 ⟨acc, t5, g5, hacc, hl, s5, k7, k8, tu, rfl, htl, htu⟩
  rw [List.length_map] at htl k8
  have hT0 := g04.fresh hT1
  have gT := (g04.trans g5).pub hacc hT0
  have sT := s5.pub (o := .lst (tu.map V.int)) nT
  have hTf : (upd F T1 (.lst (tu.map V.int))) T1 = some (.lst (tu.map V.int)) := upd_same ..
  have eT : Same F (upd F T1 (.lst (tu.map V.int))) := pub_same g5.fh hacc
  have hab5 := eT _ _ hab
  have hal5 := eT _ _ hal
  generalize (upd F T1 (.lst (tu.map V.int))) = F1 at *
  refine ⟨_, rfl, ab, _, rfl, .inl (.inl (.inl (gT.fh _ _ hab5))), Nat.zero_le _, fun Z hZ => ?_⟩
  have nZ := sT.off hZ
  have hZF := same_none gT.fh hZ
  have hZ0 := gT.fresh hZ
  rw [List.length_map]
  have hal6 := same_new (o := .lst []) hZ _ _ (gT.fh _ _ hal5)
  refine ⟨_, rfl, al, rfl, ⟨_, .inl (.inl hal6)⟩, for_list (K := K) (a := al) (xs := lmp.map V.str) (fun i σ H' => ∃ F' t6 x10, ∃ pl : List Addr, σ = [some (.ref ds), some (.int (n : Nat)), some (.ref ab), some (.ref al), some (.int sh), some (.int dim), some (.int harm), some (.ref T1), some (.int (btn.length : Nat)), some (.ref Z), x10, none, none, none, none, none, none, none, none] ∧ Gr (Sg ds gl) F1 H5 F' H' ∧ SrcAt F' H' ds gl t6 ∧ t5 ≤ t6 ∧ t6 ≤ t5 + 2 * i ∧ F' Z = none ∧ H' Z = some (.lst (pl.map V.ref)) ∧ pl.length = i ∧ ∀ a ∈ pl, ∃ x y : Int, F' a = some (.tup [.int x, .int y])) ⟨F1, t5, none, [], rfl, (Gr.refl gT.fh).lay hZ, sT.lay gT.fh hZ, Int.le_refl _, by simp, hZF, upd_same .., rfl, fun _ h => by cases h⟩ ?_ ?_ ?_⟩
  · rintro i σ H' _ ⟨F', t6, x10, pl, rfl, g6, _⟩
    exact .inl (.inl (g6.fh _ _ (g6.ff _ _ hal5)))
  · rintro i x σ H6 hx ⟨F', t6, x10, pl, rfl, g6, s6, k9, k10, hZ', hZl, hpl, hpls⟩
    have hil := lt_at hx
    rw [List.length_map] at hil
    refine ⟨_, rfl, .inl ⟨rfl, _, .inl (.inl hZl)⟩, _, rfl, _, rfl, F', ds, gl, t6, n, rfl, g6.fh, s6, by omega, Int.lt_of_le_of_lt (b := 4) (by omega) (by decide), fun r t7 H7 g7 s7 k11 k12 r0 r1 => ?_⟩
    refine ⟨_, rfl, _, rfl, F', ds, gl, t7, (btn.length : Nat), rfl, g7.fh, s7, by omega, Int.lt_of_le_of_lt (b := 4) (by omega) (by decide), fun r2 t8 H8 g8 s8 k13 k14 r20 r21 => ⟨(by show 2 ≤ sizeLine; decide), fun tp htp => ?_⟩⟩
    have g78 := g7.trans g8
    have hZ8 := g78.keep hZl nZ
    have g9 : Gr (Sg ds gl) F' H6 (upd F' tp (.tup [.int r, .int r2])) (upd H8 tp (.tup [.int r, .int r2])) := g78.new htp
    have e9 := same_new (o := .tup [.int r, .int r2]) (same_none g78.fh htp)
    have nt := s8.off htp
    have s9 : SrcAt (upd F' tp (.tup [.int r, .int r2])) (upd H8 tp (.tup [.int r, .int r2])) ds gl t8 := s8.ext ((Gr.refl g78.fh).new htp)
    have hZt : Z ≠ tp := ne_of_none hZ8 htp
    refine ⟨Z, pl.map V.ref, .ref tp, rfl, rfl, by rw [upd_ne hZt]; exact hZ8, by rw [List.length_map]; exact bigS (by omega), _, t8, _, pl ++ [tp], rfl, (g6.trans g9).set (by rw [upd_ne hZt]; exact hZ') (.inr hZ), s9.set nZ, by omega, by have : ((i + 1 : Nat) : Int) = i + 1 := rfl; omega, by rw [upd_ne hZt]; exact hZ', by rw [List.map_append]; exact upd_same .., by rw [List.length_append, hpl]; rfl, fun a ha => ?_⟩
    rcases List.mem_append.mp ha with h | h
    · obtain ⟨x, y, q⟩ := hpls a h
      exact ⟨x, y, e9 _ _ q⟩
    · rw [List.mem_singleton.mp h]; exact ⟨r, r2, upd_same ..⟩
  rintro σ H6 ⟨F', t6, x10, pl, rfl, g6, s6, k9, k10, hZ', hZl, hpl, hpls⟩
  rw [List.length_map] at hpl k10
  have gZ := gT.trans (g6.pub hZl hZ)
  have sZ := s6.pub (o := .lst (pl.map V.ref)) nZ
  have hZf : (upd F' Z (.lst (pl.map V.ref))) Z = some (.lst (pl.map V.ref)) := upd_same ..
  have eZ : Same F' (upd F' Z (.lst (pl.map V.ref))) := pub_same g6.fh hZl
  have hT6 := eZ _ _ (g6.ff _ _ hTf)
  have hab6 := eZ _ _ (g6.ff _ _ hab5)
  have hal6' := eZ _ _ (g6.ff _ _ hal5)
  have hpl6 : ∀ a ∈ pl, ∃ x y : Int, (upd F' Z (.lst (pl.map V.ref))) a = some (.tup [.int x, .int y]) := fun a ha => by
    obtain ⟨x, y, q⟩ := hpls a ha
    exact ⟨x, y, eZ _ _ q⟩
  generalize (upd F' Z (.lst (pl.map V.ref))) = F2 at *
  clear hpls
  refine ⟨_, rfl, _, rfl, by omega, by omega, fun W hW => ?_⟩
  rw [Int.toNat_natCast]
  have nW := sZ.off hW
  have hWF := same_none gZ.fh hW
  have hW0 := gZ.fresh hW
  refine lc_it walk_range (fun i H' => ∃ es : List Addr, Gr N0 F2 H6 F2 H' ∧ H' W = some (.lst (es.map V.ref)) ∧ es.length = i ∧ es.Nodup ∧ ∀ e ∈ es, H6 e = none ∧ H' e = some (.dK [])) ⟨[], (Gr.refl gZ.fh).lay hW, upd_same .., rfl, List.nodup_nil, fun _ h => by cases h⟩ (fun _ _ _ _ => trivial) ?_ ?_
  · rintro i x H7 H8 hi ⟨es, g7, hW7, hel, hend, hes⟩ ⟨rfl, rfl⟩
    refine ⟨rfl, fun e he => ?_⟩
    have hWe : W ≠ e := ne_of_none hW7 he
    have hen : e ∉ es := fun z => by
      have := (hes e z).2
      rw [he] at this; cases this
    refine ⟨es.map V.ref, by rw [upd_ne hWe]; exact hW7, by rw [List.length_map]; exact bigS (by omega), es ++ [e], (g7.lay he).set hWF (.inr hW), by rw [List.map_append]; exact upd_same .., by rw [List.length_append, hel]; rfl, List.nodup_append.mpr ⟨hend, by simp, fun u hu v hv e' => hen (by rw [List.mem_singleton.mp hv] at e'; rw [← e']; exact hu)⟩, fun u hu => ?_⟩
    rcases List.mem_append.mp hu with h | h
    · obtain ⟨q1, q2⟩ := hes u h
      have hue : u ≠ e := fun z => hen (z ▸ h)
      have huW : u ≠ W := fun z => by rw [z, hW7] at q2; cases q2
      exact ⟨q1, by rw [upd_ne huW, upd_ne hue]; exact q2⟩
    · rw [List.mem_singleton.mp h]
      exact ⟨g7.fresh he, by rw [upd_ne hWe.symm]; exact upd_same ..⟩
  rintro H7 ⟨es, g7, hW7, hel, hend, hes⟩
  have gW := gZ.trans (g7.w (S := Sg ds gl))
  have s7 := sZ.ext g7
  have hst7 : StepsAt K F2 H7 es btn lmp n (fun _ => 0) := fun j d hj => by
    obtain ⟨q1, q2⟩ := hes d (mem_at hj)
    exact ⟨same_none gZ.fh q1, [], [], q2, GrowD.nil, ⟨by simp, fun q hq => by cases hq⟩⟩
  have hoff : ∀ e ∈ es, ¬ Sg ds gl e := fun e he => sZ.off (hes e he).1
  have heW : W ∉ es := fun z => by
    have := (hes W z).2
    rw [hW7] at this; cases this
  refine ⟨_, rfl, _, rfl, by omega, by omega, ?_⟩
  rw [Int.toNat_natCast]
  refine for_it walk_range (fun i σ H' => ∃ F' t' x12 x13 x14 x15 x16, σ = [some (.ref ds), some (.int (n : Nat)), some (.ref ab), some (.ref al), some (.int sh), some (.int dim), some (.int harm), some (.ref T1), some (.int (btn.length : Nat)), some (.ref Z), x10, some (.ref W), x12, x13, x14, x15, x16, none, none] ∧ Gr (Sg ds gl) F2 H6 F' H' ∧ SrcAt F' H' ds gl t' ∧ t6 ≤ t' ∧ t' ≤ t6 + 12 * i ∧ H' W = some (.lst (es.map V.ref)) ∧ F' W = none ∧ StepsAt K F' H' es btn lmp n (fun j => if j < i then btn.length else 0)) ?_ (fun _ _ _ _ _ => trivial) ?_ ?_
  · exact ⟨F2, t6, none, none, none, none, none, rfl, g7.w, s7, Int.le_refl _, by simp, hW7, hWF, hst7.lim' (fun j => Nat.zero_le _)⟩
  · rintro i x σ H8 H9 hi ⟨F', t', x12, x13, x14, x15, x16, rfl, g8, s8, k11, k12, hW8, hWF8, hst8⟩ ⟨rfl, rfl⟩
    refine ⟨_, rfl, _, rfl, by omega, by omega, ?_⟩
    rw [Int.toNat_natCast]
    refine for_it walk_range (fun k σ H' => ∃ F' t' x13 x14 x15 x16, σ = [some (.ref ds), some (.int (n : Nat)), some (.ref ab), some (.ref al), some (.int sh), some (.int dim), some (.int harm), some (.ref T1), some (.int (btn.length : Nat)), some (.ref Z), x10, some (.ref W), some (.int (0 + (i : Nat))), x13, x14, x15, x16, none, none] ∧ Gr (Sg ds gl) F2 H6 F' H' ∧ SrcAt F' H' ds gl t' ∧ t6 ≤ t' ∧ t' ≤ t6 + 12 * i + 3 * k ∧ H' W = some (.lst (es.map V.ref)) ∧ F' W = none ∧ StepsAt K F' H' es btn lmp n (fun j => if j < i then btn.length else if j = i then k else 0)) ?_ (fun _ _ _ _ _ => trivial) ?_ ?_
    · exact ⟨F', t', x13, x14, x15, x16, rfl, g8, s8, k11, by omega, hW8, hWF8, hst8.lim' (fun j => by simp)⟩
    · rintro k x σ H10 H11 hk ⟨F', t', x13, x14, x15, x16, rfl, g9, s9, k13, k14, hW9, hWF9, hst9⟩ ⟨rfl, rfl⟩
      have hkt : k < tu.length := by omega
      have hei : i < es.length := by omega
      refine ⟨_, rfl, _, rfl, (by show 2 ≤ sizeLine; decide), fun A hA => ?_⟩
      have nA := s9.off hA
      have gA := (Gr.refl g9.fh (S := N0)).new (o := .tup [.int (0 + (i : Nat)), .int (0 + (k : Nat))]) hA
      have eA := gA.ff
      have g10 := g9.trans (gA.w (S := Sg ds gl))
      have s10 := s9.ext gA
      have hAf : (upd F' A (.tup [.int (0 + (i : Nat)), .int (0 + (k : Nat))])) A = some (.tup [.int (0 + (i : Nat)), .int (0 + (k : Nat))]) := upd_same ..
      have hW10 := gA.same _ _ hW9
      have hWF10 := gA.hid hW9 hWF9
      have hst10 := hst9.ext gA (fun _ _ z => z)
      generalize (upd F' A (.tup [.int (0 + (i : Nat)), .int (0 + (k : Nat))])) = F4 at *
      generalize (upd H11 A (.tup [.int (0 + (i : Nat)), .int (0 + (k : Nat))])) = H12 at *
      have hTk := List.getElem?_eq_getElem hkt
      have hTm := htu _ (List.getElem_mem hkt)
      generalize tu[k] = tk at hTk hTm
      have ff4 := g10.ff
      have hT10 := g10.fh _ _ (ff4 _ _ hT6)
      refine ⟨_, rfl, _, rfl, _, rfl, _, rfl, _, rfl, T1, _, _, .int tk, rfl, rfl, .inl (.inl hT10), by rw [Int.zero_add]; exact atI_nat (by rw [List.getElem?_map, hTk]; rfl), _, rfl, F4, ds, gl, t', sh, n, tk, A, 0 + (i : Nat), 0 + (k : Nat), rfl, g10.fh, s10, by omega, by omega, by omega, hTm.1, hTm.2, hAf, by omega, by omega, fun r t11 H13 g11 s11 k15 k16 r0 r1 => ?_⟩
      refine ⟨_, rfl, _, rfl, F4, ds, gl, t11, 512, rfl, g11.fh, s11, by omega, by decide, fun bb t12 H14 g12 s12 k17 k18 b0 b1 => ⟨_, rfl, bb, dim, rfl, dim0, dim1 (by decide), fun b H15 e15 => ?_⟩⟩
      have g13 := (g11.trans g12).ext e15
      have s15 := s12.ext ((Gr.refl (g11.trans g12).fh (S := N0)).ext e15)
      have hW15 := g13.keep hW10 nW
      have hal15 := g13.fh _ _ (ff4 _ _ hal6')
      have hst15 := hst10.ext g13 hoff
      have g10w := g10.trans g13
      refine ⟨al, lmp, b, rfl, .inl (.inl hal15), hll, fun lt sub H16 e16 hlt0 hlt hsub => ?_⟩
      have gL := (((Gr.refl g13.fh (S := N0)).ext e16)).pub hlt hlt0
      have g16 := g10w.trans (gL.w (S := Sg ds gl))
      have s16 := s15.ext gL
      have hltf : (upd F4 lt (.lst (sub.map V.str))) lt = some (.lst (sub.map V.str)) := upd_same ..
      have hW16 := gL.same _ _ hW15
      have hWF16 := gL.hid hW15 hWF10
      have hst16 := hst15.ext gL (fun _ _ z => z)
      have eL := gL.ff
      have hAf16 := eL _ _ hAf
      generalize (upd F4 lt (.lst (sub.map V.str))) = F5 at *
      refine ⟨fun σ H' => ∃ F' lt', ∃ sub' : List Str, σ = [some (.ref ds), some (.int (n : Nat)), some (.ref ab), some (.ref al), some (.int sh), some (.int dim), some (.int harm), some (.ref T1), some (.int (btn.length : Nat)), some (.ref Z), x10, some (.ref W), some (.int (0 + (i : Nat))), some (.int (0 + (k : Nat))), some (.ref A), some (.int r), some (.ref lt'), none, none] ∧ Gr (Sg ds gl) F2 H6 F' H' ∧ SrcAt F' H' ds gl t12 ∧ H' W = some (.lst (es.map V.ref)) ∧ F' W = none ∧ StepsAt K F' H' es btn lmp n (fun j => if j < i then btn.length else if j = i then k else 0) ∧ F' lt' = some (.lst (sub'.map V.str)) ∧ sub'.Sublist lmp, ?_, ?_⟩
      · refine ⟨_, rfl, _, _, rfl, rfl, _, rfl, ?_⟩
        refine ite2 (fun _ => ?_) (fun _ => ⟨F5, lt, sub, rfl, g16, s16, hW16, hWF16, hst16, hltf, hsub⟩)
        have hal16 := gL.fh _ _ (eL _ _ (ff4 _ _ hal6'))
        have hZ16 := g16.fh _ _ (g16.ff _ _ hZf)
        refine ⟨_, rfl, _, rfl, al, Z, _, _, rfl, .inl (.inl hal16), .inl (.inl hZ16), fun L hL => lc_it (walk_zip (xs := lmp.map V.str) (ys := pl.map V.ref) (n := lmp.length) (by rw [List.length_map, List.length_map, hpl]; exact (Nat.min_self _).symm)) (PvS H16 L fun i acc => ∃ sub : List Str, acc = sub.map V.str ∧ sub.Sublist (lmp.take i)) (PvS.zero hL ⟨[], rfl, List.nil_sublist _⟩) (fun i H3 _ h => ⟨.inl (.inl (h.1 _ _ hal16)), .inl (.inl (h.1 _ _ hZ16))⟩) ?_ ?_⟩
        · rintro j y H20 H21 hj ⟨e20, acc, hacc, hl, sub2, rfl, hsub2⟩ ⟨tq, x1, y1, rfl, htq, rfl, hx1, hy1⟩
          obtain ⟨nm, hnm, rfl⟩ := get_map hx1
          obtain ⟨pa, hpa, rfl⟩ := get_map hy1
          obtain ⟨px, py, hpxy⟩ := hpl6 pa (mem_at hpa)
          have etq := same_new (o := .tup [.str nm, .ref pa]) htq
          have e21 := e20.trans etq
          have hjl := lt_at hnm
          refine ⟨tq, _, rfl, .inl (.inl (upd_same ..)), rfl, _, _, rfl, _, _, rfl, rfl, rfl, ?_⟩
          refine ⟨_, rfl, _, rfl, pP (px, py), pP (((0 + (i : Nat) : Int)), ((0 + (k : Nat) : Int))), .tup (.inl (.inl (e21 _ _ (g16.fh _ _ (g16.ff _ _ hpxy))))) (.cons (.int _) (.cons (.int _) .nil)), .tup (.inl (.inl (e21 _ _ (gL.fh _ _ hAf16)))) (.cons (.int _) (.cons (.int _) .nil)), shaped_dq (dq_pP _) (Nat.le_trans (dep_pP _) (by decide)), shaped_dq (dq_pP _) (Nat.le_trans (dep_pP _) (by decide)), _, rfl, ?_⟩
          refine ite2 (fun _ => ?_) (fun _ => ?_)
          · refine ⟨_, rfl, PvS.snoc hL e20 hacc hl (by omega) etq ⟨sub2 ++ [nm], by rw [List.map_append]; rfl, ?_⟩⟩
            rw [take_at hnm]
            exact List.Sublist.append hsub2 (List.Sublist.refl _)
          · refine PvS.skip e20 hacc hl etq ⟨sub2, rfl, ?_⟩
            rw [take_at hnm]
            exact hsub2.trans (List.sublist_append_left ..)
        · rintro H20 ⟨e20, acc, hacc, hl, sub2, rfl, hsub2⟩
          rw [List.take_length] at hsub2
          have gM := ((Gr.refl gL.fh (S := N0)).ext e20).pub hacc hL
          exact ⟨_, L, sub2, rfl, g16.trans (gM.w (S := Sg ds gl)), s16.ext gM, gM.same _ _ hW16, gM.hid hW16 hWF16, hst16.ext gM (fun _ _ z => z), upd_same .., hsub2⟩
      rintro σ H17 ⟨F6, lt', sub', rfl, g17, s17, hW17, hWF17, hst17, hlt17, hsub17⟩
      refine ⟨_, rfl, F6, ds, gl, t12, 8, rfl, g17.fh, s17, by omega, by decide, fun q t13 H18 g18 s18 k19 k20 q0 q1 => ⟨_, rfl, _, _, rfl, rfl, _, rfl, ?_⟩⟩
      have g18w := g17.trans g18
      have hW18 := g18.keep hW17 nW
      have hWF18 := g18.hid hW17 hWF17
      have hst18 := hst17.ext g18 hoff
      refine ite2 (fun _ => ?_) (fun _ => ⟨F6, t13, _, _, _, _, rfl, g18w, s18, by omega, by omega, hW18, hWF18, hst18.lim' (fun j => ?_)⟩)
      · have hbk := List.getElem?_eq_getElem (l := btn) hk
        have heI := List.getElem?_eq_getElem hei
        generalize hbe : btn[k] = b at hbk
        generalize hee : es[i] = e at heI
        refine ⟨_, rfl, _, rfl, (by show 2 ≤ sizeLine; decide), fun tp htp => ?_⟩
        have gP := (Gr.refl g18.fh (S := N0)).new (o := .tup [.int r, .ref lt']) htp
        have g19 := g18w.trans (gP.w (S := Sg ds gl))
        have s19 := s18.ext gP
        have hW19 := gP.same _ _ hW18
        have hWF19 := gP.hid hW18 hWF18
        have hst19 := hst18.ext gP (fun _ _ z => z)
        have hdp : Dp K (upd F6 tp (.tup [.int r, .ref lt'])) (.ref tp) (.tuple [.int r, pW sub']) := .tup (.inl (.inl (upd_same ..))) (.cons (.int _) (.cons (.lst (.inl (.inl (gP.ff _ _ hlt17))) (dpa_strs _)) .nil))
        generalize (upd F6 tp (.tup [.int r, .ref lt'])) = F7 at *
        generalize (upd H18 tp (.tup [.int r, .ref lt'])) = H19 at *
        obtain ⟨kvs, hE, hkl, hEF, hst20⟩ := hst19.put heI hend (b := b) (by show btn[if i < i then _ else if i = i then k else 0]? = _; rw [if_neg (Nat.lt_irrefl _), if_pos rfl]; exact hbk) hbn hdp r0 r1 hsub17
        have hkl' : kvs.length ≤ k := by
          have z : kvs.length ≤ (if i < i then btn.length else if i = i then k else 0) := hkl
          rwa [if_neg (Nat.lt_irrefl _), if_pos rfl] at z
        have heW2 : W ≠ e := fun z => heW (by rw [z]; exact mem_at heI)
        have hoe := hoff e (mem_at heI)
        have hab19 := g19.fh _ _ (g19.ff _ _ hab6)
        refine ⟨_, rfl, _, rfl, W, _, _, .ref e, rfl, rfl, .inl (.inl hW19), by rw [Int.zero_add]; exact atI_nat (by rw [List.getElem?_map, heI]; rfl), _, rfl, _, rfl, ab, _, _, .str b, rfl, rfl, .inl (.inl hab19), by rw [Int.zero_add]; exact atI_nat (by rw [List.getElem?_map, hbk]; rfl), e, _, rfl, DPut.k (k := Sum.inr b) hE (bigS (by omega)), ?_⟩
        refine ⟨F7, t13, _, _, _, _, rfl, g19.set hEF (.inr (hes e (mem_at heI)).1), s19.set hoe, by omega, by have : ((k + 1 : Nat) : Int) = k + 1 := rfl; omega, by rw [upd_ne heW2]; exact hW19, hWF19, hst20.lim' (fun j => ?_)⟩
        show (if j = i then (if i < i then btn.length else if i = i then k else 0) + 1 else if j < i then btn.length else if j = i then k else 0) ≤ (if j < i then btn.length else if j = i then k + 1 else 0)
        rw [if_neg (Nat.lt_irrefl _), if_pos rfl]
        by_cases hji : j = i
        · subst hji
          rw [if_pos rfl, if_neg (Nat.lt_irrefl _), if_pos rfl]
          exact Nat.le_refl _
        · rw [if_neg hji, if_neg hji, if_neg hji]
          exact Nat.le_refl _
      · show (if j < i then btn.length else if j = i then k else 0) ≤ (if j < i then btn.length else if j = i then k + 1 else 0)
        split
        · exact Nat.le_refl _
        · split
          · exact Nat.le_succ _
          · exact Nat.le_refl _
    · rintro σ H10 ⟨F', t', x13, x14, x15, x16, rfl, g9, s9, k13, k14, hW9, hWF9, hst9⟩
      refine ⟨F', t', _, _, _, _, _, rfl, g9, s9, k13, ?_, hW9, hWF9, hst9.lim' (fun j => ?_)⟩
      · have : ((i + 1 : Nat) : Int) = i + 1 := rfl
        omega
      · show (if j < i then btn.length else if j = i then btn.length else 0) ≤ (if j < i + 1 then btn.length else 0)
        split
        · rw [if_pos (by omega)]; exact Nat.le_refl _
        · split
          · rw [if_pos (by omega)]; exact Nat.le_refl _
          · exact Nat.zero_le _
  · rintro σ H8 ⟨F', t', x12, x13, x14, x15, x16, rfl, g8, s8, k11, k12, hW8, hWF8, hst8⟩
    have hst9 : StepsAt K F' H8 es btn lmp n (fun _ => btn.length) := hst8.lim' (fun j => by
      show (if j < _ then btn.length else 0) ≤ btn.length
      split
      · exact Nat.le_refl _
      · exact Nat.zero_le _)
    clear hst8
    have hstx : ∀ {H'}, Gr (Sg ds gl) F' H8 F' H' → StepsAt K F' H' es btn lmp n (fun _ => btn.length) := fun g => hst9.ext g hoff
    refine ⟨fun σ H' => ∃ t2, ∃ es2 : List Addr, σ = [some (.ref ds), some (.int (n : Nat)), some (.ref ab), some (.ref al), some (.int sh), some (.int dim), some (.int harm), some (.ref T1), some (.int (btn.length : Nat)), some (.ref Z), x10, some (.ref W), x12, x13, x14, x15, x16, none, none] ∧ Gr (Sg ds gl) F2 H6 F' H' ∧ SrcAt F' H' ds gl t2 ∧ t' ≤ t2 ∧ t2 ≤ t' + 2 ∧ H' W = some (.lst (es2.map V.ref)) ∧ es2.length = n ∧ (∀ e ∈ es2, e ∈ es) ∧ StepsAt K F' H' es btn lmp n (fun _ => btn.length), ?_, ?_⟩
    · refine ⟨_, rfl, F', ds, gl, t', 5, rfl, g8.fh, s8, by omega, by decide, fun q t9 H9 g9 s9 k13 k14 q0 q1 => ⟨rfl, _, rfl, ?_⟩⟩
      have g89 := g8.trans g9
      have hW9 := g9.keep hW8 nW
      refine ite2 (fun _ => ?_) (fun _ => ⟨t9, es, rfl, g89, s9, k13, by omega, hW9, hel, fun _ h => h, hstx g9⟩)
      refine ⟨_, rfl, _, rfl, _, rfl, F', ds, gl, t9, n, rfl, g9.fh, s9, by omega, Int.lt_of_le_of_lt (b := 4) (by omega) (by decide), fun r t10 H10 g10 s10 k15 k16 r0 r1 => ?_⟩
      have g90 := g9.trans g10
      have hW10 := g10.keep hW9 nW
      obtain ⟨ri, rfl⟩ := Int.eq_ofNat_of_zero_le r0
      have hri : ri < es.length := by have := r1 (by omega); omega
      have heI := List.getElem?_eq_getElem hri
      generalize es[ri] = e at heI
      refine ⟨W, _, _, .ref e, rfl, rfl, .inl (.inl hW10), atI_nat (by rw [List.getElem?_map, heI]; rfl), _, rfl, _, rfl, _, _, rfl, rfl, W, _, _, n - 1, rfl, rfl, hW10, ?_, ?_⟩
      · rw [List.length_map, hel]; exact ixLast hn1
      · refine ⟨t10, es.set (n - 1) e, rfl, (g8.trans g90).set hWF8 (.inr hW), s10.set nW, by omega, by omega, by rw [List.map_set]; exact upd_same .., by rw [List.length_set]; exact hel, fun x hx => ?_, ?_⟩
        · rcases List.mem_or_eq_of_mem_set hx with h | h
          · exact h
          · rw [h]; exact mem_at heI
        · exact (hstx g90).off heW
    rintro σ H10 ⟨t10, es2, rfl, g10, s10, k13, k14, hW10, hel2, hsub, hst10⟩
    have gJ := gZ.trans g10
    obtain ⟨F3, g3, e3, n3, gvs, p, q⟩ := pub_dicts (Pg := StepOk btn lmp n btn.length) es2 gJ (fun e he => by
      obtain ⟨j, hj⟩ := List.getElem?_of_mem (hsub e he)
      obtain ⟨_, kvs, gv, q1, q2, q3⟩ := hst10 j e hj
      exact ⟨gZ.fresh (hes e (hsub e he)).1, kvs, gv, q1, q2, q3⟩)
    have s3 : SrcAt F3 H10 ds gl t10 := s10.frame (by rw [n3 ds fun z => hoff _ (hsub _ z) (.inl rfl)]; exact s10.fd) (by rw [n3 gl fun z => hoff _ (hsub _ z) (.inr rfl)]; exact s10.fg)
    have hlen : es2.length = gvs.length := p.length
    exact ⟨_, rfl, hQ W es2 gvs t10 _ H10 (g3.pub hW10 hW0) (s3.pub nW) (by omega) (by omega) (upd_same ..) (paired_giv p (pub_same g3.fh hW10)) (by omega) (fun gv hgv => (q gv hgv).okG hbn (by omega) (by omega))⟩
end
end S3

/-! ### L16: a drawn device -/
namespace S3
open PySem PySem.Spec PyProof.Rows L2
theorem merge_nd {l : List (Key × V)} (h : (l.map (·.1)).Nodup) : mergeK [] l = l := by
  have gen : ∀ (l m : List (Key × V)), ((m ++ l).map (·.1)).Nodup → mergeK m l = m ++ l := by
    intro l
    induction l with
    | nil => intro m _; unfold mergeK; rw [List.foldl_nil, List.append_nil]
    | cons a l ih =>
      intro m hn
      have hno : valV m a.1 = none := valV_nokey (fun hm => by
        rw [List.map_append, List.nodup_append] at hn
        exact hn.2.2 a.1 hm a.1 (List.mem_map.mpr ⟨a, List.mem_cons_self .., rfl⟩) rfl)
      have e : mergeK m (a :: l) = mergeK (m ++ [a]) l := by
        unfold mergeK
        rw [List.foldl_cons, putK_new _ hno]
      rw [e, ih (m ++ [a]) (by rwa [List.append_assoc]), List.append_assoc]
      rfl
  exact gen l [] h
def mod3 (ap al as : Addr) : List (Key × V) := [(Sum.inr "pushes", .ref ap), (Sum.inr "lights", .ref al), (Sum.inr "steps", .ref as)]
theorem mod3_merge {ap al as : Addr} : mergeK [] (mod3 ap al as) = mod3 ap al as := merge_nd (by
  show ([Sum.inr "pushes", Sum.inr "lights", Sum.inr "steps"] : List Key).Nodup
  decide +kernel)
/-- a drawn device in its dict, the dict its maker's own -/
structure Mod3 (K : PySem.W.Frag) (F H : Hp) (d : Addr) (pd : PD) : Prop where
  fd : F d = none
  ex : ∃ ap al as, ∃ es : List Addr, H d = some (.dK (mod3 ap al as)) ∧ F ap = some (.lst (pd.btn.map V.str)) ∧ F al = some (.lst (pd.lmp.map V.str)) ∧ F as = some (.lst (es.map V.ref)) ∧ Paired (fun d gv => GivAt K F d gv) es pd.gvs
  ok : PdOk pd
  n1 : 1 ≤ pd.gvs.length
  b4 : pd.btn.length ≤ 4
  l4 : pd.lmp.length ≤ 4
section
variable {P : Program} {w : World} {K : PySem.W.Frag} {mg : Str → Option Value} {base : Heap} {CC DC UB HF : Addr}
abbrev s_lmd : Stmt := top 53
abbrev nm_lmd : List Str := ["_law_source_here", "_law_more", "_law_size", "_law_pushes", "_law_lights", "_law_steps_here"]
theorem sc_lmd : FnScope nm_lmd ["_law_source_here", "_law_more"] (defScope s_lmd) := ⟨rfl, rfl, rfl, by decide +kernel, rfl, by decide +kernel, by decide +kernel⟩
/- slots: 0 _law_source_here 1 _law_more 2 _law_size 3 _law_pushes 4 _law_lights 5 _law_steps_here -/
def spLmd (K : PySem.W.Frag) : Sp := fun vs H Q _ => ∃ F ds gl t, vs = [.ref ds, .int 0] ∧ Same F H ∧ SrcAt F H ds gl t ∧ t < 2 ^ 35 ∧ ∀ d pd t' F' H', Gr (Sg ds gl) F H F' H' → SrcAt F' H' ds gl t' → t ≤ t' → t' ≤ t + 400 → H d = none → Mod3 K F' H' d pd → Q (.ref d) H'
theorem cal_lmd (D : DefX K mg "_law_model" s_lmd) (T : Tx K mg CC DC) (cDr : C8.Cal P w K mg base 1 "_law_draw" spLdr []) (cNm : C8.Cal P w K mg base 3 "_law_names" spLnm []) (cSteps : C8.Cal P w K mg base 3 "_law_steps" (spSteps K) []) : C8.Cal P w K mg base 4 "_law_model" (spLmd K) [] := by
  refine calD (ps := ["_law_source_here", "_law_more"]) D (fun _ _ _ _ _ _ us hl => match us, hl with | [_, _], _ => rfl) sc_lmd ?_ ?_
  · rintro vs H Q E ⟨F, ds, gl, t, rfl, _⟩; rfl
  rintro f cdv A outer s0 H vs Q E hr ⟨F, ds, gl, t, rfl, hF, hs, ht, hQ⟩
  refine ⟨_, (pss_cons (ps_set (i := 2) sc_lmd.nd rfl (.inl rfl) (pe_op op_add (pe_op op_add pe_int (C8.pe_c cDr hr (by decide) rfl (pa_cons (pv 0) (pa_cons pe_int pa_nil)))) (pv 1)))
      (pss_cons (ps_set (i := 3) sc_lmd.nd rfl (.inl rfl) (C8.pe_c cNm hr (by decide) rfl (pa_cons (pv 0) (pa_cons (pe_ix (ix_listK K rfl) (pe_lst (pa_cons pe_int (pa_cons pe_int (pa_cons pe_int (pa_cons pe_int (pa_cons pe_int (pa_cons pe_int (pa_cons pe_int (pa_cons pe_int pa_nil))))))))) (C8.pe_c cDr hr (by decide) rfl (pa_cons (pv 0) (pa_cons pe_int pa_nil))) (fun _ _ => rfl)) pa_nil))))
      (pss_cons (ps_set (i := 4) sc_lmd.nd rfl (.inl rfl) (C8.pe_c cNm hr (by decide) rfl (pa_cons (pv 0) (pa_cons (pe_ix (ix_listK K rfl) (pe_lst (pa_cons pe_int (pa_cons pe_int (pa_cons pe_int (pa_cons pe_int (pa_cons pe_int (pa_cons pe_int (pa_cons pe_int (pa_cons pe_int pa_nil))))))))) (C8.pe_c cDr hr (by decide) rfl (pa_cons (pv 0) (pa_cons pe_int pa_nil))) (fun _ _ => rfl)) pa_nil))))
      (pss_cons (ps_set (i := 5) sc_lmd.nd rfl (.inl rfl) (C8.pe_c cSteps hr (by decide) rfl (pa_cons (pv 0) (pa_cons (pv 2) (pa_cons (pv 3) (pa_cons (pv 4) pa_nil))))))
      (pss_one (ps_ret (pe_disp (pps_cons pe_str (pv 3) (pps_cons pe_str (pv 4) (pps_cons pe_str (pv 5) pps_nil))) (by rfl) (by rfl) (fun z => by cases z) (by decide)))))))), ?_⟩
  have ht0 := hs.t0
  have c1 : ∀ x ∈ ([2, 1, 3, 2, 4, 0, 2, 3] : List Int), 0 ≤ x ∧ x ≤ 4 := by decide
  have c2 : ∀ x ∈ ([1, 1, 2, 0, 3, 1, 2, 1] : List Int), 0 ≤ x ∧ x ≤ 4 := by decide
  refine ⟨_, rfl, F, ds, gl, t, 4, rfl, hF, hs, by omega, by decide, fun sz t1 H1 g1 s1 k1 k2 z0 z1 => ⟨_, _, rfl, rfl, _, rfl, _, _, rfl, rfl, ?_⟩⟩
  obtain ⟨n0, rfl⟩ := Int.eq_ofNat_of_zero_le z0
  have hn0 : n0 < 4 := by have := z1 (by decide); omega
  have hsz : (1 + (n0 : Int) + 0) = ((n0 + 1 : Nat) : Int) := by omega
  refine ⟨_, rfl, (by show 8 ≤ sizeLine; decide), fun L hL => ?_⟩
  have nL := s1.off hL
  have gA := g1.lay (o := .lst (([2, 1, 3, 2, 4, 0, 2, 3] : List Int).map V.int)) hL
  have sA := s1.lay (o := .lst (([2, 1, 3, 2, 4, 0, 2, 3] : List Int).map V.int)) g1.fh hL
  have hLA : (upd H1 L (.lst (([2, 1, 3, 2, 4, 0, 2, 3] : List Int).map V.int))) L = some (.lst (([2, 1, 3, 2, 4, 0, 2, 3] : List Int).map V.int)) := upd_same ..
  rw [show ([V.int 2, .int 1, .int 3, .int 2, .int 4, .int 0, .int 2, .int 3] : List V) = ([2, 1, 3, 2, 4, 0, 2, 3] : List Int).map V.int from rfl]
  generalize (upd H1 L (.lst (([2, 1, 3, 2, 4, 0, 2, 3] : List Int).map V.int))) = H2 at *
  refine ⟨_, rfl, F, ds, gl, t1, 8, rfl, gA.fh, sA, by omega, by decide, fun hi t2 H3 g2 s2 k3 k4 hi0 hi1 => ?_⟩
  have hi8 := hi1 (by decide)
  obtain ⟨hn, rfl⟩ := Int.eq_ofNat_of_zero_le hi0
  have hhn : hn < ([2, 1, 3, 2, 4, 0, 2, 3] : List Int).length := by show hn < 8; omega
  have hh0 := List.getElem?_eq_getElem hhn
  have hcm := c1 _ (List.getElem_mem hhn)
  generalize ([2, 1, 3, 2, 4, 0, 2, 3] : List Int)[hn] = c at hh0 hcm
  obtain ⟨c0, rfl⟩ := Int.eq_ofNat_of_zero_le hcm.1
  have hL2 := g2.keep hLA nL
  have g12 := gA.trans g2
  refine ⟨L, _, _, .int c0, rfl, rfl, .inl (.inl hL2), atI_nat (by rw [List.getElem?_map, hh0]; rfl), F, ds, gl, t2, c0, rfl, g12.fh, s2, by omega, by omega, fun ap btn t3 F3 H4 g3 s3 k5 k6 hap hbl hbn hbi => ?_⟩
  have g13 := g12.trans g3
  clear hL2 hLA
  refine ⟨_, rfl, (by show 8 ≤ sizeLine; decide), fun L2 hL2 => ?_⟩
  have nL2 := s3.off hL2
  have gB := g13.lay (o := .lst (([1, 1, 2, 0, 3, 1, 2, 1] : List Int).map V.int)) hL2
  have sB := s3.lay (o := .lst (([1, 1, 2, 0, 3, 1, 2, 1] : List Int).map V.int)) g13.fh hL2
  have hLB : (upd H4 L2 (.lst (([1, 1, 2, 0, 3, 1, 2, 1] : List Int).map V.int))) L2 = some (.lst (([1, 1, 2, 0, 3, 1, 2, 1] : List Int).map V.int)) := upd_same ..
  rw [show ([V.int 1, .int 1, .int 2, .int 0, .int 3, .int 1, .int 2, .int 1] : List V) = ([1, 1, 2, 0, 3, 1, 2, 1] : List Int).map V.int from rfl]
  generalize (upd H4 L2 (.lst (([1, 1, 2, 0, 3, 1, 2, 1] : List Int).map V.int))) = H5 at *
  refine ⟨_, rfl, F3, ds, gl, t3, 8, rfl, gB.fh, sB, by omega, by decide, fun hj t4 H6 g4 s4 k7 k8 hj0 hj1 => ?_⟩
  have hj8 := hj1 (by decide)
  obtain ⟨hm, rfl⟩ := Int.eq_ofNat_of_zero_le hj0
  have hhm : hm < ([1, 1, 2, 0, 3, 1, 2, 1] : List Int).length := by show hm < 8; omega
  have hh1 := List.getElem?_eq_getElem hhm
  have hdm := c2 _ (List.getElem_mem hhm)
  generalize ([1, 1, 2, 0, 3, 1, 2, 1] : List Int)[hm] = c' at hh1 hdm
  obtain ⟨e0, rfl⟩ := Int.eq_ofNat_of_zero_le hdm.1
  have hL4 := g4.keep hLB nL2
  have g14 := gB.trans g4
  refine ⟨L2, _, _, .int e0, rfl, rfl, .inl (.inl hL4), atI_nat (by rw [List.getElem?_map, hh1]; rfl), F3, ds, gl, t4, e0, rfl, g14.fh, s4, by omega, by omega, fun al lmp t5 F5 H7 g5 s5 k9 k10 hal hll hln hli => ?_⟩
  have g15 := g14.trans g5
  have hap5 := g5.ff _ _ hap
  refine ⟨_, rfl, _, rfl, _, rfl, _, rfl, F5, ds, gl, t5, n0 + 1, ap, al, btn, lmp, by show [V.ref ds, V.int (1 + (n0 : Int) + 0), V.ref ap, V.ref al] = _; rw [hsz], g15.fh, s5, by omega, by omega, by omega, hap5, hal, by omega, by omega, hbn, fun as es gvs t6 F6 H8 g6 s6 k11 k12 has hp hgl hgo => ?_⟩
  have g16 := g15.trans g6
  refine fun d hd => ?_
  refine ⟨_, rfl, _, rfl, _, rfl, upd_same .., mod3 ap al as, rfl, (by show 3 ≤ 15; decide), ?_⟩
  have hdF := same_none g16.fh hd
  have hgl' : gvs.length = n0 + 1 := hgl
  exact hQ d ⟨btn, lmp, gvs⟩ t6 F6 _ ((g16.lay hd).set hdF (.inr (g16.fresh hd))) ((s6.lay g16.fh hd).set (s6.off hd)) (by omega) (by omega) (g16.fresh hd) ⟨hdF, ⟨ap, al, as, es, by rw [mod3_merge]; exact upd_same .., g6.ff _ _ hap5, g6.ff _ _ hal, has, hp⟩, ⟨hbn, hln, hbi, hli, (by show btn.length ≤ 10; omega), (by show lmp.length ≤ 10; omega), (by show gvs.length ≤ 4; omega), fun g hg => (by show GvOk btn lmp gvs.length g; rw [hgl']; exact hgo g hg)⟩, (by show 1 ≤ gvs.length; omega), (by show btn.length ≤ 4; omega), (by show lmp.length ≤ 4; omega)⟩
end
end S3

/-! ### L17: a drawn task -/
namespace S3
open PySem PySem.Spec PyProof.Rows L2
theorem valV_old {l m : List (Key × V)} {k : Key} {x : V} (h : valV l k = some x) : valV (l ++ m) k = some x := by
  unfold valV at *
  rw [List.find?_append]
  cases q : l.find? (fun kv => decide (kv.1 = k)) with
  | none => rw [q] at h; cases h
  | some y => rw [q] at h; exact h
theorem valV_app {l : List (Key × V)} {k : Key} {v : V} (h : k ∉ l.map (·.1)) : valV (l ++ [(k, v)]) k = some v := by
  rw [← putK_new v (valV_nokey h), valV_put, if_pos rfl]
def kys (ws : List Str) : List Key := ws.map Sum.inr
theorem kys_not {ws : List Str} {k : Str} (h : k ∉ ws) : (Sum.inr k : Key) ∉ kys ws := fun hm => by
  obtain ⟨x, hx, e⟩ := List.mem_map.mp hm
  injection e with e
  exact h (e ▸ hx)
theorem put_app {l : List (Key × V)} {ws : List Str} {k : Str} {v : V} (hl : l.map (·.1) = kys ws) (h : k ∉ ws) : putK l (Sum.inr k) v = l ++ [(Sum.inr k, v)] := putK_new v (valV_nokey (by rw [hl]; exact kys_not h))
section
variable {ap al as ao aw au : Addr} {st : V} {wy : Int}
def mod4 (ap al as ao : Addr) := mod3 ap al as ++ [((Sum.inr "order" : Key), V.ref ao)]
def mod5 (ap al as ao : Addr) (st : V) := mod4 ap al as ao ++ [((Sum.inr "start" : Key), st)]
def mod6 (ap al as ao : Addr) (st : V) (aw : Addr) := mod5 ap al as ao st ++ [((Sum.inr "watched" : Key), V.ref aw)]
def mod7 (ap al as ao : Addr) (st : V) (aw au : Addr) := mod6 ap al as ao st aw ++ [((Sum.inr "usable" : Key), V.ref au)]
def mod8 (ap al as ao : Addr) (st : V) (aw au : Addr) (wy : Int) := mod7 ap al as ao st aw au ++ [((Sum.inr "way" : Key), V.int wy)]
theorem k3 : (mod3 ap al as).map (·.1) = kys ["pushes", "lights", "steps"] := rfl
theorem k4 : (mod4 ap al as ao).map (·.1) = kys ["pushes", "lights", "steps", "order"] := rfl
theorem k5 : (mod5 ap al as ao st).map (·.1) = kys ["pushes", "lights", "steps", "order", "start"] := rfl
theorem k6 : (mod6 ap al as ao st aw).map (·.1) = kys ["pushes", "lights", "steps", "order", "start", "watched"] := rfl
theorem k7 : (mod7 ap al as ao st aw au).map (·.1) = kys ["pushes", "lights", "steps", "order", "start", "watched", "usable"] := rfl
theorem k8 : (mod8 ap al as ao st aw au wy).map (·.1) = kys ["pushes", "lights", "steps", "order", "start", "watched", "usable", "way"] := rfl
theorem put3 : putK (mod3 ap al as) (Sum.inr "order") (.ref ao) = mod4 ap al as ao := put_app k3 (by decide +kernel)
theorem put4 : putK (mod4 ap al as ao) (Sum.inr "start") st = mod5 ap al as ao st := put_app k4 (by decide +kernel)
theorem put5 : putK (mod5 ap al as ao st) (Sum.inr "watched") (.ref aw) = mod6 ap al as ao st aw := put_app k5 (by decide +kernel)
theorem put6 : putK (mod6 ap al as ao st aw) (Sum.inr "usable") (.ref au) = mod7 ap al as ao st aw au := put_app k6 (by decide +kernel)
theorem put7 : putK (mod7 ap al as ao st aw au) (Sum.inr "way") (.int wy) = mod8 ap al as ao st aw au wy := put_app k7 (by decide +kernel)
theorem v3p : valV (mod3 ap al as) (Sum.inr "pushes") = some (.ref ap) := valV_pos rfl
theorem v3l : valV (mod3 ap al as) (Sum.inr "lights") = some (.ref al) := (valV_neg (ky_ne (by decide))).trans (valV_pos rfl)
theorem v3s : valV (mod3 ap al as) (Sum.inr "steps") = some (.ref as) := (valV_neg (ky_ne (by decide))).trans ((valV_neg (ky_ne (by decide))).trans (valV_pos rfl))
theorem v4o : valV (mod4 ap al as ao) (Sum.inr "order") = some (.ref ao) := valV_app (by rw [k3]; exact kys_not (by decide +kernel))
theorem v5s : valV (mod5 ap al as ao st) (Sum.inr "start") = some st := valV_app (by rw [k4]; exact kys_not (by decide +kernel))
theorem v6w : valV (mod6 ap al as ao st aw) (Sum.inr "watched") = some (.ref aw) := valV_app (by rw [k5]; exact kys_not (by decide +kernel))
theorem v7u : valV (mod7 ap al as ao st aw au) (Sum.inr "usable") = some (.ref au) := valV_app (by rw [k6]; exact kys_not (by decide +kernel))
theorem v8y : valV (mod8 ap al as ao st aw au wy) (Sum.inr "way") = some (.int wy) := valV_app (by rw [k7]; exact kys_not (by decide +kernel))
theorem v5l : valV (mod5 ap al as ao st) (Sum.inr "lights") = some (.ref al) := valV_old (valV_old v3l)
theorem v6p : valV (mod6 ap al as ao st aw) (Sum.inr "pushes") = some (.ref ap) := valV_old (valV_old (valV_old v3p))
theorem v8 {k : Key} {x : V} (h : valV (mod3 ap al as) k = some x) : valV (mod8 ap al as ao st aw au wy) k = some x := valV_old (valV_old (valV_old (valV_old (valV_old h))))
theorem v8o : valV (mod8 ap al as ao st aw au wy) (Sum.inr "order") = some (.ref ao) := valV_old (valV_old (valV_old (valV_old v4o)))
theorem v8s : valV (mod8 ap al as ao st aw au wy) (Sum.inr "start") = some st := valV_old (valV_old (valV_old v5s))
theorem v8w : valV (mod8 ap al as ao st aw au wy) (Sum.inr "watched") = some (.ref aw) := valV_old (valV_old v6w)
theorem v8u : valV (mod8 ap al as ao st aw au wy) (Sum.inr "usable") = some (.ref au) := valV_old v7u
end
/-- what stands in a model's dict -/
def ModX (K : PySem.W.Frag) (F : Hp) (kvs : List (Key × V)) (m : MD) : Prop := ∃ ap al as ao st aw au, ∃ es : List Addr, kvs = mod8 ap al as ao st aw au m.way ∧ F ap = some (.lst (m.pd.btn.map V.str)) ∧ F al = some (.lst (m.pd.lmp.map V.str)) ∧ F as = some (.lst (es.map V.ref)) ∧ Paired (fun d gv => GivAt K F d gv) es m.pd.gvs ∧
  F ao = some (.lst (m.order.map V.int)) ∧ Dp K F st (pB m.cs.start) ∧ F aw = some (.lst (m.watched.map V.str)) ∧ F au = some (.lst (m.usable.map V.str))
theorem ModX.mono {K : PySem.W.Frag} {F F' : Hp} {kvs : List (Key × V)} {m : MD} (h : ModX K F kvs m) (e : Same F F') : ModX K F' kvs m := by
  obtain ⟨ap, al, as, ao, st, aw, au, es, h0, h1, h2, h3, h4, h5, h6, h7, h8⟩ := h
  exact ⟨ap, al, as, ao, st, aw, au, es, h0, e _ _ h1, e _ _ h2, e _ _ h3, paired_giv h4 e, e _ _ h5, dp_same e _ _ h6, e _ _ h7, e _ _ h8⟩
theorem ModX.at {K : PySem.W.Frag} {F : Hp} {kvs : List (Key × V)} {m : MD} {d : Addr} (h : ModX K F kvs m) (hd : F d = some (.dK kvs)) : ModAt K F d m := by
  obtain ⟨ap, al, as, ao, st, aw, au, es, rfl, h1, h2, h3, h4, h5, h6, h7, h8⟩ := h
  exact ⟨_, hd, ⟨ap, v8 v3p, h1⟩, ⟨al, v8 v3l, h2⟩, ⟨as, es, v8 v3s, h3, h4⟩, ⟨ao, v8o, h5⟩, ⟨st, v8s, h6⟩, ⟨aw, v8w, h7⟩, ⟨au, v8u, h8⟩, v8y⟩
theorem filter_sub {α : Type} [DecidableEq α] : ∀ {s l : List α}, s.Sublist l → l.Nodup → l.filter (fun x => decide (x ∈ s)) = s
  | _, _, .slnil, _ => rfl
  | s, _, .cons a (l₂ := l) h, hn => by
    rw [List.nodup_cons] at hn
    rw [List.filter_cons, if_neg (by simpa using fun z => hn.1 (h.subset z))]
    exact filter_sub h hn.2
  | _, _, .cons_cons a (l₁ := s) (l₂ := l) h, hn => by
    rw [List.nodup_cons] at hn
    rw [List.filter_cons, if_pos (by simp)]
    congr 1
    rw [← filter_sub h hn.2]
    refine (List.filter_congr fun x hx => ?_).trans rfl
    have hne : x ≠ a := fun z => hn.1 (z ▸ hx)
    rw [filter_sub h hn.2]
    simp [hne]
theorem mk_caseOk {pd : PD} (hp : PdOk pd) {poss : List Int} {wd us : List Str} (h1 : poss.Pairwise (· < ·)) (h2 : ∀ s ∈ poss, 0 ≤ s ∧ s < (pd.gvs.length : Int)) (h3 : poss ≠ []) (h4 : poss.length ≤ 3) (h5 : us.length ≤ 10) (h6 : wd.length ≤ 10) : CaseOk (mkCS pd poss wd us) := by
  refine ⟨h1, h2, h3, h4, hp.gl, h5, h6, fun i b af a h => ?_⟩
  have h' : (((pd.gvs.getD i.toNat []).lookup b).map fun p => (p.1, wd.filter fun x => decide (x ∈ p.2))) = some (af, a) := h
  obtain ⟨p, hp1, hp2⟩ := Option.map_eq_some_iff.mp h'
  injection hp2 with hp3 hp4
  cases hg : pd.gvs[i.toNat]? with
  | none =>
    rw [List.getD_eq_getElem?_getD, hg] at hp1
    cases hp1
  | some gv =>
    rw [List.getD_eq_getElem?_getD, hg] at hp1
    have hm : (b, p) ∈ gv := by
      have h7 : gv.lookup b = some p := hp1
      obtain ⟨l1, l2, e, _⟩ := List.lookup_eq_some_iff.mp h7
      rw [e]; simp
    obtain ⟨_, _, z⟩ := hp.gv gv (mem_at hg)
    obtain ⟨_, z1, z2, _⟩ := z _ hm
    rw [← hp3]
    exact ⟨z1, z2⟩
theorem mk_mdS {pd : PD} (hp : PdOk pd) {ord poss : List Int} {wd us : List Str} {wy : Int} (ho : ord.Perm poss) (h1 : poss.Pairwise (· < ·)) (h2 : ∀ s ∈ poss, 0 ≤ s ∧ s < (pd.gvs.length : Int)) (h3 : poss ≠ []) (h4 : poss.length ≤ 3) (hw : wd.Sublist pd.lmp) (hu : us.Sublist pd.btn) (hy : 0 ≤ wy ∧ wy < 8) : MdS ⟨pd, ord, poss, wd, us, wy⟩ :=
  ⟨⟨hp, mk_caseOk hp h1 h2 h3 h4 (Nat.le_trans hu.length_le hp.bl) (Nat.le_trans hw.length_le hp.ll), fun x hx => hu.subset hx, fun x hx => hw.subset hx, ho⟩, filter_sub hw hp.ln, filter_sub hu hp.bn, hy⟩
def nats (n : Nat) : List Int := (List.range n).map fun i : Nat => (i : Int)
theorem rg_nats (n : Nat) : rgV 0 (n : Int) = (nats n).map V.int := by
  unfold rgV nats
  rw [List.map_map, Int.sub_zero, Int.toNat_natCast]
  refine List.map_congr_left fun i _ => ?_
  show V.int (0 + (i : Int)) = V.int (i : Int)
  rw [Int.zero_add]
theorem nats_len (n : Nat) : (nats n).length = n := by unfold nats; rw [List.length_map, List.length_range]
theorem nats_nd (n : Nat) : (nats n).Nodup := by
  unfold nats
  exact List.Pairwise.map _ (fun (a b : Nat) (h : a ≠ b) (e : (a : Int) = (b : Int)) => h (by omega)) List.nodup_range
theorem nats_mem {n : Nat} {x : Int} (h : x ∈ nats n) : 0 ≤ x ∧ x < (n : Int) := by
  obtain ⟨i, hi, rfl⟩ := List.mem_map.mp h
  have := List.mem_range.mp hi
  omega
theorem seqNat {n i : Nat} (h : i < n) : seqIndex? (i : Int) n = some i := by
  refine (ixN_seq ?_).1
  unfold ixN
  rw [if_pos (by omega), if_pos (by omega), Int.toNat_natCast]
theorem era_perm {α : Type} : ∀ (l : List α) (k : Nat) (y : α), l[k]? = some y → (y :: l.eraseIdx k).Perm l
  | [], _, _, h => by cases h
  | a :: l, 0, y, h => by cases h; exact .refl _
  | a :: l, k + 1, y, h => (List.Perm.swap a y _).trans ((era_perm l k y h).cons a)
theorem map_era {α β : Type} (f : α → β) : ∀ (l : List α) (k : Nat), (l.map f).eraseIdx k = (l.eraseIdx k).map f
  | [], _ => rfl
  | _ :: _, 0 => rfl
  | a :: l, k + 1 => by
    show f a :: (l.map f).eraseIdx k = f a :: (l.eraseIdx k).map f
    rw [map_era f l k]
theorem pop_perm {acc rest all : List Int} {k : Nat} {y : Int} (hy : rest[k]? = some y) (h : (acc ++ rest).Perm all) : (acc ++ [y] ++ rest.eraseIdx k).Perm all := by
  refine List.Perm.trans ?_ h
  rw [List.append_assoc]
  exact List.Perm.append_left _ (era_perm rest k y hy)
theorem le_lt {l : List Int} (h : l.Pairwise (· ≤ ·)) (hn : l.Nodup) : l.Pairwise (· < ·) := by
  have h2 : l.Pairwise fun a b => a ≤ b ∧ a ≠ b := h.and hn
  exact h2.imp fun ⟨a, b⟩ => by omega
section
variable {P : Program} {w : World} {K : PySem.W.Frag} {mg : Str → Option Value} {base : Heap} {CC DC UB HF : Addr}
abbrev s_ltk : Stmt := top 55
abbrev nm_ltk : List Str := ["_law_source_here", "_law_model_here", "_law_most", "_law_size", "_law_many", "_law_pool", "_law_watched", "_law_usable", "_law_k", "_law_site"]
theorem sc_ltk : FnScope nm_ltk ["_law_source_here", "_law_model_here", "_law_most"] (defScope s_ltk) := ⟨rfl, rfl, rfl, by decide +kernel, rfl, by decide +kernel, by decide +kernel⟩
/- slots: 0 _law_source_here 1 _law_model_here 2 _law_most 3 _law_size 4 _law_many 5 _law_pool 6 _law_watched 7 _law_usable 8 _law_k 9 _law_site -/
abbrev Sd (ds gl d : Addr) : Addr → Prop := fun z => Sg ds gl z ∨ z = d
def spLtk (K : PySem.W.Frag) : Sp := fun vs H Q _ => ∃ F ds gl t d pd, vs = [.ref ds, .ref d, .int 3] ∧ Same F H ∧ SrcAt F H ds gl t ∧ t < 2 ^ 35 ∧ ¬ Sg ds gl d ∧ Mod3 K F H d pd ∧
  ∀ m t' F' H' kvs, Gr (Sd ds gl d) F H F' H' → SrcAt F' H' ds gl t' → t ≤ t' → t' ≤ t + 50 → m.pd = pd → MdS m → F' d = none → H' d = some (.dK kvs) → ModX K F' kvs m → Q .non H'
theorem cal_ltk (D : DefX K mg "_law_task" s_ltk) (T : Tx K mg CC DC) (cDr : C8.Cal P w K mg base 1 "_law_draw" spLdr []) (cSome : C8.Cal P w K mg base 1 "_law_some" (spSome K) []) : C8.Cal P w K mg base 2 "_law_task" (spLtk K) [] := by
  refine calD (ps := ["_law_source_here", "_law_model_here", "_law_most"]) D (fun _ _ _ _ _ _ us hl => match us, hl with | [_, _, _], _ => rfl) sc_ltk ?_ ?_
  · rintro vs H Q E ⟨F, ds, gl, t, d, pd, rfl, _⟩; rfl
  rintro f cdv A outer s0 H vs Q E hr ⟨F, ds, gl, t, d, pd, rfl, hF, hs, ht, nd, hm, hQ⟩
  have hu := up 1 hr
  refine ⟨_, (pss_cons (ps_set (i := 3) sc_ltk.nd rfl (.inl rfl) (pe_callB (call_len_seqK K rfl) (by rfl) T.len (by decide +kernel) (pa_cons (pe_dget hu (pv 1) pe_str (fun _ _ => rfl)) pa_nil)))
      (pss_cons (ps_set (i := 4) sc_ltk.nd rfl (.inl rfl) (pe_callB (call_min2 rfl) (by rfl) T.min (by decide +kernel) (pa_cons (pv 2) (pa_cons (pv 3) pa_nil))))
      (C8.pss_cut (ps_if (pt_cmpR op_eq (C8.pe_c cDr hr (by decide) rfl (pa_cons (pv 0) (pa_cons pe_int pa_nil))) pe_int (nomark _))
      (pss_one (ps_set (i := 4) sc_ltk.nd rfl (.inl rfl) (pe_op op_add pe_int (C8.pe_c cDr hr (by decide) rfl (pa_cons (pv 0) (pa_cons (pv 4) pa_nil))))))
      pss_nil)
      (pss_cons (ps_set (i := 5) sc_ltk.nd rfl (.inr rfl) (pe_listRg rfl (by rfl) T.list (prg_1 (by rfl) T.range (pv 3))))
      (pss_cons (ps_dput hu (pv 1) pe_str (pe_lc (own := [("_law_k", 8)]) (g := (gName 8))  rfl sc_ltk.nd (pi_range1 (by rfl) T.range (pa_cons (pv 4) pa_nil)) (blkOk_by (own := [("_law_k", 8)]) (N := nm_ltk) (sc := defScope s_ltk) (by decide +kernel)) (fun _ _ _ _ _ => (pg_name (i := 8) sc_ltk.nd rfl (.inl rfl))) (fun _ _ _ _ _ => pts_nil) (fun _ _ _ _ _ => (pe_bmK K rfl PySem.F.plainAttrs_list PySem.F.slot_list_pop PySem.F.type_list_pop mt_popAt (pv 5) (pa_cons (C8.pe_c cDr hr (by decide) rfl (pa_cons (pv 0) (pa_cons (pe_callB (call_len_seqK K rfl) (by rfl) T.len (by decide +kernel) (pa_cons (pv 5) pa_nil)) pa_nil))) pa_nil)))) rfl)
      (pss_cons (ps_dput hu (pv 1) pe_str (pe_lc (own := [("_law_site", 9)]) (g := (gName 9))  rfl sc_ltk.nd (pi_listK K rfl (pe_callB (cr_sortedK K rfl) (by rfl) T.sorted (by decide +kernel) (pa_cons (pe_dget hu (pv 1) pe_str (fun _ _ => rfl)) pa_nil))) (blkOk_by (own := [("_law_site", 9)]) (N := nm_ltk) (sc := defScope s_ltk) (by decide +kernel)) (fun _ _ _ _ _ => (pg_name (i := 9) sc_ltk.nd rfl (.inl rfl))) (fun _ _ _ _ _ => pts_nil) (fun _ _ _ _ _ => (pe_tup (pa_cons (pv 9) (pa_cons (pv 9) pa_nil))))) rfl)
      (pss_cons (ps_set (i := 6) sc_ltk.nd rfl (.inl rfl) (pe_ix (ix_listK K rfl) (pe_lst (pa_cons pe_int (pa_cons pe_int (pa_cons pe_int (pa_cons (C8.pe_c cDr hr (by decide) rfl (pa_cons (pv 0) (pa_cons pe_int pa_nil))) pa_nil))))) (C8.pe_c cDr hr (by decide) rfl (pa_cons (pv 0) (pa_cons pe_int pa_nil))) (fun _ _ => rfl)))
      (pss_cons (ps_set (i := 7) sc_ltk.nd rfl (.inl rfl) (pe_ix (ix_listK K rfl) (pe_lst (pa_cons pe_int (pa_cons pe_int (pa_cons pe_int (pa_cons (C8.pe_c cDr hr (by decide) rfl (pa_cons (pv 0) (pa_cons pe_int pa_nil))) pa_nil))))) (C8.pe_c cDr hr (by decide) rfl (pa_cons (pv 0) (pa_cons pe_int pa_nil))) (fun _ _ => rfl)))
      (pss_cons (ps_dput hu (pv 1) pe_str (C8.pe_c cSome hr (by decide) rfl (pa_cons (pe_dget hu (pv 1) pe_str (fun _ _ => rfl)) (pa_cons (pv 6) pa_nil))) rfl)
      (pss_cons (ps_dput hu (pv 1) pe_str (C8.pe_c cSome hr (by decide) rfl (pa_cons (pe_dget hu (pv 1) pe_str (fun _ _ => rfl)) (pa_cons (pv 7) pa_nil))) rfl)
      (pss_one (ps_dput hu (pv 1) pe_str (C8.pe_c cDr hr (by decide) rfl (pa_cons (pv 0) (pa_cons pe_int pa_nil))) rfl)))))))))))), ?_⟩
  have ht0 := hs.t0
  have hok := hm.ok
  have hn1 := hm.n1
  have hn4 := hok.gl
  have hb4 := hm.b4
  have hl4 := hm.l4
  have hFd := hm.fd
  obtain ⟨ap, al, as, es, hd, hap, hal, has, hp⟩ := hm.ex
  have hel : es.length = pd.gvs.length := hp.length
  generalize hng : pd.gvs.length = n at *
  refine ⟨_, rfl, d, _, rfl, dget_s hd v3s, as, _, rfl, .inl (.inl (.inl (hF _ _ has))), ?_⟩
  rw [List.length_map, hel]
  refine ⟨_, rfl, _, rfl, 3, n, rfl, ?_⟩
  obtain ⟨mn, hmn, hmn1, hmn3, hmnn⟩ : ∃ mn : Nat, (if (n : Int) < 3 then (n : Int) else 3) = (mn : Int) ∧ 1 ≤ mn ∧ mn ≤ 3 ∧ mn ≤ n := by
    by_cases h : (n : Int) < 3
    · exact ⟨n, by rw [if_pos h], by omega, by omega, by omega⟩
    · exact ⟨3, by rw [if_neg h]; rfl, by omega, by omega, by omega⟩
  rw [hmn]
  refine ⟨fun σ H' => ∃ mn : Nat, ∃ t1, σ = [some (.ref ds), some (.ref d), some (.int 3), some (.int (n : Nat)), some (.int (mn : Nat)), none, none, none, none, none] ∧ Gr (Sg ds gl) F H F H' ∧ SrcAt F H' ds gl t1 ∧ t ≤ t1 ∧ t1 ≤ t + 2 ∧ 1 ≤ mn ∧ mn ≤ 3 ∧ mn ≤ n, ?_, ?_⟩
  · refine ⟨_, rfl, F, ds, gl, t, 3, rfl, hF, hs, by omega, by decide, fun q t1 H1 g1 s1 j1 j2 q0 q1 => ⟨rfl, _, rfl, ?_⟩⟩
    refine ite2 (fun _ => ?_) (fun _ => ⟨mn, t1, rfl, g1, s1, j1, by omega, hmn1, hmn3, hmnn⟩)
    refine ⟨_, rfl, _, rfl, F, ds, gl, t1, mn, rfl, g1.fh, s1, by omega, Int.lt_of_le_of_lt (b := 4) (by omega) (by decide), fun r t2 H2 g2 s2 j3 j4 r0 r1 => ⟨_, _, rfl, rfl, ?_⟩⟩
    obtain ⟨r', rfl⟩ := Int.eq_ofNat_of_zero_le r0
    have hr' := r1 (by omega)
    have e1 : (1 + (r' : Int)) = ((r' + 1 : Nat) : Int) := by omega
    exact ⟨r' + 1, t2, by rw [← e1]; rfl, g1.trans g2, s2, by omega, by omega, by omega, by omega, by omega⟩
  clear hmn hmn1 hmn3 hmnn
  rintro σ H1 ⟨mn, t1, rfl, g1, s1, j1, j2, hmn1, hmn3, hmnn⟩
  have hd1 := g1.keep hd nd
  refine ⟨_, rfl, _, rfl, RgOk.of_le (Int.le_refl _) (by omega) (by omega) (by omega), fun pl hpl => ?_⟩
  rw [rg_nats]
  have npl := s1.off hpl
  have hplF := same_none g1.fh hpl
  have hplH := g1.fresh hpl
  have hdpl : d ≠ pl := ne_of_none hd1 hpl
  refine ⟨_, rfl, _, rfl, by omega, by omega, fun L hL => ?_⟩
  rw [Int.toNat_natCast]
  have g2 := g1.lay (o := .lst ((nats n).map V.int)) hpl
  have s2 := s1.lay (o := .lst ((nats n).map V.int)) g1.fh hpl
  have hpl2 : (upd H1 pl (.lst ((nats n).map V.int))) pl = some (.lst ((nats n).map V.int)) := upd_same ..
  have hd2 : (upd H1 pl (.lst ((nats n).map V.int))) d = some (.dK (mod3 ap al as)) := by rw [upd_ne hdpl]; exact hd1
  generalize (upd H1 pl (.lst ((nats n).map V.int))) = H2 at *
  have nL := s2.off hL
  have hLF := same_none g2.fh hL
  have hLH := g2.fresh hL
  have hplL : pl ≠ L := ne_of_none hpl2 hL
  refine lc_it walk_range (fun i H' => ∃ acc rest : List Int, ∃ t2, Gr (Sg ds gl) F H F H' ∧ SrcAt F H' ds gl t2 ∧ t1 ≤ t2 ∧ t2 ≤ t1 + i ∧ H' pl = some (.lst (rest.map V.int)) ∧ H' L = some (.lst (acc.map V.int)) ∧ acc.length = i ∧ (acc ++ rest).Perm (nats n)) ⟨[], nats n, t1, g2.lay hL, s2.lay g2.fh hL, Int.le_refl _, by simp, by rw [upd_ne hplL]; exact hpl2, upd_same .., rfl, .refl _⟩ (fun _ _ _ _ => trivial) ?_ ?_
  · rintro i x H3 H4 hi ⟨acc, rest, t2, g3, s3, j3, j4, hp3, hL3, hal3, hpm⟩ ⟨rfl, rfl⟩
    have hrl : acc.length + rest.length = n := by
      have := hpm.length_eq
      rwa [List.length_append, nats_len] at this
    refine ⟨rfl, _, rfl, .inl ⟨rfl, _, .inl (.inl hp3)⟩, _, rfl, _, rfl, pl, _, rfl, .inl (.inl (.inl hp3)), F, ds, gl, t2, _, rfl, g3.fh, s3, by omega, ?_, fun r t3 H5 g4 s4 j5 j6 r0 r1 => ?_⟩
    · rw [List.length_map]
      exact Int.lt_of_le_of_lt (b := 4) (by omega) (by decide)
    rw [List.length_map] at r1
    obtain ⟨r', rfl⟩ := Int.eq_ofNat_of_zero_le r0
    have hr' : r' < rest.length := by have := r1 (by omega); omega
    have hy := List.getElem?_eq_getElem hr'
    generalize rest[r'] = y at hy
    have hp5 := g4.keep hp3 npl
    have hL5 := g4.keep hL3 nL
    have g5 := (g3.trans g4).set (o := .lst ((rest.map V.int).eraseIdx r')) hplF (.inr hplH)
    have s5 := s4.set (o := .lst ((rest.map V.int).eraseIdx r')) npl
    refine ⟨pl, _, _, r', .int y, rfl, rfl, hp5, by omega, by omega, seqNat (by rw [List.length_map]; exact hr'), by rw [List.getElem?_map, hy]; rfl, ?_⟩
    refine ⟨acc.map V.int, by rw [upd_ne hplL.symm]; exact hL5, by rw [List.length_map]; exact bigS (by omega), acc ++ [y], rest.eraseIdx r', t3, g5.set hLF (.inr hLH), s5.set nL, by omega, by have : ((i + 1 : Nat) : Int) = i + 1 := rfl; omega, ?_, by rw [List.map_append]; exact upd_same .., by rw [List.length_append, hal3]; rfl, pop_perm hy hpm⟩
    rw [upd_ne hplL, map_era]
    exact upd_same ..
  rintro H3 ⟨ord, rest, t2, g3, s3, j3, j4, hp3, hL3, hol, hpm⟩
  have ondp : (ord ++ rest).Nodup := hpm.nodup_iff.mpr (nats_nd n)
  have ond : ord.Nodup := (List.nodup_append.mp ondp).1
  have orng : ∀ x ∈ ord, 0 ≤ x ∧ x < (n : Int) := fun x hx => nats_mem (hpm.mem_iff.mp (List.mem_append_left _ hx))
  have hd3 := g3.keep hd nd
  have hdL : d ≠ L := ne_of_none hd2 hL
  have gO := (g3.pub hL3 hLH).weak (T := Sd ds gl d) fun _ z => .inl z
  have sO := s3.pub (o := .lst (ord.map V.int)) nL
  have eO : Same F (upd F L (.lst (ord.map V.int))) := pub_same g3.fh hL3
  have hoF : (upd F L (.lst (ord.map V.int))) L = some (.lst (ord.map V.int)) := upd_same ..
  have hdO : (upd F L (.lst (ord.map V.int))) d = none := by rw [upd_ne hdL]; exact hFd
  generalize (upd F L (.lst (ord.map V.int))) = F3 at *
  refine ⟨_, rfl, d, _, rfl, DPut.k (k := Sum.inr "order") hd3 (by show 3 < sizeLine; decide), ?_⟩
  rw [put3]
  have g4 := gO.set (o := .dK (mod4 ap al as L)) hdO (.inl (.inr rfl))
  have s4 := sO.set (o := .dK (mod4 ap al as L)) nd
  have hd4 : (upd H3 d (.dK (mod4 ap al as L))) d = some (.dK (mod4 ap al as L)) := upd_same ..
  show tSeq _ _ _ _ (upd H3 d (.dK (mod4 ap al as L)))
  generalize (upd H3 d (.dK (mod4 ap al as L))) = H4 at *
  refine ⟨_, rfl, d, _, rfl, dget_s hd4 v4o, L, ord, rfl, .inl (.inl (g4.fh _ _ hoF)), by omega, fun srt sp hperm hsrt hsp => ?_⟩
  have hsrt' := le_lt hsrt (hperm.nodup_iff.mpr ond)
  have hsl : srt.length = mn := hperm.length_eq.trans hol
  have gs := g4.lay (o := .lst (srt.map V.int)) hsp
  have ss := s4.lay (o := .lst (srt.map V.int)) g4.fh hsp
  have hsp1 : (upd H4 sp (.lst (srt.map V.int))) sp = some (.lst (srt.map V.int)) := upd_same ..
  have hds : (upd H4 sp (.lst (srt.map V.int))) d = some (.dK (mod4 ap al as L)) := by rw [upd_ne (ne_of_none hd4 hsp)]; exact hd4
  generalize (upd H4 sp (.lst (srt.map V.int))) = H5 at *
  refine ⟨sp, rfl, ⟨_, .inl (.inl hsp1)⟩, fun M hM => lc_list (K := K) (a := sp) (xs := srt.map V.int) (PvF F3 H5 M fun i acc F' => DpAll K F' acc ((srt.take i).map fun s => pP (s, s))) (PvF.zero gs.fh hM .nil) (fun i H' _ ⟨_, _, g, _⟩ => .inl (.inl (g.same _ _ hsp1))) ?_ ?_⟩
  · rintro i x H' hx ⟨Fi, acc, gi, hn, hacc, hal', r⟩
    obtain ⟨y, hy, rfl⟩ := get_map hx
    have hyl := lt_at hy
    refine ⟨rfl, _, rfl, _, rfl, (by show 2 ≤ sizeLine; decide), fun tp htp => ?_⟩
    have gB := (Gr.refl gi.fh (S := N0)).new (o := .tup [.int y, .int y]) htp
    refine PvF.snoc hM gi hn hacc hal' (by omega) gB ?_
    rw [map_take_at hy]
    exact dpa_snoc (dpa_same gB.ff _ _ r) (.tup (.inl (.inl (upd_same ..))) (.cons (.int _) (.cons (.int _) .nil)))
  rintro H6 ⟨F6, acc, g6, hn6, hacc, hal', r⟩
  rw [List.length_map, List.take_length] at r
  have hMd : d ≠ M := ne_of_none hds hM
  have hd6 := g6.same _ _ hds
  have hF6d := g6.hid hds hdO
  have g06 := (gs.trans (g6.w (S := Sd ds gl d))).pub hacc (gs.fresh hM)
  have e6 : Same F6 (upd F6 M (.lst acc)) := pub_same g6.fh hacc
  have s6 := (ss.ext g6).pub (o := .lst acc) (ss.off hM)
  have hst6 : Dp K (upd F6 M (.lst acc)) (.ref M) (pB (srt.map fun s => (s, s))) := by
    refine .lst (.inl (.inl (upd_same ..))) ?_
    rw [List.map_map]
    exact dpa_same e6 _ _ r
  have hF6d' : (upd F6 M (.lst acc)) d = none := by rw [upd_ne hMd]; exact hF6d
  have ho6 := e6 _ _ (g6.ff _ _ hoF)
  have e06 : Same F (upd F6 M (.lst acc)) := eO.trans (g6.ff.trans e6)
  generalize (upd F6 M (.lst acc)) = F7 at *
  refine ⟨_, rfl, d, _, rfl, DPut.k (k := Sum.inr "start") hd6 (by show 4 < sizeLine; decide), ?_⟩
  rw [put4]
  have g7 := g06.set (o := .dK (mod5 ap al as L (.ref M))) hF6d' (.inl (.inr rfl))
  have s7 := s6.set (o := .dK (mod5 ap al as L (.ref M))) nd
  have hd7 : (upd H6 d (.dK (mod5 ap al as L (.ref M)))) d = some (.dK (mod5 ap al as L (.ref M))) := upd_same ..
  show tSeq _ _ _ _ (upd H6 d (.dK (mod5 ap al as L (.ref M))))
  generalize (upd H6 d (.dK (mod5 ap al as L (.ref M)))) = H7 at *
  refine ⟨_, rfl, F7, ds, gl, t2, 8, rfl, g7.fh, s7, by omega, by decide, fun w1 t3 H8 g8 s8 j5 j6 _ _ => ⟨(by show 4 ≤ sizeLine; decide), fun A hA => ?_⟩⟩
  have nA := s8.off hA
  have g9 := (g7.trans (g8.weak (T := Sd ds gl d) fun _ z => .inl z)).lay (o := .lst (([7, 7, 0, w1] : List Int).map V.int)) hA
  have s9 := s8.lay (o := .lst (([7, 7, 0, w1] : List Int).map V.int)) g8.fh hA
  have hd8 := g8.keep hd7 nd
  have hA9 : (upd H8 A (.lst (([7, 7, 0, w1] : List Int).map V.int))) A = some (.lst (([7, 7, 0, w1] : List Int).map V.int)) := upd_same ..
  have hd9 : (upd H8 A (.lst (([7, 7, 0, w1] : List Int).map V.int))) d = some (.dK (mod5 ap al as L (.ref M))) := by rw [upd_ne (ne_of_none hd8 hA)]; exact hd8
  rw [show ([V.int 7, .int 7, .int 0, .int w1] : List V) = ([7, 7, 0, w1] : List Int).map V.int from rfl]
  generalize (upd H8 A (.lst (([7, 7, 0, w1] : List Int).map V.int))) = H9 at *
  refine ⟨_, rfl, F7, ds, gl, t3, 4, rfl, g9.fh, s9, by omega, by decide, fun wi t4 H10 g10 s10 j7 j8 wi0 wi1 => ?_⟩
  have wi4 := wi1 (by decide)
  obtain ⟨wn, rfl⟩ := Int.eq_ofNat_of_zero_le wi0
  have hwn : wn < ([7, 7, 0, w1] : List Int).length := by show wn < 4; omega
  have hw0 := List.getElem?_eq_getElem hwn
  generalize ([7, 7, 0, w1] : List Int)[wn] = wv at hw0
  have hA10 := g10.keep hA9 nA
  have hd10 := g10.keep hd9 nd
  have g010 := g9.trans (g10.weak (T := Sd ds gl d) fun _ z => .inl z)
  refine ⟨A, _, _, .int wv, rfl, rfl, .inl (.inl hA10), atI_nat (by rw [List.getElem?_map, hw0]; rfl), ?_⟩
  clear hA9 hA10 hA nA
  refine ⟨_, rfl, F7, ds, gl, t4, 16, rfl, g010.fh, s10, by omega, by decide, fun u1 t5 H11 g11 s11 j9 j10 _ _ => ⟨(by show 4 ≤ sizeLine; decide), fun B hB => ?_⟩⟩
  have nB := s11.off hB
  have g12 := (g010.trans (g11.weak (T := Sd ds gl d) fun _ z => .inl z)).lay (o := .lst (([15, 15, 15, u1] : List Int).map V.int)) hB
  have s12 := s11.lay (o := .lst (([15, 15, 15, u1] : List Int).map V.int)) g11.fh hB
  have hd11 := g11.keep hd10 nd
  have hB12 : (upd H11 B (.lst (([15, 15, 15, u1] : List Int).map V.int))) B = some (.lst (([15, 15, 15, u1] : List Int).map V.int)) := upd_same ..
  have hd12 : (upd H11 B (.lst (([15, 15, 15, u1] : List Int).map V.int))) d = some (.dK (mod5 ap al as L (.ref M))) := by rw [upd_ne (ne_of_none hd11 hB)]; exact hd11
  rw [show ([V.int 15, .int 15, .int 15, .int u1] : List V) = ([15, 15, 15, u1] : List Int).map V.int from rfl]
  generalize (upd H11 B (.lst (([15, 15, 15, u1] : List Int).map V.int))) = H12 at *
  refine ⟨_, rfl, F7, ds, gl, t5, 4, rfl, g12.fh, s12, by omega, by decide, fun ui t6 H13 g13 s13 j11 j12 ui0 ui1 => ?_⟩
  have ui4 := ui1 (by decide)
  obtain ⟨un, rfl⟩ := Int.eq_ofNat_of_zero_le ui0
  have hun : un < ([15, 15, 15, u1] : List Int).length := by show un < 4; omega
  have hu0 := List.getElem?_eq_getElem hun
  generalize ([15, 15, 15, u1] : List Int)[un] = uv at hu0
  have hB13 := g13.keep hB12 nB
  have hd13 := g13.keep hd12 nd
  have g013 := g12.trans (g13.weak (T := Sd ds gl d) fun _ z => .inl z)
  refine ⟨B, _, _, .int uv, rfl, rfl, .inl (.inl hB13), atI_nat (by rw [List.getElem?_map, hu0]; rfl), ?_⟩
  clear hB12 hB13 hB nB
  refine ⟨_, rfl, d, _, rfl, dget_s hd13 v5l, _, rfl, al, pd.lmp, wv, rfl, .inl (.inl (g013.fh _ _ (e06 _ _ hal))), hl4, fun p1 sub1 H14 e14 hp10 hp11 hsub1 => ?_⟩
  have gW := ((Gr.refl g013.fh (S := N0)).ext e14).pub hp11 hp10
  have hp1f : (upd F7 p1 (.lst (sub1.map V.str))) p1 = some (.lst (sub1.map V.str)) := upd_same ..
  have g014 := g013.trans (gW.w (S := Sd ds gl d))
  have s14 := s13.ext gW
  have hd14 := gW.same _ _ hd13
  have hdF14 := gW.hid hd13 hF6d'
  have e07 := gW.ff
  generalize (upd F7 p1 (.lst (sub1.map V.str))) = F8 at *
  refine ⟨_, rfl, d, _, rfl, DPut.k (k := Sum.inr "watched") hd14 (by show 5 < sizeLine; decide), ?_⟩
  rw [put5]
  have g15 := g014.set (o := .dK (mod6 ap al as L (.ref M) p1)) hdF14 (.inl (.inr rfl))
  have s15 := s14.set (o := .dK (mod6 ap al as L (.ref M) p1)) nd
  have hd15 : (upd H14 d (.dK (mod6 ap al as L (.ref M) p1))) d = some (.dK (mod6 ap al as L (.ref M) p1)) := upd_same ..
  show tSeq _ _ _ _ (upd H14 d (.dK (mod6 ap al as L (.ref M) p1)))
  generalize (upd H14 d (.dK (mod6 ap al as L (.ref M) p1))) = H15 at *
  refine ⟨_, rfl, d, _, rfl, dget_s hd15 v6p, _, rfl, ap, pd.btn, uv, rfl, .inl (.inl (g15.fh _ _ (e07 _ _ (e06 _ _ hap)))), hb4, fun p2 sub2 H16 e16 hp20 hp21 hsub2 => ?_⟩
  have gU := ((Gr.refl g15.fh (S := N0)).ext e16).pub hp21 hp20
  have hp2f : (upd F8 p2 (.lst (sub2.map V.str))) p2 = some (.lst (sub2.map V.str)) := upd_same ..
  have g016 := g15.trans (gU.w (S := Sd ds gl d))
  have s16 := s15.ext gU
  have hd16 := gU.same _ _ hd15
  have hdF16 := gU.hid hd15 hdF14
  have e08 := gU.ff
  generalize (upd F8 p2 (.lst (sub2.map V.str))) = F9 at *
  refine ⟨_, rfl, d, _, rfl, DPut.k (k := Sum.inr "usable") hd16 (by show 6 < sizeLine; decide), ?_⟩
  rw [put6]
  have g17 := g016.set (o := .dK (mod7 ap al as L (.ref M) p1 p2)) hdF16 (.inl (.inr rfl))
  have s17 := s16.set (o := .dK (mod7 ap al as L (.ref M) p1 p2)) nd
  have hd17 : (upd H16 d (.dK (mod7 ap al as L (.ref M) p1 p2))) d = some (.dK (mod7 ap al as L (.ref M) p1 p2)) := upd_same ..
  show Ends.nx _ _ (upd H16 d (.dK (mod7 ap al as L (.ref M) p1 p2)))
  generalize (upd H16 d (.dK (mod7 ap al as L (.ref M) p1 p2))) = H17 at *
  refine ⟨_, rfl, F9, ds, gl, t6, 8, rfl, g17.fh, s17, by omega, by decide, fun wy t7 H18 g18 s18 j13 j14 wy0 wy1 => ?_⟩
  have hd18 := g18.keep hd17 nd
  refine ⟨_, rfl, d, _, rfl, DPut.k (k := Sum.inr "way") hd18 (by show 7 < sizeLine; decide), ?_⟩
  rw [put7]
  have e79 := e07.trans e08
  have e09 := e06.trans e79
  refine hQ ⟨pd, ord, srt, sub1, sub2, wy⟩ t7 F9 _ _ ((g17.trans (g18.weak (T := Sd ds gl d) fun _ z => .inl z)).set hdF16 (.inl (.inr rfl))) (s18.set nd) (by omega) (by omega) rfl ?_ hdF16 (upd_same ..) ⟨ap, al, as, L, .ref M, p1, p2, es, rfl, e09 _ _ hap, e09 _ _ hal, e09 _ _ has, paired_giv hp e09, e79 _ _ ho6, dp_same e79 _ _ hst6, e08 _ _ hp1f, hp2f⟩
  refine mk_mdS hok hperm.symm hsrt' (fun s hs' => by rw [hng]; exact orng s (hperm.mem_iff.mp hs')) (fun z => ?_) (by omega) hsub1 hsub2 ⟨wy0, wy1 (by decide)⟩
  rw [z] at hsl
  simp at hsl
  omega
end
end S3

/-! ### L18: a drawn goal -/
namespace S3
open PySem PySem.Spec PyProof.Rows L2
theorem flat_set {x : Int} {xs ys : List Int} (hy : ys.Perm (xs ++ [x])) : ∀ {xss : List (List Int)} {j : Nat}, xss[j]? = some xs → (xss.set j ys).flatten.Perm (xss.flatten ++ [x])
  | [], _, h => by cases h
  | a :: l, 0, h => by
    cases h
    show (ys ++ l.flatten).Perm (xs ++ l.flatten ++ [x])
    refine (hy.append_right _).trans ?_
    rw [List.append_assoc, List.append_assoc]
    exact List.Perm.append_left _ List.perm_append_comm
  | a :: l, j + 1, h => by
    show (a ++ (l.set j ys).flatten).Perm (a ++ l.flatten ++ [x])
    rw [List.append_assoc]
    exact List.Perm.append_left _ (flat_set hy (xss := l) h)
/-- lists of ints in the making -/
structure LsAt (F H0 H : Hp) (ls : List Addr) (xss : List (List Int)) : Prop where
  len : ls.length = xss.length
  nd : ls.Nodup
  at_ : ∀ (j : Nat) l xs, ls[j]? = some l → xss[j]? = some xs → H0 l = none ∧ F l = none ∧ H l = some (.lst (xs.map V.int))
section
variable {F H0 H F' H' : Hp} {ls : List Addr} {xss : List (List Int)} {S : Addr → Prop}
theorem LsAt.ext (h : LsAt F H0 H ls xss) (g : Gr S F H F' H') (hS : ∀ l ∈ ls, ¬ S l) : LsAt F' H0 H' ls xss := ⟨h.len, h.nd, fun j l xs h1 h2 => by
  obtain ⟨a, b, c⟩ := h.at_ j l xs h1 h2
  exact ⟨a, g.hid c b, g.keep c (hS l (mem_at h1))⟩⟩
theorem LsAt.put (h : LsAt F H0 H ls xss) {j : Nat} {l : Addr} {ys : List Int} (hj : ls[j]? = some l) : LsAt F H0 (upd H l (.lst (ys.map V.int))) ls (xss.set j ys) := by
  refine ⟨by rw [List.length_set]; exact h.len, h.nd, fun k l' xs h1 h2 => ?_⟩
  have hjl : j < xss.length := by rw [← h.len]; exact lt_at hj
  by_cases e : j = k
  · subst e
    rw [hj] at h1
    cases h1
    rw [List.getElem?_set, if_pos rfl, if_pos hjl] at h2
    cases h2
    obtain ⟨a, b, _⟩ := h.at_ j l _ hj (List.getElem?_eq_getElem hjl)
    exact ⟨a, b, upd_same ..⟩
  · rw [List.getElem?_set, if_neg e] at h2
    obtain ⟨a, b, c⟩ := h.at_ k l' xs h1 h2
    exact ⟨a, b, by rw [upd_ne fun z => e (nodup_at h.nd hj (by rw [← z]; exact h1))]; exact c⟩
theorem LsAt.get (h : LsAt F H0 H ls xss) {j : Nat} (hj : j < ls.length) : ∃ l xs, ls[j]? = some l ∧ xss[j]? = some xs ∧ H0 l = none ∧ F l = none ∧ H l = some (.lst (xs.map V.int)) := by
  have hj2 : j < xss.length := by rw [← h.len]; exact hj
  exact ⟨_, _, List.getElem?_eq_getElem hj, List.getElem?_eq_getElem hj2, h.at_ j _ _ (List.getElem?_eq_getElem hj) (List.getElem?_eq_getElem hj2)⟩
theorem pub_ints {F0 : Hp} : ∀ (l : List Addr) (xss : List (List Int)) {F : Hp}, Gr S F0 H0 F H → Paired (fun a xs => H0 a = none ∧ H a = some (.lst (xs.map V.int))) l xss →
    ∃ F', Gr S F0 H0 F' H ∧ Same F F' ∧ (∀ a, a ∉ l → F' a = F a) ∧ Paired (fun a (xs : List Int) => F' a = some (.lst (xs.map V.int))) l xss
  | _, _, F, g, .nil => ⟨F, g, .refl _, fun _ _ => rfl, .nil⟩
  | e :: l, xs :: xss, F, g, .cons h p => by
    obtain ⟨F', g', e', n', q⟩ := pub_ints l xss g p
    have e2 : Same F' (upd F' e (.lst (xs.map V.int))) := pub_same g'.fh h.2
    refine ⟨_, g'.pub h.2 h.1, e'.trans e2, fun a ha => ?_, .cons (upd_same ..) (paired_mono (fun _ _ z => e2 _ _ z) q)⟩
    rw [upd_ne (fun z => ha (by rw [z]; exact List.mem_cons_self ..))]
    exact n' a fun z => ha (List.mem_cons_of_mem _ z)
end
theorem dpa_lists {K : PySem.W.Frag} {F : Hp} : ∀ {l : List Addr} {xss : List (List Int)}, Paired (fun a (xs : List Int) => F a = some (.lst (xs.map V.int))) l xss → DpAll K F (l.map V.ref) (xss.map fun g => PyData.list (g.map .int))
  | _, _, .nil => .nil
  | _, _, .cons h p => .cons (.lst (.inl (.inl h)) (dpa_ints _)) (dpa_lists p)
theorem len_flat : ∀ {xss : List (List Int)} {j : Nat} {xs : List Int}, xss[j]? = some xs → xs.length ≤ xss.flatten.length
  | [], _, _, h => by cases h
  | a :: l, 0, _, h => by
    cases h
    rw [List.flatten_cons, List.length_append]
    exact Nat.le_add_right ..
  | a :: l, j + 1, _, h => by
    have := len_flat (xss := l) h
    rw [List.flatten_cons, List.length_append]
    omega
def GsOk : Goal → Prop
  | .grp gs => gs.length < 1000
  | _ => True
section
variable {P : Program} {w : World} {K : PySem.W.Frag} {mg : Str → Option Value} {base : Heap} {CC DC UB HF : Addr}
abbrev s_lgo : Stmt := top 57
abbrev nm_lgo : List Str := ["_law_source_here", "_law_model_here", "_law_form", "_law_pool", "_law_others", "_law_many", "_law_states", "_law_lists", "_law_among", "_law_site", "_law_k", "_law_other_here"]
theorem sc_lgo : FnScope nm_lgo ["_law_source_here", "_law_model_here"] (defScope s_lgo) := ⟨rfl, rfl, rfl, by decide +kernel, rfl, by decide +kernel, by decide +kernel⟩
/- slots: 0 _law_source_here 1 _law_model_here 2 _law_form 3 _law_pool 4 _law_others 5 _law_many 6 _law_states 7 _law_lists 8 _law_among 9 _law_site 10 _law_k 11 _law_other_here -/
def spLgo (K : PySem.W.Frag) : Sp := fun vs H Q _ => ∃ F ds gl t d m, vs = [.ref ds, .ref d] ∧ Same F H ∧ SrcAt F H ds gl t ∧ t < 2 ^ 35 ∧ ModAt K F d m ∧ MdOk m ∧
  ∀ v goal t' F' H', Gr (Sg ds gl) F H F' H' → SrcAt F' H' ds gl t' → t ≤ t' → t' ≤ t + 50 → Dp K F' v (pG goal) → GoalOkC m.cs goal → GsOk goal → Q v H'
theorem cal_lgo (D : DefX K mg "_law_goal" s_lgo) (T : Tx K mg CC DC) (cDr : C8.Cal P w K mg base 1 "_law_draw" spLdr []) : C8.Cal P w K mg base 2 "_law_goal" (spLgo K) [] := by
  refine calD (ps := ["_law_source_here", "_law_model_here"]) D (fun _ _ _ _ _ _ us hl => match us, hl with | [_, _], _ => rfl) sc_lgo ?_ ?_
  · rintro vs H Q E ⟨F, ds, gl, t, d, m, rfl, _⟩; rfl
  rintro f cdv A outer s0 H vs Q E hr ⟨F, ds, gl, t, d, m, rfl, hF, hs, ht, hm, hmo, hQ⟩
  have hu := up 1 hr
  refine ⟨_, (pss_cons (ps_set (i := 2) sc_lgo.nd rfl (.inl rfl) (C8.pe_c cDr hr (by decide) rfl (pa_cons (pv 0) (pa_cons pe_int pa_nil))))
      (pss_cons (ps_if (pt_cmpR op_lt (pv 2) pe_int (nomark _))
      (pss_one (ps_ret (pe_ix (ix_listK K rfl) (pe_lst (pa_cons (pe_tup (pa_cons pe_str pa_nil)) (pa_cons (pe_tup (pa_cons pe_str pa_nil)) pa_nil))) (pv 2) (fun _ _ => rfl))))
      pss_nil)
      (pss_cons (ps_set (i := 3) sc_lgo.nd rfl (.inr rfl) (pe_listRg rfl (by rfl) T.list (prg_1 (by rfl) T.range (pe_callB (call_len_seqK K rfl) (by rfl) T.len (by decide +kernel) (pa_cons (pe_dget hu (pv 1) pe_str (fun _ _ => rfl)) pa_nil)))))
      (pss_cons (ps_setLc (i := 4) (own := [("_law_site", 9)]) (g := (gName 9))  rfl sc_lgo.nd rfl rfl (sw_true rfl rfl rfl (by decide +kernel)) (pi_listK K rfl (pv 3)) (blkOk_by (own := [("_law_site", 9)]) (N := nm_lgo) (sc := defScope s_lgo) (by decide +kernel)) (fun _ _ _ _ _ => (pg_name (i := 9) sc_lgo.nd rfl (.inl rfl))) (fun _ _ _ _ _ => pts_one (pt_cmpR (op_notIn_seqK K rfl) (pv 9) (pe_dget hu (pv 1) pe_str (fun _ _ => rfl)) rfl)) (fun _ _ _ _ _ => (pv 9)))
      (pss_cons (ps_if (pt_cmpR op_eq (pv 2) pe_int (nomark _))
      (pss_cons (ps_set (i := 5) sc_lgo.nd rfl (.inl rfl) (C8.pe_c cDr hr (by decide) rfl (pa_cons (pv 0) (pa_cons (pe_op op_add (pe_callB (call_len_seqK K rfl) (by rfl) T.len (by decide +kernel) (pa_cons (pv 3) pa_nil)) pe_int) pa_nil))))
        (pss_cons (ps_setLc (i := 6) (own := [("_law_k", 10)]) (g := (gName 10))  rfl sc_lgo.nd rfl rfl (sw_true rfl rfl rfl (by decide +kernel)) (pi_range1 (by rfl) T.range (pa_cons (pv 5) pa_nil)) (blkOk_by (own := [("_law_k", 10)]) (N := nm_lgo) (sc := defScope s_lgo) (by decide +kernel)) (fun _ _ _ _ _ => (pg_name (i := 10) sc_lgo.nd rfl (.inl rfl))) (fun _ _ _ _ _ => pts_nil) (fun _ _ _ _ _ => (pe_bmK K rfl PySem.F.plainAttrs_list PySem.F.slot_list_pop PySem.F.type_list_pop mt_popAt (pv 3) (pa_cons (C8.pe_c cDr hr (by decide) rfl (pa_cons (pv 0) (pa_cons (pe_callB (call_len_seqK K rfl) (by rfl) T.len (by decide +kernel) (pa_cons (pv 3) pa_nil)) pa_nil))) pa_nil))))
        (pss_one (ps_ret (pe_tup (pa_cons pe_str (pa_cons (pe_op op_cat (pv 6) (pe_slice (sl_listK K rfl) (pv 6) po_none (po_some (C8.pe_c cDr hr (by decide) rfl (pa_cons (pv 0) (pa_cons pe_int pa_nil)))))) pa_nil)))))))
      pss_nil)
      (pss_cons (ps_setLc (i := 7) (own := [("_law_k", 10)]) (g := (gName 10))  rfl sc_lgo.nd rfl rfl (sw_true rfl rfl rfl (by decide +kernel)) (pi_range1 (by rfl) T.range (pa_cons (pe_op op_add pe_int (C8.pe_c cDr hr (by decide) rfl (pa_cons (pv 0) (pa_cons pe_int pa_nil)))) pa_nil)) (blkOk_by (own := [("_law_k", 10)]) (N := nm_lgo) (sc := defScope s_lgo) (by decide +kernel)) (fun _ _ _ _ _ => (pg_name (i := 10) sc_lgo.nd rfl (.inl rfl))) (fun _ _ _ _ _ => pts_nil) (fun _ _ _ _ _ => (pe_lst pa_nil)))
      (pss_cons (ps_set (i := 8) sc_lgo.nd rfl (.inl rfl) (pe_op op_add pe_int (C8.pe_c cDr hr (by decide) rfl (pa_cons (pv 0) (pa_cons (pe_callB (call_len_seqK K rfl) (by rfl) T.len (by decide +kernel) (pa_cons (pv 7) pa_nil)) pa_nil)))))
      (pss_cons (ps_for PassesOwn.never rfl (pi_listK K rfl (pe_dget hu (pv 1) pe_str (fun _ _ => rfl))) (pg_name (i := 9) sc_lgo.nd rfl (.inl rfl))
      (pss_one (ps_expr (pe_bmK K rfl PySem.F.plainAttrs_list PySem.F.slot_list_append PySem.F.type_list_append mt_append (pe_ix (ix_listK K rfl) (pv 7) (C8.pe_c cDr hr (by decide) rfl (pa_cons (pv 0) (pa_cons (pv 8) pa_nil))) (fun _ _ => rfl)) (pa_cons (pv 9) pa_nil)))))
      (pss_cons (ps_set (i := 4) sc_lgo.nd rfl (.inl rfl) (pe_op op_cat (pv 4) (pe_lst (pa_cons (pe_op op_sub (pe_un un_neg pe_int) (C8.pe_c cDr hr (by decide) rfl (pa_cons (pv 0) (pa_cons pe_int pa_nil)))) (pa_cons (pe_op op_add pe_int (C8.pe_c cDr hr (by decide) rfl (pa_cons (pv 0) (pa_cons (pe_op op_pow pe_int pe_int) pa_nil)))) pa_nil)))))
      (pss_cons (ps_for PassesOwn.never rfl (pi_range1 (by rfl) T.range (pa_cons (C8.pe_c cDr hr (by decide) rfl (pa_cons (pv 0) (pa_cons pe_int pa_nil))) pa_nil)) (pg_name (i := 10) sc_lgo.nd rfl (.inl rfl))
      (pss_cons (ps_set (i := 11) sc_lgo.nd rfl (.inl rfl) (pe_ix (ix_listK K rfl) (pv 4) (C8.pe_c cDr hr (by decide) rfl (pa_cons (pv 0) (pa_cons (pe_callB (call_len_seqK K rfl) (by rfl) T.len (by decide +kernel) (pa_cons (pv 4) pa_nil)) pa_nil))) (fun _ _ => rfl)))
        (pss_one (ps_expr (pe_bmK K rfl PySem.F.plainAttrs_list PySem.F.slot_list_insert PySem.F.type_list_insert mt_insert (pe_ix (ix_listK K rfl) (pv 7) (C8.pe_c cDr hr (by decide) rfl (pa_cons (pv 0) (pa_cons (pe_callB (call_len_seqK K rfl) (by rfl) T.len (by decide +kernel) (pa_cons (pv 7) pa_nil)) pa_nil))) (fun _ _ => rfl)) (pa_cons pe_int (pa_cons (pv 11) pa_nil)))))))
      (pss_one (ps_ret (pe_tup (pa_cons pe_str (pa_cons (pv 7) pa_nil))))))))))))))), ?_⟩
  have ht0 := hs.t0
  have hc := hmo.cs
  have hn4 : m.pd.gvs.length ≤ 4 := hmo.pd.gl
  have hlen : m.poss.length ≤ 3 := hc.len
  have hol : m.order.length ≤ 3 := by rw [hmo.op.length_eq]; exact hlen
  have hond : m.order.Nodup := hmo.op.nodup_iff.mpr (hc.asc.imp fun h => by omega)
  have horg : ∀ x ∈ m.order, 0 ≤ x ∧ x < (m.pd.gvs.length : Int) := fun x hx => hc.rng x (hmo.op.mem_iff.mp hx)
  refine ⟨_, rfl, F, ds, gl, t, 4, rfl, hF, hs, by omega, by decide, fun fo t1 H1 g1 s1 k1 k2 f0 f1 => ?_⟩
  have f4 := f1 (by decide)
  refine ⟨_, rfl, _, _, rfl, rfl, _, rfl, ?_⟩
  refine ite2 (fun h2 => ?_) (fun _ => ?_)
  · have h2 : fo < 2 := of_decide_eq_true h2
    refine ⟨(by show 1 ≤ sizeLine; decide), fun a1 ha1 => ⟨(by show 1 ≤ sizeLine; decide), fun a2 ha2 => ⟨(by show 2 ≤ sizeLine; decide), fun L hL => ?_⟩⟩⟩
    have gA := (g1.new (o := .tup [.str "now"]) ha1).new (o := .tup [.str "first"]) ha2
    have sA := (s1.ext ((Gr.refl g1.fh (S := N0)).new (o := .tup [.str "now"]) ha1)).ext ((Gr.refl (g1.new (o := .tup [.str "now"]) ha1).fh (S := N0)).new (o := .tup [.str "first"]) ha2)
    have q1 : (upd (upd F a1 (.tup [.str "now"])) a2 (.tup [.str "first"])) a1 = some (.tup [.str "now"]) := by
      rw [upd_ne (ne_of_none (upd_same (H := H1) (a := a1) (o := .tup [.str "now"])) ha2)]
      exact upd_same ..
    have q2 : (upd (upd F a1 (.tup [.str "now"])) a2 (.tup [.str "first"])) a2 = some (.tup [.str "first"]) := upd_same ..
    have gB := gA.lay (o := .lst [.ref a1, .ref a2]) hL
    have sB := sA.lay (o := .lst [.ref a1, .ref a2]) gA.fh hL
    obtain ⟨fn, rfl⟩ := Int.eq_ofNat_of_zero_le f0
    have hfn : fn = 0 ∨ fn = 1 := by omega
    rcases hfn with rfl | rfl
    · exact ⟨_, rfl, L, _, _, .ref a1, rfl, rfl, .inl (.inl (upd_same ..)), rfl, hQ _ .now t1 _ _ gB sB (by omega) (by omega) (.tup (.inl (.inl q1)) (.cons (.str _) .nil)) trivial trivial⟩
    · exact ⟨_, rfl, L, _, _, .ref a2, rfl, rfl, .inl (.inl (upd_same ..)), rfl, hQ _ .first t1 _ _ gB sB (by omega) (by omega) (.tup (.inl (.inl q2)) (.cons (.str _) .nil)) trivial trivial⟩
  obtain ⟨asx, es, hst1, hst2, hst3⟩ := hm.stp g1.fh
  have hel : es.length = m.pd.gvs.length := hst3.length
  generalize hng : m.pd.gvs.length = n at *
  refine ⟨_, rfl, d, _, rfl, hst1, asx, _, rfl, .inl (.inl (.inl (g1.fh _ _ hst2))), _, rfl, RgOk.of_le (Int.le_refl _) ?_ (by omega) ?_, fun pl hpl => ?_⟩
  · rw [List.length_map, hel]; omega
  · omega
  rw [List.length_map, hel, rg_nats]
  have npl := s1.off hpl
  have hplF := same_none g1.fh hpl
  have hplH := g1.fresh hpl
  have g2 := g1.lay (o := .lst ((nats n).map V.int)) hpl
  have s2 := s1.lay (o := .lst ((nats n).map V.int)) g1.fh hpl
  have hpl2 : (upd H1 pl (.lst ((nats n).map V.int))) pl = some (.lst ((nats n).map V.int)) := upd_same ..
  generalize (upd H1 pl (.lst ((nats n).map V.int))) = H2 at *
  refine ⟨_, rfl, pl, rfl, ⟨_, .inl (.inl hpl2)⟩, fun O hO => lc_list (K := K) (a := pl) (xs := (nats n).map V.int) (PvS H2 O fun i acc => acc = (((nats n).take i).filter fun x => decide (x ∉ m.order)).map V.int) (PvS.zero hO rfl) (fun i H3 _ h => .inl (.inl (h.1 _ _ hpl2))) ?_ ?_⟩
  · rintro i x H3 hx ⟨e3, acc, hacc, hl, r⟩
    obtain ⟨y, hy, rfl⟩ := get_map hx
    have hyl := lt_at hy
    rw [nats_len] at hyl
    obtain ⟨ao, ho1, ho2⟩ := hm.ord (g2.fh.trans e3)
    refine ⟨rfl, _, rfl, _, rfl, d, _, rfl, ho1, ao, _, rfl, .inl (.inl (.inl (e3 _ _ (g2.fh _ _ ho2)))), rfl, flat_ints _, _, rfl, ?_⟩
    rw [if_pos rfl, inV_int]
    refine ite2 (fun hc => ?_) (fun hc => ?_)
    · refine ⟨_, rfl, PvS.snoc hO e3 hacc hl (by omega) (.refl _) ?_⟩
      rw [r, filter_take_at hy, if_pos (by simpa using hc), List.map_append]; rfl
    · refine PvS.skip e3 hacc hl (.refl _) ?_
      rw [r, filter_take_at hy, if_neg (by simpa using hc), List.append_nil]
  rintro H3 ⟨e3, acc, hacc, hl, r⟩
  rw [List.length_map, List.take_length] at r
  subst r
  have hot : ∀ x ∈ (nats n).filter (fun x => decide (x ∉ m.order)), x ∉ m.order := fun x hx => by simpa using (List.mem_filter.mp hx).2
  have hotl : ((nats n).filter fun x => decide (x ∉ m.order)).length ≤ 4 := by
    have := List.length_filter_le (fun x => decide (x ∉ m.order)) (nats n)
    rw [nats_len] at this
    omega
  generalize ((nats n).filter fun x => decide (x ∉ m.order)) = oth at *
  have hplO : pl ≠ O := ne_of_none hpl2 hO
  have g3 := (g2.ext e3).pub hacc (g2.fresh hO)
  have e03 : Same F (upd F O (.lst (oth.map V.int))) := pub_same (g2.ext e3).fh hacc
  have s3 := (s2.ext ((Gr.refl g2.fh).ext e3)).pub (o := .lst (oth.map V.int)) (s2.off hO)
  have hOf : (upd F O (.lst (oth.map V.int))) O = some (.lst (oth.map V.int)) := upd_same ..
  have hplF3 : (upd F O (.lst (oth.map V.int))) pl = none := by rw [upd_ne hplO]; exact hplF
  have hpl3 := e3 _ _ hpl2
  generalize (upd F O (.lst (oth.map V.int))) = F3 at *
  refine ⟨_, rfl, rfl, _, rfl, ?_⟩
  refine ite2 (fun _ => ?_) (fun _ => ?_)
  · refine ⟨_, rfl, _, rfl, pl, _, rfl, .inl (.inl (.inl hpl3)), _, _, rfl, rfl, F3, ds, gl, t1, _, rfl, g3.fh, s3, by omega, ?_, fun mn t2 H4 g4 s4 k3 k4 mn0 mn1 => ?_⟩
    · rw [List.length_map, nats_len]
      exact Int.lt_of_le_of_lt (b := 5) (by omega) (by decide)
    rw [List.length_map, nats_len] at mn1
    obtain ⟨mn, rfl⟩ := Int.eq_ofNat_of_zero_le mn0
    have hmn : mn ≤ n := by have := mn1 (by omega); omega
    have hpl4 := g4.keep hpl3 npl
    have g04 := g3.trans g4
    refine ⟨_, rfl, _, rfl, by omega, by omega, fun L hL => ?_⟩
    rw [Int.toNat_natCast]
    have nL := s4.off hL
    have hLF := same_none g04.fh hL
    have hLH := g04.fresh hL
    have hplL : pl ≠ L := ne_of_none hpl4 hL
    refine lc_it walk_range (fun i H' => ∃ acc rest : List Int, ∃ t3, Gr (Sg ds gl) F H F3 H' ∧ SrcAt F3 H' ds gl t3 ∧ t2 ≤ t3 ∧ t3 ≤ t2 + i ∧ H' pl = some (.lst (rest.map V.int)) ∧ H' L = some (.lst (acc.map V.int)) ∧ acc.length = i ∧ (acc ++ rest).Perm (nats n)) ⟨[], nats n, t2, g04.lay hL, s4.lay g04.fh hL, Int.le_refl _, by simp, by rw [upd_ne hplL]; exact hpl4, upd_same .., rfl, .refl _⟩ (fun _ _ _ _ => trivial) ?_ ?_
    · rintro i x H5 H6 hi ⟨acc, rest, t3, g5, s5, k5, k6, hp5, hL5, hal5, hpm⟩ ⟨rfl, rfl⟩
      have hrl : acc.length + rest.length = n := by
        have := hpm.length_eq
        rwa [List.length_append, nats_len] at this
      refine ⟨rfl, _, rfl, .inl ⟨rfl, _, .inl (.inl hp5)⟩, _, rfl, _, rfl, pl, _, rfl, .inl (.inl (.inl hp5)), F3, ds, gl, t3, _, rfl, g5.fh, s5, by omega, ?_, fun r t4 H7 g6 s6 k7 k8 r0 r1 => ?_⟩
      · rw [List.length_map]
        exact Int.lt_of_le_of_lt (b := 4) (by omega) (by decide)
      rw [List.length_map] at r1
      obtain ⟨r', rfl⟩ := Int.eq_ofNat_of_zero_le r0
      have hr' : r' < rest.length := by have := r1 (by omega); omega
      have hy := List.getElem?_eq_getElem hr'
      generalize rest[r'] = y at hy
      have hp7 := g6.keep hp5 npl
      have hL7 := g6.keep hL5 nL
      have g7 := (g5.trans g6).set (o := .lst ((rest.map V.int).eraseIdx r')) hplF3 (.inr hplH)
      have s7 := s6.set (o := .lst ((rest.map V.int).eraseIdx r')) npl
      refine ⟨pl, _, _, r', .int y, rfl, rfl, hp7, by omega, by omega, seqNat (by rw [List.length_map]; exact hr'), by rw [List.getElem?_map, hy]; rfl, ?_⟩
      refine ⟨acc.map V.int, by rw [upd_ne hplL.symm]; exact hL7, by rw [List.length_map]; exact bigS (by omega), acc ++ [y], rest.eraseIdx r', t4, g7.set hLF (.inr hLH), s7.set nL, by omega, by have : ((i + 1 : Nat) : Int) = i + 1 := rfl; omega, ?_, by rw [List.map_append]; exact upd_same .., by rw [List.length_append, hal5]; rfl, pop_perm hy hpm⟩
      rw [upd_ne hplL, map_era]
      exact upd_same ..
    rintro H5 ⟨sts, rest, t3, g5, s5, k5, k6, hp5, hL5, hsl, hpm⟩
    have hrng : ∀ x ∈ sts, 0 ≤ x ∧ x < (n : Int) := fun x hx => nats_mem (hpm.mem_iff.mp (List.mem_append_left _ hx))
    refine ⟨_, rfl, _, rfl, _, rfl, F3, ds, gl, t3, 2, rfl, g5.fh, s5, by omega, by decide, fun c t4 H6 g6 s6 k7 k8 c0 c1 => ?_⟩
    have hL6 := g6.keep hL5 nL
    have g06 := g5.trans g6
    obtain ⟨c', rfl⟩ := Int.eq_ofNat_of_zero_le c0
    refine ⟨_, rfl, L, _, rfl, .inl (.inl hL6), fun q hq => ⟨L, q, _, _, rfl, rfl, by rw [upd_ne (ne_of_none hL6 hq)]; exact hL6, upd_same .., ?_, fun nf hnf => ⟨(by show 2 ≤ sizeLine; decide), fun tp htp => ?_⟩⟩⟩
    · have := cutV_length (sts.map V.int) none (some (c' : Int))
      rw [List.length_map] at this ⊢
      exact Nat.le_of_lt (bigS (by omega))
    rw [cut_to, ← List.map_take] at hnf htp ⊢
    rw [← List.map_append] at htp ⊢
    have g7 := g06.lay (o := .lst ((sts.take c').map V.int)) hq
    have s7 := s6.lay (o := .lst ((sts.take c').map V.int)) g06.fh hq
    have g8 := g7.new (o := .lst ((sts ++ sts.take c').map V.int)) hnf
    have s8 := s7.ext ((Gr.refl g7.fh (S := N0)).new (o := .lst ((sts ++ sts.take c').map V.int)) hnf)
    have g9 := g8.new (o := .tup [.str "in", .ref nf]) htp
    have s9 := s8.ext ((Gr.refl g8.fh (S := N0)).new (o := .tup [.str "in", .ref nf]) htp)
    have hne : nf ≠ tp := fun z => by rw [← z, upd_same] at htp; cases htp
    refine hQ _ (.inn (sts ++ sts.take c')) t4 _ _ g9 s9 (by omega) (by omega) (.tup (.inl (.inl (upd_same ..))) (.cons (.str _) (.cons (.lst (.inl (.inl (by rw [upd_ne hne]; exact upd_same ..))) (dpa_ints _)) .nil))) ⟨?_, fun x hx => ?_⟩ trivial
    · rw [List.length_append, List.length_take]
      omega
    · show 0 ≤ x ∧ x < ((m.pd.gvs.length : Nat) : Int)
      rw [hng]
      rcases List.mem_append.mp hx with h | h
      · exact hrng x h
      · exact hrng x (List.mem_of_mem_take h)
  refine ⟨_, rfl, F3, ds, gl, t1, 5, rfl, g3.fh, s3, by omega, by decide, fun a t2 H4 g4 s4 k3 k4 a0 a1 => ⟨_, _, rfl, rfl, _, rfl, ?_, ?_, fun W hW => ?_⟩⟩
  · omega
  · have := a1 (by decide)
    omega
  obtain ⟨a', rfl⟩ := Int.eq_ofNat_of_zero_le a0
  have ha5 : a' < 5 := by have := a1 (by decide); omega
  rw [show (1 + (a' : Int)).toNat = a' + 1 by omega]
  have g04 := g3.trans g4
  have nW := s4.off hW
  have hWF := same_none g04.fh hW
  have hWH := g04.fresh hW
  refine lc_it walk_range (fun i H' => ∃ es : List Addr, Gr N0 F3 H4 F3 H' ∧ H' W = some (.lst (es.map V.ref)) ∧ es.length = i ∧ es.Nodup ∧ ∀ e ∈ es, e ≠ W ∧ H4 e = none ∧ H' e = some (.lst [])) ⟨[], (Gr.refl g04.fh).lay hW, upd_same .., rfl, List.nodup_nil, fun _ h => by cases h⟩ (fun _ _ _ _ => trivial) ?_ ?_
  · rintro i x H7 H8 hi ⟨es, g7, hW7, hel, hend, hes⟩ ⟨rfl, rfl⟩
    refine ⟨rfl, Nat.zero_le _, fun e he => ?_⟩
    have hWe : W ≠ e := ne_of_none hW7 he
    have hen : e ∉ es := fun z => by
      have := (hes e z).2.2
      rw [he] at this; cases this
    refine ⟨es.map V.ref, by rw [upd_ne hWe]; exact hW7, by rw [List.length_map]; exact bigS (by omega), es ++ [e], (g7.lay he).set hWF (.inr hW), by rw [List.map_append]; exact upd_same .., by rw [List.length_append, hel]; rfl, List.nodup_append.mpr ⟨hend, by simp, fun u hu v hv e' => hen (by rw [List.mem_singleton.mp hv] at e'; rw [← e']; exact hu)⟩, fun u hu => ?_⟩
    rcases List.mem_append.mp hu with h | h
    · obtain ⟨huW, q1, q2⟩ := hes u h
      have hue : u ≠ e := fun z => hen (z ▸ h)
      exact ⟨huW, q1, by rw [upd_ne huW, upd_ne hue]; exact q2⟩
    · rw [List.mem_singleton.mp h]
      exact ⟨hWe.symm, g7.fresh he, by rw [upd_ne hWe.symm]; exact upd_same ..⟩
  rintro H5 ⟨ls, g5, hW5, hll, hlnd, hls⟩
  have gW := (g04.trans (g5.w (S := Sg ds gl))).pub hW5 hWH
  have eW : Same F3 (upd F3 W (.lst (ls.map V.ref))) := pub_same g5.fh hW5
  have sW := (s4.ext g5).pub (o := .lst (ls.map V.ref)) nW
  have hWf : (upd F3 W (.lst (ls.map V.ref))) W = some (.lst (ls.map V.ref)) := upd_same ..
  have hoffl : ∀ l ∈ ls, ¬ Sg ds gl l := fun l hl => s4.off (hls l hl).2.1
  have hls5 : LsAt (upd F3 W (.lst (ls.map V.ref))) H H5 ls (ls.map fun _ => []) := ⟨by rw [List.length_map], hlnd, fun j l xs h1 h2 => by
    rw [List.getElem?_map, h1] at h2
    cases h2
    obtain ⟨z1, z2, z3⟩ := hls l (mem_at h1)
    exact ⟨g04.fresh z2, by rw [upd_ne z1]; exact same_none g04.fh z2, z3⟩⟩
  have hOf4 := eW _ _ hOf
  generalize (upd F3 W (.lst (ls.map V.ref))) = F4 at *
  have hfl : (ls.map fun _ => ([] : List Int)).flatten = [] := flat_none ls
  refine ⟨_, rfl, _, rfl, W, _, rfl, .inl (.inl (.inl hW5)), F4, ds, gl, t2, _, rfl, gW.fh, sW, by omega, ?_, fun b t3 H6 g6 s6 k5 k6 b0 b1 => ⟨_, _, rfl, rfl, ?_⟩⟩
  · rw [List.length_map, hll]
    exact Int.lt_of_le_of_lt (b := 5) (by omega) (by decide)
  rw [List.length_map, hll] at b1
  obtain ⟨b', rfl⟩ := Int.eq_ofNat_of_zero_le b0
  have hb' : b' < a' + 1 := by have := b1 (by omega); omega
  have g06 := gW.trans g6
  have hls6 := hls5.ext g6 hoffl
  obtain ⟨ao, ho1, ho2⟩ := hm.ord (g06.ff.trans g06.fh)
  refine ⟨_, rfl, d, _, rfl, ho1, ao, rfl, ⟨_, .inl (.inl (g06.fh _ _ (g06.ff _ _ ho2)))⟩, for_list (K := K) (a := ao) (xs := m.order.map V.int) (fun i σ H' => ∃ t', ∃ xss : List (List Int), ∃ x9, σ = [some (.ref ds), some (.ref d), some (.int fo), some (.ref pl), some (.ref O), none, none, some (.ref W), some (.int (1 + (b' : Int))), x9, none, none] ∧ Gr (Sg ds gl) F H F4 H' ∧ SrcAt F4 H' ds gl t' ∧ t3 ≤ t' ∧ t' ≤ t3 + i ∧ LsAt F4 H H' ls xss ∧ xss.flatten.Perm (m.order.take i)) ⟨t3, _, none, rfl, g06, s6, Int.le_refl _, by simp, hls6, by rw [hfl]; exact .refl _⟩ ?_ ?_ ?_⟩
  · rintro i σ H' _ ⟨t', xss, x9, rfl, g, _⟩
    exact .inl (.inl (g.fh _ _ (g.ff _ _ ho2)))
  · rintro i x σ H7 hx ⟨t', xss, x9, rfl, g7, s7, k7, k8, hls7, hpm⟩
    obtain ⟨y, hy, rfl⟩ := get_map hx
    have hyl := lt_at hy
    refine ⟨_, rfl, _, rfl, _, rfl, F4, ds, gl, t', 1 + (b' : Int), rfl, g7.fh, s7, by omega, Int.lt_of_le_of_lt (b := 5) (by omega) (by decide), fun r t4 H8 g8 s8 k9 k10 r0 r1 => ?_⟩
    obtain ⟨r', rfl⟩ := Int.eq_ofNat_of_zero_le r0
    have hr' : r' < ls.length := by have := r1 (by omega); omega
    have hls8 := hls7.ext g8 hoffl
    obtain ⟨l, xs, hl1, hl2, hl3, hl4, hl5⟩ := hls8.get hr'
    have hxl := len_flat hl2
    have hpl := hpm.length_eq
    rw [List.length_take] at hpl
    refine ⟨W, _, _, .ref l, rfl, rfl, .inl (.inl (g8.fh _ _ hWf)), atI_nat (by rw [List.getElem?_map, hl1]; rfl), .inl ⟨rfl, _, .inl (.inl hl5)⟩, _, rfl, l, _, .int y, rfl, rfl, hl5, by rw [List.length_map]; exact bigS (by omega), ?_⟩
    refine ⟨t4, xss.set r' (xs ++ [y]), _, rfl, (g7.trans g8).set hl4 (.inr hl3), s8.set (hoffl l (mem_at hl1)), by omega, by have : ((i + 1 : Nat) : Int) = i + 1 := rfl; omega, ?_, ?_⟩
    · have z := hls8.put (ys := xs ++ [y]) hl1
      rw [List.map_append] at z
      exact z
    · rw [take_at hy]
      exact (flat_set (.refl _) hl2).trans (hpm.append_right _)
  rintro σ H7 ⟨t4, xss, x9, rfl, g7, s7, k7, k8, hls7, hpm⟩
  rw [List.length_map] at k8
  rw [List.length_map, List.take_length] at hpm
  refine ⟨_, rfl, _, rfl, _, rfl, F4, ds, gl, t4, 5, rfl, g7.fh, s7, by omega, by decide, fun p t5 H8 g8 s8 k9 k10 p0 p1 => ⟨_, _, rfl, rfl, _, rfl, _, _, rfl, rfl, ⟨by decide, by decide, by decide⟩, F4, ds, gl, t5, _, rfl, g8.fh, s8, by omega, by decide, fun q t6 H9 g9 s9 k11 k12 q0 q1 => ⟨_, _, rfl, rfl, (by show 2 ≤ sizeLine; decide), fun q2 hq2 => ?_⟩⟩⟩
  have g09 := (g7.trans g8).trans g9
  have hls9 := (hls7.ext g8 hoffl).ext g9 hoffl
  have gA := g09.lay (o := .lst [.int (-1 - p), .int (5 + q)]) hq2
  have sA := s9.lay (o := .lst [.int (-1 - p), .int (5 + q)]) g9.fh hq2
  have hlsA := hls9.ext ((Gr.refl g9.fh (S := N0)).lay (o := .lst [.int (-1 - p), .int (5 + q)]) hq2) (fun _ _ z => z)
  have hOA : (upd H9 q2 (.lst [.int (-1 - p), .int (5 + q)])) O = some (.lst (oth.map V.int)) := gA.fh _ _ hOf4
  refine ⟨O, q2, _, _, rfl, rfl, hOA, upd_same .., ?_, fun O2 hO2 => ?_⟩
  · rw [List.length_map]
    exact Nat.le_of_lt (bigS (by show oth.length + 2 ≤ _; omega))
  have hapd : oth.map V.int ++ [V.int (-1 - p), V.int (5 + q)] = (oth ++ [-1 - p, 5 + q]).map V.int := by rw [List.map_append]; rfl
  have hox : ∀ x ∈ oth ++ [-1 - p, 5 + q], x ∉ m.order := fun x hx hxm => by
    have := horg x hxm
    rcases List.mem_append.mp hx with h | h
    · exact hot x h hxm
    · simp at h
      rcases h with rfl | rfl <;> omega
  have hoxl : (oth ++ [-1 - p, 5 + q]).length = oth.length + 2 := by rw [List.length_append]; rfl
  show tSeq _ _ _ _ (upd (upd H9 q2 (.lst [.int (-1 - p), .int (5 + q)])) O2 (.lst (oth.map V.int ++ [V.int (-1 - p), V.int (5 + q)])))
  rw [hapd]
  generalize (oth ++ [-1 - p, 5 + q]) = oth2 at *
  generalize (upd H9 q2 (.lst [.int (-1 - p), .int (5 + q)])) = HA at *
  have gnew := (Gr.refl gA.fh (S := N0)).new (o := .lst (oth2.map V.int)) hO2
  have g10 := gA.new (o := .lst (oth2.map V.int)) hO2
  have s10 := sA.ext gnew
  have hls10 := hlsA.ext gnew (fun _ _ z => z)
  have hO2f : (upd F4 O2 (.lst (oth2.map V.int))) O2 = some (.lst (oth2.map V.int)) := upd_same ..
  have hWf5 := gnew.ff _ _ hWf
  generalize (upd F4 O2 (.lst (oth2.map V.int))) = F5 at *
  generalize (upd HA O2 (.lst (oth2.map V.int))) = H10 at *
  refine ⟨_, rfl, F5, ds, gl, t6, 4, rfl, g10.fh, s10, by omega, by decide, fun kk t7 H11 g11 s11 k13 k14 kk0 kk1 => ?_⟩
  have kk4 := kk1 (by decide)
  obtain ⟨kn, rfl⟩ := Int.eq_ofNat_of_zero_le kk0
  have hls11 := hls10.ext g11 hoffl
  refine ⟨_, rfl, by omega, by omega, ?_⟩
  rw [Int.toNat_natCast]
  refine for_it walk_range (fun i σ H' => ∃ t', ∃ xss : List (List Int), ∃ ex : List Int, ∃ x10 x11, σ = [some (.ref ds), some (.ref d), some (.int fo), some (.ref pl), some (.ref O2), none, none, some (.ref W), some (.int (1 + (b' : Int))), x9, x10, x11] ∧ Gr (Sg ds gl) F H F5 H' ∧ SrcAt F5 H' ds gl t' ∧ t7 ≤ t' ∧ t' ≤ t7 + 2 * i ∧ LsAt F5 H H' ls xss ∧ xss.flatten.Perm (m.order ++ ex) ∧ ex.length = i ∧ ∀ x ∈ ex, x ∉ m.order) ⟨t7, xss, [], none, none, rfl, g10.trans g11, s11, Int.le_refl _, by simp, hls11, by rw [List.append_nil]; exact hpm, rfl, fun _ h => by cases h⟩ (fun _ _ _ _ _ => trivial) ?_ ?_
  · rintro i x σ H12 H13 hi ⟨t', xss, ex, x10, x11, rfl, g12, s12, k15, k16, hls12, hpm, hexl, hex⟩ ⟨rfl, rfl⟩
    refine ⟨_, rfl, _, rfl, _, rfl, O2, _, rfl, .inl (.inl (.inl (g12.fh _ _ hO2f))), F5, ds, gl, t', _, rfl, g12.fh, s12, by omega, ?_, fun r t8 H14 g14 s14 k17 k18 r0 r1 => ?_⟩
    · rw [List.length_map]
      exact Int.lt_of_le_of_lt (b := 10) (by omega) (by decide)
    rw [List.length_map] at r1
    obtain ⟨r', rfl⟩ := Int.eq_ofNat_of_zero_le r0
    have hr' : r' < oth2.length := by have := r1 (by omega); omega
    have hy := List.getElem?_eq_getElem hr'
    have hym := hox _ (List.getElem_mem hr')
    generalize oth2[r'] = y at hy hym
    have g014 := g12.trans g14
    refine ⟨O2, _, _, .int y, rfl, rfl, .inl (.inl (g14.fh _ _ hO2f)), atI_nat (by rw [List.getElem?_map, hy]; rfl), ?_⟩
    refine ⟨_, rfl, _, rfl, _, rfl, W, _, rfl, .inl (.inl (.inl (g14.fh _ _ hWf5))), F5, ds, gl, t8, _, rfl, g14.fh, s14, by omega, ?_, fun r2 t9 H15 g15 s15 k19 k20 r20 r21 => ?_⟩
    · rw [List.length_map, hll]
      exact Int.lt_of_le_of_lt (b := 5) (by omega) (by decide)
    rw [List.length_map] at r21
    obtain ⟨r2', rfl⟩ := Int.eq_ofNat_of_zero_le r20
    have hr2' : r2' < ls.length := by have := r21 (by omega); omega
    have hls15 := (hls12.ext g14 hoffl).ext g15 hoffl
    obtain ⟨l, xs, hl1, hl2, hl3, hl4, hl5⟩ := hls15.get hr2'
    have hxl := len_flat hl2
    have hpl := hpm.length_eq
    rw [List.length_append] at hpl
    refine ⟨W, _, _, .ref l, rfl, rfl, .inl (.inl (g15.fh _ _ hWf5)), atI_nat (by rw [List.getElem?_map, hl1]; rfl), .inl ⟨rfl, _, .inl (.inl hl5)⟩, _, rfl, l, _, 0, .int y, rfl, rfl, hl5, by rw [List.length_map]; exact bigS (by omega), by decide, by decide, ?_⟩
    refine ⟨t9, xss.set r2' (y :: xs), ex ++ [y], _, _, rfl, (g014.trans g15).set hl4 (.inr hl3), s15.set (hoffl l (mem_at hl1)), by omega, by have : ((i + 1 : Nat) : Int) = i + 1 := rfl; omega, hls15.put (ys := y :: xs) hl1, ?_, by rw [List.length_append, hexl]; rfl, fun z hz => ?_⟩
    · rw [← List.append_assoc]
      exact (flat_set (List.perm_append_singleton y xs).symm hl2).trans (hpm.append_right _)
    · rcases List.mem_append.mp hz with h | h
      · exact hex z h
      · rw [List.mem_singleton.mp h]; exact hym
  rintro σ H12 ⟨t', xss, ex, x10, x11, rfl, g12, s12, k15, k16, hls12, hpm, hexl, hex⟩
  refine ⟨_, rfl, (by show 2 ≤ sizeLine; decide), fun tp htp => ?_⟩
  obtain ⟨F6, g6', e6, n6, hp6⟩ := pub_ints ls xss g12 (paired_of hls12.len fun j l xs h1 h2 => by
    obtain ⟨a, b, c⟩ := hls12.at_ j l xs h1 h2
    exact ⟨a, c⟩)
  have s6' : SrcAt F6 H12 ds gl t' := s12.frame (by rw [n6 ds fun z => hoffl _ z (.inl rfl)]; exact s12.fd) (by rw [n6 gl fun z => hoffl _ z (.inr rfl)]; exact s12.fg)
  have gT := (Gr.refl g6'.fh (S := N0)).new (o := .tup [.str "group", .ref W]) htp
  refine hQ _ (.grp xss) t' _ _ (g6'.new (o := .tup [.str "group", .ref W]) htp) (s6'.ext gT) (by omega) (by omega) (.tup (.inl (.inl (upd_same ..))) (.cons (.str _) (.cons (.lst (.inl (.inl (gT.ff _ _ (e6 _ _ hWf5)))) (dpa_same gT.ff _ _ (dpa_lists hp6))) .nil))) ⟨?_, ?_, fun s hs' => ?_⟩ ?_
  · rw [← hls12.len]; omega
  · rw [hpm.length_eq, List.length_append]; omega
  · have hso : s ∈ m.order := hmo.op.mem_iff.mpr hs'
    rw [hpm.count_eq, List.count_append, hond.count, if_pos hso, List.count_eq_zero_of_not_mem (fun z => hex s z hso)]
  · show xss.length < 1000
    rw [← hls12.len]; omega
end
end S3

/-! ### L19: the other models -/
namespace S3
open PySem PySem.Spec PyProof.Rows L2
theorem valV_at : ∀ {kvs : List (Key × V)} {j : Nat} {k : Key} {v : V}, (kvs.map (·.1)).Nodup → kvs[j]? = some (k, v) → valV kvs k = some v
  | [], _, _, _, _, h => by cases h
  | a :: l, 0, _, _, _, h => by cases h; exact valV_pos rfl
  | a :: l, j + 1, k, v, hn, h => by
    rw [List.map_cons, List.nodup_cons] at hn
    have h' : l[j]? = some (k, v) := h
    exact (valV_neg fun e => hn.1 (by rw [e]; exact List.mem_map.mpr ⟨_, mem_at h', rfl⟩)).trans (valV_at hn.2 h')
theorem take_put {kvs : List (Key × V)} {j : Nat} {k : Key} {v : V} (hn : (kvs.map (·.1)).Nodup) (h : kvs[j]? = some (k, v)) : putK (kvs.take j) k v = kvs.take (j + 1) := by
  rw [putK_new v (valV_nokey (by rw [List.map_take]; exact not_in_take hn (by rw [List.getElem?_map, h]; rfl))), take_at h]
theorem del_upd {F : Hp} {d : Addr} {u : HO} (h : F d = some u) : upd (del F d) d u = F := by
  funext a
  by_cases e : a = d
  · subst e; rw [upd_same, h]
  · rw [upd_ne e, del_ne e]
theorem vput_ne {kvs : List (Key × V)} {a b : Str} {y : V} (h : b ≠ a) : valV (putK kvs (Sum.inr a) y) (Sum.inr b) = valV kvs (Sum.inr b) := by
  rw [valV_put, if_neg (ky_ne h)]
theorem vput_eq {kvs : List (Key × V)} {k : Key} {y : V} : valV (putK kvs k y) k = some y := by
  rw [valV_put, if_pos rfl]
theorem MdS.subs {m : MD} (h : MdS m) : m.watched.Sublist m.pd.lmp ∧ m.usable.Sublist m.pd.btn := by
  refine ⟨?_, ?_⟩
  · rw [← h.wt]; exact List.filter_sublist
  · rw [← h.us]; exact List.filter_sublist
structure OtherOk (part : Str) (m m' : MD) : Prop where
  pd : m'.pd = m.pd
  ps : ∀ x ∈ m'.poss, x ∈ m.poss
  w : part = "watched" → m'.poss = m.poss ∧ m'.usable = m.usable
  u : part = "usable" → m'.poss = m.poss ∧ m'.watched = m.watched
  o : part = "order" → m'.watched = m.watched ∧ m'.usable = m.usable
section
variable {K : PySem.W.Frag} {F F' : Hp} {kvs : List (Key × V)} {m : MD} {o q : Addr}
theorem mod_order {vst : V} {ord poss : List Int} (hx : ModX K F kvs m) (hF : F' o = some (.dK (putK (putK kvs (Sum.inr "order") (.ref q)) (Sum.inr "start") vst))) (e : Same F F') (hq : F' q = some (.lst (ord.map V.int))) (hst : Dp K F' vst (pB (poss.map fun s => (s, s)))) : ModAt K F' o ⟨m.pd, ord, poss, m.watched, m.usable, m.way⟩ := by
  obtain ⟨ap, al, as, ao, st, aw, au, es, rfl, x1, x2, x3, x4, x5, x6, x7, x8⟩ := hx
  exact ⟨_, hF, ⟨ap, (vput_ne (by decide)).trans ((vput_ne (by decide)).trans (v8 v3p)), e _ _ x1⟩, ⟨al, (vput_ne (by decide)).trans ((vput_ne (by decide)).trans (v8 v3l)), e _ _ x2⟩, ⟨as, es, (vput_ne (by decide)).trans ((vput_ne (by decide)).trans (v8 v3s)), e _ _ x3, paired_giv x4 e⟩, ⟨q, (vput_ne (by decide)).trans vput_eq, hq⟩, ⟨vst, vput_eq, hst⟩, ⟨aw, (vput_ne (by decide)).trans ((vput_ne (by decide)).trans v8w), e _ _ x7⟩, ⟨au, (vput_ne (by decide)).trans ((vput_ne (by decide)).trans v8u), e _ _ x8⟩, (vput_ne (by decide)).trans ((vput_ne (by decide)).trans v8y)⟩
theorem mod_watched {sub : List Str} (hx : ModX K F kvs m) (hF : F' o = some (.dK (putK kvs (Sum.inr "watched") (.ref q)))) (e : Same F F') (hq : F' q = some (.lst (sub.map V.str))) : ModAt K F' o ⟨m.pd, m.order, m.poss, sub, m.usable, m.way⟩ := by
  obtain ⟨ap, al, as, ao, st, aw, au, es, rfl, x1, x2, x3, x4, x5, x6, x7, x8⟩ := hx
  exact ⟨_, hF, ⟨ap, (vput_ne (by decide)).trans (v8 v3p), e _ _ x1⟩, ⟨al, (vput_ne (by decide)).trans (v8 v3l), e _ _ x2⟩, ⟨as, es, (vput_ne (by decide)).trans (v8 v3s), e _ _ x3, paired_giv x4 e⟩, ⟨ao, (vput_ne (by decide)).trans v8o, e _ _ x5⟩, ⟨st, (vput_ne (by decide)).trans v8s, dp_same e _ _ x6⟩, ⟨q, vput_eq, hq⟩, ⟨au, (vput_ne (by decide)).trans v8u, e _ _ x8⟩, (vput_ne (by decide)).trans v8y⟩
theorem mod_usable {sub : List Str} (hx : ModX K F kvs m) (hF : F' o = some (.dK (putK kvs (Sum.inr "usable") (.ref q)))) (e : Same F F') (hq : F' q = some (.lst (sub.map V.str))) : ModAt K F' o ⟨m.pd, m.order, m.poss, m.watched, sub, m.way⟩ := by
  obtain ⟨ap, al, as, ao, st, aw, au, es, rfl, x1, x2, x3, x4, x5, x6, x7, x8⟩ := hx
  exact ⟨_, hF, ⟨ap, (vput_ne (by decide)).trans (v8 v3p), e _ _ x1⟩, ⟨al, (vput_ne (by decide)).trans (v8 v3l), e _ _ x2⟩, ⟨as, es, (vput_ne (by decide)).trans (v8 v3s), e _ _ x3, paired_giv x4 e⟩, ⟨ao, (vput_ne (by decide)).trans v8o, e _ _ x5⟩, ⟨st, (vput_ne (by decide)).trans v8s, dp_same e _ _ x6⟩, ⟨aw, (vput_ne (by decide)).trans v8w, e _ _ x7⟩, ⟨q, vput_eq, hq⟩, (vput_ne (by decide)).trans v8y⟩
end
section
variable {P : Program} {w : World} {K : PySem.W.Frag} {mg : Str → Option Value} {base : Heap} {CC DC UB HF : Addr}
abbrev s_lot : Stmt := top 68
abbrev nm_lot : List Str := ["_law_source_here", "_law_model_here", "_law_part", "_law_other_here", "_law_word_here", "_law_pool", "_law_one", "_law_site"]
theorem sc_lot : FnScope nm_lot ["_law_source_here", "_law_model_here", "_law_part"] (defScope s_lot) := ⟨rfl, rfl, rfl, by decide +kernel, rfl, by decide +kernel, by decide +kernel⟩
/- slots: 0 _law_source_here 1 _law_model_here 2 _law_part 3 _law_other_here 4 _law_word_here 5 _law_pool 6 _law_one 7 _law_site -/
def spLot (K : PySem.W.Frag) : Sp := fun vs H Q _ => ∃ F ds gl t d part m kvs, vs = [.ref ds, .ref d, .str part] ∧ Same F H ∧ SrcAt F H ds gl t ∧ t < 2 ^ 35 ∧ F d = some (.dK kvs) ∧ ModX K F kvs m ∧ MdS m ∧ (part = "watched" ∨ part = "usable" ∨ part = "order") ∧
  ∀ d' m' t' F' H', Gr (Sg ds gl) F H F' H' → SrcAt F' H' ds gl t' → t ≤ t' → t' ≤ t + 20 → ModAt K F' d' m' → MdS m' → OtherOk part m m' → Q (.ref d') H'
theorem cal_lot (D : DefX K mg "_law_other" s_lot) (T : Tx K mg CC DC) (cDr : C8.Cal P w K mg base 1 "_law_draw" spLdr []) : C8.Cal P w K mg base 2 "_law_other" (spLot K) [] := by
  refine calD (ps := ["_law_source_here", "_law_model_here", "_law_part"]) D (fun _ _ _ _ _ _ us hl => match us, hl with | [_, _, _], _ => rfl) sc_lot ?_ ?_
  · rintro vs H Q E ⟨F, ds, gl, t, d, part, m, kvs, rfl, _⟩; rfl
  rintro f cdv A outer s0 H vs Q E hr ⟨F, ds, gl, t, d, part, m, kvs, rfl, hF, hs, ht, hdF, hx, hms, hpart, hQ⟩
  have hu := up 1 hr
  refine ⟨_, (pss_cons (ps_set (i := 3) sc_lot.nd rfl (.inl rfl) pe_dnewK)
      (pss_cons (ps_lock (ps_for PassesOwn.never rfl (pi_keys (pv 1)) (pg_name (i := 4) sc_lot.nd rfl (.inl rfl))
      (pss_one (ps_dput hu (pv 3) (pv 4) (pe_dget hu (pv 1) (pv 4) (fun _ _ => rfl)) rfl))))
      (pss_cons (ps_if (pt_cmpR op_eq (pv 2) pe_str (nomark _))
      (pss_cons (ps_dput hu (pv 3) pe_str (pe_slice (sl_listK K rfl) (pe_dget hu (pv 1) pe_str (fun _ _ => rfl)) po_none (po_some (pe_op op_add pe_int (C8.pe_c cDr hr (by decide) rfl (pa_cons (pv 0) (pa_cons (pe_callB (call_len_seqK K rfl) (by rfl) T.len (by decide +kernel) (pa_cons (pe_dget hu (pv 1) pe_str (fun _ _ => rfl)) pa_nil)) pa_nil)))))) rfl)
        (pss_cons (ps_dput hu (pv 3) pe_str (pe_lc (own := [("_law_site", 7)]) (g := (gName 7))  rfl sc_lot.nd (pi_listK K rfl (pe_callB (cr_sortedK K rfl) (by rfl) T.sorted (by decide +kernel) (pa_cons (pe_dget hu (pv 3) pe_str (fun _ _ => rfl)) pa_nil))) (blkOk_by (own := [("_law_site", 7)]) (N := nm_lot) (sc := defScope s_lot) (by decide +kernel)) (fun _ _ _ _ _ => (pg_name (i := 7) sc_lot.nd rfl (.inl rfl))) (fun _ _ _ _ _ => pts_nil) (fun _ _ _ _ _ => (pe_tup (pa_cons (pv 7) (pa_cons (pv 7) pa_nil))))) rfl)
        (pss_one (ps_ret (pv 3)))))
      pss_nil)
      (pss_cons (ps_set (i := 5) sc_lot.nd rfl (.inl rfl) (pe_dget hu (pv 1) (pe_ix (ix_listK K rfl) (pe_lst (pa_cons pe_str (pa_cons pe_str pa_nil))) (pe_callTy call_int1 (by rfl) T.int (by decide +kernel) (pa_cons (pe_cmpR op_eq (pv 2) pe_str (nomark _)) pa_nil)) (fun _ _ => rfl)) (fun _ _ => rfl)))
      (pss_cons (ps_dput hu (pv 3) (pv 2) (pe_lc (own := [("_law_one", 6)]) (g := (gName 6))  rfl sc_lot.nd (pi_listK K rfl (pv 5)) (blkOk_by (own := [("_law_one", 6)]) (N := nm_lot) (sc := defScope s_lot) (by decide +kernel)) (fun _ _ _ _ _ => (pg_name (i := 6) sc_lot.nd rfl (.inl rfl))) (fun _ _ _ _ _ => pts_one (pt_cmpR op_eq (C8.pe_c cDr hr (by decide) rfl (pa_cons (pv 0) (pa_cons pe_int pa_nil))) pe_int (nomark _))) (fun _ _ _ _ _ => (pv 6))) rfl)
      (pss_one (ps_ret (pv 3)))))))), ?_⟩
  have ht0 := hs.t0
  have hmo := hms.ok
  have hc := hmo.cs
  have hlen : m.poss.length ≤ 3 := hc.len
  have hol : m.order.length ≤ 3 := by rw [hmo.op.length_eq]; exact hlen
  have hone : m.order ≠ [] := fun z => hc.ne (List.length_eq_zero_iff.mp (by show m.poss.length = 0; rw [← hmo.op.length_eq, z]; rfl))
  obtain ⟨hsw, hsu⟩ := hms.subs
  have hmA : ModAt K F d m := hx.at hdF
  have hx' := hx
  obtain ⟨ap, al, as, ao, st, aw, au, es, hkv, x1, x2, x3, x4, x5, x6, x7, x8⟩ := hx
  have hks : kvs.map (·.1) = kys ["pushes", "lights", "steps", "order", "start", "watched", "usable", "way"] := by rw [hkv]; exact k8
  have hkn : (kvs.map (·.1)).Nodup := by rw [hks]; decide +kernel
  have hkl : kvs.length = 8 := by
    have := congrArg List.length hks
    rwa [List.length_map] at this
  refine fun o ho => ?_
  have gA := (Gr.refl hF (S := N0)).lay (o := .dK []) ho
  have hoF := same_none hF ho
  have hdA := gA.fh _ _ hdF
  have hod : o ≠ d := fun z => by rw [← z, hoF] at hdF; cases hdF
  have hoA : (upd H o (.dK [])) o = some (.dK []) := upd_same ..
  generalize (upd H o (.dK [])) = HA at *
  refine ⟨d, .dK kvs, hdA, trivial, fun od => ?_⟩
  refine ⟨_, rfl, d, od, rfl, .inl ⟨kvs, upd_same .., for_it walk_keys (fun j σ H2 => ∃ x4, σ = [some (.ref ds), some (.ref d), some (.str part), some (.ref o), x4, none, none, none] ∧ Gr (fun z => z = o) (del F d) (upd HA d (.frz od (.dK kvs))) (del F d) H2 ∧ H2 d = some (.frz od (.dK kvs)) ∧ H2 o = some (.dK (kvs.take j))) ?_ ?_ ?_ ?_⟩⟩
  · exact ⟨none, rfl, Gr.refl (Gr.locked (u := .dK kvs) gA.fh), upd_same .., by rw [upd_ne hod]; exact hoA⟩
  · rintro j σ H2 _ ⟨y4, rfl, gj, hd2, _⟩
    exact hd2
  · rintro j y σ H2 H3 hj ⟨y4, rfl, gj, hd2, ho2⟩ ⟨rfl, k, v0, hkv', rfl⟩
    have hkj : (kvs.map (·.1))[j]? = some k := by rw [List.getElem?_map, hkv']; rfl
    rw [hks] at hkj
    obtain ⟨sk, _, rfl⟩ := get_map hkj
    have hv := valV_at hkn hkv'
    have hget : DGet H3 d (.str sk) (some v0) := .inl ⟨kvs, Sum.inr sk, .inr ⟨od, hd2⟩, rfl, hv.symm⟩
    refine ⟨_, rfl, _, rfl, d, _, rfl, hget, _, rfl, _, rfl, o, _, rfl, DPut.k (k := Sum.inr sk) ho2 (bigS (by rw [List.length_take]; omega)), ?_⟩
    refine ⟨_, rfl, gj.set (by rw [del_ne hod]; exact hoF) (.inl rfl), by rw [upd_ne hod.symm]; exact hd2, ?_⟩
    rw [take_put hkn hkv']
    exact upd_same ..
  rintro σ H2 ⟨y4, rfl, gj, hd2, ho2⟩
  refine ⟨hd2, ?_⟩
  rw [List.take_length] at ho2
  have gU := Gr.unlock hdF gA.fh gj
  rw [del_upd hdF] at gU
  have gB := gA.join gU (fun a z => by rw [z]; exact ho)
  have hoB : (upd H2 d (.dK kvs)) o = some (.dK kvs) := by rw [upd_ne hod]; exact ho2
  have sB := hs.ext gB
  show tSeq _ _ _ _ (upd H2 d (.dK kvs))
  generalize (upd H2 d (.dK kvs)) = HB at *
  clear gU gj hd2 ho2 hoA hdA gA
  have no := hs.off ho
  refine ⟨_, rfl, rfl, _, rfl, ?_⟩
  refine ite2 (fun hor => ?_) (fun hor => ?_)
  · have hpo : part = "order" := by
      have z := of_decide_eq_true hor
      injection z
    obtain ⟨ao', ho1, ho2⟩ := hmA.ord gB.fh
    refine ⟨_, rfl, d, _, rfl, ho1, _, rfl, _, rfl, d, _, rfl, ho1, ao', _, rfl, .inl (.inl (.inl (gB.fh _ _ ho2))), F, ds, gl, t, _, rfl, gB.fh, sB, by omega, ?_, fun r t1 H3 g3 s3 k1 k2 r0 r1 => ?_⟩
    · rw [List.length_map]
      exact Int.lt_of_le_of_lt (b := 5) (by omega) (by decide)
    obtain ⟨r', rfl⟩ := Int.eq_ofNat_of_zero_le r0
    have hr1 : (1 + (r' : Int)) = ((r' + 1 : Nat) : Int) := by omega
    refine ⟨_, _, rfl, rfl, _, rfl, ao', _, rfl, .inl (.inl (g3.fh _ _ ho2)), fun q hq => ?_⟩
    have ecut : cutV (m.order.map V.int) none (some (1 + (r' : Int))) = (m.order.take (r' + 1)).map V.int := by
      rw [hr1, cut_to, List.map_take]
    rw [ecut]
    have hnd : m.order.Nodup := hmo.op.nodup_iff.mpr (hc.asc.imp fun h => by omega)
    have horg : ∀ x ∈ m.order.take (r' + 1), x ∈ m.poss := fun x hx => hmo.op.mem_iff.mp (List.mem_of_mem_take hx)
    have hotl : (m.order.take (r' + 1)).length ≤ 3 := by rw [List.length_take]; omega
    have hotn : (m.order.take (r' + 1)).Nodup := (List.take_sublist _ _).nodup hnd
    have hote : (m.order.take (r' + 1)) ≠ [] := fun z => by
      have z2 := congrArg List.length z
      rw [List.length_take, List.length_nil] at z2
      have : m.order.length ≠ 0 := fun z => hone (List.length_eq_zero_iff.mp z)
      omega
    generalize (m.order.take (r' + 1)) = ord at *
    have hoq := g3.keep hoB no
    have hqo : o ≠ q := ne_of_none hoq hq
    have g4 : Gr (Sg ds gl) F H (upd F q (.lst (ord.map V.int))) (upd H3 q (.lst (ord.map V.int))) := ((gB.w).trans g3).new hq
    have e4 := same_new (o := .lst (ord.map V.int)) (same_none g3.fh hq)
    have s4 := s3.ext ((Gr.refl g3.fh (S := N0)).new (o := .lst (ord.map V.int)) hq)
    have ho4 : (upd H3 q (.lst (ord.map V.int))) o = some (.dK kvs) := by rw [upd_ne hqo]; exact hoq
    have hq4 : (upd F q (.lst (ord.map V.int))) q = some (.lst (ord.map V.int)) := upd_same ..
    have hoF4 : (upd F q (.lst (ord.map V.int))) o = none := by rw [upd_ne hqo]; exact hoF
    generalize (upd H3 q (.lst (ord.map V.int))) = H4 at *
    generalize (upd F q (.lst (ord.map V.int))) = F4 at *
    refine ⟨_, rfl, o, _, rfl, DPut.k (k := Sum.inr "order") ho4 (bigS (by omega)), ?_⟩
    have hk2 : (putK kvs (Sum.inr "order") (.ref q)).length ≤ 9 := by
      unfold putK
      split
      · rw [List.length_map]; omega
      · rw [List.length_append]; show kvs.length + 1 ≤ 9; omega
    have g5 := g4.set (o := .dK (putK kvs (Sum.inr "order") (.ref q))) hoF4 (.inr ho)
    have s5 := s4.set (o := .dK (putK kvs (Sum.inr "order") (.ref q))) no
    have ho5 : (upd H4 o (.dK (putK kvs (Sum.inr "order") (.ref q)))) o = some (.dK (putK kvs (Sum.inr "order") (.ref q))) := upd_same ..
    show tSeq _ _ _ _ (upd H4 o (.dK (putK kvs (Sum.inr "order") (.ref q))))
    generalize (upd H4 o (.dK (putK kvs (Sum.inr "order") (.ref q)))) = H5 at *
    refine ⟨_, rfl, o, _, rfl, dget_s ho5 vput_eq, q, ord, rfl, .inl (.inl (g5.fh _ _ hq4)), by omega, fun srt sp hperm hsrt hsp => ?_⟩
    have hsrt' := le_lt hsrt (hperm.nodup_iff.mpr hotn)
    have gs := g5.lay (o := .lst (srt.map V.int)) hsp
    have ss := s5.lay (o := .lst (srt.map V.int)) g5.fh hsp
    have hsp1 : (upd H5 sp (.lst (srt.map V.int))) sp = some (.lst (srt.map V.int)) := upd_same ..
    have hos : (upd H5 sp (.lst (srt.map V.int))) o = some (.dK (putK kvs (Sum.inr "order") (.ref q))) := by rw [upd_ne (ne_of_none ho5 hsp)]; exact ho5
    generalize (upd H5 sp (.lst (srt.map V.int))) = H6 at *
    have hsl : srt.length ≤ 3 := by rw [hperm.length_eq]; exact hotl
    refine ⟨sp, rfl, ⟨_, .inl (.inl hsp1)⟩, fun M hM => lc_list (K := K) (a := sp) (xs := srt.map V.int) (PvF F4 H6 M fun i acc F' => DpAll K F' acc ((srt.take i).map fun s => pP (s, s))) (PvF.zero gs.fh hM .nil) (fun i H' _ ⟨_, _, g, _⟩ => .inl (.inl (g.same _ _ hsp1))) ?_ ?_⟩
    · rintro i x H' hx ⟨Fi, acc, gi, hn, hacc, hal', r⟩
      obtain ⟨y, hy, rfl⟩ := get_map hx
      have hyl := lt_at hy
      refine ⟨rfl, _, rfl, _, rfl, (by show 2 ≤ sizeLine; decide), fun tp htp => ?_⟩
      have gB := (Gr.refl gi.fh (S := N0)).new (o := .tup [.int y, .int y]) htp
      refine PvF.snoc hM gi hn hacc hal' (by omega) gB ?_
      rw [map_take_at hy]
      exact dpa_snoc (dpa_same gB.ff _ _ r) (.tup (.inl (.inl (upd_same ..))) (.cons (.int _) (.cons (.int _) .nil)))
    rintro H7 ⟨F7, acc, g7, hn7, hacc, hal', r⟩
    rw [List.length_map, List.take_length] at r
    have hMo : o ≠ M := ne_of_none hos hM
    have ho7 := g7.same _ _ hos
    have hoF7 := g7.hid hos hoF4
    have g07 := (gs.trans (g7.w (S := Sg ds gl))).pub hacc (gs.fresh hM)
    have e7 : Same F7 (upd F7 M (.lst acc)) := pub_same g7.fh hacc
    have s7 := (ss.ext g7).pub (o := .lst acc) (ss.off hM)
    have hst7 : Dp K (upd F7 M (.lst acc)) (.ref M) (pB (srt.map fun s => (s, s))) := by
      refine .lst (.inl (.inl (upd_same ..))) ?_
      rw [List.map_map]
      exact dpa_same e7 _ _ r
    have hoF8 : (upd F7 M (.lst acc)) o = none := by rw [upd_ne hMo]; exact hoF7
    have e47 := g7.ff.trans e7
    generalize (upd F7 M (.lst acc)) = F8 at *
    refine ⟨_, rfl, o, _, rfl, DPut.k (k := Sum.inr "start") ho7 (bigS (by omega)), ?_⟩
    have g8 := g07.set (o := .dK (putK (putK kvs (Sum.inr "order") (.ref q)) (Sum.inr "start") (.ref M))) hoF8 (.inr ho)
    have s8 := s7.set (o := .dK (putK (putK kvs (Sum.inr "order") (.ref q)) (Sum.inr "start") (.ref M))) no
    have ho8 : (upd H7 o (.dK (putK (putK kvs (Sum.inr "order") (.ref q)) (Sum.inr "start") (.ref M)))) o = some (.dK (putK (putK kvs (Sum.inr "order") (.ref q)) (Sum.inr "start") (.ref M))) := upd_same ..
    show Ends.nx _ _ (upd H7 o (.dK (putK (putK kvs (Sum.inr "order") (.ref q)) (Sum.inr "start") (.ref M))))
    generalize (upd H7 o (.dK (putK (putK kvs (Sum.inr "order") (.ref q)) (Sum.inr "start") (.ref M)))) = H8 at *
    have g9 := g8.pub ho8 ho
    have e9 := pub_same (p := o) g8.fh ho8
    have hsm : ∀ x ∈ srt, x ∈ m.poss := fun x hx => horg x (hperm.mem_iff.mp hx)
    refine ⟨_, rfl, hQ o ⟨m.pd, ord, srt, m.watched, m.usable, m.way⟩ t1 _ _ g9 (s8.pub no) (by omega) (by omega) (mod_order hx' (upd_same ..) (e4.trans (e47.trans e9)) (e9 _ _ (e47 _ _ hq4)) (dp_same e9 _ _ hst7)) ?_ ⟨rfl, hsm, fun z => ?_, fun z => ?_, fun _ => ⟨rfl, rfl⟩⟩⟩
    · refine mk_mdS hmo.pd hperm.symm hsrt' (fun s hs' => hc.rng s (hsm s hs')) (fun z => ?_) hsl hsw hsu hms.wy
      rw [z] at hperm
      exact hote (List.nil_perm.mp hperm)
    · rw [z] at hpo; exact absurd hpo (by decide)
    · rw [z] at hpo; exact absurd hpo (by decide)
  have hnp : part ≠ "order" := fun z => hor (by rw [z]; exact decide_eq_true rfl)
  rcases hpart with hpw | hpw | hpw
  · subst hpw
    refine ⟨_, rfl, (by show 2 ≤ sizeLine; decide), fun L hL => ?_⟩
    have gC := gB.lay (o := .lst [.str "lights", .str "pushes"]) hL
    have sC := sB.lay (o := .lst [.str "lights", .str "pushes"]) gB.fh hL
    have hoC : (upd HB L (.lst [.str "lights", .str "pushes"])) o = some (.dK kvs) := by rw [upd_ne (ne_of_none hoB hL)]; exact hoB
    have hLC : (upd HB L (.lst [.str "lights", .str "pushes"])) L = some (.lst [.str "lights", .str "pushes"]) := upd_same ..
    generalize (upd HB L (.lst [.str "lights", .str "pushes"])) = HC at *
    obtain ⟨pa, hp1, hp2⟩ := hmA.lig gC.fh
    have hpl : m.pd.lmp.length ≤ 10 := hmo.pd.ll
    refine ⟨_, rfl, rfl, .inr ⟨_, rfl, L, _, 0, .str "lights", rfl, ?_, .inl (.inl hLC), rfl, d, _, rfl, hp1, ?_⟩⟩
    · rw [decide_eq_false (fun z => by injection z with z; exact absurd z (by decide))]; rfl
    refine ⟨_, rfl, pa, rfl, ⟨_, .inl (.inl (gC.fh _ _ hp2))⟩, fun M hM => ?_⟩
    have nM := sC.off hM
    have hMF := same_none gC.fh hM
    have hMH := gC.fresh hM
    refine lc_list (K := K) (a := pa) (xs := m.pd.lmp.map V.str) (fun i H' => ∃ t1, ∃ sub : List Str, Gr (Sg ds gl) F HC F H' ∧ SrcAt F H' ds gl t1 ∧ t ≤ t1 ∧ t1 ≤ t + i ∧ H' M = some (.lst (sub.map V.str)) ∧ sub.length ≤ i ∧ sub.Sublist (m.pd.lmp.take i)) ⟨t, [], (Gr.refl gC.fh).lay hM, sC.lay gC.fh hM, Int.le_refl _, by simp, upd_same .., Nat.le_refl _, List.nil_sublist _⟩ (fun i H' _ ⟨_, _, g, _⟩ => .inl (.inl (g.fh _ _ hp2))) ?_ ?_
    · rintro i x H4 hx4 ⟨t1, sub, g4, s4, k1, k2, hM4, hsl, hsub⟩
      obtain ⟨nm, hnm, rfl⟩ := get_map hx4
      have hil := lt_at hnm
      refine ⟨rfl, _, rfl, F, ds, gl, t1, 2, rfl, g4.fh, s4, by omega, by decide, fun r t2 H5 g5 s5 k3 k4 r0 r1 => ⟨rfl, _, rfl, ?_⟩⟩
      have hM5 := g5.keep hM4 nM
      have g05 := g4.trans g5
      refine ite2 (fun _ => ?_) (fun _ => ?_)
      · refine ⟨_, rfl, sub.map V.str, hM5, by rw [List.length_map]; exact bigS (by omega), t2, sub ++ [nm], g05.set hMF (.inr hM), s5.set nM, by omega, by have : ((i + 1 : Nat) : Int) = i + 1 := rfl; omega, by rw [List.map_append]; exact upd_same .., by rw [List.length_append]; exact Nat.succ_le_succ hsl, ?_⟩
        rw [take_at hnm]
        exact List.Sublist.append hsub (List.Sublist.refl _)
      · refine ⟨t2, sub, g05, s5, by omega, by have : ((i + 1 : Nat) : Int) = i + 1 := rfl; omega, hM5, Nat.le_succ_of_le hsl, ?_⟩
        rw [take_at hnm]
        exact hsub.trans (List.sublist_append_left ..)
    rintro H4 ⟨t1, sub, g4, s4, k1, k2, hM4, hsl, hsub⟩
    rw [List.length_map] at k2
    rw [List.length_map, List.take_length] at hsub
    have ho4 := g4.keep hoC no
    refine ⟨_, rfl, _, rfl, o, _, rfl, DPut.k (k := Sum.inr "watched") ho4 (bigS (by omega)), ?_⟩
    have hoM : M ≠ o := (ne_of_none hoC hM).symm
    have g5 : Gr (Sg ds gl) F H F (upd H4 o (.dK (putK kvs (Sum.inr "watched") (.ref M)))) := ((gC.w).trans g4).set hoF (.inr ho)
    have hM5 : (upd H4 o (.dK (putK kvs (Sum.inr "watched") (.ref M)))) M = some (.lst (sub.map V.str)) := by rw [upd_ne hoM]; exact hM4
    have ho5 : (upd H4 o (.dK (putK kvs (Sum.inr "watched") (.ref M)))) o = some (.dK (putK kvs (Sum.inr "watched") (.ref M))) := upd_same ..
    have s5 := s4.set (o := .dK (putK kvs (Sum.inr "watched") (.ref M))) no
    show Ends.nx _ _ (upd H4 o (.dK (putK kvs (Sum.inr "watched") (.ref M))))
    generalize (upd H4 o (.dK (putK kvs (Sum.inr "watched") (.ref M)))) = H5 at *
    have g6 := g5.pub hM5 hMH
    have g7 := g6.pub ho5 ho
    have e6 : Same F (upd F M (.lst (sub.map V.str))) := pub_same g5.fh hM5
    have e7 := pub_same (p := o) g6.fh ho5
    refine ⟨_, rfl, hQ o ⟨m.pd, m.order, m.poss, sub, m.usable, m.way⟩ t1 _ _ g7 ((s5.pub nM).pub no) (by omega) (by omega) (mod_watched hx' (upd_same ..) (e6.trans e7) (e7 _ _ (upd_same ..))) ?_ ⟨rfl, fun x h => h, fun _ => ⟨rfl, rfl⟩, fun z => absurd z (by decide), fun z => absurd z (by decide)⟩⟩
    exact mk_mdS hmo.pd hmo.op hc.asc hc.rng hc.ne hc.len hsub hsu hms.wy
  · subst hpw
    refine ⟨_, rfl, (by show 2 ≤ sizeLine; decide), fun L hL => ?_⟩
    have gC := gB.lay (o := .lst [.str "lights", .str "pushes"]) hL
    have sC := sB.lay (o := .lst [.str "lights", .str "pushes"]) gB.fh hL
    have hoC : (upd HB L (.lst [.str "lights", .str "pushes"])) o = some (.dK kvs) := by rw [upd_ne (ne_of_none hoB hL)]; exact hoB
    have hLC : (upd HB L (.lst [.str "lights", .str "pushes"])) L = some (.lst [.str "lights", .str "pushes"]) := upd_same ..
    generalize (upd HB L (.lst [.str "lights", .str "pushes"])) = HC at *
    obtain ⟨pa, hp1, hp2⟩ := hmA.pus gC.fh
    have hpl : m.pd.btn.length ≤ 10 := hmo.pd.bl
    refine ⟨_, rfl, rfl, .inr ⟨_, rfl, L, _, 1, .str "pushes", rfl, ?_, .inl (.inl hLC), rfl, d, _, rfl, hp1, ?_⟩⟩
    · rw [decide_eq_true rfl]; rfl
    refine ⟨_, rfl, pa, rfl, ⟨_, .inl (.inl (gC.fh _ _ hp2))⟩, fun M hM => ?_⟩
    have nM := sC.off hM
    have hMF := same_none gC.fh hM
    have hMH := gC.fresh hM
    refine lc_list (K := K) (a := pa) (xs := m.pd.btn.map V.str) (fun i H' => ∃ t1, ∃ sub : List Str, Gr (Sg ds gl) F HC F H' ∧ SrcAt F H' ds gl t1 ∧ t ≤ t1 ∧ t1 ≤ t + i ∧ H' M = some (.lst (sub.map V.str)) ∧ sub.length ≤ i ∧ sub.Sublist (m.pd.btn.take i)) ⟨t, [], (Gr.refl gC.fh).lay hM, sC.lay gC.fh hM, Int.le_refl _, by simp, upd_same .., Nat.le_refl _, List.nil_sublist _⟩ (fun i H' _ ⟨_, _, g, _⟩ => .inl (.inl (g.fh _ _ hp2))) ?_ ?_
    · rintro i x H4 hx4 ⟨t1, sub, g4, s4, k1, k2, hM4, hsl, hsub⟩
      obtain ⟨nm, hnm, rfl⟩ := get_map hx4
      have hil := lt_at hnm
      refine ⟨rfl, _, rfl, F, ds, gl, t1, 2, rfl, g4.fh, s4, by omega, by decide, fun r t2 H5 g5 s5 k3 k4 r0 r1 => ⟨rfl, _, rfl, ?_⟩⟩
      have hM5 := g5.keep hM4 nM
      have g05 := g4.trans g5
      refine ite2 (fun _ => ?_) (fun _ => ?_)
      · refine ⟨_, rfl, sub.map V.str, hM5, by rw [List.length_map]; exact bigS (by omega), t2, sub ++ [nm], g05.set hMF (.inr hM), s5.set nM, by omega, by have : ((i + 1 : Nat) : Int) = i + 1 := rfl; omega, by rw [List.map_append]; exact upd_same .., by rw [List.length_append]; exact Nat.succ_le_succ hsl, ?_⟩
        rw [take_at hnm]
        exact List.Sublist.append hsub (List.Sublist.refl _)
      · refine ⟨t2, sub, g05, s5, by omega, by have : ((i + 1 : Nat) : Int) = i + 1 := rfl; omega, hM5, Nat.le_succ_of_le hsl, ?_⟩
        rw [take_at hnm]
        exact hsub.trans (List.sublist_append_left ..)
    rintro H4 ⟨t1, sub, g4, s4, k1, k2, hM4, hsl, hsub⟩
    rw [List.length_map] at k2
    rw [List.length_map, List.take_length] at hsub
    have ho4 := g4.keep hoC no
    refine ⟨_, rfl, _, rfl, o, _, rfl, DPut.k (k := Sum.inr "usable") ho4 (bigS (by omega)), ?_⟩
    have hoM : M ≠ o := (ne_of_none hoC hM).symm
    have g5 : Gr (Sg ds gl) F H F (upd H4 o (.dK (putK kvs (Sum.inr "usable") (.ref M)))) := ((gC.w).trans g4).set hoF (.inr ho)
    have hM5 : (upd H4 o (.dK (putK kvs (Sum.inr "usable") (.ref M)))) M = some (.lst (sub.map V.str)) := by rw [upd_ne hoM]; exact hM4
    have ho5 : (upd H4 o (.dK (putK kvs (Sum.inr "usable") (.ref M)))) o = some (.dK (putK kvs (Sum.inr "usable") (.ref M))) := upd_same ..
    have s5 := s4.set (o := .dK (putK kvs (Sum.inr "usable") (.ref M))) no
    show Ends.nx _ _ (upd H4 o (.dK (putK kvs (Sum.inr "usable") (.ref M))))
    generalize (upd H4 o (.dK (putK kvs (Sum.inr "usable") (.ref M)))) = H5 at *
    have g6 := g5.pub hM5 hMH
    have g7 := g6.pub ho5 ho
    have e6 : Same F (upd F M (.lst (sub.map V.str))) := pub_same g5.fh hM5
    have e7 := pub_same (p := o) g6.fh ho5
    refine ⟨_, rfl, hQ o ⟨m.pd, m.order, m.poss, m.watched, sub, m.way⟩ t1 _ _ g7 ((s5.pub nM).pub no) (by omega) (by omega) (mod_usable hx' (upd_same ..) (e6.trans e7) (e7 _ _ (upd_same ..))) ?_ ⟨rfl, fun x h => h, fun z => absurd z (by decide), fun _ => ⟨rfl, rfl⟩, fun z => absurd z (by decide)⟩⟩
    exact mk_mdS hmo.pd hmo.op hc.asc hc.rng hc.ne hc.len hsw hsub hms.wy
  · exact absurd hpw hnp
end
end S3

/-! ### L20: the four models -/
namespace S3
open PySem PySem.Spec PyProof.Rows L2
theorem GoalOkC.sub {m m' : MD} {g : Goal} (hp : m'.pd = m.pd) (hs : ∀ x ∈ m'.poss, x ∈ m.poss) (h : GoalOkC m.cs g) : GoalOkC m'.cs g := by
  have hn : m'.cs.n = m.cs.n := by show m'.pd.gvs.length = m.pd.gvs.length; rw [hp]
  cases g with
  | now => trivial
  | first => trivial
  | inn xs => exact ⟨h.1, fun x hx => by rw [hn]; exact h.2 x hx⟩
  | grp gs => exact ⟨h.1, h.2.1, fun s hs' => h.2.2 s (hs s hs')⟩
def parts3 : List Str := ["watched", "usable", "order"]
section
variable {P : Program} {w : World} {K : PySem.W.Frag} {mg : Str → Option Value} {base : Heap} {CC DC UB HF : Addr}
abbrev s_lmo : Stmt := top 70
abbrev nm_lmo : List Str := ["_law_source_here", "_law_model_here", "_law_parts", "_law_part"]
theorem sc_lmo : FnScope nm_lmo ["_law_source_here", "_law_model_here"] (defScope s_lmo) := ⟨rfl, rfl, rfl, by decide +kernel, rfl, by decide +kernel, by decide +kernel⟩
/- slots: 0 _law_source_here 1 _law_model_here 2 _law_parts 3 _law_part -/
def spLmo (K : PySem.W.Frag) : Sp := fun vs H Q _ => ∃ F ds gl t d m kvs, vs = [.ref ds, .ref d] ∧ Same F H ∧ SrcAt F H ds gl t ∧ t < 2 ^ 34 ∧ F d = some (.dK kvs) ∧ ModX K F kvs m ∧ MdS m ∧
  ∀ p d1 d2 d3 m1 m2 m3 t' F' H', Gr (Sg ds gl) F H F' H' → SrcAt F' H' ds gl t' → t ≤ t' → t' ≤ t + 60 → F' p = some (.lst [.ref d, .ref d1, .ref d2, .ref d3]) → ModAt K F' d1 m1 → ModAt K F' d2 m2 → ModAt K F' d3 m3 → Four m m1 m2 m3 →
    (∀ m' ∈ [m1, m2, m3], m'.pd = m.pd ∧ ∀ x ∈ m'.poss, x ∈ m.poss) → Q (.ref p) H'
theorem cal_lmo (D : DefX K mg "_law_models" s_lmo) (T : Tx K mg CC DC) (cOth : C8.Cal P w K mg base 2 "_law_other" (spLot K) []) : C8.Cal P w K mg base 3 "_law_models" (spLmo K) [] := by
  refine calD (ps := ["_law_source_here", "_law_model_here"]) D (fun _ _ _ _ _ _ us hl => match us, hl with | [_, _], _ => rfl) sc_lmo ?_ ?_
  · rintro vs H Q E ⟨F, ds, gl, t, d, m, kvs, rfl, _⟩; rfl
  rintro f cdv A outer s0 H vs Q E hr ⟨F, ds, gl, t, d, m, kvs, rfl, hF, hs, ht, hd, hx, hms, hQ⟩
  refine ⟨_, (pss_cons (ps_set (i := 2) sc_lmo.nd rfl (.inl rfl) (pe_lst (pa_cons pe_str (pa_cons pe_str (pa_cons pe_str pa_nil)))))
      (pss_one (ps_ret (pe_op op_cat (pe_lst (pa_cons (pv 1) pa_nil)) (pe_lc (own := [("_law_part", 3)]) (g := (gName 3))  rfl sc_lmo.nd (pi_listK K rfl (pv 2)) (blkOk_by (own := [("_law_part", 3)]) (N := nm_lmo) (sc := defScope s_lmo) (by decide +kernel)) (fun _ _ _ _ _ => (pg_name (i := 3) sc_lmo.nd rfl (.inl rfl))) (fun _ _ _ _ _ => pts_nil) (fun _ _ _ _ _ => (C8.pe_c cOth hr (by decide) rfl (pa_cons (pv 0) (pa_cons (pv 1) (pa_cons (pv 3) pa_nil)))))))))), ?_⟩
  have ht0 := hs.t0
  refine ⟨(by show 3 ≤ sizeLine; decide), fun L hL => ?_⟩
  have gA := (Gr.refl hF (S := N0)).new (o := .lst (parts3.map V.str)) hL
  have hLf : (upd F L (.lst (parts3.map V.str))) L = some (.lst (parts3.map V.str)) := upd_same ..
  rw [show ([V.str "watched", .str "usable", .str "order"] : List V) = parts3.map V.str from rfl]
  generalize (upd F L (.lst (parts3.map V.str))) = FA at *
  generalize (upd H L (.lst (parts3.map V.str))) = HA at *
  refine ⟨_, rfl, (by show 1 ≤ sizeLine; decide), fun L1 hL1 => ?_⟩
  have gB := gA.new (o := .lst [.ref d]) hL1
  have eB := same_new (o := .lst [.ref d]) (same_none gA.fh hL1)
  have hL1f : (upd FA L1 (.lst [.ref d])) L1 = some (.lst [.ref d]) := upd_same ..
  have hLB := eB _ _ hLf
  generalize (upd FA L1 (.lst [.ref d])) = FB at *
  generalize (upd HA L1 (.lst [.ref d])) = HB at *
  have sB := hs.ext gB
  refine ⟨_, rfl, L, rfl, ⟨_, .inl (.inl (gB.fh _ _ hLB))⟩, fun M hM => ?_⟩
  have nM := sB.off hM
  have hMF := same_none gB.fh hM
  refine lc_list (K := K) (a := L) (xs := parts3.map V.str) (fun i H' => ∃ F' t', ∃ zs : List (Addr × MD), Gr (Sg ds gl) FB HB F' H' ∧ SrcAt F' H' ds gl t' ∧ t ≤ t' ∧ t' ≤ t + 20 * i ∧ F' M = none ∧ H' M = some (.lst (zs.map fun z => V.ref z.1)) ∧ zs.length = i ∧ ∀ (j : Nat) z, zs[j]? = some z → ModAt K F' z.1 z.2 ∧ MdS z.2 ∧ ∃ p, parts3[j]? = some p ∧ OtherOk p m z.2) ⟨FB, t, [], (Gr.refl gB.fh).lay hM, sB.lay gB.fh hM, Int.le_refl _, by simp, hMF, upd_same .., rfl, fun j z h => by cases h⟩ (fun i H' _ ⟨_, _, _, g, _⟩ => .inl (.inl (g.fh _ _ (g.ff _ _ hLB)))) ?_ ?_
  · rintro i x H1 hx1 ⟨F1, t1, zs, g1, s1, k1, k2, hM1, hMl, hzl, hz⟩
    obtain ⟨p, hp, rfl⟩ := get_map hx1
    have hil := lt_at hp
    have hpm : p = "watched" ∨ p = "usable" ∨ p = "order" := by
      have := mem_at hp
      simp [parts3] at this
      exact this
    have gB1 := gB.ff.trans g1.ff
    refine ⟨rfl, _, rfl, _, rfl, _, rfl, F1, ds, gl, t1, d, p, m, kvs, rfl, g1.fh, s1, by have : parts3.length = 3 := rfl; omega, gB1 _ _ hd, hx.mono gB1, hms, hpm, fun d' m' t2 F2 H2 g2 s2 k3 k4 hd' hm' hok => ?_⟩
    have hM2 := g2.keep hMl nM
    have hMF2 := g2.hid hMl hM1
    refine ⟨_, hM2, by rw [List.length_map]; exact bigS (by have : parts3.length = 3 := rfl; omega), F2, t2, zs ++ [(d', m')], (g1.trans g2).set hMF2 (.inr hM), s2.set nM, by omega, by have : ((i + 1 : Nat) : Int) = i + 1 := rfl; omega, hMF2, by rw [List.map_append]; exact upd_same .., by rw [List.length_append, hzl]; rfl, fun j z hj => ?_⟩
    rcases Nat.lt_or_ge j zs.length with hlt | hge
    · rw [List.getElem?_append_left hlt] at hj
      obtain ⟨a, b, c⟩ := hz j z hj
      exact ⟨a.mono g2.ff, b, c⟩
    · rw [List.getElem?_append_right hge] at hj
      have hj0 : j - zs.length = 0 := by
        rcases Nat.eq_zero_or_pos (j - zs.length) with h | h
        · exact h
        · rw [List.getElem?_eq_none (by show 1 ≤ j - zs.length; exact h)] at hj; cases hj
      rw [hj0] at hj
      cases hj
      have : j = i := by omega
      subst this
      exact ⟨hd', hm', p, hp, hok⟩
  rintro H1 ⟨F1, t1, zs, g1, s1, k1, k2, hM1, hMl, hzl, hz⟩
  obtain ⟨z1, z2, z3, rfl⟩ : ∃ z1 z2 z3, zs = [z1, z2, z3] := by
    match zs, hzl with
    | [a, b, c], _ => exact ⟨a, b, c, rfl⟩
  obtain ⟨a1, b1, p1, q1, o1⟩ := hz 0 z1 rfl
  obtain ⟨a2, b2, p2, q2, o2⟩ := hz 1 z2 rfl
  obtain ⟨a3, b3, p3, q3, o3⟩ := hz 2 z3 rfl
  cases q1
  cases q2
  cases q3
  have hL1h := g1.fh _ _ (g1.ff _ _ hL1f)
  refine ⟨L1, M, _, _, rfl, rfl, hL1h, hMl, (by show 1 + 3 ≤ sizeLine; decide), fun p hp => ?_⟩
  have g2 := (gB.w (S := Sg ds gl)).trans g1
  have gN := (Gr.refl g1.fh (S := N0)).new (o := .lst ([.ref d] ++ [z1, z2, z3].map fun z => V.ref z.1)) hp
  have k3 : parts3.length = 3 := rfl
  rw [List.length_map, k3] at k2
  refine hQ p z1.1 z2.1 z3.1 z1.2 z2.2 z3.2 t1 _ _ (g2.new (o := .lst ([.ref d] ++ [z1, z2, z3].map fun z => V.ref z.1)) hp) (s1.ext gN) (by omega) (by omega) (upd_same ..) (a1.mono gN.ff) (a2.mono gN.ff) (a3.mono gN.ff) ?_ ?_
  · obtain ⟨c1, c2⟩ := o1.w rfl
    obtain ⟨c3, c4⟩ := o2.u rfl
    obtain ⟨c5, c6⟩ := o3.o rfl
    exact ⟨hms, b1, b2, b3, ⟨o1.pd, c1, c2⟩, ⟨o2.pd, c3, c4⟩, ⟨o3.pd, c5, c6⟩⟩
  · intro m' hm'
    simp at hm'
    rcases hm' with rfl | rfl | rfl
    · exact ⟨o1.pd, o1.ps⟩
    · exact ⟨o2.pd, o2.ps⟩
    · exact ⟨o3.pd, o3.ps⟩
end
end S3

/-! ### L21: the law -/
namespace S3
open PySem PySem.Spec PyProof.Rows L2
theorem fm_nat {n : Nat} {k : Int} (hk : 0 < k) (x : Int) (hn : (n : Int) = k) : ∃ j : Nat, x.fmod k = (j : Int) ∧ j < n := by
  have h0 := Int.fmod_nonneg_of_pos x hk
  have h1 := Int.fmod_lt_of_pos x hk
  obtain ⟨j, hj⟩ := Int.eq_ofNat_of_zero_le h0
  exact ⟨j, hj, by omega⟩
theorem fd40 {x : Int} (h0 : 0 ≤ x) (h1 : x < 80) : ∃ j : Nat, x.fdiv 40 = (j : Int) ∧ j < 2 := by
  rw [Int.fdiv_eq_ediv_of_nonneg _ (by decide)]
  obtain ⟨n, rfl⟩ := Int.eq_ofNat_of_zero_le h0
  exact ⟨n / 40, by omega, by omega⟩
section
variable {P : Program} {w : World} {K : PySem.W.Frag} {mg : Str → Option Value} {base : Heap} {CC DC UB HF : Addr}
abbrev s_llw : Stmt := top 74
abbrev nm_llw : List Str := ["_law_script", "_law_source_here", "_law_turns", "_law_model_here", "_law_models_here", "_law_tasks", "_law_wishes", "_law_words", "_law_lines", "_law_many", "_law_turn", "_law_at", "_law_wish", "_law_line", "_law_k"]
theorem sc_llw : FnScope nm_llw ["_law_script"] (defScope s_llw) := ⟨rfl, rfl, rfl, by decide +kernel, rfl, by decide +kernel, by decide +kernel⟩
/- slots: 0 _law_script 1 _law_source_here 2 _law_turns 3 _law_model_here 4 _law_models_here 5 _law_tasks 6 _law_wishes 7 _law_words 8 _law_lines 9 _law_many 10 _law_turn 11 _law_at 12 _law_wish 13 _law_line 14 _law_k -/
def spLaw (K : PySem.W.Frag) : Sp := fun vs H Q _ => ∃ a, ∃ cs : List Int, vs = [.ref a] ∧ SqL K H a (cs.map V.int) ∧ cs.length ≤ 100 ∧ ∀ H', Q (.bl true) H'
theorem bdy_law (T : Tx K mg CC DC) (cSrc : C8.Cal P w K mg base 1 "_law_source" (spLsr K) []) (cDr : C8.Cal P w K mg base 1 "_law_draw" spLdr []) (cMd : C8.Cal P w K mg base 4 "_law_model" (spLmd K) []) (cTk : C8.Cal P w K mg base 2 "_law_task" (spLtk K) []) (cMs : C8.Cal P w K mg base 3 "_law_models" (spLmo K) [])
    (cCs : C8.Cal P w K mg base 8 "_law_cases" (spLcs K CC DC) []) (cGo : C8.Cal P w K mg base 2 "_law_goal" (spLgo K) []) (cAs : C8.Cal P w K mg base 7 "_law_asked" (spLas K CC DC) []) : BodyOk P w K mg base "law" s_llw nm_llw 8 (spLaw K) := by
  rintro f cdv A outer s0 H vs Q E hr ⟨a, cs, rfl, hsq, hcz, hQ⟩
  have hu := up 1 hr
  refine ⟨_, (pss_cons (ps_set (i := 1) sc_llw.nd rfl (.inr rfl) (C8.pe_c cSrc hr (by decide) rfl (pa_cons (pv 0) pa_nil)))
      (pss_cons (ps_setLc (i := 2) (own := [("_law_k", 14)]) (g := (gName 14))  rfl sc_llw.nd rfl rfl (sw_true rfl rfl rfl (by decide +kernel)) (pi_range1 (by rfl) T.range (pa_cons pe_int pa_nil)) (blkOk_by (own := [("_law_k", 14)]) (N := nm_llw) (sc := defScope s_llw) (by decide +kernel)) (fun _ _ _ _ _ => (pg_name (i := 14) sc_llw.nd rfl (.inl rfl))) (fun _ _ _ _ _ => pts_nil) (fun _ _ _ _ _ => (C8.pe_c cDr hr (by decide) rfl (pa_cons (pv 1) (pa_cons pe_int pa_nil)))))
      (pss_cons (ps_set (i := 3) sc_llw.nd rfl (.inl rfl) (C8.pe_c cMd hr (by decide) rfl (pa_cons (pv 1) (pa_cons pe_int pa_nil))))
      (pss_cons (ps_expr (C8.pe_c cTk hr (by decide) rfl (pa_cons (pv 1) (pa_cons (pv 3) (pa_cons pe_int pa_nil)))))
      (pss_cons (ps_set (i := 4) sc_llw.nd rfl (.inl rfl) (C8.pe_c cMs hr (by decide) rfl (pa_cons (pv 1) (pa_cons (pv 3) pa_nil))))
      (pss_cons (ps_set (i := 5) sc_llw.nd rfl (.inl rfl) (C8.pe_c cCs hr (by decide) rfl (pa_cons (pv 4) pa_nil)))
      (pss_cons (ps_set (i := 6) sc_llw.nd rfl (.inl rfl) (pe_lst (pa_cons (C8.pe_c cGo hr (by decide) rfl (pa_cons (pv 1) (pa_cons (pv 3) pa_nil))) (pa_cons (C8.pe_c cGo hr (by decide) rfl (pa_cons (pv 1) (pa_cons (pv 3) pa_nil))) pa_nil))))
      (pss_cons (ps_set (i := 7) sc_llw.nd rfl (.inr rfl) (pe_op op_cat (pe_op op_cat (pe_dget hu (pv 3) pe_str (fun _ _ => rfl)) (pe_dget hu (pv 3) pe_str (fun _ _ => rfl))) (pe_lst (pa_cons pe_str pa_nil))))
      (pss_cons (ps_set (i := 8) sc_llw.nd rfl (.inl rfl) (pe_lst pa_nil))
      (pss_cons (ps_for PassesOwn.never rfl (pi_listK K rfl (pe_lst (pa_cons (C8.pe_c cDr hr (by decide) rfl (pa_cons (pv 1) (pa_cons pe_int pa_nil))) (pa_cons (pe_op op_add pe_int (C8.pe_c cDr hr (by decide) rfl (pa_cons (pv 1) (pa_cons pe_int pa_nil)))) pa_nil)))) (pg_name (i := 9) sc_llw.nd rfl (.inl rfl))
      (pss_one (ps_expr (pe_bmK K rfl PySem.F.plainAttrs_list PySem.F.slot_list_append PySem.F.type_list_append mt_append (pv 8) (pa_cons (pe_lc (own := [("_law_k", 14)]) (g := (gName 14))  rfl sc_llw.nd (pi_range1 (by rfl) T.range (pa_cons (pv 9) pa_nil)) (blkOk_by (own := [("_law_k", 14)]) (N := nm_llw) (sc := defScope s_llw) (by decide +kernel)) (fun _ _ _ _ _ => (pg_name (i := 14) sc_llw.nd rfl (.inl rfl))) (fun _ _ _ _ _ => pts_nil) (fun _ _ _ _ _ => (pe_ix (ix_listK K rfl) (pv 7) (C8.pe_c cDr hr (by decide) rfl (pa_cons (pv 1) (pa_cons (pe_callB (call_len_seqK K rfl) (by rfl) T.len (by decide +kernel) (pa_cons (pv 7) pa_nil)) pa_nil))) (fun _ _ => rfl)))) pa_nil)))))
      (pss_cons (ps_for PassesOwn.never rfl (pi_listK K rfl (pv 2)) (pg_name (i := 10) sc_llw.nd rfl (.inl rfl))
      (pss_cons (ps_set (i := 11) sc_llw.nd rfl (.inl rfl) (pe_op op_modN (pe_op op_fdivN (pv 10) pe_int) pe_int))
        (pss_cons (ps_set (i := 12) sc_llw.nd rfl (.inl rfl) (pe_ix (ix_listK K rfl) (pv 6) (pe_op op_modN (pe_op op_fdivN (pv 10) pe_int) pe_int) (fun _ _ => rfl)))
        (pss_cons (ps_set (i := 13) sc_llw.nd rfl (.inl rfl) (pe_ix (ix_listK K rfl) (pv 8) (pe_op op_fdivN (pv 10) pe_int) (fun _ _ => rfl)))
        (pss_one (ps_if (pt_not (pt_val (C8.pe_c cAs hr (by decide) rfl (pa_cons (pe_op op_modN (pv 10) pe_int) (pa_cons (pe_ix (ix_listK K rfl) (pv 5) (pv 11) (fun _ _ => rfl)) (pa_cons (pe_ix (ix_listK K rfl) (pv 4) (pv 11) (fun _ _ => rfl)) (pa_cons (pv 12) (pa_cons (pv 13) pa_nil))))))))
        (pss_one (ps_ret pe_bl))
        pss_nil))))))
      (pss_one (ps_ret pe_bl))))))))))))), ?_⟩
  refine ⟨_, rfl, H, a, cs, rfl, .refl _, hsq, hcz, fun ds gl H1 g0 s1 => ?_⟩
  have e01 := g0.fh
  refine ⟨_, rfl, by decide, by decide, fun L hL => ?_⟩
  have nL := s1.off hL
  have hLF := same_none g0.fh hL
  rw [show Int.toNat 16 = 16 from rfl]
  refine lc_it walk_range (PvD H H1 ds gl L 0 1 fun i acc => ∃ tu : List Int, acc = tu.map V.int ∧ tu.length = i ∧ ∀ x ∈ tu, 0 ≤ x ∧ x < 80) (PvD.zero g0.fh hL s1 ⟨[], rfl, rfl, fun _ h => by cases h⟩) (fun _ _ _ _ => trivial) ?_ ?_
  · rintro i x H2 H3 hi ⟨acc, t2, g2, hacc, hl, s2, k3, k4, tu, rfl, htl, htu⟩ ⟨rfl, rfl⟩
    refine ⟨rfl, _, rfl, H, ds, gl, t2, 80, rfl, g2.fh, s2, by omega, by decide, fun r t3 H4 g3 s3 k5 k6 r0 r1 => ?_⟩
    refine PvD.snoc hLF hL nL g2 hacc hl (by omega) k3 k4 g3 s3 k5 k6 ⟨tu ++ [r], by rw [List.map_append]; rfl, by rw [List.length_append, htl]; rfl, fun d hd => ?_⟩
    rcases List.mem_append.mp hd with h | h
    · exact htu d h
    · rw [List.mem_singleton.mp h]; exact ⟨r0, r1 (by decide)⟩
  rintro H2 ⟨acc, t2, g2, hacc, hl, s2, k3, k4, tu, rfl, htl, htu⟩
  have gT := g2.pub hacc hL
  have sT := s2.pub (o := .lst (tu.map V.int)) nL
  have hTf : (upd H L (.lst (tu.map V.int))) L = some (.lst (tu.map V.int)) := upd_same ..
  generalize (upd H L (.lst (tu.map V.int))) = F1 at *
  refine ⟨_, rfl, F1, ds, gl, t2, rfl, gT.fh, sT, by omega, fun d pd t3 F2 H3 g3 s3 k5 k6 hd0 hm3 => ?_⟩
  have nd := sT.off hd0
  refine ⟨_, rfl, _, rfl, F2, ds, gl, t3, d, pd, rfl, g3.fh, s3, by omega, nd, hm3, fun m t4 F3 H4 kvs g4 s4 k7 k8 hpd hms hdF hdH hx => ?_⟩
  have g14 := (gT.trans g3).joinS g4 (fun z hz => hz.imp id fun e => by rw [e]; exact gT.fresh hd0)
  have gD := g14.pub hdH (gT.fresh hd0)
  have eD : Same F3 (upd F3 d (.dK kvs)) := pub_same g14.fh hdH
  have sD := s4.pub (o := .dK kvs) nd
  have hdf : (upd F3 d (.dK kvs)) d = some (.dK kvs) := upd_same ..
  have hx4 := hx.mono eD
  have hT4 := eD _ _ (g4.ff _ _ (g3.ff _ _ hTf))
  generalize (upd F3 d (.dK kvs)) = F4 at *
  clear hx
  have hmA : ModAt K F4 d m := hx4.at hdf
  have hmo := hms.ok
  refine ⟨_, rfl, _, rfl, F4, ds, gl, t4, d, m, kvs, rfl, gD.fh, sD, by omega, hdf, hx4, hms, fun pm d1 d2 d3 m1 m2 m3 t5 F5 H5 g5 s5 k9 k10 hpm a1 a2 a3 hfour hsub => ?_⟩
  refine ⟨_, rfl, F5, pm, d, d1, d2, d3, m, m1, m2, m3, rfl, g5.fh, .inl (.inl hpm), hmA.mono g5.ff, a1, a2, a3, hfour, fun pt v0 v1 v2 v3 F6 H6 g6 hpt c0 c1 c2 c3 => ?_⟩
  have s6 := s5.ext g6
  have g56 := g5.trans g6.w
  refine ⟨_, rfl, _, rfl, F6, ds, gl, t5, d, m, rfl, g6.fh, s6, by omega, hmA.mono g56.ff, hmo, fun gv1 goal1 t6 F7 H7 g7 s7 k11 k12 hg1 hgo1 hgs1 => ?_⟩
  have g57 := g56.trans g7
  refine ⟨_, rfl, _, rfl, F7, ds, gl, t6, d, m, rfl, g7.fh, s7, by omega, hmA.mono g57.ff, hmo, fun gv2 goal2 t7 F8 H8 g8 s8 k13 k14 hg2 hgo2 hgs2 => ?_⟩
  have g58 := g57.trans g8
  refine ⟨(by show 2 ≤ sizeLine; decide), fun W hW => ?_⟩
  have g59 := g58.new (o := .lst [gv1, gv2]) hW
  have e9 := same_new (o := .lst [gv1, gv2]) (same_none g8.fh hW)
  have s9 := s8.ext ((Gr.refl g8.fh (S := N0)).new (o := .lst [gv1, gv2]) hW)
  have hWf : (upd F8 W (.lst [gv1, gv2])) W = some (.lst [gv1, gv2]) := upd_same ..
  have hg19 : Dp K (upd F8 W (.lst [gv1, gv2])) gv1 (pG goal1) := dp_same (g8.ff.trans e9) _ _ hg1
  have hg29 : Dp K (upd F8 W (.lst [gv1, gv2])) gv2 (pG goal2) := dp_same e9 _ _ hg2
  have e69 : Same F6 (upd F8 W (.lst [gv1, gv2])) := (g7.ff.trans g8.ff).trans e9
  generalize (upd F8 W (.lst [gv1, gv2])) = F9 at *
  generalize (upd H8 W (.lst [gv1, gv2])) = H9 at *
  have hb10 : m.pd.btn.length ≤ 10 := hmo.pd.bl
  obtain ⟨ap, hp1, hp2⟩ := (hmA.mono g59.ff).pus g59.fh
  have hp9 := g59.fh _ _ hp2
  refine ⟨_, rfl, d, _, rfl, hp1, _, rfl, d, _, rfl, hp1, ap, ap, _, _, rfl, rfl, hp9, hp9, ?_, fun q1 hq1 => ⟨(by show 1 ≤ sizeLine; decide), fun q2 hq2 => ?_⟩⟩
  · rw [List.length_map]; exact Nat.le_of_lt (bigS (by omega))
  have hq12 := ne_of_none (upd_same (H := H9) (a := q1) (o := .lst (m.pd.btn.map V.str ++ m.pd.btn.map V.str))) hq2
  refine ⟨q1, q2, _, _, rfl, rfl, by rw [upd_ne hq12]; exact upd_same .., upd_same .., ?_, fun q3 hq3 => ?_⟩
  · rw [List.length_append, List.length_map]; exact Nat.le_of_lt (bigS (by show m.pd.btn.length + m.pd.btn.length + 1 ≤ _; omega))
  have gq := ((Gr.refl g59.fh (S := N0)).lay (o := .lst (m.pd.btn.map V.str ++ m.pd.btn.map V.str)) hq1).lay (o := .lst [V.str "Zz"]) hq2
  have gr := gq.new (o := .lst (m.pd.btn.map V.str ++ m.pd.btn.map V.str ++ [V.str "Zz"])) hq3
  have hwd : m.pd.btn.map V.str ++ m.pd.btn.map V.str ++ [V.str "Zz"] = (m.pd.btn ++ m.pd.btn ++ [("Zz" : Str)]).map V.str := by rw [List.map_append, List.map_append]; rfl
  have hq3f : (upd F9 q3 (.lst (m.pd.btn.map V.str ++ m.pd.btn.map V.str ++ [V.str "Zz"]))) q3 = some (.lst ((m.pd.btn ++ m.pd.btn ++ [("Zz" : Str)]).map V.str)) := by rw [upd_same, hwd]
  have hwl : (m.pd.btn ++ m.pd.btn ++ [("Zz" : Str)]).length ≤ 21 := by rw [List.length_append, List.length_append]; show m.pd.btn.length + m.pd.btn.length + 1 ≤ 21; omega
  have hwl1 : 1 ≤ (m.pd.btn ++ m.pd.btn ++ [("Zz" : Str)]).length := by rw [List.length_append]; show 1 ≤ _ + 1; omega
  generalize (m.pd.btn ++ m.pd.btn ++ [("Zz" : Str)]) = wds at *
  have g5a := g59.trans (gr.w (S := Sg ds gl))
  have sa := s9.ext gr
  have e9a := gr.ff
  generalize (upd F9 q3 (.lst (m.pd.btn.map V.str ++ m.pd.btn.map V.str ++ [V.str "Zz"]))) = F10 at *
  show tSeq _ _ _ _ (upd (upd (upd H9 q1 _) q2 _) q3 _)
  generalize (upd (upd (upd H9 q1 (.lst (m.pd.btn.map V.str ++ m.pd.btn.map V.str))) q2 (.lst [V.str "Zz"])) q3 (.lst (m.pd.btn.map V.str ++ m.pd.btn.map V.str ++ [V.str "Zz"]))) = H10 at *
  clear hp1 hp2 hp9 gq hq12
  refine ⟨Nat.zero_le _, fun Z hZ => ?_⟩
  have nZ := sa.off hZ
  have hZF := same_none g5a.fh hZ
  have gb := (Gr.refl g5a.fh (S := Sg ds gl)).lay (o := .lst []) hZ
  have sb := sa.lay (o := .lst []) g5a.fh hZ
  have hZb : (upd H10 Z (.lst [])) Z = some (.lst []) := upd_same ..
  generalize (upd H10 Z (.lst [])) = H11 at *
  refine ⟨_, rfl, F10, ds, gl, t7, 4, rfl, gb.fh, sb, by omega, by decide, fun n1 t8 H12 g12 s12 k15 k16 n10 n11 => ⟨_, rfl, F10, ds, gl, t8, 6, rfl, g12.fh, s12, by omega, by decide, fun n2 t9 H13 g13 s13 k17 k18 n20 n21 => ⟨_, _, rfl, rfl, (by show 2 ≤ sizeLine; decide), fun Y hY => ?_⟩⟩⟩
  have n14 := n11 (by decide)
  have n26 := n21 (by decide)
  have gc := (gb.trans g12).trans g13
  have hZc := g13.keep (g12.keep hZb nZ) nZ
  have hZY : Z ≠ Y := ne_of_none hZc hY
  have gY := (Gr.refl g13.fh (S := N0)).new (o := .lst (([n1, 1 + n2] : List Int).map V.int)) hY
  have gd := gc.new (o := .lst (([n1, 1 + n2] : List Int).map V.int)) hY
  have sd := s13.ext gY
  have hYf : (upd F10 Y (.lst (([n1, 1 + n2] : List Int).map V.int))) Y = some (.lst (([n1, 1 + n2] : List Int).map V.int)) := upd_same ..
  have hZd := gY.same _ _ hZc
  have hZdF := gY.hid hZc hZF
  have hq3d := gY.ff _ _ hq3f
  have ead := gY.ff
  have hn12 : ∀ y ∈ ([n1, 1 + n2] : List Int), 0 ≤ y ∧ y ≤ 6 := by
    intro y hy
    simp at hy
    rcases hy with rfl | rfl <;> omega
  have hn2l : ([n1, 1 + n2] : List Int).length = 2 := rfl
  refine ⟨Y, rfl, ⟨([n1, 1 + n2] : List Int).map V.int, .inl (.inl (upd_same ..))⟩, for_list (K := K) (a := Y) (xs := ([n1, 1 + n2] : List Int).map V.int) (fun i σ H' => ∃ F' t' x9, ∃ zs : List Addr, ∃ rows : List (List Str), σ = [some (.ref a), some (.ref ds), some (.ref L), some (.ref d), some (.ref pm), some (.ref pt), some (.ref W), some (.ref q3), some (.ref Z), x9, none, none, none, none, none] ∧ Gr (Sg ds gl) F10 H10 F' H' ∧ SrcAt F' H' ds gl t' ∧ t9 ≤ t' ∧ t' ≤ t9 + 7 * i ∧ Same (upd F10 Y (.lst (([n1, 1 + n2] : List Int).map V.int))) F' ∧ F' Z = none ∧ H' Z = some (.lst (zs.map V.ref)) ∧ zs.length = i ∧ Paired (fun z (r : List Str) => F' z = some (.lst (r.map V.str)) ∧ r.length ≤ 10) zs rows) ⟨_, t9, none, [], [], rfl, gd, sd, Int.le_refl _, by simp, .refl _, hZdF, hZd, rfl, .nil⟩ ?_ ?_ ?_⟩
  · rintro i σ H' _ ⟨F', t', x9, zs, rows, rfl, g, _, _, _, e, _⟩
    exact .inl (.inl (g.fh _ _ (e _ _ hYf)))
  · rintro i x σ H' hx9 ⟨F', t', x9, zs, rows, rfl, g, s', k19, k20, e, hZn, hZl, hzl, hrows⟩
    obtain ⟨y, hy, rfl⟩ := get_map hx9
    have hil := lt_at hy
    rw [hn2l] at hil
    obtain ⟨y0, y6⟩ := hn12 y (mem_at hy)
    obtain ⟨yn, rfl⟩ := Int.eq_ofNat_of_zero_le y0
    refine ⟨_, rfl, .inl ⟨rfl, _, .inl (.inl hZl)⟩, _, rfl, _, rfl, by omega, by omega, fun M hM => ?_⟩
    rw [Int.toNat_natCast]
    have nM := s'.off hM
    have hMF := same_none g.fh hM
    refine lc_it walk_range (PvD F' H' ds gl M t' 1 fun i acc => ∃ r : List Str, acc = r.map V.str ∧ r.length = i) (PvD.zero g.fh hM s' ⟨[], rfl, rfl⟩) (fun _ _ _ _ => trivial) ?_ ?_
    · rintro j x' H14 H15 hj ⟨acc, t10, g14, hacc, hal, s14, k21, k22, r, rfl, hrl⟩ ⟨rfl, rfl⟩
      have hq14 := g14.fh _ _ (e _ _ hq3d)
      refine ⟨rfl, _, rfl, _, rfl, _, rfl, q3, _, rfl, .inl (.inl (.inl hq14)), F', ds, gl, t10, _, rfl, g14.fh, s14, by omega, ?_, fun u t11 H16 g16 s16 k23 k24 u0 u1 => ?_⟩
      · rw [List.length_map]
        exact Int.lt_of_le_of_lt (b := 21) (by omega) (by decide)
      rw [List.length_map] at u1
      obtain ⟨un, rfl⟩ := Int.eq_ofNat_of_zero_le u0
      have hun : un < wds.length := by have := u1 (by omega); omega
      have hw := List.getElem?_eq_getElem hun
      generalize wds[un] = wd at hw
      refine ⟨q3, _, _, .str wd, rfl, rfl, .inl (.inl (g16.fh _ _ (e _ _ hq3d))), atI_nat (by rw [List.getElem?_map, hw]; rfl), ?_⟩
      exact PvD.snoc hMF hM nM g14 hacc hal (by omega) k21 k22 g16 s16 k23 k24 ⟨r ++ [wd], by rw [List.map_append]; rfl, by rw [List.length_append, hrl]; rfl⟩
    rintro H14 ⟨acc, t10, g14, hacc, hal, s14, k21, k22, r, rfl, hrl⟩
    have hZ14 := g14.keep hZl nZ
    have hZF14 := g14.hid hZl hZn
    have hZM : Z ≠ M := ne_of_none hZl hM
    have gM := (g.trans g14).pub hacc (g.fresh hM)
    have eM : Same F' (upd F' M (.lst (r.map V.str))) := pub_same g14.fh hacc
    refine ⟨Z, zs.map V.ref, .ref M, rfl, rfl, hZ14, by rw [List.length_map]; exact bigS (by omega), _, t10, _, zs ++ [M], rows ++ [r], rfl, gM.set (by rw [upd_ne hZM]; exact hZF14) (.inr hZ), (s14.pub nM).set nZ, by omega, by have : ((i + 1 : Nat) : Int) = i + 1 := rfl; omega, e.trans eM, by rw [upd_ne hZM]; exact hZF14, by rw [List.map_append]; exact upd_same .., by rw [List.length_append, hzl]; rfl, paired_app (paired_mono (fun _ _ ⟨p, q⟩ => ⟨eM _ _ p, q⟩) hrows) (.cons ⟨upd_same .., by omega⟩ .nil)⟩
  rintro σ H14 ⟨F11, t10, x9, zs, rows, rfl, g14, s14, k19, k20, e14, hZn, hZl, hzl, hrows⟩
  rw [List.length_map, hn2l] at hzl
  have gE := ((g5a.trans g14).pub hZl (g5a.fresh hZ))
  have eE : Same F11 (upd F11 Z (.lst (zs.map V.ref))) := pub_same g14.fh hZl
  have hZf : (upd F11 Z (.lst (zs.map V.ref))) Z = some (.lst (zs.map V.ref)) := upd_same ..
  have eA : Same F10 (upd F11 Z (.lst (zs.map V.ref))) := ead.trans (e14.trans eE)
  have hrows' := paired_mono (S := fun z (r : List Str) => (upd F11 Z (.lst (zs.map V.ref))) z = some (.lst (r.map V.str)) ∧ r.length ≤ 10) (fun _ _ ⟨p, q⟩ => ⟨eE _ _ p, q⟩) hrows
  have hFH : Same (upd F11 Z (.lst (zs.map V.ref))) H14 := gE.fh
  generalize (upd F11 Z (.lst (zs.map V.ref))) = FE at *
  have e9E := e9a.trans eA
  have e6E := e69.trans e9E
  have e5E := g6.ff.trans e6E
  have e4E := g5.ff.trans e5E
  have hTE := e4E _ _ hT4
  have hpmE := e5E _ _ hpm
  have hptE := e6E _ _ hpt
  have hWE := e9E _ _ hWf
  have q1E := dp_same e9E _ _ hg19
  have q2E := dp_same e9E _ _ hg29
  have h4 : ∀ k : Nat, k < 4 → ∃ v dd m', ([v0, v1, v2, v3] : List V)[k]? = some v ∧ ([.ref d, .ref d1, .ref d2, .ref d3] : List V)[k]? = some (.ref dd) ∧ ModAt K FE dd m' ∧ MdOk m' ∧ CaseAt K CC DC FE v m'.cs (PD.dv m'.pd) ∧ GoalOkC m'.cs goal1 ∧ GoalOkC m'.cs goal2 := by
    intro k hk
    have hk4 : k = 0 ∨ k = 1 ∨ k = 2 ∨ k = 3 := by omega
    obtain ⟨p1, p2⟩ := hsub m1 (by simp)
    obtain ⟨p3, p4⟩ := hsub m2 (by simp)
    obtain ⟨p5, p6⟩ := hsub m3 (by simp)
    rcases hk4 with rfl | rfl | rfl | rfl
    · exact ⟨v0, d, m, rfl, rfl, hmA.mono e4E, hmo, c0.mono e6E, hgo1, hgo2⟩
    · exact ⟨v1, d1, m1, rfl, rfl, a1.mono e5E, hfour.s1.ok, c1.mono e6E, hgo1.sub p1 p2, hgo2.sub p1 p2⟩
    · exact ⟨v2, d2, m2, rfl, rfl, a2.mono e5E, hfour.s2.ok, c2.mono e6E, hgo1.sub p3 p4, hgo2.sub p3 p4⟩
    · exact ⟨v3, d3, m3, rfl, rfl, a3.mono e5E, hfour.s3.ok, c3.mono e6E, hgo1.sub p5 p6, hgo2.sub p5 p6⟩
  have h2 : ∀ k : Nat, k < 2 → ∃ gv goal, ([gv1, gv2] : List V)[k]? = some gv ∧ Dp K FE gv (pG goal) ∧ GsOk goal ∧ (goal = goal1 ∨ goal = goal2) := by
    intro k hk
    have hk2 : k = 0 ∨ k = 1 := by omega
    rcases hk2 with rfl | rfl
    · exact ⟨gv1, goal1, rfl, q1E, hgs1, .inl rfl⟩
    · exact ⟨gv2, goal2, rfl, q2E, hgs2, .inr rfl⟩
  refine ⟨_, rfl, L, rfl, ⟨_, .inl (.inl (hFH _ _ hTE))⟩, for_list (K := K) (a := L) (xs := tu.map V.int) (fun i σ H' => ∃ x10 x11 x12 x13, σ = [some (.ref a), some (.ref ds), some (.ref L), some (.ref d), some (.ref pm), some (.ref pt), some (.ref W), some (.ref q3), some (.ref Z), x9, x10, x11, x12, x13, none] ∧ Same FE H') ⟨none, none, none, none, rfl, hFH⟩ ?_ ?_ ?_⟩
  · rintro i σ H' _ ⟨x10, x11, x12, x13, rfl, e⟩
    exact .inl (.inl (e _ _ hTE))
  · rintro i x σ H' hx9 ⟨x10, x11, x12, x13, rfl, e⟩
    obtain ⟨y, hy, rfl⟩ := get_map hx9
    obtain ⟨y0, y80⟩ := htu y (mem_at hy)
    obtain ⟨k1, hk1, hk1l⟩ := fm_nat (n := 4) (k := 4) (by decide) (y.fdiv 5) rfl
    obtain ⟨k2, hk2, hk2l⟩ := fm_nat (n := 2) (k := 2) (by decide) (y.fdiv 20) rfl
    obtain ⟨k3, hk3, hk3l⟩ := fd40 y0 y80
    obtain ⟨tv, dd, m', u1, u2, u3, u4, u5, u6, u7⟩ := h4 k1 hk1l
    obtain ⟨gv, goal, w1, w2, w3, w4⟩ := h2 k2 hk2l
    have hzk := List.getElem?_eq_getElem (l := zs) (i := k3) (by omega)
    generalize zs[k3]'(by omega) = z at hzk
    obtain ⟨row, hrw, r1, r2⟩ := paired_getE hrows' hzk
    have hgoal : GoalOkC m'.cs goal := by
      rcases w4 with rfl | rfl
      · exact u6
      · exact u7
    refine ⟨_, rfl, _, _, rfl, rfl, ⟨by decide, by decide⟩, _, _, rfl, rfl, (by show (4 : Int) ≠ 0; decide), ?_⟩
    refine ⟨_, rfl, _, rfl, _, _, rfl, rfl, ⟨by decide, by decide⟩, _, _, rfl, rfl, (by show (2 : Int) ≠ 0; decide), W, _, _, gv, rfl, rfl, .inl (.inl (e _ _ hWE)), by rw [hk2]; exact atI_nat w1, ?_⟩
    refine ⟨_, rfl, _, rfl, _, _, rfl, rfl, ⟨by decide, by decide⟩, Z, _, _, .ref z, rfl, rfl, .inl (.inl (e _ _ hZf)), by rw [hk3]; exact atI_nat (by rw [List.getElem?_map, hzk]; rfl), ?_⟩
    refine ⟨_, rfl, _, _, rfl, rfl, (by show (5 : Int) ≠ 0; decide), _, rfl, _, rfl, pt, _, _, tv, rfl, rfl, .inl (.inl (e _ _ hptE)), by rw [hk1]; exact atI_nat u1, _, rfl, _, rfl, pm, _, _, .ref dd, rfl, rfl, .inl (.inl (e _ _ hpmE)), by rw [hk1]; exact atI_nat u2, _, rfl, _, rfl, FE, tv, dd, gv, .ref z, _, m', PD.dv m'.pd, goal, row, rfl, e, u3, u4, u5, w2, hgoal, ?_, .lst (.inl (.inl r1)) (dpa_strs _), by omega, fun H'' e'' => ?_⟩
    · cases goal with
      | grp gs => exact w3
      | now => trivial
      | first => trivial
      | inn xs => trivial
    · exact ⟨_, rfl, iteF ⟨_, _, _, _, rfl, e''⟩⟩
  rintro σ H' ⟨x10, x11, x12, x13, rfl, e⟩
  exact hQ _
end
end S3

/-! ### H2: the facts, the defs joined, the row -/
namespace S3
open PySem PySem.Spec PyProof.Rows L2
theorem oexB_ok {K : PySem.W.Frag} {C : Addr} (q : oexB K C = true) : ∃ nm q' N bs bm sn sub ab col dd k0 k1 k2 k3 k5, K.lookup C = some (excClassObj nm q' C N bs bm true sn sub ab col dd k0 k1 k2 k3 k5 "ValueError.__new__") ∧ PySem.HandSPX.refsVE bm = true := by
  unfold oexB at q
  split at q
  · rename_i dd cd sl ho
    split at q
    · rename_i C' bm k0 k1 k2 k3 n k5 hm hs
      simp only [Bool.and_eq_true, beq_iff_eq, Bool.not_eq_true'] at q
      obtain ⟨⟨⟨⟨rfl, rfl⟩, hdel⟩, hdc⟩, hr⟩ := q
      obtain ⟨nm, bs, mro, ns, qn, hd, sn, sub, ab, col, del⟩ := cd
      dsimp only at hm hdel hdc
      subst hm hdel hdc
      have hsl : sl = #[k0, k1, k2, k3, some (.builtin "ValueError.__new__"), k5] := by
        obtain ⟨l⟩ := sl
        simp only at hs
        rw [hs]
      subst hsl
      exact ⟨nm, qn, ns, bs, bm, sn, sub, ab, col, dd, k0, k1, k2, k3, k5, ho, hr⟩
    · cases q
  · cases q
theorem prB_ok {K : PySem.W.Frag} {p : Str × Str} (q : prB K p = true) : PropOf K (He.ga K p.1) p.2 (He.ma K (He.ga K p.1) p.2) (He5.wf K (He.ga K p.1) "property" p.2) := by
  obtain ⟨q1, q⟩ := He.ba q
  obtain ⟨q2, q⟩ := He.ba q
  obtain ⟨q3, q4⟩ := He.ba q
  refine ⟨He.eqO_ok q1, He.eqO_ok q2, of_decide_eq_true q3, ?_⟩
  unfold He5.wf
  split at q4
  · rename_i f r e
    exact ⟨r, by rw [e]⟩
  · cases q4
section
variable {P : Program} {w : World} {K : PySem.W.Frag} {h : Heap} {mg : Str → Option Value} {base : Heap}
theorem SaysB.split (c : SaysB K) : (∀ f ∈ fa, f.ok K = true) ∧ exB K = true ∧ (∀ d ∈ fn, d.ok K = true) ∧ fn.map (fun d => He5.fnA K (d.at_ K)) = fn.map He5.DefA.val := by
  have c1 : ((fa.all fun f => f.ok K) && (exB K && fn.all fun d => d.ok K)) = true := congrArg (fun z : He.AlD => z.1) c
  have c2 : fn.map (fun d => He5.fnA K (d.at_ K)) = fn.map He5.DefA.val := congrArg (fun z : He.AlD => z.2) c
  obtain ⟨c3, c4⟩ := He.ba c1
  obtain ⟨c5, c6⟩ := He.ba c4
  exact ⟨fun f hf => List.all_eq_true.mp c3 f hf, c5, fun d hd => List.all_eq_true.mp c6 d hd, c2⟩
theorem SaysB.fact (c : SaysB K) (i : Nat) {f : He.Fa} (h : fa[i]? = some f) : f.ok K = true := c.split.1 f (List.mem_of_getElem? h)
theorem SaysB.def_ (c : SaysB K) (i : Nat) {d : He5.DefA} (h : fn[i]? = some d) : ∃ fd, FunD K d.name d.qual d.params d.body d.scope (d.dvs K) (d.kws K) (d.at_ K) fd := by
  obtain ⟨_, _, c3, e⟩ := c.split
  have e2 : (fn.map fun d => He5.fnA K (d.at_ K))[i]? = (fn.map He5.DefA.val)[i]? := by rw [e]
  rw [List.getElem?_map, List.getElem?_map, h] at e2
  exact He5.DefA.funD (Option.some.inj e2) (c3 d (List.mem_of_getElem? h))
theorem SaysB.ex (c : SaysB K) : excB K "UnknownButton" = true ∧ excB K "Harmful" = true ∧ PySem.W.exmAny K (.ref (He.ga K "UnknownButton")) [.ref (He.ga K "UnknownButton"), .ref (He.ga K "Harmful")] = some true ∧ PySem.W.exmAny K (.ref (He.ga K "Harmful")) [.ref (He.ga K "UnknownButton"), .ref (He.ga K "Harmful")] = some true ∧ ∀ p ∈ prps, prB K p = true := by
  obtain ⟨_, e, _⟩ := c.split
  obtain ⟨e1, e⟩ := He.ba e
  obtain ⟨e2, e⟩ := He.ba e
  obtain ⟨e3, e⟩ := He.ba e
  obtain ⟨e4, e5⟩ := He.ba e
  exact ⟨e1, e2, of_decide_eq_true e3, of_decide_eq_true e4, fun p hp => List.all_eq_true.mp e5 p hp⟩
theorem defx (c : SaysB K) (X : K.In h) (G : h.Ns mainGlobals mg) (i j : Nat) {x : Str} {st : Stmt} (h1 : fn[i]? = some ⟨fun K => He.ga K x, x, x, defArgs st, defBody st, defScope st, [], []⟩) (h2 : fa[j]? = some (.glo x)) : DefX K mg x st := by
  obtain ⟨fd, F⟩ := c.def_ i h1
  exact ⟨_, fd, F, He.glo_ok X G (c.fact j h2)⟩
theorem defn (c : SaysB K) (X : K.In h) (G : h.Ns mainGlobals mg) (i j : Nat) {x : Str} {st : Stmt} (h1 : fn[i]? = some ⟨fun K => He.ga K x, x, x, defArgs st, defBody st, defScope st, [.non], []⟩) (h2 : fa[j]? = some (.glo x)) : DefN K mg x st := by
  obtain ⟨fd, F⟩ := c.def_ i h1
  exact ⟨_, fd, F, He.glo_ok X G (c.fact j h2)⟩
theorem metx (c : SaysB K) (i j k : Nat) {C m qual : Str} {st : Stmt} (h1 : fn[i]? = some ⟨fun K => He.ma K (He.ga K C) m, m, qual, defArgs st, defBody st, defScope st, [], []⟩) (h2 : fa[j]? = some (.meth C m)) (h3 : fa[k]? = some (.cls C)) : MetX K (He.ga K C) m qual st := by
  obtain ⟨fd, F⟩ := c.def_ i h1
  exact ⟨_, fd, F, He.meth_ok (c.fact j h2), He.cls_ok (c.fact k h3)⟩
theorem propx (c : SaysB K) (i j k : Nat) {C m qual : Str} {st : Stmt} (h1 : fn[i]? = some ⟨fun K => He5.wf K (He.ga K C) "property" m, m, qual, defArgs st, defBody st, defScope st, [], []⟩) (h2 : prps[j]? = some (C, m)) (h3 : fa[k]? = some (.cls C)) : PropX K (He.ga K C) m qual st := by
  obtain ⟨fd, F⟩ := c.def_ i h1
  exact ⟨_, _, fd, F, prB_ok (c.ex.2.2.2.2 _ (List.mem_of_getElem? h2)), He.cls_ok (c.fact k h3)⟩
theorem exnx (c : SaysB K) {x : Str} (hx : excB K x = true) (hm : mg x = some (.ref (He.ga K x))) (i : Nat) (h1 : fn[i]? = some ⟨fun K => He.ma K (He.ga K x) "__init__", "__init__", "PressError.__init__", defArgs s_pin, defBody s_pin, defScope s_pin, [], []⟩) (hv : NoAttr K (He.ga K x) "value") : Exn P w K mg base x (He.ga K x) := by
  obtain ⟨fd, F⟩ := c.def_ i h1
  obtain ⟨q1, q⟩ := He.ba hx
  obtain ⟨q2, q⟩ := He.ba q
  obtain ⟨q3, q⟩ := He.ba q
  obtain ⟨q4, q⟩ := He.ba q
  obtain ⟨q5, q⟩ := He.ba q
  obtain ⟨q6, q7⟩ := He.ba q
  have hp := fn_pin (P := P) (w := w) (mg := mg) (base := base) F
  exact ⟨_, fd, _, ⟨oexB_ok q1, He.eqO_ok q2, of_decide_eq_true q3, of_decide_eq_true q4, q5⟩, hv, He.eqO_ok q6, of_decide_eq_true q7, hp.1, hp.2, hm⟩
theorem casex (c : SaysB K) (X : K.In h) (G : h.Ns mainGlobals mg) : CaseX K mg (He.ga K "Case") := by
  obtain ⟨fd, F⟩ := c.def_ 53 (d := ⟨fun K => He.ma K (He.ga K "Case") "__init__", "__init__", "Case.__init__", defArgs s_ci, defBody s_ci, defScope s_ci, [], [("lamps", .non), ("buttons", .non)]⟩) rfl
  exact ⟨_, fd, F, He.mkr_ok (c.fact 70 (f := .mkr "Case") rfl), He.glo_ok X G (c.fact 53 (f := .glo "Case") rfl)⟩
theorem devx (c : SaysB K) (X : K.In h) (G : h.Ns mainGlobals mg) : DevX K mg (He.ga K "Device") := by
  obtain ⟨fd, F⟩ := c.def_ 63 (d := ⟨fun K => He.ma K (He.ga K "Device") "__init__", "__init__", "Device.__init__", defArgs s_di, defBody s_di, defScope s_di, [], []⟩) rfl
  exact ⟨_, fd, F, He.mkr_ok (c.fact 72 (f := .mkr "Device") rfl), He.glo_ok X G (c.fact 54 (f := .glo "Device") rfl)⟩
end

theorem facts {P : Program} {w : World} {K : PySem.W.Frag} {h : Heap} {mg : Str → Option Value} {f : Addr} (X : K.In h) (G : h.Ns mainGlobals mg) (hfa : mg ("law" : Str) = some (.ref f)) (c : SaysB K) :
    ∃ fd : FuncData, (∀ (s : Shared) (v : Value), BindsTo s fd ⟨[v], []⟩ [("_law_script", v)]) ∧ ∀ base : Heap, K.In base → base.Ns mainGlobals mg → FnOk P w K mg base CX0 9 f fd ["_law_script"] (spLaw K) := by
  obtain ⟨fd, F⟩ := c.def_ 52 (d := ⟨fun K => He.ga K "law", "law", "law", defArgs s_llw, defBody s_llw, defScope s_llw, [], []⟩) rfl
  have e := hfa.symm.trans (He.glo_ok X G (c.fact 52 (f := .glo "law") rfl))
  cases e
  have b := FunD.bindsA (ps := ["_law_script"]) F fun _ _ _ _ _ _ us hl => match us, hl with | [_], _ => rfl
  refine ⟨fd, fun s v => b s [v] rfl, fun base _ _ => ?_⟩
  have T : Tx K mg (He.ga K "Case") (He.ga K "Device") := ⟨He.free_ok X G (c.fact 57 (f := .free "len") rfl), He.free_ok X G (c.fact 58 (f := .free "all") rfl), He.free_ok X G (c.fact 59 (f := .free "sorted") rfl), He.free_ok X G (c.fact 60 (f := .free "list") rfl), He.free_ok X G (c.fact 61 (f := .free "tuple") rfl), He.free_ok X G (c.fact 62 (f := .free "int") rfl), He.free_ok X G (c.fact 63 (f := .free "range") rfl), He.free_ok X G (c.fact 64 (f := .free "zip") rfl), He.free_ok X G (c.fact 65 (f := .free "enumerate") rfl), He.free_ok X G (c.fact 66 (f := .free "min") rfl), He.free_ok X G (c.fact 67 (f := .free "isinstance") rfl), He.free_ok X G (c.fact 68 (f := .free "set") rfl), He.cls_ok (c.fact 69 (f := .cls "Case") rfl), He.cls_ok (c.fact 71 (f := .cls "Device") rfl), He.noat_ok (c.fact 73 (f := .noat "Case" "whole") rfl), He.noat_ok (c.fact 74 (f := .noat "Case" "possible") rfl), He.noat_ok (c.fact 75 (f := .noat "Case" "watched") rfl), He.noat_ok (c.fact 76 (f := .noat "Case" "usable") rfl), He.noat_ok (c.fact 77 (f := .noat "Case" "table") rfl), He.noat_ok (c.fact 78 (f := .noat "Device" "button_names") rfl), He.noat_ok (c.fact 79 (f := .noat "Device" "lamp_names") rfl), He.noat_ok (c.fact 80 (f := .noat "Device" "steps") rfl)⟩
  obtain ⟨hx1, hx2, hx3, hx4, hx5⟩ := c.ex
  have gUB : mg "UnknownButton" = some (.ref (He.ga K "UnknownButton")) := He.glo_ok X G (c.fact 55 (f := .glo "UnknownButton") rfl)
  have gHF : mg "Harmful" = some (.ref (He.ga K "Harmful")) := He.glo_ok X G (c.fact 56 (f := .glo "Harmful") rfl)
  have eUnknownButton : Exn P w K mg base "UnknownButton" (He.ga K "UnknownButton") := exnx c (x := "UnknownButton") hx1 gUB 68 rfl (He.noat_ok (c.fact 86 (f := .noat "UnknownButton" "value") rfl))
  have eHarmful : Exn P w K mg base "Harmful" (He.ga K "Harmful") := exnx c (x := "Harmful") hx2 gHF 69 rfl (He.noat_ok (c.fact 87 (f := .noat "Harmful" "value") rfl))
  have xU := hx3
  have xH := hx4
  have gLET : ∃ u, mg "LETTERS" = some u ∧ RelV (.str letters) u := by
    obtain ⟨t, ht⟩ := He.str_ok X G (c.fact 88 (f := .str "LETTERS" letters) rfl)
    exact ⟨_, ht, t, rfl⟩
  have k_cal_lsr := cal_lsr (P := P) (w := w) (base := base) (defx c X G 23 23 rfl rfl) T
  have k_cal_ldr := cal_ldr (P := P) (w := w) (base := base) (defx c X G 24 24 rfl rfl) T
  have k_cal_lwd := cal_lwd (P := P) (w := w) (base := base) (defx c X G 25 25 rfl rfl) T k_cal_ldr
  have k_cal_lnm := cal_lnm (P := P) (w := w) (base := base) (defx c X G 26 26 rfl rfl) T k_cal_ldr k_cal_lwd
  have k_cal_lstep := cal_lstep (P := P) (w := w) (base := base) (defx c X G 27 27 rfl rfl) T k_cal_ldr
  have k_cal_lsome := cal_lsome (P := P) (w := w) (base := base) (defx c X G 28 28 rfl rfl) T
  have k_cal_lbits := cal_lbits (P := P) (w := w) (base := base) (defx c X G 29 29 rfl rfl) T
  have k_cal_lsteps := cal_lsteps (P := P) (w := w) (base := base) (defx c X G 30 30 rfl rfl) T k_cal_ldr k_cal_lstep k_cal_lsome k_cal_lbits
  have k_cal_lmd := cal_lmd (P := P) (w := w) (base := base) (defx c X G 31 31 rfl rfl) T k_cal_ldr k_cal_lnm k_cal_lsteps
  have k_cal_ltk := cal_ltk (P := P) (w := w) (base := base) (defx c X G 33 33 rfl rfl) T k_cal_ldr k_cal_lsome
  have k_cal_lot := cal_lot (P := P) (w := w) (base := base) (defx c X G 46 46 rfl rfl) T k_cal_ldr
  have k_cal_lmo := cal_lmo (P := P) (w := w) (base := base) (defx c X G 48 48 rfl rfl) T k_cal_lot
  have k_cal_in := cal_in (P := P) (w := w) (base := base) (defx c X G 19 19 rfl rfl) T gLET
  have k_cal_cn := cal_cn (P := P) (w := w) (base := base) (defx c X G 20 20 rfl rfl) T k_cal_in
  have k_cal_cs := cal_cs (P := P) (w := w) (base := base) (defx c X G 21 21 rfl rfl) T
  have k_mak_dev := mak_dev (P := P) (w := w) (base := base) (devx c X G) T k_cal_cn k_cal_cs
  have k_cal_lde := cal_lde (P := P) (w := w) (base := base) (defx c X G 32 32 rfl rfl) T k_mak_dev
  have k_met_dlen := met_dlen (P := P) (w := w) (base := base) (metx c (C := "Device") 64 85 71 rfl rfl rfl) T
  have k_prp_dlamps := prp_dlamps (P := P) (w := w) (base := base) (propx c (C := "Device") 66 6 71 rfl rfl rfl) T
  have k_cal_cl := cal_cl (P := P) (w := w) (base := base) (defx c X G 0 0 rfl rfl) T k_prp_dlamps
  have k_prp_dbuttons := prp_dbuttons (P := P) (w := w) (base := base) (propx c (C := "Device") 65 5 71 rfl rfl rfl) T
  have k_cal_cb := cal_cb (P := P) (w := w) (base := base) (defx c X G 1 1 rfl rfl) T k_prp_dbuttons
  have k_cal_ss := cal_ss (P := P) (w := w) (base := base) (defx c X G 22 22 rfl rfl) T
  have k_prp_dst := prp_dst (P := P) (w := w) (base := base) (propx c (C := "Device") 67 7 71 rfl rfl rfl) T k_cal_ss
  have k_cal_so := cal_so (P := P) (w := w) (base := base) (defx c X G 2 2 rfl rfl) T k_prp_dst
  have k_mak_case := mak_case (P := P) (w := w) (base := base) (casex c X G) T k_met_dlen k_cal_cl k_cal_cb k_cal_so
  have k_cal_lca := cal_lca (P := P) (w := w) (base := base) (defx c X G 34 34 rfl rfl) T k_cal_lde k_mak_case
  have k_met_wl := met_wl (P := P) (w := w) (base := base) (metx c (C := "Case") 61 83 69 rfl rfl rfl) T k_mak_case
  have k_met_wb := met_wb (P := P) (w := w) (base := base) (metx c (C := "Case") 62 84 69 rfl rfl rfl) T k_mak_case
  have k_prp_cdevice := prp_cdevice (P := P) (w := w) (base := base) (propx c (C := "Case") 54 0 69 rfl rfl rfl) T
  have k_prp_clamps := prp_clamps (P := P) (w := w) (base := base) (propx c (C := "Case") 56 2 69 rfl rfl rfl) T
  have k_prp_cbuttons := prp_cbuttons (P := P) (w := w) (base := base) (propx c (C := "Case") 57 3 69 rfl rfl rfl) T
  have k_cal_lcs := cal_lcs (P := P) (w := w) (base := base) (defx c X G 47 47 rfl rfl) T k_cal_lca k_met_wl k_met_wb k_mak_case k_prp_cdevice k_prp_clamps k_prp_cbuttons
  have k_cal_lgo := cal_lgo (P := P) (w := w) (base := base) (defx c X G 35 35 rfl rfl) T k_cal_ldr
  have k_cal_lpr := cal_lpr (P := P) (w := w) (base := base) (defx c X G 37 37 rfl rfl) T
  have k_cal_laf := cal_laf (P := P) (w := w) (base := base) (defx c X G 39 39 rfl rfl) T k_cal_lpr
  have k_cal_lso := cal_lso (P := P) (w := w) (base := base) (defx c X G 49 49 rfl rfl) T k_cal_laf
  have k_cal_lfr := cal_lfr (P := P) (w := w) (base := base) (defx c X G 40 40 rfl rfl) T
  have k_cal_lme := cal_lme (P := P) (w := w) (base := base) (defx c X G 38 38 rfl rfl) T
  have k_cal_lsm := cal_lsm (P := P) (w := w) (base := base) (defx c X G 41 41 rfl rfl) T k_cal_lme
  have k_cal_lrs := cal_lrs (P := P) (w := w) (base := base) (defn c X G 42 42 rfl rfl) T k_cal_lfr k_cal_lsm k_cal_laf
  have k_prp_cstart := prp_cstart (P := P) (w := w) (base := base) (propx c (C := "Case") 58 4 69 rfl rfl rfl) T
  have k_met_har := met_har (P := P) (w := w) (base := base) (metx c (C := "Case") 59 81 69 rfl rfl rfl) T
  have k_cal_isa := cal_isa (P := P) (w := w) (base := base) (defx c X G 7 7 rfl rfl) T k_met_har
  have k_met_pts := met_pts (P := P) (w := w) (base := base) (metx c (C := "Case") 60 82 69 rfl rfl rfl) T
  have k_cal_prs := cal_prs (P := P) (w := w) (base := base) (defx c X G 8 8 rfl rfl) T k_met_pts
  have k_cal_spr := cal_spr (P := P) (w := w) (base := base) (defx c X G 9 9 rfl rfl) T k_prp_cstart k_prp_cbuttons k_cal_isa k_cal_prs eUnknownButton eHarmful
  have k_cal_lap := cal_lap (P := P) (w := w) (base := base) (defx c X G 45 45 rfl rfl) T
  have k_cal_lmk := cal_lmk (P := P) (w := w) (base := base) (defx c X G 50 50 rfl rfl) T k_cal_lap
  have k_cal_lha := cal_lha (P := P) (w := w) (base := base) (defx c X G 36 36 rfl rfl) T
  have k_prp_cstates := prp_cstates (P := P) (w := w) (base := base) (propx c (C := "Case") 55 1 69 rfl rfl rfl) T
  have k_cal_ig := cal_ig (P := P) (w := w) (base := base) (defx c X G 4 4 rfl rfl) T k_prp_cstates k_prp_cdevice k_met_dlen
  have k_cal_cg := cal_cg (P := P) (w := w) (base := base) (defx c X G 5 5 rfl rfl) T k_cal_ig
  have k_cal_gm := cal_gm (P := P) (w := w) (base := base) (defx c X G 6 6 rfl rfl) T
  have k_cal_sm := cal_sm (P := P) (w := w) (base := base) (defx c X G 10 10 rfl rfl) T k_cal_gm
  have k_cal_irr := cal_irr (P := P) (w := w) (base := base) (defx c X G 11 11 rfl rfl) T k_cal_cg k_cal_spr k_cal_sm gUB gHF xU xH
  have k_cal_key := cal_key (P := P) (w := w) (base := base) (defx c X G 12 12 rfl rfl) T
  have k_cal_fr := cal_fr (P := P) (w := w) (base := base) (defx c X G 13 13 rfl rfl) T k_prp_cstart k_prp_cbuttons k_cal_key k_cal_sm k_cal_isa k_cal_prs
  have k_cal_lr := cal_lr (P := P) (w := w) (base := base) (defx c X G 14 14 rfl rfl) T k_cal_cg k_cal_fr k_cal_sm
  have k_cal_cr := cal_cr (P := P) (w := w) (base := base) (defx c X G 15 15 rfl rfl) T k_cal_lr k_cal_fr
  have k_cal_lis := cal_lis (P := P) (w := w) (base := base) (defx c X G 43 43 rfl rfl) T
  have k_cal_lcr := cal_lcr (P := P) (w := w) (base := base) (defx c X G 44 44 rfl rfl) T k_cal_lis k_cal_lsm k_cal_lfr k_cal_laf
  have k_cal_ib := cal_ib (P := P) (w := w) (base := base) (defx c X G 3 3 rfl rfl) T k_prp_cstates k_prp_cdevice k_met_dlen
  have k_cal_is := cal_is (P := P) (w := w) (base := base) (defx c X G 16 16 rfl rfl) T k_prp_cstates k_cal_ib
  have k_cal_rsi := cal_rsi (P := P) (w := w) (base := base) (defx c X G 17 17 rfl rfl) T k_prp_cbuttons k_cal_isa k_cal_prs k_cal_key
  have k_cal_jr := cal_jr (P := P) (w := w) (base := base) (defx c X G 18 18 rfl rfl) T k_prp_cstart k_cal_cg k_cal_key k_cal_is k_cal_sm k_cal_rsi
  have k_cal_las := cal_las (P := P) (w := w) (base := base) (defx c X G 51 51 rfl rfl) T k_cal_lso k_cal_lrs k_cal_spr k_cal_lmk k_cal_lsm k_cal_lha k_cal_irr k_cal_lr k_cal_cr k_cal_lcr k_cal_jr
  exact FunT.ok F sc_llw (fun vs H Q E hsp => by obtain ⟨a, cs, rfl, _⟩ := hsp; rfl) (bdy_law (P := P) (w := w) (base := base) T k_cal_lsr k_cal_ldr k_cal_lmd k_cal_ltk k_cal_lmo k_cal_lcs k_cal_lgo k_cal_las)
end S3
open PySem PySem.W PySem.Calls PyProof.Rows
set_option maxHeartbeats 0 in
theorem PySem.Challenge.cw_surepresses_k73_whole_rows_by_turns_holds : PySem.Challenge.rw_surepresses_k73_whole_rows_by_turns.Holds := by
  w_on; o_law
  refine HandSHeadRun.head_any (r := OpenLaw.row PySem.Challenge.rw_surepresses_k73_whole_rows_by_turns) (q := view (OpenLaw.row PySem.Challenge.rw_surepresses_k73_whole_rows_by_turns).prog [74]) (H := S3.hookB) (ob := S3.ob) (M := 20000) (loose := S3.names) (d := HandSHeadRun.topDef (OpenLaw.row PySem.Challenge.rw_surepresses_k73_whole_rows_by_turns).prog 74) (kwd := []) S3.ob_eq
    (by kernel_rfl) (fun s => by kernel_rfl) S3.run (by kernel_rfl) (by kernel_rfl) (by kernel_rfl) (by rfl) (by first | assumption | decide +kernel) (by decide +kernel) ⟨rfl, rfl, rfl, rfl, rfl, by decide +kernel⟩ ?hw ?hc
  case hw => w_witness2
  case hc =>
    refine L2.walk_ofE (l := PySem.Challenge.rw_surepresses_k73_whole_rows_by_turns) (n := 63) (k := 9) (x := "_law_script") (CX := L2.CX0) rfl (by decide) (by kernel_rfl) ⟨rfl, by decide, by decide⟩ ?F (fun _ _ _ _ z => z)
    intro w mg fa h Y G hmg0
    obtain ⟨K, KX, c⟩ := Y
    have hmg : mg ("law" : PySem.Str) = some (.ref fa) := by
      have e : (HandSHeadRun.topDef (OpenLaw.row PySem.Challenge.rw_surepresses_k73_whole_rows_by_turns).prog 74).name = ("law" : PySem.Str) := by kernel_rfl
      rw [← e]
      exact hmg0
    obtain ⟨fd, hb, hF⟩ := S3.facts (P := (PySem.Challenge.rw_surepresses_k73_whole_rows_by_turns).prog) (w := w) KX G hmg c
    exact ⟨K, fd, S3.spLaw K, KX, hb, fun H a ns hl _ hS => ⟨a, ns, rfl, hS, Nat.le_trans hl (by decide), fun _ => rfl⟩, hF⟩
