import PyProof.Rows.All
import Wide.All
import OpenK.AllK
import Wide.FinOn
import HandS.ForMost
import HandS.ForExc
import HandS.Wide
import HandS.Star
import HandS.IsInst
import HandS.Style
import HandS.Flow
import HandS.Lambda
import HandS.EndTab
import HandS.Nested
import HandS.Comp
import HandS.ExcInit
import HandS.ExcField
import HandS.ExcOwn
import HandS.ExcIs
import KE.KExcSuper
import HandS.Walk
import HandS.Zip
import HandS.Rev
import HandS.Iter
import HandS.RaiseMore
import PyProof.Rows.NestShow
import HandS.CallLocal
import PyProof.ReprLen
import PyProof.Rows.ReprItems
import PyProof.Rows.RegStrFacts
import HandS.MakeKw
import HandS.MakeKwOnly
import HandS.Property
import KE.KSuper
import PyProof.InstEq
import HandS.SortInts
import KE.GoesMore
import KE.DataMinMax
import HandS.SlotsOwn
import HandS.ClsMeth
import HandS.FStr
import HandS.SetFor
import KE.KCallOwn
import HandS.ExcValue
import HandS.SortRule
import HandS.New0
import HandS.IterVal
import OpenK.KMeth
import KE.KOwnIter
import HandS.DictSub
import KE.KOpsOwn
import KE.KStar
import KE.GoesZip
import KE.GoesEnum
import PyProof.LongRange
import PyProof.NoPylong
import HandS.OwnEq
import KE.OsRunLaw
import OpenK.KOps
import HandS.ListEq
import HandS.Conv
import HandS.TupAny
import HandS.TryOnly
import HandS.Text
import HandS.Steps
import HandS.Dict
import KE.KDictWalk
import HandS.OwnIter
import HandS.ListItems
import HandS.Defaults
import PyProof.DictDisplay
import HandS.Keys
import HandS.ExcInitHot
import HandS.SuiteRaise
import HandS.RaiseFrom
import HandS.Finally
import HandS.NestedHot
import HandS.IterNext
import HandS.HotCalls
import HandS.List
import HandS.DictComp
import PySem.Challenge.RW_wheelreach_k81_whole_shelves_led_back_an
set_option Elab.async false
set_option linter.all false
set_option maxRecDepth 100000
set_option maxHeartbeats 4000000
namespace T
set_option maxHeartbeats 0
section
open PySem PySem.W PySem.Calls PyProof.Rows HeadRun
theorem splitRun {α β γ : Type} {o : Option α} {f : α → β} {g : α → γ} {a : β} {b : γ} (h1 : o.map f = some a) (h2 : o.map g = some b) : o.map (fun s => (f s, g s)) = some (a, b) := by
  cases o with
  | none => cases h1
  | some s =>
    have e1 : f s = a := Option.some.inj h1
    have e2 : g s = b := Option.some.inj h2
    rw [← e1, ← e2]
    rfl
theorem joinRun {α β γ : Type} {o : Option α} {f : α → β × γ} {a : β} {b : γ} (h1 : o.map (fun s => (f s).1) = some a) (h2 : o.map (fun s => (f s).2) = some b) : o.map f = some (a, b) := by
  cases o with
  | none => cases h1
  | some s =>
    have e1 : (f s).1 = a := Option.some.inj h1
    have e2 : (f s).2 = b := Option.some.inj h2
    rw [← e1, ← e2]
    rfl
theorem viaRun {α β : Type} {o : Option α} {f g : α → β} {a c : β} (h : o.map f = some a) (e1 : f = g) (e2 : a = c) : o.map g = some c := e1 ▸ e2 ▸ h
def keepAt : List Nat → List Stmt → List Stmt
  | [], _ => []
  | i :: is, l => match l.drop i with | s :: _ => s :: keepAt is l | [] => []
def qv : Program := { (PySem.Challenge.rw_wheelreach_k81_whole_shelves_led_back_an).row.prog with main := { (Program.main (PySem.Challenge.rw_wheelreach_k81_whole_shelves_led_back_an).row.prog) with body := keepAt [0, 2, 3, 4, 5, 6, 7, 8, 9, 10, 11, 13, 15, 16, 17, 18, 19, 20, 21, 22, 23, 25, 26, 27, 28, 29, 30, 31, 32, 34, 35, 36, 37, 38, 40, 41, 42, 43, 44, 45, 46, 47, 48, 49, 50, 51, 52, 53] (Module.body (Program.main (PySem.Challenge.rw_wheelreach_k81_whole_shelves_led_back_an).row.prog)) } }
theorem fstRun {α β γ : Type} {o : Option α} {f : α → β} {g : α → γ} {a : β} {b : γ} (h : o.map (fun s => (f s, g s)) = some (a, b)) : o.map f = some a := by
  cases o with
  | none => cases h
  | some s => exact congrArg some (Prod.mk.inj (Option.some.inj h)).1
theorem sndRun {α β γ : Type} {o : Option α} {f : α → β} {g : α → γ} {a : β} {b : γ} (h : o.map (fun s => (f s, g s)) = some (a, b)) : o.map g = some b := by
  cases o with
  | none => cases h
  | some s => exact congrArg some (Prod.mk.inj (Option.some.inj h)).2
theorem runG0 (w : World) (os : OsState) : (endF (stepQ (denQ tabQ) (PySem.Challenge.rw_wheelreach_k81_whole_shelves_led_back_an).row.prog w) 12136 (PySem.Challenge.rw_wheelreach_k81_whole_shelves_led_back_an).row.prog w os).map (fun s => (looksF (PySem.Challenge.rw_wheelreach_k81_whole_shelves_led_back_an).row.prog (boot_heap w.params) s.abs, ((seenQ qv [Str.ofString "MOST", Str.ofString "Wheel", Str.ofString "Grid", Str.ofString "MOST_PRICE", Str.ofString "Shelf"] (importedModules (Module.body (Program.main (PySem.Challenge.rw_wheelreach_k81_whole_shelves_led_back_an).row.prog))) (fun s => xlAt qv [(Str.ofString "MOST", WData.int 1000000000000), (Str.ofString "MOST_PRICE", WData.int 1000000000000)] s && recOk [] s) s.abs).2.1), ((seenQ qv [Str.ofString "MOST", Str.ofString "Wheel", Str.ofString "Grid", Str.ofString "MOST_PRICE", Str.ofString "Shelf"] (importedModules (Module.body (Program.main (PySem.Challenge.rw_wheelreach_k81_whole_shelves_led_back_an).row.prog))) (fun s => xlAt qv [(Str.ofString "MOST", WData.int 1000000000000), (Str.ofString "MOST_PRICE", WData.int 1000000000000)] s && recOk [] s) s.abs).2.2.2.2.1))) = some (true, bltViewBooted, (pinGoodD (drecsOf qv))) := by kernel_rfl
theorem runA (w : World) (os : OsState) : (endF (stepQ (denQ tabQ) (PySem.Challenge.rw_wheelreach_k81_whole_shelves_led_back_an).row.prog w) 12136 (PySem.Challenge.rw_wheelreach_k81_whole_shelves_led_back_an).row.prog w os).map (fun s => looksF (PySem.Challenge.rw_wheelreach_k81_whole_shelves_led_back_an).row.prog (boot_heap w.params) s.abs) = some true := (fstRun (runG0 w os))
theorem runP1 (w : World) (os : OsState) : (endF (stepQ (denQ tabQ) (PySem.Challenge.rw_wheelreach_k81_whole_shelves_led_back_an).row.prog w) 12136 (PySem.Challenge.rw_wheelreach_k81_whole_shelves_led_back_an).row.prog w os).map (fun s => ((seenQ qv [Str.ofString "MOST", Str.ofString "Wheel", Str.ofString "Grid", Str.ofString "MOST_PRICE", Str.ofString "Shelf"] (importedModules (Module.body (Program.main (PySem.Challenge.rw_wheelreach_k81_whole_shelves_led_back_an).row.prog))) (fun s => xlAt qv [(Str.ofString "MOST", WData.int 1000000000000), (Str.ofString "MOST_PRICE", WData.int 1000000000000)] s && recOk [] s) s.abs).2.1)) = some bltViewBooted := (fstRun (sndRun (runG0 w os)))
theorem runP4 (w : World) (os : OsState) : (endF (stepQ (denQ tabQ) (PySem.Challenge.rw_wheelreach_k81_whole_shelves_led_back_an).row.prog w) 12136 (PySem.Challenge.rw_wheelreach_k81_whole_shelves_led_back_an).row.prog w os).map (fun s => ((seenQ qv [Str.ofString "MOST", Str.ofString "Wheel", Str.ofString "Grid", Str.ofString "MOST_PRICE", Str.ofString "Shelf"] (importedModules (Module.body (Program.main (PySem.Challenge.rw_wheelreach_k81_whole_shelves_led_back_an).row.prog))) (fun s => xlAt qv [(Str.ofString "MOST", WData.int 1000000000000), (Str.ofString "MOST_PRICE", WData.int 1000000000000)] s && recOk [] s) s.abs).2.2.2.2.1)) = some (pinGoodD (drecsOf qv)) := (sndRun (sndRun (runG0 w os)))
theorem runG1 (w : World) (os : OsState) : (endF (stepQ (denQ tabQ) (PySem.Challenge.rw_wheelreach_k81_whole_shelves_led_back_an).row.prog w) 12136 (PySem.Challenge.rw_wheelreach_k81_whole_shelves_led_back_an).row.prog w os).map (fun s => (((seenQ qv [Str.ofString "MOST", Str.ofString "Wheel", Str.ofString "Grid", Str.ofString "MOST_PRICE", Str.ofString "Shelf"] (importedModules (Module.body (Program.main (PySem.Challenge.rw_wheelreach_k81_whole_shelves_led_back_an).row.prog))) (fun s => xlAt qv [(Str.ofString "MOST", WData.int 1000000000000), (Str.ofString "MOST_PRICE", WData.int 1000000000000)] s && recOk [] s) s.abs).1), ((seenQ qv [Str.ofString "MOST", Str.ofString "Wheel", Str.ofString "Grid", Str.ofString "MOST_PRICE", Str.ofString "Shelf"] (importedModules (Module.body (Program.main (PySem.Challenge.rw_wheelreach_k81_whole_shelves_led_back_an).row.prog))) (fun s => xlAt qv [(Str.ofString "MOST", WData.int 1000000000000), (Str.ofString "MOST_PRICE", WData.int 1000000000000)] s && recOk [] s) s.abs).2.2.2.2.2.2.1))) = some ((expectedOf qv), (plainGoodD qv [Str.ofString "MOST", Str.ofString "Wheel", Str.ofString "Grid", Str.ofString "MOST_PRICE", Str.ofString "Shelf"])) := by kernel_rfl
theorem runP0 (w : World) (os : OsState) : (endF (stepQ (denQ tabQ) (PySem.Challenge.rw_wheelreach_k81_whole_shelves_led_back_an).row.prog w) 12136 (PySem.Challenge.rw_wheelreach_k81_whole_shelves_led_back_an).row.prog w os).map (fun s => ((seenQ qv [Str.ofString "MOST", Str.ofString "Wheel", Str.ofString "Grid", Str.ofString "MOST_PRICE", Str.ofString "Shelf"] (importedModules (Module.body (Program.main (PySem.Challenge.rw_wheelreach_k81_whole_shelves_led_back_an).row.prog))) (fun s => xlAt qv [(Str.ofString "MOST", WData.int 1000000000000), (Str.ofString "MOST_PRICE", WData.int 1000000000000)] s && recOk [] s) s.abs).1)) = some (expectedOf qv) := (fstRun (runG1 w os))
theorem runP6 (w : World) (os : OsState) : (endF (stepQ (denQ tabQ) (PySem.Challenge.rw_wheelreach_k81_whole_shelves_led_back_an).row.prog w) 12136 (PySem.Challenge.rw_wheelreach_k81_whole_shelves_led_back_an).row.prog w os).map (fun s => ((seenQ qv [Str.ofString "MOST", Str.ofString "Wheel", Str.ofString "Grid", Str.ofString "MOST_PRICE", Str.ofString "Shelf"] (importedModules (Module.body (Program.main (PySem.Challenge.rw_wheelreach_k81_whole_shelves_led_back_an).row.prog))) (fun s => xlAt qv [(Str.ofString "MOST", WData.int 1000000000000), (Str.ofString "MOST_PRICE", WData.int 1000000000000)] s && recOk [] s) s.abs).2.2.2.2.2.2.1)) = some (plainGoodD qv [Str.ofString "MOST", Str.ofString "Wheel", Str.ofString "Grid", Str.ofString "MOST_PRICE", Str.ofString "Shelf"]) := (sndRun (runG1 w os))
theorem runG2 (w : World) (os : OsState) : (endF (stepQ (denQ tabQ) (PySem.Challenge.rw_wheelreach_k81_whole_shelves_led_back_an).row.prog w) 12136 (PySem.Challenge.rw_wheelreach_k81_whole_shelves_led_back_an).row.prog w os).map (fun s => (((seenQ qv [Str.ofString "MOST", Str.ofString "Wheel", Str.ofString "Grid", Str.ofString "MOST_PRICE", Str.ofString "Shelf"] (importedModules (Module.body (Program.main (PySem.Challenge.rw_wheelreach_k81_whole_shelves_led_back_an).row.prog))) (fun s => xlAt qv [(Str.ofString "MOST", WData.int 1000000000000), (Str.ofString "MOST_PRICE", WData.int 1000000000000)] s && recOk [] s) s.abs).2.2.1), ((seenQ qv [Str.ofString "MOST", Str.ofString "Wheel", Str.ofString "Grid", Str.ofString "MOST_PRICE", Str.ofString "Shelf"] (importedModules (Module.body (Program.main (PySem.Challenge.rw_wheelreach_k81_whole_shelves_led_back_an).row.prog))) (fun s => xlAt qv [(Str.ofString "MOST", WData.int 1000000000000), (Str.ofString "MOST_PRICE", WData.int 1000000000000)] s && recOk [] s) s.abs).2.2.2.1))) = some (true, true) := by kernel_rfl
theorem runP2 (w : World) (os : OsState) : (endF (stepQ (denQ tabQ) (PySem.Challenge.rw_wheelreach_k81_whole_shelves_led_back_an).row.prog w) 12136 (PySem.Challenge.rw_wheelreach_k81_whole_shelves_led_back_an).row.prog w os).map (fun s => ((seenQ qv [Str.ofString "MOST", Str.ofString "Wheel", Str.ofString "Grid", Str.ofString "MOST_PRICE", Str.ofString "Shelf"] (importedModules (Module.body (Program.main (PySem.Challenge.rw_wheelreach_k81_whole_shelves_led_back_an).row.prog))) (fun s => xlAt qv [(Str.ofString "MOST", WData.int 1000000000000), (Str.ofString "MOST_PRICE", WData.int 1000000000000)] s && recOk [] s) s.abs).2.2.1)) = some true := (fstRun (runG2 w os))
theorem runP3 (w : World) (os : OsState) : (endF (stepQ (denQ tabQ) (PySem.Challenge.rw_wheelreach_k81_whole_shelves_led_back_an).row.prog w) 12136 (PySem.Challenge.rw_wheelreach_k81_whole_shelves_led_back_an).row.prog w os).map (fun s => ((seenQ qv [Str.ofString "MOST", Str.ofString "Wheel", Str.ofString "Grid", Str.ofString "MOST_PRICE", Str.ofString "Shelf"] (importedModules (Module.body (Program.main (PySem.Challenge.rw_wheelreach_k81_whole_shelves_led_back_an).row.prog))) (fun s => xlAt qv [(Str.ofString "MOST", WData.int 1000000000000), (Str.ofString "MOST_PRICE", WData.int 1000000000000)] s && recOk [] s) s.abs).2.2.2.1)) = some true := (sndRun (runG2 w os))
theorem runG3 (w : World) (os : OsState) : (endF (stepQ (denQ tabQ) (PySem.Challenge.rw_wheelreach_k81_whole_shelves_led_back_an).row.prog w) 12136 (PySem.Challenge.rw_wheelreach_k81_whole_shelves_led_back_an).row.prog w os).map (fun s => (((seenQ qv [Str.ofString "MOST", Str.ofString "Wheel", Str.ofString "Grid", Str.ofString "MOST_PRICE", Str.ofString "Shelf"] (importedModules (Module.body (Program.main (PySem.Challenge.rw_wheelreach_k81_whole_shelves_led_back_an).row.prog))) (fun s => xlAt qv [(Str.ofString "MOST", WData.int 1000000000000), (Str.ofString "MOST_PRICE", WData.int 1000000000000)] s && recOk [] s) s.abs).2.2.2.2.2.1), ((seenQ qv [Str.ofString "MOST", Str.ofString "Wheel", Str.ofString "Grid", Str.ofString "MOST_PRICE", Str.ofString "Shelf"] (importedModules (Module.body (Program.main (PySem.Challenge.rw_wheelreach_k81_whole_shelves_led_back_an).row.prog))) (fun s => xlAt qv [(Str.ofString "MOST", WData.int 1000000000000), (Str.ofString "MOST_PRICE", WData.int 1000000000000)] s && recOk [] s) s.abs).2.2.2.2.2.2.2.2))) = some ((plainGoodE qv (looseW qv [Str.ofString "MOST", Str.ofString "Wheel", Str.ofString "Grid", Str.ofString "MOST_PRICE", Str.ofString "Shelf"])), (clsGoodW qv [Str.ofString "MOST", Str.ofString "Wheel", Str.ofString "Grid", Str.ofString "MOST_PRICE", Str.ofString "Shelf"])) := by kernel_rfl
theorem runP5 (w : World) (os : OsState) : (endF (stepQ (denQ tabQ) (PySem.Challenge.rw_wheelreach_k81_whole_shelves_led_back_an).row.prog w) 12136 (PySem.Challenge.rw_wheelreach_k81_whole_shelves_led_back_an).row.prog w os).map (fun s => ((seenQ qv [Str.ofString "MOST", Str.ofString "Wheel", Str.ofString "Grid", Str.ofString "MOST_PRICE", Str.ofString "Shelf"] (importedModules (Module.body (Program.main (PySem.Challenge.rw_wheelreach_k81_whole_shelves_led_back_an).row.prog))) (fun s => xlAt qv [(Str.ofString "MOST", WData.int 1000000000000), (Str.ofString "MOST_PRICE", WData.int 1000000000000)] s && recOk [] s) s.abs).2.2.2.2.2.1)) = some (plainGoodE qv (looseW qv [Str.ofString "MOST", Str.ofString "Wheel", Str.ofString "Grid", Str.ofString "MOST_PRICE", Str.ofString "Shelf"])) := (fstRun (runG3 w os))
theorem runP8 (w : World) (os : OsState) : (endF (stepQ (denQ tabQ) (PySem.Challenge.rw_wheelreach_k81_whole_shelves_led_back_an).row.prog w) 12136 (PySem.Challenge.rw_wheelreach_k81_whole_shelves_led_back_an).row.prog w os).map (fun s => ((seenQ qv [Str.ofString "MOST", Str.ofString "Wheel", Str.ofString "Grid", Str.ofString "MOST_PRICE", Str.ofString "Shelf"] (importedModules (Module.body (Program.main (PySem.Challenge.rw_wheelreach_k81_whole_shelves_led_back_an).row.prog))) (fun s => xlAt qv [(Str.ofString "MOST", WData.int 1000000000000), (Str.ofString "MOST_PRICE", WData.int 1000000000000)] s && recOk [] s) s.abs).2.2.2.2.2.2.2.2)) = some (clsGoodW qv [Str.ofString "MOST", Str.ofString "Wheel", Str.ofString "Grid", Str.ofString "MOST_PRICE", Str.ofString "Shelf"]) := (sndRun (runG3 w os))
theorem runP7 (w : World) (os : OsState) : (endF (stepQ (denQ tabQ) (PySem.Challenge.rw_wheelreach_k81_whole_shelves_led_back_an).row.prog w) 12136 (PySem.Challenge.rw_wheelreach_k81_whole_shelves_led_back_an).row.prog w os).map (fun s => ((seenQ qv [Str.ofString "MOST", Str.ofString "Wheel", Str.ofString "Grid", Str.ofString "MOST_PRICE", Str.ofString "Shelf"] (importedModules (Module.body (Program.main (PySem.Challenge.rw_wheelreach_k81_whole_shelves_led_back_an).row.prog))) (fun s => xlAt qv [(Str.ofString "MOST", WData.int 1000000000000), (Str.ofString "MOST_PRICE", WData.int 1000000000000)] s && recOk [] s) s.abs).2.2.2.2.2.2.2.1)) = some (wideGood qv) := by kernel_rfl
theorem runS (w : World) (os : OsState) : (endF (stepQ (denQ tabQ) (PySem.Challenge.rw_wheelreach_k81_whole_shelves_led_back_an).row.prog w) 12136 (PySem.Challenge.rw_wheelreach_k81_whole_shelves_led_back_an).row.prog w os).map (fun s => (seenQ qv [Str.ofString "MOST", Str.ofString "Wheel", Str.ofString "Grid", Str.ofString "MOST_PRICE", Str.ofString "Shelf"] (importedModules (Module.body (Program.main (PySem.Challenge.rw_wheelreach_k81_whole_shelves_led_back_an).row.prog))) (fun s => xlAt qv [(Str.ofString "MOST", WData.int 1000000000000), (Str.ofString "MOST_PRICE", WData.int 1000000000000)] s && recOk [] s) s.abs)) = some ((expectedOf qv), bltViewBooted, true, true, (pinGoodD (drecsOf qv)), (plainGoodE qv (looseW qv [Str.ofString "MOST", Str.ofString "Wheel", Str.ofString "Grid", Str.ofString "MOST_PRICE", Str.ofString "Shelf"])), (plainGoodD qv [Str.ofString "MOST", Str.ofString "Wheel", Str.ofString "Grid", Str.ofString "MOST_PRICE", Str.ofString "Shelf"]), (wideGood qv), (clsGoodW qv [Str.ofString "MOST", Str.ofString "Wheel", Str.ofString "Grid", Str.ofString "MOST_PRICE", Str.ofString "Shelf"])) := (joinRun (runP0 w os) (joinRun (runP1 w os) (joinRun (runP2 w os) (joinRun (runP3 w os) (joinRun (runP4 w os) (joinRun (runP5 w os) (joinRun (runP6 w os) (joinRun (runP7 w os) (runP8 w os)))))))))
end
section
local macro_rules | `(tactic| k_head) => `(tactic| k_headL)
local macro_rules | `(tactic| kernel_rfl) => `(tactic| ((with_reducible refine T.splitRun (T.runA _ _) ?_); (with_reducible refine T.splitRun ?_ ?_); (with_reducible refine T.viaRun (T.runS _ _) ?_ ?_); kernel_rfl; kernel_rfl; kernel_rfl))
open PySem PySem.W PyProof.Rows
open_top headT for PySem.Challenge.rw_wheelreach_k81_whole_shelves_led_back_an
end
end T
set_option Elab.async false
set_option linter.all false
set_option maxRecDepth 100000
set_option maxHeartbeats 4000000
namespace G
open PySem PySem.Spec PyProof.Rows L2
abbrev En := List (Str × Option V)
abbrev Lg := List (Addr × HO)
def names (η : En) : List Str := η.map (·.1)
def vals (η : En) : L2.St := η.map (·.2)
/-- the mark of a code object's table in a ledger: what stands in it are code objects named q -/
def tabM (q : Str) : HO := .tbl #[.str q 0]
/-- what an entry says -/
def holds (H : Hp) (a : Addr) : HO → Prop
  | .tbl m => ∃ q, HO.tbl m = tabM q ∧ LamX.TabS H a q
  | o => H a = some o
/-- neither a table nor a thing told by a predicate -/
def plain : HO → Bool
  | .tbl _ => false
  | .ext _ => false
  | _ => true
def notab : HO → Bool
  | .tbl _ => false
  | _ => true
theorem holds_of {H : Hp} {a : Addr} {o : HO} (n : notab o = true) (h : H a = some o) : holds H a o := by
  cases o <;> first | exact h | cases n
theorem holds_get {H : Hp} {a : Addr} {o : HO} (n : notab o = true) (h : holds H a o) : H a = some o := by
  cases o <;> first | exact h | cases n
theorem holds_tab' {H : Hp} {a : Addr} {q : Str} (h : LamX.TabS H a q) : holds H a (tabM q) := ⟨q, rfl, h⟩
theorem plain_notab {o : HO} (h : plain o = true) : notab o = true := by
  cases o <;> first | rfl | cases h
theorem holds_some {H : Hp} {a : Addr} {o : HO} (h : holds H a o) : ∃ u, H a = some u := by
  cases o with
  | tbl m =>
    obtain ⟨q, _, ps, e, _⟩ := h
    exact ⟨_, e⟩
  | _ => exact ⟨_, h⟩
theorem holds_grow {H H' : Hp} {a : Addr} {o : HO} (g : ∀ b u, H b = some u → H' b = some u) (h : holds H a o) : holds H' a o := by
  cases o with
  | tbl m =>
    obtain ⟨q, e, t⟩ := h
    exact ⟨q, e, t.ext g⟩
  | _ => exact g _ _ h
theorem holds_upd {H : Hp} {a p : Addr} {o u v : HO} (e : H p = some u) (n : plain u = true) (ne : a ≠ p) (h : holds H a o) : holds (upd H p v) a o := by
  cases o with
  | tbl m =>
    obtain ⟨q, em, ps, e1, t2, t3⟩ := h
    refine ⟨q, em, ps, by rw [upd_ne ne]; exact e1, t2, fun pos cv hc => ?_⟩
    obtain ⟨c, e2, e3⟩ := t3 pos cv hc
    refine ⟨c, e2, ?_⟩
    rw [upd_ne fun z => ?_]
    · exact e3
    · rw [z, e] at e3
      rw [Option.some.inj e3] at n
      cases n
  | _ => exact (upd_ne ne).trans h
def Has (H : Hp) (L : Lg) : Prop := (L.map (·.1)).Nodup ∧ ∀ e ∈ L, holds H e.1 e.2
inductive At (x : Str) (v : V) : En → Prop
  | here {η : En} : At x v ((x, some v) :: η)
  | there {e : Str × Option V} {η : En} : At x v η → At x v (e :: η)
inductive Put (x : Str) (v : V) : En → En → Prop
  | here {o : Option V} {η : En} : Put x v ((x, o) :: η) ((x, some v) :: η)
  | there {e : Str × Option V} {η θ : En} : Put x v η θ → Put x v (e :: η) (e :: θ)
theorem At.idx {x : Str} {v : V} {η : En} (h : At x v η) : ∃ i : Nat, (names η)[i]? = some x ∧ (vals η)[i]? = some (some v) := by
  induction h with
  | here => exact ⟨0, rfl, rfl⟩
  | there _ ih =>
    obtain ⟨i, a, b⟩ := ih
    exact ⟨i + 1, a, b⟩
theorem Put.idx {x : Str} {v : V} {η θ : En} (h : Put x v η θ) : ∃ i : Nat, (names η)[i]? = some x ∧ vals θ = (vals η).set i (some v) ∧ names θ = names η := by
  induction h with
  | here => exact ⟨0, rfl, rfl, rfl⟩
  | there _ ih =>
    obtain ⟨i, a, b, c⟩ := ih
    refine ⟨i + 1, a, ?_, ?_⟩
    · show _ :: vals _ = _ :: (vals _).set i (some v)
      rw [b] <;> rfl
    · show _ :: names _ = _ :: names _
      rw [c] <;> rfl
/-- the environment with x set, as a function of what is put -/
inductive PutF (x : Str) : En → (V → En) → Prop
  | here {o : Option V} {η : En} : PutF x ((x, o) :: η) (fun v => (x, some v) :: η)
  | there {e : Str × Option V} {η : En} {f : V → En} : PutF x η f → PutF x (e :: η) (fun v => e :: f v)
theorem PutF.idx {x : Str} {η : En} {f : V → En} (h : PutF x η f) : ∃ i : Nat, (names η)[i]? = some x ∧ ∀ v, vals (f v) = (vals η).set i (some v) ∧ names (f v) = names η := by
  induction h with
  | here => exact ⟨0, rfl, fun _ => ⟨rfl, rfl⟩⟩
  | there _ ih =>
    obtain ⟨i, a, b⟩ := ih
    refine ⟨i + 1, a, fun v => ⟨?_, ?_⟩⟩
    · show _ :: vals _ = _ :: (vals _).set i (some v)
      rw [(b v).1] <;> rfl
    · show _ :: names _ = _ :: names _
      rw [(b v).2] <;> rfl
theorem Has.nil {H : Hp} : Has H [] := ⟨List.nodup_nil, fun _ h => absurd h (by simp)⟩
theorem Has.get {H : Hp} {L : Lg} {a : Addr} {o : HO} (h : Has H L) (m : (a, o) ∈ L) (n : notab o = true := by rfl) : H a = some o := holds_get n (h.2 (a, o) m)
theorem Has.out {H : Hp} {L : Lg} {p : Addr} (h : Has H L) (n : H p = none) : p ∉ L.map (·.1) := fun m => by
  obtain ⟨e, he, rfl⟩ := List.mem_map.mp m
  obtain ⟨u, z⟩ := holds_some (h.2 e he)
  rw [z] at n
  cases n
theorem Has.newB {H H' : Hp} {L : Lg} {p : Addr} {o : HO} (h : Has H L) (n : H p = none) (g : ∀ b u, H b = some u → H' b = some u) (x : holds H' p o) : Has H' ((p, o) :: L) := by
  refine ⟨List.nodup_cons.mpr ⟨h.out n, h.1⟩, fun e m => ?_⟩
  rcases List.mem_cons.mp m with rfl | m
  · exact x
  · exact holds_grow g (h.2 e m)
theorem updGrow {H : Hp} {p : Addr} {o : HO} (n : H p = none) : ∀ b u, H b = some u → upd H p o b = some u := fun b u e => (upd_ne (ne_of_none e n)).trans e
theorem Has.new {H : Hp} {L : Lg} {p : Addr} {o : HO} (h : Has H L) (n : H p = none) (t : notab o = true := by rfl) : Has (upd H p o) ((p, o) :: L) := h.newB n (updGrow n) (holds_of t upd_same)
/-- one entry replaced by another of its address -/
inductive Swap (p : Addr) (o : HO) : Lg → Lg → Prop
  | here {u : HO} {L : Lg} (pl : plain u = true := by rfl) : Swap p o ((p, u) :: L) ((p, o) :: L)
  | there {e : Addr × HO} {L M : Lg} : Swap p o L M → Swap p o (e :: L) (e :: M)
theorem Swap.was {p : Addr} {o : HO} {L M : Lg} (s : Swap p o L M) : ∃ u, plain u = true ∧ (p, u) ∈ L := by
  induction s with
  | here pl => exact ⟨_, pl, List.mem_cons_self⟩
  | there _ ih =>
    obtain ⟨u, a, b⟩ := ih
    exact ⟨u, a, List.mem_cons_of_mem _ b⟩
theorem Swap.fst {p : Addr} {o : HO} {L M : Lg} (s : Swap p o L M) : M.map (·.1) = L.map (·.1) ∧ p ∈ L.map (·.1) := by
  induction s with
  | here => exact ⟨rfl, List.mem_cons_self⟩
  | there _ ih => exact ⟨by rw [List.map_cons, List.map_cons, ih.1], List.mem_cons_of_mem _ ih.2⟩
theorem Swap.mem {p : Addr} {o : HO} {L M : Lg} (s : Swap p o L M) (nd : (L.map (·.1)).Nodup) : ∀ e ∈ M, e = (p, o) ∨ (e ∈ L ∧ e.1 ≠ p) := by
  induction s with
  | here =>
    intro e m
    rcases List.mem_cons.mp m with rfl | m
    · exact .inl rfl
    · have n := (List.nodup_cons.mp nd).1
      exact .inr ⟨List.mem_cons_of_mem _ m, fun z => n (List.mem_map.mpr ⟨e, m, z⟩)⟩
  | there s ih =>
    intro e m
    have n := List.nodup_cons.mp nd
    rcases List.mem_cons.mp m with rfl | m
    · exact .inr ⟨List.mem_cons_self, fun z => n.1 (by have q := s.fst.2; rw [← z] at q; exact q)⟩
    · rcases ih n.2 e m with q | ⟨q, r⟩
      · exact .inl q
      · exact .inr ⟨List.mem_cons_of_mem _ q, r⟩
theorem Has.swap {H : Hp} {L M : Lg} {p : Addr} {o : HO} (h : Has H L) (s : Swap p o L M) (t : notab o = true := by rfl) : Has (upd H p o) M := by
  obtain ⟨u, pl, mu⟩ := s.was
  refine ⟨by rw [s.fst.1]; exact h.1, fun e m => ?_⟩
  rcases s.mem h.1 e m with rfl | ⟨q, r⟩
  · exact holds_of t upd_same
  · exact holds_upd (h.get mu (plain_notab pl)) pl r (h.2 e q)
/-- M is told by L -/
structure Sub (M L : Lg) : Prop where
  to : (L.map (·.1)).Nodup → (M.map (·.1)).Nodup ∧ ∀ e ∈ M, e ∈ L
theorem Sub.has {M L : Lg} (s : Sub M L) (H : Hp) (h : Has H L) : Has H M := ⟨(s.to h.1).1, fun e m => h.2 e ((s.to h.1).2 e m)⟩
instance {M L : Lg} : CoeFun (Sub M L) (fun _ => ∀ H, Has H L → Has H M) := ⟨Sub.has⟩
theorem Sub.refl {L : Lg} : Sub L L := ⟨fun h => ⟨h, fun _ h => h⟩⟩
theorem Sub.trans {L M N : Lg} (a : Sub N M) (b : Sub M L) : Sub N L := ⟨fun h => ⟨(a.to (b.to h).1).1, fun e m => (b.to h).2 e ((a.to (b.to h).1).2 e m)⟩⟩
theorem Sub.drop {L : Lg} {e : Addr × HO} : Sub L (e :: L) := ⟨fun h => ⟨(List.nodup_cons.mp h).2, fun _ m => List.mem_cons_of_mem _ m⟩⟩
theorem Sub.cons {L M : Lg} {e : Addr × HO} (s : Sub M L) : Sub (e :: M) (e :: L) := by
  refine ⟨fun h => ?_⟩
  obtain ⟨n, h⟩ := List.nodup_cons.mp h
  obtain ⟨a, b⟩ := s.to h
  refine ⟨List.nodup_cons.mpr ⟨fun m => ?_, a⟩, fun u m => ?_⟩
  · obtain ⟨u, hu, eu⟩ := List.mem_map.mp m
    exact n (List.mem_map.mpr ⟨u, b u hu, eu⟩)
  · rcases List.mem_cons.mp m with rfl | m
    · exact List.mem_cons_self
    · exact List.mem_cons_of_mem _ (b u m)
theorem Sub.append {L M : Lg} (s : Sub M L) : ∀ {E : Lg}, Sub (E ++ M) (E ++ L)
  | [] => s
  | _ :: E => Sub.cons (Sub.append s (E := E))
theorem Sub.perm {L M : Lg} (p : M.Perm L) : Sub M L := ⟨fun h => ⟨(p.map _).nodup_iff.mpr h, fun e m => p.mem_iff.mp m⟩⟩
theorem Sub.sublist {L M : Lg} (p : M.Sublist L) : Sub M L := ⟨fun h => ⟨(p.map _).nodup h, fun e m => p.subset m⟩⟩
theorem Swap.ex {p : Addr} {o u : HO} (pl : plain u = true) : ∀ {L : Lg}, (p, u) ∈ L → ∃ M, Swap p o L M
  | e :: L, m => by
    rcases List.mem_cons.mp m with z | m
    · subst z
      exact ⟨_, .here pl⟩
    · obtain ⟨M, s⟩ := Swap.ex (o := o) pl m
      exact ⟨_, .there s⟩
theorem Swap.keep {p : Addr} {o : HO} {L M : Lg} (s : Swap p o L M) {e : Addr × HO} (h : e ∈ L) (n : e.1 ≠ p) : e ∈ M := by
  induction s with
  | here _ =>
    rcases List.mem_cons.mp h with z | h
    · subst z
      exact absurd rfl n
    · exact List.mem_cons_of_mem _ h
  | there _ ih =>
    rcases List.mem_cons.mp h with z | h
    · subst z
      exact List.mem_cons_self
    · exact List.mem_cons_of_mem _ (ih h)
theorem Swap.got {p : Addr} {o : HO} {L M : Lg} (s : Swap p o L M) : (p, o) ∈ M := by
  induction s with
  | here _ => exact List.mem_cons_self
  | there _ ih => exact List.mem_cons_of_mem _ ih
/-- one entry changed below what is known -/
theorem Sub.swap {p : Addr} {o u : HO} {L M N : Lg} (s : Sub ((p, u) :: L) M) (w : Swap p o M N) : Sub ((p, o) :: L) N := by
  refine ⟨fun h => ?_⟩
  rw [w.fst.1] at h
  obtain ⟨a, b⟩ := s.to h
  refine ⟨a, fun e m => ?_⟩
  rcases List.mem_cons.mp m with rfl | m
  · exact w.got
  · refine w.keep (b e (List.mem_cons_of_mem _ m)) fun z => (List.nodup_cons.mp a).1 ?_
    exact List.mem_map.mpr ⟨e, m, z⟩
abbrev QV := V → Lg → Prop
def up (Q : QV) : VK := fun v H => ∃ L, Has H L ∧ Q v L
def upB (Q : Bool → Lg → Prop) : Bool → Hp → Prop := fun b H => ∃ L, Has H L ∧ Q b L
def upA (Q : List V → Lg → Prop) : List V → Hp → Prop := fun vs H => ∃ L, Has H L ∧ Q vs L
def WE (X : Cx) (e : Expr) : TE := fun σ H Q => ∀ pins s, Inv X pins σ H s → wpAny (model X.prog X.w) X.A (eval e X.env) (EP X pins σ Q) X.xe s
def WT (X : Cx) (e : Expr) : TT := fun σ H Q => ∀ pins s, Inv X pins σ H s → wpAny (model X.prog X.w) X.A (isTrue e X.env (eval e X.env)) (TP X pins σ Q) X.xe s
def WW (X : Cx) (e : Expr) : TT := fun σ H Q => ∀ whole pins s, Inv X pins σ H s → wpAny (model X.prog X.w) X.A (isTrue e X.env whole) (TP X pins σ Q) X.xe s
def WA (X : Cx) (es : List Expr) : TA := fun σ H Q => ∀ pos pins s, Inv X pins σ H s → wpAny (model X.prog X.w) X.A (spliced (backTo pos (starEach es X.env))) (AP X pins σ Q) X.xe s
def WS (X : Cx) (st : Stmt) : TS := fun D σ H => ∀ pins s, Inv X pins σ H s → wpAny (model X.prog X.w) X.A (exec st X.env) (SP X pins D) X.xe s
def WSs (X : Cx) (st : List Stmt) : TS := fun D σ H => ∀ pins s, Inv X pins σ H s → wpAny (model X.prog X.w) X.A (execs st X.env) (SP X pins D) X.xe s
def WG (X : Cx) (tg : Expr) : TG := fun v σ H Q => ∀ pins s u, Inv X pins σ H s → RelV v u → wpAny (model X.prog X.w) X.A (assign tg X.env u) (fun _ s' => ∃ σ' H', Inv X pins σ' H' s' ∧ Q σ' H') X.xe s
def WGs (X : Cx) (ts : List Expr) : TGs := fun vs σ H Q => ∀ pins s us, Inv X pins σ H s → Vals vs us → wpAny (model X.prog X.w) X.A (assignInOrder ((assignEach ts X.env).map (·.2)) us) (fun _ s' => ∃ σ' H', Inv X pins σ' H' s' ∧ Q σ' H') X.xe s
section
variable {X : Cx} {e : Expr} {σ : L2.St} {H : Hp}
theorem pe_W : PE X e (WE X e) := ⟨fun pins s _ _ _ I h => h pins s I⟩
theorem pt_W : PT X e (WT X e) := ⟨fun pins s _ _ _ I h => h pins s I⟩
theorem pw_W : PW X e (WW X e) := ⟨fun u pins s _ _ _ I h => h u pins s I⟩
theorem pa_W {es : List Expr} : PA X es (WA X es) := ⟨fun pos pins s _ _ _ I h => h pos pins s I⟩
theorem ps_W {st : Stmt} : PS X st (WS X st) := ⟨fun pins s _ _ _ I h => h pins s I⟩
theorem pss_W {st : List Stmt} : PSs X st (WSs X st) := ⟨fun pins s _ _ _ I h => h pins s I⟩
theorem pg_W : PG X e (WG X e) := ⟨fun pins s _ _ _ u _ I r h => h pins s u I r⟩
theorem pgs_W {es : List Expr} : PGs X es (WGs X es) := ⟨fun pins s _ _ _ us _ I r h => h pins s us I r⟩
theorem WE.of {t : TE} {Q : VK} (h : PE X e t) (q : t σ H Q) : WE X e σ H Q := fun pins s I => h.run pins s σ H Q I q
theorem WT.of {t : TT} {Q : Bool → Hp → Prop} (h : PT X e t) (q : t σ H Q) : WT X e σ H Q := fun pins s I => h.run pins s σ H Q I q
theorem WW.of {t : TT} {Q : Bool → Hp → Prop} (h : PW X e t) (q : t σ H Q) : WW X e σ H Q := fun u pins s I => h.run u pins s σ H Q I q
theorem WA.of {es : List Expr} {t : TA} {Q : List V → Hp → Prop} (h : PA X es t) (q : t σ H Q) : WA X es σ H Q := fun pos pins s I => h.run pos pins s σ H Q I q
theorem WS.of {st : Stmt} {t : TS} {D : Ends} (h : PS X st t) (q : t D σ H) : WS X st D σ H := fun pins s I => h.run pins s σ H D I q
theorem WSs.of {st : List Stmt} {t : TS} {D : Ends} (h : PSs X st t) (q : t D σ H) : WSs X st D σ H := fun pins s I => h.run pins s σ H D I q
theorem WG.of {t : TG} {v : V} {Q : L2.St → Hp → Prop} (h : PG X e t) (q : t v σ H Q) : WG X e v σ H Q := fun pins s u I r => h.run pins s σ H v u Q I r q
theorem WGs.of {es : List Expr} {t : TGs} {vs : List V} {Q : L2.St → Hp → Prop} (h : PGs X es t) (q : t vs σ H Q) : WGs X es vs σ H Q := fun pins s us I r => h.run pins s σ H vs us Q I r q
theorem WE.mono {Q Q' : VK} (h : WE X e σ H Q) (m : ∀ v H', Q v H' → Q' v H') : WE X e σ H Q' := fun pins s I =>
  thn (h pins s I) fun _ _ ⟨v, H', J, r, q⟩ => ⟨v, H', J, r, m v H' q⟩
theorem WT.mono {Q Q' : Bool → Hp → Prop} (h : WT X e σ H Q) (m : ∀ v H', Q v H' → Q' v H') : WT X e σ H Q' := fun pins s I =>
  thn (h pins s I) fun _ _ ⟨H', J, q⟩ => ⟨H', J, m _ H' q⟩
theorem WW.mono {Q Q' : Bool → Hp → Prop} (h : WW X e σ H Q) (m : ∀ v H', Q v H' → Q' v H') : WW X e σ H Q' := fun u pins s I =>
  thn (h u pins s I) fun _ _ ⟨H', J, q⟩ => ⟨H', J, m _ H' q⟩
theorem WA.mono {es : List Expr} {Q Q' : List V → Hp → Prop} (h : WA X es σ H Q) (m : ∀ v H', Q v H' → Q' v H') : WA X es σ H Q' := fun pos pins s I =>
  thn (h pos pins s I) fun _ _ ⟨v, H', J, r, q⟩ => ⟨v, H', J, r, m v H' q⟩
theorem WG.mono {v : V} {Q Q' : L2.St → Hp → Prop} (h : WG X e v σ H Q) (m : ∀ v H', Q v H' → Q' v H') : WG X e v σ H Q' := fun pins s u I r =>
  thn (h pins s u I r) fun _ _ ⟨v, H', J, q⟩ => ⟨v, H', J, m v H' q⟩
theorem WGs.mono {es : List Expr} {vs : List V} {Q Q' : L2.St → Hp → Prop} (h : WGs X es vs σ H Q) (m : ∀ v H', Q v H' → Q' v H') : WGs X es vs σ H Q' := fun pins s u I r =>
  thn (h pins s u I r) fun _ _ ⟨v, H', J, q⟩ => ⟨v, H', J, m v H' q⟩
end
def GE (X : Cx) (e : Expr) (η : En) (L : Lg) (Q : QV) : Prop := X.N = names η → ∀ H, Has H L → WE X e (vals η) H (up Q)
def GT (X : Cx) (e : Expr) (η : En) (L : Lg) (Q : Bool → Lg → Prop) : Prop := X.N = names η → ∀ H, Has H L → WT X e (vals η) H (upB Q)
def GW (X : Cx) (e : Expr) (η : En) (L : Lg) (Q : Bool → Lg → Prop) : Prop := X.N = names η → ∀ H, Has H L → WW X e (vals η) H (upB Q)
def GA (X : Cx) (es : List Expr) (η : En) (L : Lg) (Q : List V → Lg → Prop) : Prop := X.N = names η → ∀ H, Has H L → WA X es (vals η) H (upA Q)
/-- what is wanted behind a statement -/
structure GD where
  nx : En → Lg → Prop
  rt : QV
  bk : En → Lg → Prop
  ct : En → Lg → Prop
def upS (X : Cx) (Q : En → Lg → Prop) : L2.St → Hp → Prop := fun σ H => ∃ η L, X.N = names η ∧ σ = vals η ∧ Has H L ∧ Q η L
def GD.ends (X : Cx) (D : GD) : Ends := { nx := upS X D.nx, rt := up D.rt, bk := upS X D.bk, ct := upS X D.ct }
def GS (X : Cx) (st : Stmt) (D : GD) (η : En) (L : Lg) : Prop := X.N = names η → ∀ H, Has H L → WS X st (D.ends X) (vals η) H
def GSs (X : Cx) (st : List Stmt) (D : GD) (η : En) (L : Lg) : Prop := X.N = names η → ∀ H, Has H L → WSs X st (D.ends X) (vals η) H
def GG (X : Cx) (tg : Expr) (v : V) (η : En) (L : Lg) (Q : En → Lg → Prop) : Prop := X.N = names η → ∀ H, Has H L → WG X tg v (vals η) H (upS X Q)
def GGs (X : Cx) (ts : List Expr) (vs : List V) (η : En) (L : Lg) (Q : En → Lg → Prop) : Prop := X.N = names η → ∀ H, Has H L → WGs X ts vs (vals η) H (upS X Q)
/-- an operator, a call, a subscript by values -/
def GOp (X : Cx) (f : Value → Value → Sem Value) (x y : V) (L : Lg) (Q : QV) : Prop := ∀ pins s σ H v u, Has H L → Inv X pins σ H s → RelV x v → RelV y u → wpAny (model X.prog X.w) X.A (f v u) (EP X pins σ (up Q)) X.xe s
def GUn (X : Cx) (f : Value → Sem Value) (x : V) (L : Lg) (Q : QV) : Prop := ∀ pins s σ H v, Has H L → Inv X pins σ H s → RelV x v → wpAny (model X.prog X.w) X.A (f v) (EP X pins σ (up Q)) X.xe s
def GC (X : Cx) (f : Value) (xs : List V) (L : Lg) (Q : QV) : Prop := ∀ pins s σ H us, Has H L → Inv X pins σ H s → Vals xs us → wpAny (model X.prog X.w) X.A (call f us) (EP X pins σ (up Q)) X.xe s
section
variable {X : Cx} {L : Lg} {Q : QV} {x y : V}
theorem GOp.of {f : Value → Value → Sem Value} {r : R2} (h : OpR X f r) (q : ∀ H, Has H L → r x y H (up Q)) : GOp X f x y L Q := fun pins s σ H v u hH I rv ru => h pins s σ H x y v u _ I rv ru (q H hH)
theorem GUn.of {f : Value → Sem Value} {r : V → Hp → VK → Prop} (h : UnR X f r) (q : ∀ H, Has H L → r x H (up Q)) : GUn X f x L Q := fun pins s σ H v hH I rv => h pins s σ H x v _ I rv (q H hH)
theorem GC.of {f : Value} {xs : List V} {r : List V → Hp → VK → Prop} (h : CallR X f r) (q : ∀ H, Has H L → r xs H (up Q)) : GC X f xs L Q := fun pins s σ H us hH I rv => h pins s σ H xs us _ I rv (q H hH)
end
section
variable {X : Cx} {η : En} {L : Lg} {Q : QV} {a b c e : Expr} {pos : Pos}
theorem ge_var {x : Str} {v : V} (h : At x v η) (q : Q v L) (hv : Vis X.env.scope x := by first | exact Or.inl rfl | exact Or.inr (Or.inl rfl) | exact Or.inr (Or.inr rfl))
    (hd : (x == ("__debug__" : Str)) = false := by decide) (hcd : (x == ("__classdict__" : Str)) = false := by decide) : GE X (.Name x pos) η L Q := fun hN H hH => by
  obtain ⟨i, h1, h2⟩ := h.idx
  exact WE.of (pe_var (i := i) (by rw [hN]; exact h1) hv hd hcd) ⟨v, h2, L, hH, q⟩
theorem ge_con {v : V} (p : PE X e (tC v)) (q : Q v L) : GE X e η L Q := fun _ H hH => WE.of p ⟨L, hH, q⟩
theorem ge_int {i : Int} {j} (q : Q (.int i) L) : GE X (.Constant (.int i) j pos) η L Q := ge_con pe_int q
theorem ge_bl {i : Bool} {j} (q : Q (.bl i) L) : GE X (.Constant (.bool i) j pos) η L Q := ge_con pe_bl q
theorem ge_non {j} (q : Q .non L) : GE X (.Constant .none j pos) η L Q := ge_con pe_non q
theorem ge_str {x : Str} {j} (q : Q (.str x) L) : GE X (.Constant (.str x) j pos) η L Q := ge_con pe_str q
/-- what is known may be cut -/
theorem GE.nd (h : GE X e η L fun v L1 => (L1.map (·.1)).Nodup → Q v L1) : GE X e η L Q := fun hN H hH => (h hN H hH).mono fun v _ ⟨L', h', q⟩ => ⟨L', h', q h'.1⟩
theorem GE.sub {M : Lg} (s : Sub M L) (h : GE X e η M Q) : GE X e η L Q := fun hN H hH => h hN H (s H hH)
theorem GT.sub {M : Lg} {Q : Bool → Lg → Prop} (s : Sub M L) (h : GT X e η M Q) : GT X e η L Q := fun hN H hH => h hN H (s H hH)
theorem GE.imp {Q' : QV} (h : GE X e η L Q) (m : ∀ v L', Q v L' → Q' v L') : GE X e η L Q' := fun hN H hH => (h hN H hH).mono fun v _ ⟨L', h', q⟩ => ⟨L', h', m v L' q⟩
theorem GA.imp {es : List Expr} {Q Q' : List V → Lg → Prop} (h : GA X es η L Q) (m : ∀ v L', Q v L' → Q' v L') : GA X es η L Q' := fun hN H hH => (h hN H hH).mono fun v _ ⟨L', h', q⟩ => ⟨L', h', m v L' q⟩
theorem GT.imp {Q Q' : Bool → Lg → Prop} (h : GT X e η L Q) (m : ∀ v L', Q v L' → Q' v L') : GT X e η L Q' := fun hN H hH => (h hN H hH).mono fun v _ ⟨L', h', q⟩ => ⟨L', h', m v L' q⟩
/-- then -/
theorem GE.then {Q' : VK} (h : GE X a η L Q) (hN : X.N = names η) {H : Hp} (hH : Has H L) (m : ∀ v L1 H1, Has H1 L1 → Q v L1 → Q' v H1) : WE X a (vals η) H Q' := (h hN H hH).mono fun v H1 ⟨L1, h1, q1⟩ => m v L1 H1 h1 q1
theorem GA.then {es : List Expr} {Q : List V → Lg → Prop} {Q' : List V → Hp → Prop} (h : GA X es η L Q) (hN : X.N = names η) {H : Hp} (hH : Has H L) (m : ∀ v L1 H1, Has H1 L1 → Q v L1 → Q' v H1) : WA X es (vals η) H Q' := (h hN H hH).mono fun v H1 ⟨L1, h1, q1⟩ => m v L1 H1 h1 q1
theorem GT.then {Q : Bool → Lg → Prop} {Q' : Bool → Hp → Prop} (h : GT X a η L Q) (hN : X.N = names η) {H : Hp} (hH : Has H L) (m : ∀ v L1 H1, Has H1 L1 → Q v L1 → Q' v H1) : WT X a (vals η) H Q' := (h hN H hH).mono fun v H1 ⟨L1, h1, q1⟩ => m v L1 H1 h1 q1
theorem GW.then {Q : Bool → Lg → Prop} {Q' : Bool → Hp → Prop} (h : GW X a η L Q) (hN : X.N = names η) {H : Hp} (hH : Has H L) (m : ∀ v L1 H1, Has H1 L1 → Q v L1 → Q' v H1) : WW X a (vals η) H Q' := (h hN H hH).mono fun v H1 ⟨L1, h1, q1⟩ => m v L1 H1 h1 q1
theorem ge_bin {op : Operator} (h : GE X a η L fun x L1 => GE X b η L1 fun y L2 => GOp X (binaryOp op) x y L2 Q) : GE X (.BinOp a op b pos) η L Q := fun hN H hH =>
  WE.of (pe_op (r := fun x y H' Q' => ∀ pins s σ v u, Inv X pins σ H' s → RelV x v → RelV y u → wpAny (model X.prog X.w) X.A (binaryOp op v u) (EP X pins σ Q') X.xe s)
    (fun pins s σ H' x y v u Q' I r1 r2 q => q pins s σ v u I r1 r2) pe_W pe_W)
    (h.then hN hH fun _ _ _ h1 q1 => q1.then hN h1 fun _ _ _ h2 q2 => fun pins s σ v u I r1 r2 => q2 pins s σ _ v u h2 I r1 r2)
theorem ge_un {op : UnaryOp} (h : GE X a η L fun x L1 => GUn X (unaryOp op) x L1 Q) : GE X (.UnaryOp op a pos) η L Q := fun hN H hH =>
  WE.of (pe_un (r := fun x H' Q' => ∀ pins s σ v, Inv X pins σ H' s → RelV x v → wpAny (model X.prog X.w) X.A (unaryOp op v) (EP X pins σ Q') X.xe s)
    (fun pins s σ H' x v Q' I r1 q => q pins s σ v I r1) pe_W)
    (h.then hN hH fun _ _ _ h1 q1 => fun pins s σ v I r1 => q1 pins s σ _ v h1 I r1)
theorem ge_cmp {op : CmpOp} (h : GE X a η L fun x L1 => GE X b η L1 fun y L2 => GOp X (compareOp op) x y L2 Q) (hm : behindInMarks op b = false := by rfl) : GE X (.Compare a [op] [b] pos) η L Q := fun hN H hH =>
  WE.of (pe_cmpR (r := fun x y H' Q' => ∀ pins s σ v u, Inv X pins σ H' s → RelV x v → RelV y u → wpAny (model X.prog X.w) X.A (compareOp op v u) (EP X pins σ Q') X.xe s)
    (fun pins s σ H' x y v u Q' I r1 r2 q => q pins s σ v u I r1 r2) pe_W pe_W hm)
    (h.then hN hH fun _ _ _ h1 q1 => q1.then hN h1 fun _ _ _ h2 q2 => fun pins s σ v u I r1 r2 => q2 pins s σ _ v u h2 I r1 r2)
theorem ge_one {op : BoolOp} (h : GE X a η L Q) : GE X (.BoolOp op [a] pos) η L Q := fun hN H hH => WE.of (pe_one pe_W) (h hN H hH)
theorem ge_and {rest : List Expr} (h : GE X a η L fun x L1 => ∃ k, x = .bl k ∧ if k = true then GE X (.BoolOp .And (b :: rest) pos) η L1 Q else Q (.bl false) L1) : GE X (.BoolOp .And (a :: b :: rest) pos) η L Q := fun hN H hH =>
  WE.of (pe_and pe_W pe_W) (h.then hN hH fun x L1 H1 h1 ⟨k, e1, q1⟩ => ⟨k, e1, by
    cases k with
    | true => exact q1 hN H1 h1
    | false => exact ⟨L1, h1, q1⟩⟩)
theorem ge_or {rest : List Expr} (h : GE X a η L fun x L1 => ∃ k, x = .bl k ∧ if k = true then Q (.bl true) L1 else GE X (.BoolOp .Or (b :: rest) pos) η L1 Q) : GE X (.BoolOp .Or (a :: b :: rest) pos) η L Q := fun hN H hH =>
  WE.of (pe_or pe_W pe_W) (h.then hN hH fun x L1 H1 h1 ⟨k, e1, q1⟩ => ⟨k, e1, by
    cases k with
    | true => exact ⟨L1, h1, q1⟩
    | false => exact q1 hN H1 h1⟩)
theorem ge_not (h : GE X a η L fun x L1 => ∃ k, x = .bl k ∧ Q (.bl (!k)) L1) : GE X (.UnaryOp .Not a pos) η L Q := fun hN H hH =>
  WE.of (pe_not pe_W) (h.then hN hH fun x L1 H1 h1 ⟨k, e1, q1⟩ => ⟨k, e1, L1, h1, q1⟩)
theorem ge_if (h : GT X c η L fun k L1 => if k = true then GE X a η L1 Q else GE X b η L1 Q) : GE X (.IfExp c a b pos) η L Q := fun hN H hH =>
  WE.of (pe_ifExp pt_W pe_W pe_W) (h.then hN hH fun k L1 H1 h1 q1 => by
    cases k with
    | true => exact q1 hN H1 h1
    | false => exact q1 hN H1 h1)
theorem ga_nil {Q : List V → Lg → Prop} (q : Q [] L) : GA X [] η L Q := fun _ H hH => WA.of pa_nil ⟨L, hH, q⟩
theorem ga_cons {es : List Expr} {Q : List V → Lg → Prop} (h : GE X e η L fun x L1 => GA X es η L1 fun xs L2 => Q (x :: xs) L2) (hs : starEach (e :: es) X.env = (false, eval e X.env) :: starEach es X.env := by rfl) : GA X (e :: es) η L Q := fun hN H hH =>
  WA.of (pa_cons pe_W pa_W hs) (h.then hN hH fun _ _ _ h1 q1 => q1.then hN h1 fun _ L2 _ h2 q2 => ⟨L2, h2, q2⟩)
theorem ge_tup {es : List Expr} {x1} (h : GA X es η L fun xs L1 => xs.length ≤ sizeLine ∧ ∀ p, Q (.ref p) ((p, .tup xs) :: L1)) : GE X (.Tuple es x1 pos) η L Q := fun hN H hH =>
  WE.of (pe_tup pa_W) (h.then hN hH fun xs L1 H1 h1 ⟨z, q1⟩ => ⟨z, fun p hp => ⟨_, h1.new hp, q1 p⟩⟩)
theorem ge_lst {es : List Expr} (h : GA X es η L fun xs L1 => xs.length ≤ sizeLine ∧ ∀ p, Q (.ref p) ((p, .lst xs) :: L1)) : GE X (.List es pos) η L Q := fun hN H hH =>
  WE.of (pe_lst pa_W) (h.then hN hH fun xs L1 H1 h1 ⟨z, q1⟩ => ⟨z, fun p hp => ⟨_, h1.new hp, q1 p⟩⟩)
/-- a subscript by values -/
def GIx (X : Cx) (x y : V) (L : Lg) (Q : QV) : Prop := ∀ (value slice : Expr) pins s σ H v u, Has H L → Inv X pins σ H s → RelV x v → RelV y u → subscripted slice false v u = operate [v, u] (getItem v u) → wpAny (model X.prog X.w) X.A (subscriptTail value slice v u) (EP X pins σ (up Q)) X.xe s
theorem GIx.of {x y : V} {r : R2} (h : IxR X r) (q : ∀ H, Has H L → r x y H (up Q)) : GIx X x y L Q := fun value slice pins s σ H v u hH I rv ru hs => h value slice pins s σ H x y v u _ I rv ru (q H hH) hs
theorem ge_ix (h : GE X a η L fun x L1 => GE X b η L1 fun y L2 => GIx X x y L2 Q) (hs : PlainIx b := by exact fun _ _ => rfl) : GE X (.Subscript a b pos) η L Q := fun hN H hH =>
  WE.of (pe_ix (r := fun x y H' Q' => ∀ (value slice : Expr) pins s σ v u, Inv X pins σ H' s → RelV x v → RelV y u → subscripted slice false v u = operate [v, u] (getItem v u) → wpAny (model X.prog X.w) X.A (subscriptTail value slice v u) (EP X pins σ Q') X.xe s)
    (fun value slice pins s σ H' x y v u Q' I r1 r2 q z => q value slice pins s σ v u I r1 r2 z) pe_W pe_W hs)
    (h.then hN hH fun _ _ _ h1 q1 => q1.then hN h1 fun _ _ _ h2 q2 => fun value slice pins s σ v u I r1 r2 z => q2 value slice pins s σ _ v u h2 I r1 r2 z)
end
section
variable {X : Cx} {η : En} {L : Lg} {Q : Bool → Lg → Prop} {a b c e : Expr} {pos : Pos}
theorem gt_cmp {op : CmpOp} (h : GE X a η L fun x L1 => GE X b η L1 fun y L2 => GOp X (compareOp op) x y L2 fun z L3 => ∃ k, z = .bl k ∧ Q k L3) (hm : behindInMarks op b = false := by rfl) : GT X (.Compare a [op] [b] pos) η L Q := fun hN H hH =>
  WT.of (pt_cmpR (r := fun x y H' Q' => ∀ pins s σ v u, Inv X pins σ H' s → RelV x v → RelV y u → wpAny (model X.prog X.w) X.A (compareOp op v u) (EP X pins σ Q') X.xe s)
    (fun pins s σ H' x y v u Q' I r1 r2 q => q pins s σ v u I r1 r2) pe_W pe_W hm)
    (h.then hN hH fun _ _ _ h1 q1 => q1.then hN h1 fun _ _ _ h2 q2 => fun pins s σ v u I r1 r2 =>
      thn (q2 pins s σ _ v u h2 I r1 r2) fun _ _ ⟨z, H3, J, r3, L3, h3, k, ek, q3⟩ => ⟨z, H3, J, r3, k, ek, L3, h3, q3⟩)
theorem gt_val (h : GE X a η L fun x L1 => ∃ k, x = .bl k ∧ Q k L1) (he : ∀ whole, isTrue a X.env whole = (do let v ← whole; standAt a.pos; holding [v] (truthy v)) := by intro _; rfl) : GT X a η L Q := fun hN H hH =>
  WT.of (pt_val pe_W he) (h.then hN hH fun _ L1 _ h1 ⟨k, e1, q1⟩ => ⟨k, e1, L1, h1, q1⟩)
theorem gt_w {op : BoolOp} {es : List Expr} (h : GW X (.BoolOp op es pos) η L Q) : GT X (.BoolOp op es pos) η L Q := fun hN H hH => WT.of pw_W.pt (h hN H hH)
theorem gw_and1 (h : GT X a η L Q) : GW X (.BoolOp .And [a] pos) η L Q := fun hN H hH => WW.of (pw_and1 pt_W) (h hN H hH)
theorem gw_or1 (h : GT X a η L Q) : GW X (.BoolOp .Or [a] pos) η L Q := fun hN H hH => WW.of (pw_or1 pt_W) (h hN H hH)
theorem gw_and {rest : List Expr} (h : GT X a η L fun k L1 => if k = true then GW X (.BoolOp .And (b :: rest) pos) η L1 Q else Q false L1) : GW X (.BoolOp .And (a :: b :: rest) pos) η L Q := fun hN H hH =>
  WW.of (pw_and pt_W pw_W) (h.then hN hH fun k L1 H1 h1 q1 => by
    cases k with
    | true => exact q1 hN H1 h1
    | false => exact ⟨L1, h1, q1⟩)
theorem gw_or {rest : List Expr} (h : GT X a η L fun k L1 => if k = true then Q true L1 else GW X (.BoolOp .Or (b :: rest) pos) η L1 Q) : GW X (.BoolOp .Or (a :: b :: rest) pos) η L Q := fun hN H hH =>
  WW.of (pw_or pt_W pw_W) (h.then hN hH fun k L1 H1 h1 q1 => by
    cases k with
    | true => exact ⟨L1, h1, q1⟩
    | false => exact q1 hN H1 h1)
theorem gt_not (h : GT X a η L fun k L1 => Q (!k) L1) : GT X (.UnaryOp .Not a pos) η L Q := fun hN H hH =>
  WT.of (pt_not pt_W) (h.then hN hH fun k L1 H1 h1 q1 => ⟨L1, h1, q1⟩)
end
theorem mem0 {α : Type} {a : α} {l : List α} : a ∈ a :: l := List.mem_cons_self
theorem memS {α : Type} {a b : α} {l : List α} (h : a ∈ l) : a ∈ b :: l := List.mem_cons_of_mem _ h
theorem sql {K : PySem.W.Frag} {H : Hp} {L : Lg} {p : Addr} {xs : List V} (h : Has H L) (m : (p, HO.lst xs) ∈ L) : SqL K H p xs := SqL.of (h.get m)
theorem sqt {K : PySem.W.Frag} {H : Hp} {L : Lg} {p : Addr} {xs : List V} (h : Has H L) (m : (p, HO.tup xs) ∈ L) : SqT K H p xs := SqT.of (h.get m)
section
variable {X : Cx} {L : Lg} {Q : QV} {x y : V} {i j : Int} {p q : Addr} {xs ys : List V} {v : V}
theorem go_add (h : Q (.int (i + j)) L) : GOp X (binaryOp .Add) (.int i) (.int j) L Q := GOp.of op_add fun H hH => ⟨i, j, rfl, rfl, L, hH, h⟩
theorem go_sub (h : Q (.int (i - j)) L) : GOp X (binaryOp .Sub) (.int i) (.int j) L Q := GOp.of op_sub fun H hH => ⟨i, j, rfl, rfl, L, hH, h⟩
theorem go_mulS (c : (-(2 ^ 64) < i ∧ i < 2 ^ 64) ∨ (-(2 ^ 64) < j ∧ j < 2 ^ 64)) (h : Q (.int (i * j)) L) : GOp X (binaryOp .Mult) (.int i) (.int j) L Q := GOp.of op_mul fun H hH => ⟨i, j, rfl, rfl, c, L, hH, h⟩
theorem go_mod (c : 0 < j) (h : Q (.int (i % j)) L) : GOp X (binaryOp .Mod) (.int i) (.int j) L Q := GOp.of op_modN fun H hH => ⟨i, j, rfl, rfl, by omega, L, hH, by
  show Q (.int (i.fmod j)) L
  rw [Int.fmod_eq_emod_of_nonneg i (by omega)]
  exact h⟩
theorem go_div (c : 0 < j) (d : j.natAbs < 2 ^ 9000) (h : Q (.int (i / j)) L) : GOp X (binaryOp .FloorDiv) (.int i) (.int j) L Q := GOp.of op_fdivW fun H hH => ⟨i, j, rfl, rfl, wide_div c d (by decide) (by decide), L, hH, h⟩
theorem go_pow (c : CPow i j) (h : Q (.int (i ^ j.toNat)) L) : GOp X (binaryOp .Pow) (.int i) (.int j) L Q := GOp.of op_pow fun H hH => ⟨i, j, rfl, rfl, c, L, hH, h⟩
theorem go_lt (h : Q (.bl (decide (i < j))) L) : GOp X (compareOp .Lt) (.int i) (.int j) L Q := GOp.of op_lt fun H hH => ⟨i, j, rfl, rfl, L, hH, h⟩
theorem go_le (h : Q (.bl (decide (i ≤ j))) L) : GOp X (compareOp .LtE) (.int i) (.int j) L Q := GOp.of op_le fun H hH => ⟨i, j, rfl, rfl, L, hH, h⟩
theorem go_gt (h : Q (.bl (decide (j < i))) L) : GOp X (compareOp .Gt) (.int i) (.int j) L Q := GOp.of op_gt fun H hH => ⟨i, j, rfl, rfl, L, hH, h⟩
theorem go_ge (h : Q (.bl (decide (j ≤ i))) L) : GOp X (compareOp .GtE) (.int i) (.int j) L Q := GOp.of op_ge fun H hH => ⟨i, j, rfl, rfl, L, hH, h⟩
theorem dec_int : decide (V.int i = V.int j) = decide (i = j) := by
  by_cases e : i = j
  · rw [e, decide_eq_true rfl, decide_eq_true rfl]
  · rw [decide_eq_false e, decide_eq_false fun z => e (V.int.inj z)]
theorem go_eq (h : Q (.bl (decide (i = j))) L) : GOp X (compareOp .Eq) (.int i) (.int j) L Q := GOp.of op_eq fun H hH => ⟨rfl, L, hH, by rw [dec_int]; exact h⟩
theorem go_ne (h : Q (.bl (!decide (i = j))) L) : GOp X (compareOp .NotEq) (.int i) (.int j) L Q := GOp.of op_ne fun H hH => ⟨rfl, L, hH, by rw [dec_int]; exact h⟩
theorem go_eqV (s : scal x y = true) (h : Q (.bl (decide (x = y))) L) : GOp X (compareOp .Eq) x y L Q := GOp.of op_eq fun H hH => ⟨s, L, hH, h⟩
theorem go_neV (s : scal x y = true) (h : Q (.bl (!decide (x = y))) L) : GOp X (compareOp .NotEq) x y L Q := GOp.of op_ne fun H hH => ⟨s, L, hH, h⟩
theorem go_isN (h : Q (.bl (decide (x = .non))) L) : GOp X (compareOp .Is) x .non L Q := GOp.of op_isN fun H hH => ⟨rfl, L, hH, h⟩
theorem go_notN (h : Q (.bl (!decide (x = .non))) L) : GOp X (compareOp .IsNot) x .non L Q := GOp.of op_notN fun H hH => ⟨rfl, L, hH, h⟩
/-- data, told by the ledger -/
def Dl (L : Lg) (v : V) (d : PyData) : Prop := ∀ K H, Has H L → Dp K H v d
def Dls (L : Lg) (vs : List V) (ds : List PyData) : Prop := ∀ K H, Has H L → DpAll K H vs ds
theorem dl_int : Dl L (.int i) (.int i) := fun _ _ _ => .int i
theorem dl_str {z : Str} : Dl L (.str z) (.str z) := fun _ _ _ => .str z
theorem dl_lst {ds : List PyData} (m : (p, HO.lst xs) ∈ L) (h : Dls L xs ds) : Dl L (.ref p) (.list ds) := fun K H hH => .lst (sql hH m) (h K H hH)
theorem dl_tup {ds : List PyData} (m : (p, HO.tup xs) ∈ L) (h : Dls L xs ds) : Dl L (.ref p) (.tuple ds) := fun K H hH => .tup (sqt hH m) (h K H hH)
theorem dls_nil : Dls L [] [] := fun _ _ _ => .nil
theorem dls_cons {d : PyData} {ds : List PyData} (a : Dl L v d) (h : Dls L xs ds) : Dls L (v :: xs) (d :: ds) := fun K H hH => .cons (a K H hH) (h K H hH)
theorem dls_ints : ∀ {ns : List Int}, Dls L (ns.map V.int) (ns.map PyData.int)
  | [] => dls_nil
  | _ :: _ => dls_cons dl_int dls_ints
theorem go_eqD {k : Nat} {d e : PyData} (hr : Room k X.A) (a : Dl L x d) (b : Dl L y e) (s1 : SeqAt.shaped d = true) (s2 : SeqAt.shaped e = true) (h : Q (.bl (PyData.eqv d e)) L) : GOp X (compareOp .Eq) x y L Q := GOp.of (op_eqD hr.units) fun H hH => ⟨d, e, a _ H hH, b _ H hH, s1, s2, L, hH, h⟩
theorem go_neD {k : Nat} {d e : PyData} (hr : Room k X.A) (a : Dl L x d) (b : Dl L y e) (s1 : SeqAt.shaped d = true) (s2 : SeqAt.shaped e = true) (h : Q (.bl (!PyData.eqv d e)) L) : GOp X (compareOp .NotEq) x y L Q := GOp.of (op_neD hr.units) fun H hH => ⟨d, e, a _ H hH, b _ H hH, s1, s2, L, hH, h⟩
theorem gi_lst (m : (p, HO.lst xs) ∈ L) (e : atI xs i = some v) (h : Q v L) : GIx X (.ref p) (.int i) L Q := GIx.of ix_list fun H hH => ⟨p, xs, i, v, rfl, rfl, sql hH m, e, L, hH, h⟩
theorem gi_tup (m : (p, HO.tup xs) ∈ L) (e : atI xs i = some v) (h : Q v L) : GIx X (.ref p) (.int i) L Q := GIx.of ix_tup fun H hH => ⟨p, xs, i, v, rfl, rfl, sqt hH m, e, L, hH, h⟩
theorem gc_lenL (m : (p, HO.lst xs) ∈ L) (h : Q (.int (xs.length : Int)) L) : GC X (.builtin "len") [.ref p] L Q := GC.of call_len_seq fun H hH => ⟨p, xs, rfl, .inl (sql hH m), L, hH, h⟩
theorem gc_lenT (m : (p, HO.tup xs) ∈ L) (h : Q (.int (xs.length : Int)) L) : GC X (.builtin "len") [.ref p] L Q := GC.of call_len_seq fun H hH => ⟨p, xs, rfl, .inr (sqt hH m), L, hH, h⟩
theorem gc_int (h : Q (.int i) L) : GC X (.type "int") [.int i] L Q := GC.of call_int1 fun H hH => .inl ⟨i, rfl, L, hH, h⟩
theorem gc_intB {k : Bool} (h : Q (.int (if k then 1 else 0)) L) : GC X (.type "int") [.bl k] L Q := GC.of call_int1 fun H hH => .inr ⟨k, rfl, L, hH, h⟩
theorem gc_abs (h : Q (.int (i.natAbs : Int)) L) : GC X (.builtin "abs") [.int i] L Q := GC.of call_abs fun H hH => ⟨i, rfl, L, hH, by
  have e : (if i < 0 then -i else i) = (i.natAbs : Int) := by split <;> omega
  rw [e]
  exact h⟩
theorem gc_min2 (hc : X.calm = true) (h : Q (.int (if j < i then j else i)) L) : GC X (.builtin "min") [.int i, .int j] L Q := GC.of (call_min2 hc) fun H hH => ⟨i, j, rfl, L, hH, h⟩
theorem gc_list (m : (p, HO.lst xs) ∈ L) (h : ∀ q, Q (.ref q) ((q, .lst xs) :: L)) : GC X (.type "list") [.ref p] L Q := GC.of call_list_of fun H hH => ⟨p, xs, rfl, .inl (sql hH m), fun l hl => ⟨_, hH.new hl, h l⟩⟩
/-- isinstance against a built-in class -/
theorem gc_isi {T c : String} {b : Bool} (ty : ∀ H, Has H L → TyX X.K H x (.type T)) (k : kitB T c = some b) (h : Q (.bl b) L) : GC X (.builtin "isinstance") [x, .ty c] L Q :=
  GC.of call_isi fun H hH => ⟨x, .ty c, .type T, .type c, b, rfl, .ty c, ty H hH, kit_ty k, L, hH, h⟩
end
section
variable {X : Cx} {η : En} {L : Lg} {Q : QV} {e : Expr} {es : List Expr} {pos p : Pos} {x : Str}
theorem ge_B {id : String} (hm : X.mg x = none) (hv : bootBuiltins x = some (.builtin id)) (h : GA X (e :: es) η L fun xs L1 => GC X (.builtin id) xs L1 Q) (hg : Gl X x := by rfl) (hn : x ≠ "__name__" := by decide) (hdb : (x == ("__debug__" : Str)) = false := by decide)
    (he : starEach (e :: es) X.env = (false, eval e X.env) :: starEach es X.env := by rfl) (hpl : (backTo pos (starEach es X.env)).any (·.1) = false := by rfl) : GE X (.Call (.Name x p) (e :: es) [] pos) η L Q := fun hN H hH =>
  WE.of (pe_callB (r := fun xs H' Q' => ∀ pins s σ us, Inv X pins σ H' s → Vals xs us → wpAny (model X.prog X.w) X.A (call (.builtin id) us) (EP X pins σ Q') X.xe s)
    (fun pins s σ H' xs us Q' I r q => q pins s σ us I r) hg hm hv pa_W hn hdb he hpl)
    (h.then hN hH fun _ _ _ h1 q1 => fun pins s σ us I r => q1 pins s σ _ us h1 I r)
theorem ge_Y {T : String} (hm : X.mg x = none) (hv : bootBuiltins x = some (.type T)) (h : GA X (e :: es) η L fun xs L1 => GC X (.type T) xs L1 Q) (hg : Gl X x := by rfl) (hn : x ≠ "__name__" := by decide) (hdb : (x == ("__debug__" : Str)) = false := by decide)
    (he : starEach (e :: es) X.env = (false, eval e X.env) :: starEach es X.env := by rfl) (hpl : (backTo pos (starEach es X.env)).any (·.1) = false := by rfl) : GE X (.Call (.Name x p) (e :: es) [] pos) η L Q := fun hN H hH =>
  WE.of (pe_callTy (r := fun xs H' Q' => ∀ pins s σ us, Inv X pins σ H' s → Vals xs us → wpAny (model X.prog X.w) X.A (call (.type T) us) (EP X pins σ Q') X.xe s)
    (fun pins s σ H' xs us Q' I r q => q pins s σ us I r) hg hm hv pa_W hn hdb he hpl)
    (h.then hN hH fun _ _ _ h1 q1 => fun pins s σ us I r => q1 pins s σ _ us h1 I r)
/-- the name of a built-in class as a value -/
theorem ge_tyName {T : String} (hm : X.mg x = none) (hv : bootBuiltins x = some (.type T)) (q : Q (.ty T) L) (hg : Gl X x := by rfl) (hn : x ≠ "__name__" := by decide) (hdb : (x == ("__debug__" : Str)) = false := by decide) : GE X (.Name x pos) η L Q :=
  ge_con (pe_bltn (v := .ty T) hg hm hv rfl hn hdb) q
/-- the built-ins are no names of the module -/
structure Bi (mg : Str → Option Value) : Prop where
  len : mg "len" = none
  int : mg "int" = none
  abs : mg "abs" = none
  min : mg "min" = none
  max : mg "max" = none
  range : mg "range" = none
  isinstance : mg "isinstance" = none
  list : mg "list" = none
  tuple : mg "tuple" = none
  bool : mg "bool" = none
  str : mg "str" = none
  repr : mg "repr" = none
  sum : mg "sum" = none
  sorted : mg "sorted" = none
  any : mg "any" = none
  all : mg "all" = none
  enumerate : mg "enumerate" = none
  zip : mg "zip" = none
  ValueError : mg "ValueError" = none
  LookupError : mg "LookupError" = none
  reversed : mg "reversed" = none
  b_set : mg "set" = none
  dict : mg "dict" = none
  iter : mg "iter" = none
  next : mg "next" = none
  b_type : mg "type" = none
theorem bt_len : bootBuiltins "len" = some (.builtin "len") := by decide +kernel
theorem bt_abs : bootBuiltins "abs" = some (.builtin "abs") := by decide +kernel
theorem bt_min : bootBuiltins "min" = some (.builtin "min") := by decide +kernel
theorem bt_isinstance : bootBuiltins "isinstance" = some (.builtin "isinstance") := by decide +kernel
theorem bt_int : bootBuiltins "int" = some (.type "int") := by decide +kernel
theorem bt_bool : bootBuiltins "bool" = some (.type "bool") := by decide +kernel
theorem bt_list : bootBuiltins "list" = some (.type "list") := by decide +kernel
theorem bt_tuple : bootBuiltins "tuple" = some (.type "tuple") := by decide +kernel
theorem bt_ValueError : bootBuiltins "ValueError" = some (.type "ValueError") := by decide +kernel
theorem bt_LookupError : bootBuiltins "LookupError" = some (.type "LookupError") := by decide +kernel
theorem bt_str : bootBuiltins "str" = some (.type "str") := by decide +kernel
end
section
variable {X : Cx} {η : En} {L : Lg} {e a b c tg : Expr} {pos : Pos} {st : Stmt} {rest body : List Stmt} {D : GD} {v : V}
theorem GG.then {Q : En → Lg → Prop} {Q' : L2.St → Hp → Prop} (h : GG X tg v η L Q) (hN : X.N = names η) {H : Hp} (hH : Has H L) (m : ∀ θ L1 H1, X.N = names θ → Has H1 L1 → Q θ L1 → Q' (vals θ) H1) : WG X tg v (vals η) H Q' := (h hN H hH).mono fun σ' H1 ⟨θ, L1, n1, es, h1, q1⟩ => by
  rw [es]
  exact m θ L1 H1 n1 h1 q1
theorem GGs.then {ts : List Expr} {vs : List V} {Q : En → Lg → Prop} {Q' : L2.St → Hp → Prop} (h : GGs X ts vs η L Q) (hN : X.N = names η) {H : Hp} (hH : Has H L) (m : ∀ θ L1 H1, X.N = names θ → Has H1 L1 → Q θ L1 → Q' (vals θ) H1) : WGs X ts vs (vals η) H Q' := (h hN H hH).mono fun σ' H1 ⟨θ, L1, n1, es, h1, q1⟩ => by
  rw [es]
  exact m θ L1 H1 n1 h1 q1
theorem gg_name {x : Str} {θ : En} {Q : En → Lg → Prop} (p : Put x v η θ) (q : Q θ L) (hn : X.N.Nodup := by assumption) (hx : Loc X.env.scope x := by first | exact Or.inl rfl | exact Or.inr rfl) (hf : X.fn x = true ∨ X.env.scope.names.lookup x = some .local := by first | exact .inl rfl | exact .inr rfl) : GG X (.Name x pos) v η L Q := fun hN H hH => by
  obtain ⟨i, h1, h2, h3⟩ := p.idx
  refine WG.of (pg_name (i := i) hn (by rw [hN]; exact h1) hx hf) ?_
  show upS X Q ((vals η).set i (some v)) H
  exact ⟨θ, L, by rw [h3]; exact hN, h2.symm, hH, q⟩
theorem ggs_nil {Q : En → Lg → Prop} (q : Q η L) : GGs X [] [] η L Q := fun hN H hH => WGs.of pgs_nil ⟨rfl, η, L, hN, rfl, hH, q⟩
theorem ggs_cons {ts : List Expr} {vs : List V} {Q : En → Lg → Prop} (h : GG X e v η L fun θ L1 => GGs X ts vs θ L1 Q)
    (hs : (assignEach (e :: ts) X.env).map (·.2) = assign e X.env :: (assignEach ts X.env).map (·.2) := by rfl) : GGs X (e :: ts) (v :: vs) η L Q := fun hN H hH =>
  WGs.of (pgs_cons pg_W pgs_W hs) ⟨v, vs, rfl, h.then hN hH fun θ L1 H1 n1 h1 q1 => q1 n1 H1 h1⟩
theorem gg_tup {es : List Expr} {k : Nat} {p : Addr} {xs : List V} {Q : En → Lg → Prop} (m : (p, HO.tup xs) ∈ L) (h : GGs X es xs η L Q) (hl : xs.length = es.length := by rfl) (hc : X.calm = true := by rfl)
    (hn : (assignEach es X.env).length = es.length := by rfl) (hst : (assignEach es X.env).findIdx? (·.1) = none := by rfl) : GG X (.Tuple es k pos) (.ref p) η L Q := fun hN H hH =>
  WG.of (pg_tup hc pgs_W hn hst) ⟨p, xs, rfl, sqt hH m, hl, h hN H hH⟩
/-- o[i] = v, by values -/
def GSt (X : Cx) (o i v : V) (L : Lg) (Q : Lg → Prop) : Prop := ∀ pins s σ H ov iv u, Has H L → Inv X pins σ H s → RelV o ov → RelV i iv → RelV v u →
  wpAny (model X.prog X.w) X.A (setItem ov iv u) (fun _ s' => ∃ H', Inv X pins σ H' s' ∧ ∃ L', Has H' L' ∧ Q L') X.xe s
theorem gst_lst {p : Addr} {xs : List V} {k : Int} {j : Nat} {M : Lg} {Q : Lg → Prop} (m : (p, HO.lst xs) ∈ L) (hi : ixN xs.length k = some j) (sw : Swap p (.lst (xs.set j v)) L M) (q : Q M) : GSt X (.ref p) (.int k) v L Q :=
  fun pins s σ H ov iv u hH I r1 r2 r3 => (show PSet X rSetL from set_list) pins s σ H (.ref p) (.int k) v ov iv u _ I r1 r2 r3 ⟨p, xs, k, j, rfl, rfl, hH.get m, hi, M, hH.swap sw, q⟩
theorem gst_30 {p : Addr} {a b c : V} {M : Lg} {Q : Lg → Prop} (m : (p, HO.lst [a, b, c]) ∈ L) (sw : Swap p (.lst [v, b, c]) L M) (q : Q M) : GSt X (.ref p) (.int 0) v L Q := gst_lst (j := 0) m rfl sw q
theorem gst_31 {p : Addr} {a b c : V} {M : Lg} {Q : Lg → Prop} (m : (p, HO.lst [a, b, c]) ∈ L) (sw : Swap p (.lst [a, v, c]) L M) (q : Q M) : GSt X (.ref p) (.int 1) v L Q := gst_lst (j := 1) m rfl sw q
theorem gst_32 {p : Addr} {a b c : V} {M : Lg} {Q : Lg → Prop} (m : (p, HO.lst [a, b, c]) ∈ L) (sw : Swap p (.lst [a, b, v]) L M) (q : Q M) : GSt X (.ref p) (.int 2) v L Q := gst_lst (j := 2) m rfl sw q
theorem gg_sub {o i : Expr} {Q : En → Lg → Prop} (h : GE X o η L fun x L1 => GE X i η L1 fun y L2 => GSt X x y v L2 fun L3 => Q η L3)
    (ha : ∀ v, assign (.Subscript o i pos) X.env v = (do
      let ov ← holding [v] (eval o X.env)
      let iv ← holding [v, ov] (eval i X.env)
      standAt pos
      holding [v, ov, iv] (setItem ov iv v)
      release [v, ov, iv] []) := by intro _; rfl) : GG X (.Subscript o i pos) v η L Q := fun hN H hH =>
  WG.of (pg_sub (t := fun x y z H' Q' => ∀ pins s σ ov iv u, Inv X pins σ H' s → RelV x ov → RelV y iv → RelV z u → wpAny (model X.prog X.w) X.A (setItem ov iv u) (fun _ s' => ∃ H'', Inv X pins σ H'' s' ∧ Q' H'') X.xe s)
    pe_W pe_W (fun pins s σ H' x y z ov iv u Q' I r1 r2 r3 q => q pins s σ ov iv u I r1 r2 r3) ha)
    (h.then hN hH fun _ _ _ h1 q1 => q1.then hN h1 fun _ _ _ h2 q2 => fun pins s σ ov iv u I r1 r2 r3 =>
      thn (q2 pins s σ _ ov iv u h2 I r1 r2 r3) fun _ _ ⟨H3, J, L3, h3, q3⟩ => ⟨H3, J, η, L3, hN, rfl, h3, q3⟩)
theorem GS.run {σ : L2.St} {H : Hp} (h : GS X st D η L) (hN : X.N = names η) (hH : Has H L) : WS X st (D.ends X) (vals η) H := h hN H hH
theorem SPm {pins : List (Addr × Obj)} {D D' : Ends} {f : Flow} {s : Shared} (h : SP X pins D f s) (nx : ∀ σ H, D.nx σ H → D'.nx σ H) (rt : ∀ v H, D.rt v H → D'.rt v H) (bk : ∀ σ H, D.bk σ H → D'.bk σ H) (ct : ∀ σ H, D.ct σ H → D'.ct σ H) : SP X pins D' f s := by
  cases f with
  | next => obtain ⟨σ', H', I, q⟩ := h; exact ⟨σ', H', I, nx _ _ q⟩
  | brk => obtain ⟨σ', H', I, q⟩ := h; exact ⟨σ', H', I, bk _ _ q⟩
  | cont => obtain ⟨σ', H', I, q⟩ := h; exact ⟨σ', H', I, ct _ _ q⟩
  | ret u => obtain ⟨v, σ', H', I, r, q⟩ := h; exact ⟨v, σ', H', I, r, rt _ _ q⟩
theorem WS.mono {σ : L2.St} {H : Hp} {D D' : Ends} (h : WS X st D σ H) (nx : ∀ σ H, D.nx σ H → D'.nx σ H) (rt : ∀ v H, D.rt v H → D'.rt v H) (bk : ∀ σ H, D.bk σ H → D'.bk σ H) (ct : ∀ σ H, D.ct σ H → D'.ct σ H) : WS X st D' σ H :=
  fun pins s I => thn (h pins s I) fun _ _ z => SPm z nx rt bk ct
theorem WSs.mono {σ : L2.St} {H : Hp} {D D' : Ends} {sts : List Stmt} (h : WSs X sts D σ H) (nx : ∀ σ H, D.nx σ H → D'.nx σ H) (rt : ∀ v H, D.rt v H → D'.rt v H) (bk : ∀ σ H, D.bk σ H → D'.bk σ H) (ct : ∀ σ H, D.ct σ H → D'.ct σ H) : WSs X sts D' σ H :=
  fun pins s I => thn (h pins s I) fun _ _ z => SPm z nx rt bk ct
theorem gss_nil (q : D.nx η L) : GSs X [] D η L := fun hN H hH => WSs.of pss_nil ⟨η, L, hN, rfl, hH, q⟩
theorem gss_cons (h : GS X st { D with nx := fun θ L1 => GSs X rest D θ L1 } η L) : GSs X (st :: rest) D η L := fun hN H hH =>
  WSs.of (pss_cons ps_W pss_W) ((h hN H hH).mono (fun σ1 H1 ⟨θ, L1, n1, es, h1, q1⟩ => by
    rw [es]
    exact q1 n1 H1 h1) (fun _ _ z => z) (fun _ _ z => z) fun _ _ z => z)
theorem GS.cut (M : En → Lg → Prop) {Q : En → Lg → Prop} (h : GS X st { D with nx := M } η L) (k : ∀ θ L1, M θ L1 → Q θ L1) (e : D.nx = Q := by rfl) : GS X st D η L := fun hN H hH =>
  (h hN H hH).mono (fun σ1 H1 ⟨θ, L1, n1, es, h1, q1⟩ => ⟨θ, L1, n1, es, h1, by rw [e]; exact k θ L1 q1⟩) (fun _ _ z => z) (fun _ _ z => z) fun _ _ z => z
theorem GSs.sub {M : Lg} {sts : List Stmt} (s : Sub M L) (h : GSs X sts D η M) : GSs X sts D η L := fun hN H hH => h hN H (s H hH)
theorem GS.sub {M : Lg} (s : Sub M L) (h : GS X st D η M) : GS X st D η L := fun hN H hH => h hN H (s H hH)
theorem gs_pass (q : D.nx η L) : GS X (.Pass pos) D η L := fun hN H hH => WS.of ps_pass ⟨η, L, hN, rfl, hH, q⟩
theorem gs_break (q : D.bk η L) : GS X (.Break pos) D η L := fun hN H hH => WS.of ps_break ⟨η, L, hN, rfl, hH, q⟩
theorem gs_continue (q : D.ct η L) : GS X (.Continue pos) D η L := fun hN H hH => WS.of ps_continue ⟨η, L, hN, rfl, hH, q⟩
theorem gs_expr (h : GE X e η L fun _ L1 => D.nx η L1) (hs : swapsWith e none pos.line X.env = pure false := by rfl) : GS X (.Expr e pos) D η L := fun hN H hH =>
  WS.of (ps_expr pe_W hs) (h.then hN hH fun _ L1 H1 h1 q1 => ⟨η, L1, hN, rfl, h1, q1⟩)
theorem gs_ret (h : GE X e η L D.rt) : GS X (.Return (some e) pos) D η L := fun hN H hH => WS.of (ps_ret pe_W) (h hN H hH)
theorem gs_retN (q : D.rt .non L) : GS X (.Return none pos) D η L := fun hN H hH => WS.of ps_retN ⟨L, hH, q⟩
theorem gs_if {p q : List Stmt} (h : GT X c η L fun k L1 => if k = true then GSs X p D η L1 else GSs X q D η L1) : GS X (.If c p q pos) D η L := fun hN H hH =>
  WS.of (ps_if pt_W pss_W pss_W) (h.then hN hH fun k L1 H1 h1 q1 => by
    cases k with
    | true => exact q1 hN H1 h1
    | false => exact q1 hN H1 h1)
/-- x = e, x a name of the def's own -/
theorem gs_set {x : Str} {f : V → En} {pos' : Pos} (p : PutF x η f) (h : GE X e η L fun v L1 => D.nx (f v) L1) (hn : X.N.Nodup := by assumption) (hx : Loc X.env.scope x := by first | exact Or.inl rfl | exact Or.inr rfl)
    (hs : swapsWith e (some (.Name x pos')) pos.line X.env = pure false := by rfl) (hf : X.fn x = true ∨ X.env.scope.names.lookup x = some .local := by first | exact .inl rfl | exact .inr rfl) : GS X (.Assign [.Name x pos'] e pos) D η L := fun hN H hH => by
  obtain ⟨i, h1, h2⟩ := p.idx
  refine WS.of (ps_set (i := i) hn (by rw [hN]; exact h1) hx pe_W hs hf) (h.then hN hH fun v L1 H1 g1 q1 => ?_)
  show upS X D.nx ((vals η).set i (some v)) H1
  exact ⟨f v, L1, by rw [(h2 v).2]; exact hN, (h2 v).1.symm, g1, q1⟩
/-- x op= y, by values -/
def GIp (X : Cx) (op : Operator) (x y : V) (L : Lg) (Q : QV) : Prop := ∀ pins s σ H v u, Has H L → Inv X pins σ H s → RelV x v → RelV y u → wpAny (model X.prog X.w) X.A (inplaceOp op v u) (EP X pins σ (up Q)) X.xe s
theorem gp_add {i j : Int} {Q : QV} (h : Q (.int (i + j)) L) : GIp X .Add (.int i) (.int j) L Q := fun pins s σ H v u hH I r1 r2 => (show PIp X .Add (ipI fun i j => i + j) from ip_add) pins s σ H _ _ v u _ I r1 r2 ⟨i, j, rfl, rfl, L, hH, h⟩
theorem gp_sub {i j : Int} {Q : QV} (h : Q (.int (i - j)) L) : GIp X .Sub (.int i) (.int j) L Q := fun pins s σ H v u hH I r1 r2 => (show PIp X .Sub (ipI fun i j => i - j) from ip_sub) pins s σ H _ _ v u _ I r1 r2 ⟨i, j, rfl, rfl, L, hH, h⟩
/-- x op= e -/
theorem gs_aug {x : Str} {y : V} {f : V → En} {pos' : Pos} {op : Operator} (r : At x y η) (p : PutF x η f)
    (h : GE X e η L fun z L1 => GIp X op y z L1 fun w L2 => D.nx (f w) L2)
    (hn : X.N.Nodup := by assumption) (hx : Loc X.env.scope x := by first | exact Or.inl rfl | exact Or.inr rfl) (hf : X.fn x = true ∨ X.env.scope.names.lookup x = some .local := by first | exact .inl rfl | exact .inr rfl) : GS X (.AugAssign (.Name x pos') op e pos) D η L := fun hN H hH => by
  obtain ⟨i, h1, h2⟩ := p.idx
  obtain ⟨j, g1, g2⟩ := r.idx
  have ij : i = j := by
    have h1' : X.N[i]? = some x := by rw [hN]; exact h1
    have g1' : X.N[j]? = some x := by rw [hN]; exact g1
    obtain ⟨a1, a2⟩ := List.getElem?_eq_some_iff.mp h1'
    obtain ⟨b1, b2⟩ := List.getElem?_eq_some_iff.mp g1'
    exact (List.getElem_inj hn).mp (a2.trans b2.symm)
  subst ij
  refine WS.of (ps_aug (i := i) (ti := fun a b H' Q' => ∀ pins s σ v u, Inv X pins σ H' s → RelV a v → RelV b u → wpAny (model X.prog X.w) X.A (inplaceOp op v u) (EP X pins σ Q') X.xe s) hn (by rw [hN]; exact h1) hx pe_W
    (fun pins s σ H' a b v u Q' I r1 r2 q => q pins s σ v u I r1 r2) hf) ⟨y, g2, ?_⟩
  refine h.then hN hH fun z L1 H1 k1 q1 => fun pins s σ v u I r1 r2 => ?_
  refine thn (q1 pins s σ H1 v u k1 I r1 r2) fun w _ ⟨x', H2, J, r3, L2, k2, q2⟩ => ⟨x', H2, J, r3, ?_⟩
  show upS X D.nx ((vals η).set i (some x')) H2
  exact ⟨f x', L2, by rw [(h2 x').2]; exact hN, (h2 x').1.symm, k2, q2⟩
/-- a, b = x, y (both written) -/
theorem gs_par {x y : Str} {f : V → En} {g : V → V → En} {px py pt pos : Pos} {kt k2 pt2} (p : PutF x η f) (q : ∀ v, PutF y (f v) (g v)) (h : GA X [a, b] η L fun vs L1 => ∃ v w, vs = [v, w] ∧ D.nx (g v w) L1)
    (hw : swappedStores [.Tuple [.Name x px, .Name y py] kt pt] (.Tuple [a, b] k2 pt2) X.env = pure (some [x, y]) := by rfl) (hxy : x ≠ y := by decide +kernel) (hn : X.N.Nodup := by assumption) (hc : X.calm = true := by rfl)
    (hx : X.env.scope.names.lookup x = some .local := by rfl) (hy : X.env.scope.names.lookup y = some .local := by rfl)
    (hs : swapsWithSole [.Tuple [.Name x px, .Name y py] kt pt] (.Tuple [a, b] k2 pt2) pos.line X.env = pure false := by rfl) :
    GS X (.Assign [.Tuple [.Name x px, .Name y py] kt pt] (.Tuple [a, b] k2 pt2) pos) D η L := fun hN H hH => by
  obtain ⟨i, h1, h2⟩ := p.idx
  obtain ⟨j, g1⟩ : ∃ j : Nat, ∀ v, (names (f v))[j]? = some y ∧ ∀ w, vals (g v w) = (vals (f v)).set j (some w) ∧ names (g v w) = names (f v) := by
    obtain ⟨j, k1, k2⟩ := (q .non).idx
    refine ⟨j, fun v => ?_⟩
    obtain ⟨j', m1, m2⟩ := (q v).idx
    have e : j = j' := by
      rw [(h2 .non).2] at k1
      rw [(h2 v).2] at m1
      have k1' : X.N[j]? = some y := by rw [hN]; exact k1
      have m1' : X.N[j']? = some y := by rw [hN]; exact m1
      obtain ⟨a1, a2⟩ := List.getElem?_eq_some_iff.mp k1'
      obtain ⟨b1, b2⟩ := List.getElem?_eq_some_iff.mp m1'
      exact (List.getElem_inj hn).mp (a2.trans b2.symm)
    subst e
    exact ⟨m1, m2⟩
  have hi : X.N[i]? = some x := by rw [hN]; exact h1
  have hj : X.N[j]? = some y := by
    have z := (g1 .non).1
    rw [(h2 .non).2] at z
    rw [hN]
    exact z
  have hij : i ≠ j := fun e => hxy (by rw [e, hj] at hi; exact (Option.some.inj hi).symm)
  refine WS.of (ps_par (i := i) (j := j) hc hn hi hj hij hx hy pa_W hw hs) (h.then hN hH fun vs L1 H1 k1 ⟨v, w, e1, q1⟩ => ⟨v, w, e1, ?_⟩)
  show upS X D.nx (((vals η).set i (some v)).set j (some w)) H1
  refine ⟨g v w, L1, ?_, ?_, k1, q1⟩
  · rw [((g1 v).2 w).2, (h2 v).2]
    exact hN
  · rw [((g1 v).2 w).1, (h2 v).1]
end
section
variable {X : Cx} {η : En} {L : Lg} {e a b c tg iter : Expr} {pos : Pos} {body : List Stmt} {D : GD}
theorem gs_asg (h : GE X e η L fun v L1 => GG X tg v η L1 D.nx) (hs : swapsWithSole [tg] e pos.line X.env = pure false := by rfl) (hw : swappedStores [tg] e X.env = pure none := by rfl)
    (h1 : (assignEach [tg] X.env).map (·.2) = [assign tg X.env] := by rfl) : GS X (.Assign [tg] e pos) D η L := fun hN H hH =>
  WS.of (ps_asg pe_W pg_W hs hw h1) (h.then hN hH fun v L1 H1 k1 q1 => q1 hN H1 k1)
/-- a loop's invariant: Pv by the turn -/
structure LoopBy (X : Cx) (tg : Expr) (body : List Stmt) (D : GD) (item : Nat → V → Prop) (n : Nat) (η : En) (L : Lg) (Pv : Nat → En → Lg → Prop) : Prop where
  h0 : Pv 0 η L
  hs : ∀ i x θ M, i < n → item i x → Pv i θ M → GG X tg x θ M fun θ' M' => GSs X body { nx := Pv (i + 1), rt := D.rt, bk := D.nx, ct := Pv (i + 1) } θ' M'
  hd : ∀ θ M, Pv n θ M → D.nx θ M
/-- one turn, as the library's loops ask it -/
theorem turn {item : Nat → V → Prop} {n : Nat} {Pv : Nat → En → Lg → Prop} (l : LoopBy X tg body D item n η L Pv) {i : Nat} {x : V} {σ : L2.St} {H : Hp} (hi : i < n) (hx : item i x) (p : upS X (Pv i) σ H) :
    WG X tg x σ H fun σ2 H2 => WSs X body { D.ends X with nx := upS X (Pv (i + 1)), ct := upS X (Pv (i + 1)), bk := (D.ends X).nx } σ2 H2 := by
  obtain ⟨θ, M, n1, es, h1, q1⟩ := p
  rw [es]
  exact (l.hs i x θ M hi hx q1).then n1 h1 fun θ' M' H2 n2 h2 q2 => q2 n2 H2 h2
end
abbrev XL := Value → Option Addr → Lg → Prop
abbrev SpL := List V → Lg → QV → XL → Prop
/-- a promise over ledgers, as the library's -/
def toSp (sp : SpL) : Sp := fun vs H Q E => ∃ L Ql El, Has H L ∧ sp vs L Ql El ∧ (∀ v L' H', Has H' L' → Ql v L' → Q v H') ∧ ∀ c d L' H', Has H' L' → El c d L' → E c d H'
section
variable {P : Program} {w : World} {K : PySem.W.Frag} {mg : Str → Option Value} {base : Heap}
/-- the def x of the text as it stands behind the top -/
def Df (K : PySem.W.Frag) (mg : Str → Option Value) (x : Str) (st : Stmt) : Prop := ∃ f fd, mg x = some (.ref f) ∧ Fun K x x st f fd
/-- room for calls, and no repr that is under way -/
structure RoomG (k : Nat) (A : Around) : Prop extends Room k A where
  gd : A.guards = some []
theorem RoomG.mono {j k : Nat} {A : Around} (r : RoomG k A) (h : j ≤ k) : RoomG j A := ⟨r.toRoom.mono h, r.gd⟩
/-- what is at f keeps its promise; args: how the call's values are handed over -/
def RunG (P : Program) (w : World) (K : PySem.W.Frag) (mg : Str → Option Value) (base : Heap) (CX : CXT) (k : Nat) (f : Addr) (args : List Value → Args) (sp : Sp) : Prop :=
  ∀ (A : Around) (outer : List Env) (s : Shared) (H : Hp) (us : List Value) (vs : List V) (Q : VK) (E : XK), RoomG k A → Env0 P w K mg base A outer s H → Vals vs us → sp vs H Q E → codeAny (model P w) A (.call (.ref f) (args us)) (CR CX outer P w H s Q E) s
abbrev argsP : List Value → Args := fun us => ⟨us, []⟩
theorem RunG.imp {CX : CXT} {k : Nat} {f : Addr} {args : List Value → Args} {sp sp' : Sp} (F : RunG P w K mg base CX k f args sp) (h : ∀ vs H Q E, sp' vs H Q E → sp vs H Q E) : RunG P w K mg base CX k f args sp' := fun A outer s H us vs Q E hr e0 r hs => F A outer s H us vs Q E hr e0 r (h _ _ _ _ hs)
theorem RunG.mono {CX : CXT} {j k : Nat} {f : Addr} {args : List Value → Args} {sp : Sp} (F : RunG P w K mg base CX j f args sp) (h : j ≤ k) : RunG P w K mg base CX k f args sp := fun A outer s H us vs Q E hr => F A outer s H us vs Q E (hr.mono h)
/-- the def x keeps its promise -/
def FnA (P : Program) (w : World) (K : PySem.W.Frag) (mg : Str → Option Value) (base : Heap) (CX : CXT) (x : Str) (k : Nat) (args : List Value → Args) (sp : SpL) : Prop := ∃ f, mg x = some (.ref f) ∧ PySem.W.keepIn K (.ref f) = true ∧ RunG P w K mg base CX k f args (toSp sp)
abbrev Fn (P : Program) (w : World) (K : PySem.W.Frag) (mg : Str → Option Value) (base : Heap) (CX : CXT) (x : Str) (k : Nat) (sp : SpL) : Prop := FnA P w K mg base CX x k argsP sp
/-- what is left over may be dropped -/
def drp (Q : QV) : QV := fun v L => ∃ M, Sub M L ∧ Q v M
def bodyD (Q : QV) : GD := { nx := fun _ L => drp Q .non L, rt := drp Q, bk := fun _ _ => False, ct := fun _ _ => False }
def begun (N : List Str) (vs : List V) : En := N.zip (L2.start N vs)
theorem names_begun {N : List Str} {vs : List V} (h : vs.length ≤ N.length) : names (begun N vs) = N ∧ vals (begun N vs) = L2.start N vs := by
  have l : (L2.start N vs).length = N.length := by
    unfold L2.start
    rw [List.length_append, List.length_map, List.length_replicate]
    omega
  unfold names vals begun
  exact ⟨List.map_fst_zip (Nat.le_of_eq l.symm), List.map_snd_zip (Nat.le_of_eq l)⟩
/-- where the body of such a def stands -/
def cx0 (P : Program) (w : World) (K : PySem.W.Frag) (mg : Str → Option Value) (base : Heap) (N : List Str) (x : Str) (sc : Scope) (f : Addr) (cdv : Value) (A : Around) (outer : List Env) (s : Shared) (H : Hp) (E0 : XK) : Cx := (cxOf CX0 P w K mg base N x sc f cdv A outer s H E0).nox
/-- what a body shows, as the library wants it -/
theorem body_end {X : Cx} {st : List Stmt} {vs : List V} {H : Hp} {Q : VK} {Ql : QV} (hl : vs.length ≤ X.N.length) (hq : ∀ v L' H', Has H' L' → Ql v L' → Q v H') {L : Lg} (hH : Has H L) (h : GSs X st (bodyD Ql) (begun X.N vs) L) :
    WSs X st { nx := fun _ H' => Q .non H', rt := Q } (L2.start X.N vs) H := by
  have z := h (by rw [(names_begun hl).1] <;> rfl) H hH
  rw [(names_begun hl).2] at z
  refine z.mono (fun σ H' hh => ?_) (fun v H' hh => ?_) (fun _ _ hh => ?_) (fun _ _ hh => ?_)
  · obtain ⟨θ, M, _, _, h', M', sb, q⟩ := hh
    exact hq _ M' H' (sb _ h') q
  · obtain ⟨M, h', M', sb, q⟩ := hh
    exact hq _ M' H' (sb _ h') q
  · obtain ⟨_, _, _, _, _, q⟩ := hh
    exact q.elim
  · obtain ⟨_, _, _, _, _, q⟩ := hh
    exact q.elim
theorem guard_deeper {A : Around} {e : Env} (h : A.guards = some []) : (A.deeper e).guards = some [] := h
/-- what a promise's body is shown of -/
abbrev BodyOf (P : Program) (w : World) (K : PySem.W.Frag) (mg : Str → Option Value) (base : Heap) (N : List Str) (q : Str) (st : Stmt) (k : Nat) (sp : SpL) : Prop :=
  ∀ (X : Cx) (f : Addr) (cdv : Value) (A : Around) (outer : List Env) (s : Shared) (H : Hp) (E0 : XK) (L : Lg) (vs : List V) (Q : QV) (E : XL), X = cx0 P w K mg base N q (defScope st) f cdv A outer s H E0 → X.N.Nodup → RoomG k X.A → sp vs L Q E → GSs X (defBody st) (bodyD Q) (begun N vs) L
theorem run_plain {x q : Str} {st : Stmt} {f : Addr} {fd : FuncData} {N ps : List Str} {k : Nat} {sp : SpL} (F : Fun K x q st f fd) (S : FnScope N ps (defScope st)) (args : List Value → Args) (pmV : List V → List V) (pmU : List Value → List Value) (hpm : ∀ vs us, Vals vs us → Vals (pmV vs) (pmU us))
    (hb : ∀ (kV doc pm : Value) (an : Option Addr) (cdv ct : Value) (us : List Value), (pmU us).length = ps.length → bindArgs (PySem.W.fnOf x q (defArgs st) (defBody st) (defScope st) .none kV doc pm an cdv ct) (args us) = pure (ps.zip (pmU us)))
    (hl : ps.length ≤ N.length) (len : ∀ vs L Q E, sp vs L Q E → vs.length = ps.length) (body : BodyOf P w K mg base N q st k sp) : RunG P w K mg base CX0 (k + 1) f args (fun vs => toSp sp (pmV vs)) := by
  obtain ⟨oc, od, kV, doc, pm, an, cdv, ct, osl, rfl, lk, hcd⟩ := F.ex
  intro A outer s H us vs Q E hr e0 r hsp
  obtain ⟨L, Ql, El, hH, h, hq, _⟩ := hsp
  have hn : (pmV vs).length = ps.length := len _ L Ql El h
  have r2 := hpm vs us r
  have hlv : (pmV vs).length ≤ N.length := by
    rw [hn]
    exact hl
  exact LamX.run_ofS (CX := CX0) lk hcd S hr.toRoom e0 (.of_eq (hb kV doc pm an cdv ct us (by rw [← r2.length]; exact hn))) r2 hn fun hr2 =>
    ⟨WSs _ (defBody st), PSs.nox pss_W, body_end (X := cx0 P w K mg base N q (defScope st) f cdv A outer s H E) hlv hq hH (body _ f cdv A outer s H E L (pmV vs) Ql El rfl S.nd ⟨hr2, guard_deeper hr.gd⟩ h)⟩
/-- THE RULE for a def that lets no exception out -/
theorem fn_plain {x : Str} {st : Stmt} {N ps : List Str} {k : Nat} {sp : SpL} (F : Df K mg x st) (S : FnScope N ps (defScope st))
    (hb : ∀ (kV doc pm : Value) (an : Option Addr) (cdv ct : Value) (us : List Value), us.length = ps.length → bindArgs (PySem.W.fnOf x x (defArgs st) (defBody st) (defScope st) .none kV doc pm an cdv ct) ⟨us, []⟩ = pure (ps.zip us))
    (hl : ps.length ≤ N.length) (len : ∀ vs L Q E, sp vs L Q E → vs.length = ps.length) (body : BodyOf P w K mg base N x st k sp) : Fn P w K mg base CX0 x (k + 1) sp := by
  obtain ⟨f, fd, hm, F⟩ := F
  exact ⟨f, hm, F.kp, run_plain F S argsP id id (fun _ _ r => r) hb hl len body⟩
end
def NoX : XL := fun _ _ _ => False
def upX (E : XL) : XK := fun c d H => ∃ L, Has H L ∧ E c d L
section
variable {X : Cx} {η : En} {L : Lg} {Q : QV} {El : XL} {CX : CXT} {x : Str} {j k : Nat} {sp : SpL} {e o : Expr} {es : List Expr} {pos p apos : Pos}
theorem passA {E : XK} : Passes CX0 X E := fun _ _ _ _ _ _ _ h => h.elim
theorem passN : Passes (L2.CX X.prog X.w) X (upX NoX) := fun _ _ _ _ _ _ _ h => by
  obtain ⟨_, _, _, _, _, _, _, _, _, _, _, _, _, _, z⟩ := h
  exact z.elim
theorem up_sp {vs : List V} {H : Hp} (hH : Has H L) (h : sp vs L Q El) : toSp sp vs H (up Q) (upX El) := ⟨L, Q, El, hH, h, fun _ L' _ h' q => ⟨L', h', q⟩, fun _ _ L' _ h' q => ⟨L', h', q⟩⟩
/-- a call that got its values -/
theorem run_G {pins : List (Addr × Obj)} {σ : L2.St} {H : Hp} {s : Shared} {f : Addr} {args : List Value → Args} {us : List Value} {vs : List V} {sp : Sp} {E : XK} {Q : VK} (F : RunG X.prog X.w X.K X.mg X.base CX k f args sp) (hr : RoomG k X.A) (hx : Passes CX X E) (I : Inv X pins σ H s) (r : Vals vs us) (h : sp vs H Q E) :
    wpAny (model X.prog X.w) X.A (call (.ref f) (args us).pos (args us).kw) (EP X pins σ Q) X.xe s := by
  refine wpAny_call (codeAny_mono (F X.A X.stack s H us vs Q E hr I.env0 r h) fun r' s' hq => ?_)
  cases r' with
  | error e => exact hx pins σ H s e s' I hq
  | ok fl =>
    cases fl with
    | ret u => exact I.after hq
    | next => exact hq.elim
    | brk => exact hq.elim
    | cont => exact hq.elim
theorem ge_call (F : Fn X.prog X.w X.K X.mg X.base CX x k sp) (hr : RoomG j X.A) (hx : Passes CX X (upX El)) (h : GA X (e :: es) η L fun vs L1 => sp vs L1 Q El) (hjk : k ≤ j := by decide) (hg : Gl X x := by rfl) (hd : (x == ("__debug__" : Str)) = false := by decide)
    (he : starEach (e :: es) X.env = (false, eval e X.env) :: starEach es X.env := by rfl) (hpl : (backTo pos (starEach es X.env)).any (·.1) = false := by rfl) : GE X (.Call (.Name x p) (e :: es) [] pos) η L Q := fun hN H hH pins s I => by
  obtain ⟨f, hm, hk, F⟩ := F
  refine wpAny_Call_Name_kw (ld_glob I hg hm ?_ hd)
  refine PySem.W.callWith_K (h₀ := X.base) I.ok.mod.kin hk ?_ he hpl
  refine thn (h hN H hH pos pins s I) fun us s1 ⟨vs, H1, J, r, L1, h1, q⟩ => ⟨J.kIn, ?_⟩
  exact run_G (args := argsP) F (hr.mono hjk) hx J r (up_sp h1 q)
/-- xs.append(e) -/
theorem ge_append (h : GE X o η L fun v L1 => ∃ l zs, v = .ref l ∧ (l, HO.lst zs) ∈ L1 ∧ GE X e η L1 fun y L2 => ∃ xs M, (l, HO.lst xs) ∈ L2 ∧ xs.length < sizeLine ∧ Swap l (.lst (xs ++ [y])) L2 M ∧ Q .non M)
    (hbase : attributeBase o "append" X.env (eval o X.env) = eval o X.env := by rfl)
    (hfew : ((backTo pos (starEach [e] X.env)).all (fun x => !x.1) && (backToKw pos (keywordEach [] X.env)).all (fun x => x.1.isSome)
      && decide ([e].length + ([] : List Keyword).length + (if ([] : List Keyword).isEmpty then 0 else 1) < 30)) = true := by rfl)
    (hline : (apos.endLine == pos.line) = true := by rfl) (hs : starEach [e] X.env = (false, eval e X.env) :: starEach [] X.env := by rfl) : GE X (.Call (.Attribute o "append" apos) [e] [] pos) η L Q := fun hN H hH =>
  WE.of (pe_bm PySem.F.plainAttrs_list PySem.F.slot_list_append PySem.F.type_list_append mt_append pe_W (pa_cons pe_W pa_nil hs) hbase hfew hline hs rfl) (h.then hN hH fun v L1 H1 k1 ⟨l, zs, ev, m, q⟩ => by
    subst ev
    exact ⟨.inl ⟨rfl, zs, sql k1 m⟩, q.then hN k1 fun y L2 H2 k2 ⟨xs, M, m2, z, sw, q2⟩ => ⟨l, xs, y, rfl, rfl, k2.get m2, z, M, k2.swap sw, q2⟩⟩)
/-- a slice with both ends left out, or written -/
def GPart (X : Cx) (o : Option Expr) (η : En) (L : Lg) (Q : Option Int → Lg → Prop) : Prop := match o with
  | none => Q none L
  | some e => GE X e η L fun v L1 => ∃ i, v = .int i ∧ Q (some i) L1
def WPart (X : Cx) (o : Option Expr) : TO := match o with
  | none => tNoPart
  | some e => tPart (WE X e)
theorem po_W {o : Option Expr} : PO X o (WPart X o) := by
  cases o with
  | none => exact po_none
  | some e => exact po_some pe_W
theorem GPart.then {o : Option Expr} {Q : Option Int → Lg → Prop} {Q' : Option Int → Hp → Prop} (h : GPart X o η L Q) (hN : X.N = names η) {H : Hp} (hH : Has H L) (m : ∀ v L1 H1, Has H1 L1 → Q v L1 → Q' v H1) : WPart X o (vals η) H Q' := by
  cases o with
  | none => exact m none L H hH h
  | some e => exact GE.then h hN hH fun v L1 H1 h1 ⟨i, ei, q⟩ => ⟨i, ei, m _ L1 H1 h1 q⟩
def InL (K : PySem.W.Frag) (L : Lg) (p : Addr) (xs : List V) : Prop := ∀ H, Has H L → SqL K H p xs
theorem ge_sliceL {lo hi : Option Expr} {p2 : Pos} (h : GE X e η L fun v L1 => ∃ p xs, v = .ref p ∧ GPart X lo η L1 fun i L2 => GPart X hi η L2 fun j L3 => InL X.K L3 p xs ∧ ∀ q, Q (.ref q) ((q, .lst (cutV xs i j)) :: L3)) : GE X (.Subscript e (.Slice lo hi none p2) pos) η L Q := fun hN H hH =>
  WE.of (pe_slice sl_list pe_W po_W po_W) (h.then hN hH fun v L1 H1 k1 ⟨p, xs, ev, q⟩ => q.then hN k1 fun i L2 H2 k2 q2 => q2.then hN k2 fun j L3 H3 k3 ⟨m, q3⟩ => ⟨p, xs, ev, m H3 k3, fun r hr => ⟨_, k3.new hr, q3 r⟩⟩)
end
inductive Knd (L : Lg) : V → String → Prop
  | non : Knd L .non "NoneType"
  | bl {b : Bool} : Knd L (.bl b) "bool"
  | int {i : Int} : Knd L (.int i) "int"
  | str {x : Str} : Knd L (.str x) "str"
  | lst {p : Addr} {xs : List V} (m : (p, HO.lst xs) ∈ L) : Knd L (.ref p) "list"
  | tup {p : Addr} {xs : List V} (m : (p, HO.tup xs) ∈ L) : Knd L (.ref p) "tuple"
  | dct {p : Addr} {kvs : List (Key × V)} (m : (p, HO.dK kvs) ∈ L) : Knd L (.ref p) "dict"
theorem Knd.ty {K : PySem.W.Frag} {L : Lg} {x : V} {T : String} (k : Knd L x T) (H : Hp) (hH : Has H L) : TyX K H x (.type T) := by
  cases k with
  | non => exact .base .non
  | bl => exact .base (.bl _)
  | int => exact .base (.int _)
  | str => exact .base (.str _)
  | lst m => exact .base (.lst (hH.get m))
  | tup m => exact .base (.tup (hH.get m))
  | dct m => exact .base (.dK (hH.get m))
theorem Knd.sub {L M : Lg} {x : V} {T : String} (k : Knd L x T) (s : ∀ e ∈ L, e ∈ M) : Knd M x T := by
  cases k with
  | non => exact .non
  | bl => exact .bl
  | int => exact .int
  | str => exact .str
  | lst m => exact .lst (s _ m)
  | tup m => exact .tup (s _ m)
  | dct m => exact .dct (s _ m)
theorem kb_int_int : kitB "int" "int" = some true := by decide +kernel
theorem kb_int_bool : kitB "int" "bool" = some false := by decide +kernel
theorem kb_bool_int : kitB "bool" "int" = some true := by decide +kernel
theorem kb_bool_bool : kitB "bool" "bool" = some true := by decide +kernel
theorem kb_non_int : kitB "NoneType" "int" = some false := by decide +kernel
theorem kb_str_int : kitB "str" "int" = some false := by decide +kernel
theorem kb_list_int : kitB "list" "int" = some false := by decide +kernel
theorem kb_tuple_int : kitB "tuple" "int" = some false := by decide +kernel
theorem kb_dict_int : kitB "dict" "int" = some false := by decide +kernel
section
variable {X : Cx} {L : Lg} {Q : QV} {x : V} {T c : String} {b : Bool}
theorem gc_isK (k : Knd L x T) (e : kitB T c = some b) (h : Q (.bl b) L) : GC X (.builtin "isinstance") [x, .ty c] L Q := gc_isi (fun H hH => k.ty H hH) e h
end
theorem sz1 : 1 ≤ sizeLine := by decide +kernel
theorem sz2 : 2 ≤ sizeLine := by decide +kernel
theorem sz3 : 3 ≤ sizeLine := by decide +kernel
theorem sz_le {n : Nat} (h : n ≤ 1000) : n ≤ sizeLine := Nat.le_trans h (by decide +kernel)
theorem sz_lt {n : Nat} (h : n < 1000) : n < sizeLine := Nat.lt_of_lt_of_le h (by decide +kernel)
theorem Sub.keep {L M : Lg} {e : Addr × HO} (s : M.Sublist L) : Sub (e :: M) (e :: L) := Sub.sublist (s.cons_cons e)
section
variable {a b c d e f g h i : Addr × HO} {R : Lg}
theorem br0 : Sub (a :: b :: R) (a :: b :: R) := Sub.refl
theorem br1 : Sub (a :: b :: c :: R) (c :: a :: b :: R) := Sub.perm (List.perm_middle (l₁ := [a, b])).symm.symm
theorem br2 : Sub (a :: b :: c :: d :: R) (c :: d :: a :: b :: R) := Sub.perm (by
  have z := List.perm_append_comm (l₁ := [a, b]) (l₂ := [c, d])
  exact z.append_right R)
theorem br3 : Sub (a :: b :: c :: d :: e :: R) (c :: d :: e :: a :: b :: R) := Sub.perm (by
  have z := List.perm_append_comm (l₁ := [a, b]) (l₂ := [c, d, e])
  exact z.append_right R)
theorem br4 : Sub (a :: b :: c :: d :: e :: f :: R) (c :: d :: e :: f :: a :: b :: R) := Sub.perm (by
  have z := List.perm_append_comm (l₁ := [a, b]) (l₂ := [c, d, e, f])
  exact z.append_right R)
theorem br5 : Sub (a :: b :: c :: d :: e :: f :: g :: R) (c :: d :: e :: f :: g :: a :: b :: R) := Sub.perm (by
  have z := List.perm_append_comm (l₁ := [a, b]) (l₂ := [c, d, e, f, g])
  exact z.append_right R)
theorem br6 : Sub (a :: b :: c :: d :: e :: f :: g :: h :: R) (c :: d :: e :: f :: g :: h :: a :: b :: R) := Sub.perm (by
  have z := List.perm_append_comm (l₁ := [a, b]) (l₂ := [c, d, e, f, g, h])
  exact z.append_right R)
end
section
variable {X : Cx} {η : En} {L : Lg} {Q : QV} {e : Expr} {es : List Expr} {pos p : Pos}
theorem gb_len (B : Bi X.mg) (h : GA X (e :: es) η L fun xs L1 => GC X (.builtin "len") xs L1 Q) (hg : Gl X "len" := by rfl) (he : starEach (e :: es) X.env = (false, eval e X.env) :: starEach es X.env := by rfl) (hpl : (backTo pos (starEach es X.env)).any (·.1) = false := by rfl) :
    GE X (.Call (.Name "len" p) (e :: es) [] pos) η L Q := ge_B B.len bt_len h hg (by decide) (by decide) he hpl
theorem gb_abs (B : Bi X.mg) (h : GA X (e :: es) η L fun xs L1 => GC X (.builtin "abs") xs L1 Q) (hg : Gl X "abs" := by rfl) (he : starEach (e :: es) X.env = (false, eval e X.env) :: starEach es X.env := by rfl) (hpl : (backTo pos (starEach es X.env)).any (·.1) = false := by rfl) :
    GE X (.Call (.Name "abs" p) (e :: es) [] pos) η L Q := ge_B B.abs bt_abs h hg (by decide) (by decide) he hpl
theorem gb_min (B : Bi X.mg) (h : GA X (e :: es) η L fun xs L1 => GC X (.builtin "min") xs L1 Q) (hg : Gl X "min" := by rfl) (he : starEach (e :: es) X.env = (false, eval e X.env) :: starEach es X.env := by rfl) (hpl : (backTo pos (starEach es X.env)).any (·.1) = false := by rfl) :
    GE X (.Call (.Name "min" p) (e :: es) [] pos) η L Q := ge_B B.min bt_min h hg (by decide) (by decide) he hpl
theorem gb_isinstance (B : Bi X.mg) (h : GA X (e :: es) η L fun xs L1 => GC X (.builtin "isinstance") xs L1 Q) (hg : Gl X "isinstance" := by rfl) (he : starEach (e :: es) X.env = (false, eval e X.env) :: starEach es X.env := by rfl) (hpl : (backTo pos (starEach es X.env)).any (·.1) = false := by rfl) :
    GE X (.Call (.Name "isinstance" p) (e :: es) [] pos) η L Q := ge_B B.isinstance bt_isinstance h hg (by decide) (by decide) he hpl
theorem gb_int (B : Bi X.mg) (h : GA X (e :: es) η L fun xs L1 => GC X (.type "int") xs L1 Q) (hg : Gl X "int" := by rfl) (he : starEach (e :: es) X.env = (false, eval e X.env) :: starEach es X.env := by rfl) (hpl : (backTo pos (starEach es X.env)).any (·.1) = false := by rfl) :
    GE X (.Call (.Name "int" p) (e :: es) [] pos) η L Q := ge_Y B.int bt_int h hg (by decide) (by decide) he hpl
theorem gb_list (B : Bi X.mg) (h : GA X (e :: es) η L fun xs L1 => GC X (.type "list") xs L1 Q) (hg : Gl X "list" := by rfl) (he : starEach (e :: es) X.env = (false, eval e X.env) :: starEach es X.env := by rfl) (hpl : (backTo pos (starEach es X.env)).any (·.1) = false := by rfl) :
    GE X (.Call (.Name "list" p) (e :: es) [] pos) η L Q := ge_Y B.list bt_list h hg (by decide) (by decide) he hpl
theorem gb_tuple (B : Bi X.mg) (h : GA X (e :: es) η L fun xs L1 => GC X (.type "tuple") xs L1 Q) (hg : Gl X "tuple" := by rfl) (he : starEach (e :: es) X.env = (false, eval e X.env) :: starEach es X.env := by rfl) (hpl : (backTo pos (starEach es X.env)).any (·.1) = false := by rfl) :
    GE X (.Call (.Name "tuple" p) (e :: es) [] pos) η L Q := ge_Y B.tuple bt_tuple h hg (by decide) (by decide) he hpl
theorem gb_bool (B : Bi X.mg) (h : GA X (e :: es) η L fun xs L1 => GC X (.type "bool") xs L1 Q) (hg : Gl X "bool" := by rfl) (he : starEach (e :: es) X.env = (false, eval e X.env) :: starEach es X.env := by rfl) (hpl : (backTo pos (starEach es X.env)).any (·.1) = false := by rfl) :
    GE X (.Call (.Name "bool" p) (e :: es) [] pos) η L Q := ge_Y B.bool bt_bool h hg (by decide) (by decide) he hpl
theorem gb_str (B : Bi X.mg) (h : GA X (e :: es) η L fun xs L1 => GC X (.type "str") xs L1 Q) (hg : Gl X "str" := by rfl) (he : starEach (e :: es) X.env = (false, eval e X.env) :: starEach es X.env := by rfl) (hpl : (backTo pos (starEach es X.env)).any (·.1) = false := by rfl) :
    GE X (.Call (.Name "str" p) (e :: es) [] pos) η L Q := ge_Y B.str bt_str h hg (by decide) (by decide) he hpl
theorem gv_int (B : Bi X.mg) (q : Q (.ty "int") L) (hg : Gl X "int" := by rfl) : GE X (.Name "int" pos) η L Q := ge_tyName B.int bt_int q hg (by decide) (by decide)
theorem gv_bool (B : Bi X.mg) (q : Q (.ty "bool") L) (hg : Gl X "bool" := by rfl) : GE X (.Name "bool" pos) η L Q := ge_tyName B.bool bt_bool q hg (by decide) (by decide)
theorem gv_tuple (B : Bi X.mg) (q : Q (.ty "tuple") L) (hg : Gl X "tuple" := by rfl) : GE X (.Name "tuple" pos) η L Q := ge_tyName B.tuple bt_tuple q hg (by decide) (by decide)
theorem gv_list (B : Bi X.mg) (q : Q (.ty "list") L) (hg : Gl X "list" := by rfl) : GE X (.Name "list" pos) η L Q := ge_tyName B.list bt_list q hg (by decide) (by decide)
theorem gv_str (B : Bi X.mg) (q : Q (.ty "str") L) (hg : Gl X "str" := by rfl) : GE X (.Name "str" pos) η L Q := ge_tyName B.str bt_str q hg (by decide) (by decide)
end
theorem ite_t {A B : Prop} (h : A) : if true = true then A else B := by rw [if_pos rfl]; exact h
theorem ite_f {A B : Prop} (h : B) : if false = true then A else B := by rw [if_neg Bool.false_ne_true]; exact h
theorem ite_d {c A B : Prop} [Decidable c] (h : c → A) (k : ¬ c → B) : if decide c = true then A else B := by
  by_cases z : c
  · rw [if_pos (decide_eq_true z)]; exact h z
  · rw [decide_eq_false z, if_neg Bool.false_ne_true]; exact k z
theorem ite_n {c A B : Prop} [Decidable c] (h : ¬ c → A) (k : c → B) : if (!decide c) = true then A else B := by
  by_cases z : c
  · rw [decide_eq_true z]; exact ite_f (k z)
  · rw [decide_eq_false z]; exact ite_t (h z)
theorem ite_b {b : Bool} {A B : Prop} (h : b = true → A) (k : b = false → B) : if b = true then A else B := by
  cases b with
  | true => exact ite_t (h rfl)
  | false => exact ite_f (k rfl)
section
variable {X : Cx} {L : Lg} {Q : QV} {i j r : Int}
theorem go_modR (c : 0 < j) (h : ∀ r, 0 ≤ r → r < j → Q (.int r) L) : GOp X (binaryOp .Mod) (.int i) (.int j) L Q := go_mod c (h _ (Int.emod_nonneg _ (by omega)) (Int.emod_lt_of_pos _ c))
theorem go_powL (c : CPow i j) (e : i ^ j.toNat = r) (h : Q (.int r) L) : GOp X (binaryOp .Pow) (.int i) (.int j) L Q := go_pow c (by rw [e]; exact h)
theorem go_powR (c : CPow i j) (h : ∀ r, Q (.int r) L) : GOp X (binaryOp .Pow) (.int i) (.int j) L Q := go_pow c (h _)
end
theorem bnd {s t A B : Int} (s0 : 0 ≤ s) (s1 : s ≤ A) (t0 : 0 ≤ t) (t1 : t ≤ B) : 0 ≤ s * t ∧ s * t ≤ A * B := ⟨Int.mul_nonneg s0 t0, Int.mul_le_mul s1 t1 t0 (Int.le_trans s0 s1)⟩
theorem depthInts : ∀ ns : List Int, PyData.depthAll (ns.map PyData.int) = 0
  | [] => by simp [PyData.depthAll]
  | n :: r => by
    have e := depthInts r
    simp [PyData.depthAll, PyData.depth, e]
theorem layInts : ∀ ns : List Int, PyData.canLayAll0 (ns.map PyData.int) = true
  | [] => by simp [PyData.canLayAll0]
  | n :: r => by
    have e := layInts r
    simp [PyData.canLayAll0, PyData.canLay0, e]
theorem shapedL (ns : List Int) : SeqAt.shaped (.list (ns.map PyData.int)) = true := by
  have a := depthInts ns
  have b := layInts ns
  simp [SeqAt.shaped, PyData.canLay0, PyData.depth, a, b]
theorem eqvInts : ∀ ns ms : List Int, PyData.eqvAll (ns.map PyData.int) (ms.map PyData.int) = decide (ns = ms)
  | [], [] => by simp [PyData.eqvAll]
  | [], m :: r => by simp [PyData.eqvAll]
  | n :: r, [] => by simp [PyData.eqvAll]
  | n :: r, m :: q => by
    have e := eqvInts r q
    simp [PyData.eqvAll, PyData.eqv, e]
    by_cases h : n = m <;> by_cases k : r = q <;> simp [h, k]
theorem eqvL (ns ms : List Int) : PyData.eqv (.list (ns.map PyData.int)) (.list (ms.map PyData.int)) = decide (ns = ms) := by
  rw [← eqvInts]
  simp [PyData.eqv]
section
variable {X : Cx} {L : Lg} {Q : QV} {i j r : Int}
theorem go_divS (c : 0 < j) (d : j < 2 ^ 64) (h : Q (.int (i / j)) L) : GOp X (binaryOp .FloorDiv) (.int i) (.int j) L Q := go_div c (Nat.lt_of_lt_of_le (by omega : j.natAbs < 2 ^ 64) (Nat.pow_le_pow_right (by decide) (by decide))) h
end
theorem idxU {N : List Str} (hn : N.Nodup) {i j : Nat} {x : Str} (h : N[i]? = some x) (k : N[j]? = some x) : i = j := by
  obtain ⟨a1, a2⟩ := List.getElem?_eq_some_iff.mp h
  obtain ⟨b1, b2⟩ := List.getElem?_eq_some_iff.mp k
  exact (List.getElem_inj hn).mp (a2.trans b2.symm)
section
variable {X : Cx} {η : En} {L : Lg} {a b c : Expr} {D : GD}
theorem PutF.at {x : Str} {N : List Str} {i : Nat} {θ : En} {f : V → En} (p : PutF x θ f) (hn : N.Nodup) (hN : N = names θ) (h : N[i]? = some x) (v : V) : vals (f v) = (vals θ).set i (some v) ∧ names (f v) = names θ := by
  obtain ⟨j, h1, h2⟩ := p.idx
  have e : i = j := idxU hn h (by rw [hN]; exact h1)
  subst e
  exact h2 v
theorem gs_par3 {x y z : Str} {f : V → En} {g : V → V → En} {k : V → V → V → En} {px py pz pt pos : Pos} {kt k2 pt2} (p : PutF x η f) (q : ∀ v, PutF y (f v) (g v)) (r : ∀ v w, PutF z (g v w) (k v w))
    (h : GA X [a, b, c] η L fun vs L1 => ∃ u v w, vs = [u, v, w] ∧ D.nx (k u v w) L1)
    (hw : swappedStores [.Tuple [.Name x px, .Name y py, .Name z pz] kt pt] (.Tuple [a, b, c] k2 pt2) X.env = pure (some [x, y, z]) := by rfl) (hxy : x ≠ y := by decide +kernel) (hxz : x ≠ z := by decide +kernel) (hyz : y ≠ z := by decide +kernel) (hn : X.N.Nodup := by assumption) (hc : X.calm = true := by rfl)
    (hx : X.env.scope.names.lookup x = some .local := by rfl) (hy : X.env.scope.names.lookup y = some .local := by rfl) (hz : X.env.scope.names.lookup z = some .local := by rfl)
    (hs : swapsWithSole [.Tuple [.Name x px, .Name y py, .Name z pz] kt pt] (.Tuple [a, b, c] k2 pt2) pos.line X.env = pure false := by rfl) :
    GS X (.Assign [.Tuple [.Name x px, .Name y py, .Name z pz] kt pt] (.Tuple [a, b, c] k2 pt2) pos) D η L := fun hN H hH => by
  obtain ⟨i, h1, h2⟩ := p.idx
  have nf : ∀ v, names (f v) = X.N := fun v => (h2 v).2.trans hN.symm
  obtain ⟨j, g1, _⟩ := (q .non).idx
  rw [nf] at g1
  have ng : ∀ v w, names (g v w) = X.N := fun v w => ((q v).at hn (nf v).symm g1 w).2.trans (nf v)
  obtain ⟨l, k1, _⟩ := (r .non .non).idx
  rw [ng] at k1
  have i1 : X.N[i]? = some x := by rw [hN]; exact h1
  have ne : ∀ {m n : Nat} {s t : Str}, X.N[m]? = some s → X.N[n]? = some t → s ≠ t → m ≠ n := fun hm hn' d e => d (by rw [e, hn'] at hm; exact (Option.some.inj hm).symm)
  refine WS.of (ps_par3 (i := i) (j := j) (l := l) hc hn i1 g1 k1 (ne i1 g1 hxy) (ne i1 k1 hxz) (ne g1 k1 hyz) hx hy hz pa_W hw hs) (h.then hN hH fun vs L1 H1 m1 ⟨u, v, w, e1, q1⟩ => ⟨u, v, w, e1, ?_⟩)
  show upS X D.nx ((((vals η).set i (some u)).set j (some v)).set l (some w)) H1
  have z := (r u v).at hn (ng u v).symm k1 w
  refine ⟨k u v w, L1, (z.2.trans (ng u v)).symm, ?_, m1, q1⟩
  rw [z.1, ((q u).at hn (nf u).symm g1 v).1, (h2 u).1]
end
section
variable {X : Cx} {L : Lg} {Q : QV} {i : Int} {p : Addr}
theorem isN_int (h : Q (.bl false) L) : GOp X (compareOp .Is) (.int i) .non L Q := go_isN h
theorem isN_ref (h : Q (.bl false) L) : GOp X (compareOp .Is) (.ref p) .non L Q := go_isN h
theorem isN_non (h : Q (.bl true) L) : GOp X (compareOp .Is) .non .non L Q := go_isN h
theorem notN_int (h : Q (.bl true) L) : GOp X (compareOp .IsNot) (.int i) .non L Q := go_notN h
theorem notN_ref (h : Q (.bl true) L) : GOp X (compareOp .IsNot) (.ref p) .non L Q := go_notN h
theorem notN_non (h : Q (.bl false) L) : GOp X (compareOp .IsNot) .non .non L Q := go_notN h
end
theorem gu_neg {X : Cx} {L : Lg} {Q : QV} {i : Int} (h : Q (.int (-i)) L) : GUn X (unaryOp .USub) (.int i) L Q := GUn.of un_neg fun H hH => ⟨i, rfl, L, hH, h⟩
/-- the law's own promise; ts: the tables of code objects -/
def spLaw (K : PySem.W.Frag) (ts : Lg) : SpL := fun vs L Q _ => ∃ (a : Addr) (ns : List Int) (M : Lg), vs = [.ref a] ∧ L = ts ++ M ∧ InL K L a (ns.map V.int) ∧ (∀ z ∈ ns, Builtin.Int.intBits z ≤ 1048576) ∧ ∀ M, Q (.bl true) M
abbrev tabsL (ts : List (Addr × Str)) : Lg := ts.map fun p => (p.1, tabM p.2)
/-- the heap that the law begins with: the script, the tables -/
def lawH (K : PySem.W.Frag) (a : Addr) (ob : Obj) (ns : List Int) (ts : List Addr) : Hp := fun b =>
  if b = a then (match K.lookup a with | none => some (.frz ob (.lst (ns.map V.int))) | some _ => none) else if b ∈ ts then some (.tbl #[]) else none
section
variable {K : PySem.W.Frag} {a b : Addr} {ob : Obj} {ns : List Int} {ts : List Addr}
theorem lawH_a (e : K.lookup a = none) : lawH K a ob ns ts a = some (.frz ob (.lst (ns.map V.int))) := by
  unfold lawH
  rw [if_pos rfl, e]
theorem lawH_k {o : Obj} (e : K.lookup a = some o) : lawH K a ob ns ts a = none := by
  unfold lawH
  rw [if_pos rfl, e]
theorem lawH_t (n : b ≠ a) (m : b ∈ ts) : lawH K a ob ns ts b = some (.tbl #[]) := by
  unfold lawH
  rw [if_neg n, if_pos m]
theorem lawH_n (n : b ≠ a) (m : b ∉ ts) : lawH K a ob ns ts b = none := by
  unfold lawH
  rw [if_neg n, if_neg m]
/-- one of the three -/
theorem lawH_way (b : Addr) : (b = a ∧ K.lookup a = none ∧ lawH K a ob ns ts b = some (.frz ob (.lst (ns.map V.int)))) ∨ (b ≠ a ∧ b ∈ ts ∧ lawH K a ob ns ts b = some (.tbl #[])) ∨ lawH K a ob ns ts b = none := by
  by_cases n : b = a
  · subst n
    cases e : K.lookup b with
    | none => exact .inl ⟨rfl, rfl, lawH_a e⟩
    | some o => exact .inr (.inr (lawH_k e))
  · by_cases m : b ∈ ts
    · exact .inr (.inl ⟨n, m, lawH_t n m⟩)
    · exact .inr (.inr (lawH_n n m))
end
section
variable {P : Program} {w : World} {K : PySem.W.Frag} {mg mb : Str → Option Value}
/-- the law's call, from its promise; cs: the code objects with their tables and the names of what stands in these -/
theorem law_run {k : Nat} {fa a : Addr} {cs : List (Addr × Addr × Str)} {t0 : Shared} {vs : List Value} {ns : List Int}
    (KX : K.In t0.heap) (hns : t0.heap.Ns mainGlobals mg) (hb : t0.heap.Ns builtinsNs mb) (hbb : ∀ x : Str, x ≠ "__name__" → mb x = bootBuiltins x) (hlim : t0.heap.NoLimit) (hg : t0.gens = #[])
    (nd : (cs.map fun p => p.2.1).Nodup) (hT : ∀ p ∈ cs, t0.heap.get? p.2.1 = some { cls := .none, data := .fields #[] }) (nT : ∀ p ∈ cs, K.lookup p.2.1 = none) (C : ∀ p ∈ cs, PySem.W.CodeHd t0.heap p.1 p.2.1)
    (hbm : ∃ (bm : Addr) (ob : Obj), mg "__builtins__" = some (.ref bm) ∧ bm ≠ builtinsNs ∧ t0.heap.get? bm = some ob ∧ ob.cls = .type "module" ∧ ob.dict = some builtinsNs ∧ ob.data = .plain)
    (ha : t0.heap.get? a = some { cls := .type "list", data := .seq vs.toArray }) (hi : IntsAre vs ns) (hl : ns.length ≤ sizeLine) (bits : ∀ z ∈ ns, Builtin.Int.intBits z ≤ 1048576) (hr : Room k callerA)
    (F : ∀ base : Heap, K.In base → base.Ns mainGlobals mg → (∀ p ∈ cs, LamX.TabB base mg p.1 p.2.1) → RunG P w K mg base CX0 k fa argsP (toSp (spLaw K (tabsL (cs.map fun p => p.2))))) :
    codeAny (model P w) callerA (.call (.ref fa) ⟨[.ref a], []⟩) (fun r s' => r = .ok (.ret (.bool true)) ∧ OldK t0.heap s'.heap ∧ s'.os = t0.os ∧ AllBare s'.gens) t0 := by
  let ob : Obj := { cls := .type "list", data := .seq vs.toArray }
  let ts : List Addr := cs.map fun p => p.2.1
  let H : Hp := lawH K a ob ns ts
  have way : ∀ b : Addr, (b = a ∧ K.lookup a = none ∧ H b = some (.frz ob (.lst (ns.map V.int)))) ∨ (b ≠ a ∧ b ∈ ts ∧ H b = some (.tbl #[])) ∨ H b = none := lawH_way
  have tsT : ∀ b ∈ ts, ∃ p ∈ cs, p.2.1 = b := fun b hb => List.mem_map.mp hb
  have isT : ∀ b ∈ ts, t0.heap.get? b = some { cls := .none, data := .fields #[] } := fun b hb => by
    obtain ⟨p, hp, e⟩ := tsT b hb
    exact e ▸ hT p hp
  have memT : ∀ p ∈ cs, p.2.1 ∈ ts := fun p hp => List.mem_map.mpr ⟨p, hp, rfl⟩
  have aT : ∀ b ∈ ts, b ≠ a := fun b hb z => by
    have q := (isT b hb).symm.trans (z ▸ ha)
    have q2 : Data.fields #[] = Data.seq vs.toArray _ := congrArg Obj.data (Option.some.inj q)
    cases q2
  have tabH : ∀ p ∈ cs, H p.2.1 = some (.tbl #[]) := fun p hp => lawH_t (aT _ (memT p hp)) (memT p hp)
  have rv := vals_ints hi
  -- what is neither a list nor a table is hidden from H
  have hid : ∀ {b : Addr} {o : Obj}, t0.heap.get? b = some o → (∀ u n, o.data ≠ .seq u n) → o.data ≠ .fields #[] → H b = none := fun {b o} e n1 n2 => by
    rcases way b with ⟨rfl, _, _⟩ | ⟨_, m, _⟩ | z
    · exact absurd (congrArg Obj.data (Option.some.inj (ha.symm.trans e))).symm (n1 _ _)
    · exact absurd (congrArg Obj.data (Option.some.inj ((isT b m).symm.trans e))).symm n2
    · exact z
  let base : Heap := hidT t0.heap H
  have inB : ∀ {b : Addr} {o : Obj}, t0.heap.get? b = some o → H b = none → base.get? b = some o := fun e n => hidT_get e n
  have nsB : ∀ {b : Addr} {m : Str → Option Value}, t0.heap.Ns b m → base.Ns b m := fun {b m} ⟨o, es, ep, e, d, r⟩ => ⟨o, es, ep, inB e (hid e (fun u n z => by rw [d] at z; cases z) fun z => by rw [d] at z; cases z), d, r⟩
  have KB : K.In base := fun b o e => inB (KX b o e) (by
    rcases way b with ⟨rfl, n, _⟩ | ⟨_, m, _⟩ | z
    · exact absurd (n.symm.trans e) (by simp)
    · obtain ⟨p, hp, ep⟩ := tsT b m
      exact absurd ((nT p hp).symm.trans (ep ▸ e)) (by simp)
    · exact z)
  have hM : L2.Mod K mg base := ⟨KB, nsB hns, ⟨mb, nsB hb, hbb⟩, let ⟨mc, h1, h2⟩ := hlim; ⟨mc, nsB h1, h2⟩⟩
  have TB : ∀ p ∈ cs, LamX.TabB base mg p.1 p.2.1 := fun p hp => by
    have tp := hT p hp
    refine ⟨?_, ?_, fun z => ?_⟩
    · obtain ⟨o, us, file, tf, flags, tg, inF, text, tt, e1, r1, r2, r3, rest⟩ := C p hp
      refine ⟨o, us, file, tf, flags, tg, inF, text, tt, inB e1 (hid e1 (fun u n z => ?_) fun z => ?_), r1, r2, r3, rest⟩
      · rw [r2] at z
        cases z
      · rw [r2] at z
        cases z
        simp at r3
    · obtain ⟨bm, o, b1, b2, b3, b4, b5, b6⟩ := hbm
      refine ⟨bm, o, b1, b2, fun q => ?_, fun q => ?_, inB b3 (hid b3 (fun u n z => ?_) fun z => ?_), b4, b5, b6⟩
      · obtain ⟨o2, es, ep, e, hd, _⟩ := hns
        have z := (congrArg Obj.data (Option.some.inj ((q ▸ b3).symm.trans e))).symm.trans b6
        rw [hd] at z
        cases z
      · have z := b6.symm.trans (congrArg Obj.data (Option.some.inj ((q ▸ b3).symm.trans tp)))
        cases z
      · rw [b6] at z
        cases z
      · rw [b6] at z
        cases z
    · obtain ⟨o, es, ep, e, hd, _⟩ := hns
      have q := hd.symm.trans (congrArg Obj.data (Option.some.inj (e.symm.trans (z ▸ tp))))
      cases q
  have hokH : HOk P w H t0.heap := fun b u e => by
    rcases way b with ⟨rfl, _, z⟩ | ⟨_, m, z⟩ | z
    · cases z.symm.trans e
      exact ⟨ha, by rw [List.length_map]; exact hl, vs, _, rv, ha⟩
    · cases z.symm.trans e
      exact isT b m
    · cases z.symm.trans e
  have sq : SqL K H a (ns.map V.int) := by
    cases hk : K.lookup a with
    | none => exact .inl (.inr ⟨ob, lawH_a hk⟩)
    | some o =>
      cases ha.symm.trans (KX a o hk)
      exact .inr ⟨_, vs.toArray, _, hk, rfl, rfl, rfl, by rw [List.size_toArray, hi.length]; exact hl, by simpa using rv⟩
  have e0 : Env0 P w K mg base callerA [] t0 H := ⟨rfl, hM, fun b o e => of_hidT e, Nat.le_of_eq (hidT_size _ _), trivial, fun b z => (List.not_mem_nil z).elim, hokH, .of_eq hg⟩
  -- the ledger: the tables, and the script where it is no object of the module's
  have hsp : toSp (spLaw K (tabsL (cs.map fun p => p.2))) [.ref a] H (fun v _ => v = .bl true) fun _ _ _ => False := by
    have hasT : Has H (tabsL (cs.map fun p => p.2)) := by
      refine ⟨by simpa [tabsL, List.map_map, Function.comp_def] using nd, fun e m => ?_⟩
      obtain ⟨q, hq, rfl⟩ := List.mem_map.mp m
      obtain ⟨p, hp, rfl⟩ := List.mem_map.mp hq
      exact holds_tab' (.nil (tabH p hp))
    cases hk : K.lookup a with
    | some o =>
      refine ⟨_, fun v _ => v = .bl true, NoX, hasT, ⟨a, ns, [], rfl, by rw [List.append_nil], fun H' _ => ?_, bits, fun _ => rfl⟩, fun _ _ _ _ q => q, fun _ _ _ _ _ q => q⟩
      rcases sq with (z | ⟨o2, z⟩) | z
      · exact absurd ((lawH_k hk).symm.trans z) (by simp)
      · exact absurd ((lawH_k hk).symm.trans z) (by simp)
      · exact .inr z
    | none =>
      have ea : H a = some (.frz ob (.lst (ns.map V.int))) := lawH_a hk
      refine ⟨tabsL (cs.map fun p => p.2) ++ [(a, .frz ob (.lst (ns.map V.int)))], fun v _ => v = .bl true, NoX, ?_, ⟨a, ns, _, rfl, rfl, fun H' h' => ?_, bits, fun _ => rfl⟩, fun _ _ _ _ q => q, fun _ _ _ _ _ q => q⟩
      · refine ⟨?_, fun e m => ?_⟩
        · rw [List.map_append]
          refine List.nodup_append.mpr ⟨hasT.1, by simp, fun x hx y hy => ?_⟩
          have hy' : y = a := by simpa using hy
          obtain ⟨e, he, rfl⟩ := List.mem_map.mp hx
          obtain ⟨q, hq, rfl⟩ := List.mem_map.mp he
          obtain ⟨p, hp, rfl⟩ := List.mem_map.mp hq
          rw [hy']
          exact aT _ (memT p hp)
        · rcases List.mem_append.mp m with m | m
          · exact hasT.2 e m
          · obtain rfl : e = (a, _) := by simpa using m
            exact ea
      · exact .inl (.inr ⟨ob, h'.get (List.mem_append_right _ (List.mem_singleton.mpr rfl))⟩)
  refine codeAny_mono (F base KB (nsB hns) TB callerA [] t0 H [.ref a] [.ref a] _ _ ⟨hr, rfl⟩ e0 (.cons rfl .nil) hsp) fun r s' h => ?_
  cases r with
  | error e => exact False.elim h
  | ok fl =>
    cases fl with
    | ret u =>
      obtain ⟨v, H', os, bare, un, hok', r', q⟩ := h
      have q' : v = .bl true := q
      subst q'
      obtain rfl : u = Value.bool true := r'
      have grown : ∀ b ∈ ts, ∃ more : Array Value, s'.heap.get? b = some { cls := .none, data := .fields more } := fun b hb => by
        obtain ⟨more, z⟩ := un.tbls b #[] (lawH_t (aT b hb) hb)
        exact ⟨_, hok' b _ z⟩
      have same : ∀ b o, b ∉ ts → t0.heap.get? b = some o → s'.heap.get? b = some o := fun b o nb e => by
        rcases way b with ⟨_, _, z⟩ | ⟨_, m, _⟩ | z
        · have e1 := (hokH b _ z).1
          have e2 := (hok' b _ (un.frzs b ob _ z)).1
          exact e2.trans (e1.symm.trans e)
        · exact absurd m nb
        · exact un.keep b o e z (fun q => (List.not_mem_nil q).elim) (List.not_mem_nil)
      refine ⟨rfl, ⟨fun b o e => ?_, fun b o e => ?_⟩, os, bare⟩
      · by_cases hb : b ∈ ts
        · obtain ⟨more, hm⟩ := grown b hb
          obtain ⟨p, hp, rfl⟩ := tsT b hb
          cases (hT p hp).symm.trans e
          exact .inr (.inl ⟨((C p hp).tab (hT p hp)).isCodeTable, rfl, #[], more, rfl, by rw [Array.empty_append]; exact hm⟩)
        · exact .inl (same b o hb e)
      · by_cases hb : b ∈ ts
        · obtain ⟨more, hm⟩ := grown b hb
          exact ⟨_, hm⟩
        · exact ⟨o, same b o hb e⟩
    | next => exact False.elim h
    | brk => exact False.elim h
    | cont => exact False.elim h
end
/-- what the end wants of the law at the head's heap h: cs, the makers of lambdas by name, with their code objects, tables, and what stands in these -/
def LawG (q : Program) (P : Program) (w : World) (K : PySem.W.Frag) (k : Nat) (mg : Str → Option Value) (fa : Addr) : Prop :=
  ∃ cs : List (Str × Addr × Addr × Str), (cs.map fun p => p.2.2.1).Nodup ∧ (∀ p ∈ cs, PySem.W.tabIn K p.1 = some (p.2.1, p.2.2.1) ∧ ((recsOf q).find? fun e => e.name == p.1).isSome = true ∧ K.lookup p.2.2.1 = none) ∧
    ∀ base : Heap, K.In base → base.Ns mainGlobals mg → (∀ p ∈ cs, LamX.TabB base mg p.2.1 p.2.2.1) → RunG P w K mg base CX0 k fa argsP (toSp (spLaw K (tabsL (cs.map fun p => p.2.2))))
theorem walkG {l : PySem.W.OpenLaw} {n k : Nat} {q : Program} {loose : List Str} {XP : (Str → Option Value) → Heap → Prop} {YP : World → Heap → Prop} {d : DefRec} {K : Params → PySem.W.Frag}
    (hn : l.most = some n) (hn2 : n ≤ sizeLine) (hdf : d.params.defaults = []) (hr : Room k callerA) (hY : ∀ (w : World) (h : Heap), YP w h → (K w.params).In h)
    (F : ∀ (w : World) (mg : Str → Option Value) (fa : Addr) (h : Heap), (K w.params).In h → h.Ns mainGlobals mg → mg d.name = some (.ref fa) → LawG q l.prog w (K w.params) k mg fa) : PySem.W.WalkO q loose XP YP l.row.toRowW d [] (fun f vs => PySem.call f vs) := by
  refine Att.attach_callB hn hdf fun w s₀ t0 mg mb fa o pm cd doc a vs ns G Y ho hd hcd hmg hobj hints hlen hbits hg => ?_
  have KX := hY w _ Y
  obtain ⟨cs, nd, hcs, hF⟩ := F w mg fa _ KX G.T.g hmg
  have tb : ∀ p ∈ cs, PySem.W.CodeHd t0.heap p.2.1 p.2.2.1 ∧ t0.heap.get? p.2.2.1 = some { cls := .none, data := .fields #[] } := fun p hp => by
    obtain ⟨e1, e2, _⟩ := hcs p hp
    obtain ⟨dr, e3⟩ := Option.isSome_iff_exists.mp e2
    exact PySem.W.tab_of G.T KX e3 e1
  have up : ∀ {φ : Addr × Addr × Str → Prop}, (∀ p ∈ cs, φ p.2) → ∀ p ∈ cs.map (·.2), φ p := fun {φ} h p hp => by
    obtain ⟨p', h', rfl⟩ := List.mem_map.mp hp
    exact h p' h'
  refine law_run (cs := cs.map (·.2)) KX G.T.g G.T.b G.T.builtins G.T.nolimit hg (by rw [List.map_map]; exact nd) (up fun p hp => (tb p hp).2) (up fun p hp => (hcs p hp).2.2) (up fun p hp => (tb p hp).1) G.T.bmain hobj hints (Nat.le_trans hlen hn2) hbits hr fun base h1 h2 h3 => ?_
  rw [List.map_map]
  exact hF base h1 h2 fun p hp => h3 p.2 (List.mem_map.mpr ⟨p, hp, rfl⟩)
/-- the law's own entry -/
theorem fn_entry {P : Program} {w : World} {K : PySem.W.Frag} {mg : Str → Option Value} {base : Heap} {x : Str} {st : Stmt} {N ps : List Str} {k : Nat} {sp : SpL} {f : Addr} {fd : FuncData} (F : Fun K x x st f fd) (S : FnScope N ps (defScope st))
    (hb : ∀ (kV doc pm : Value) (an : Option Addr) (cdv ct : Value) (us : List Value), us.length = ps.length → bindArgs (PySem.W.fnOf x x (defArgs st) (defBody st) (defScope st) .none kV doc pm an cdv ct) ⟨us, []⟩ = pure (ps.zip us))
    (hl : ps.length ≤ N.length) (len : ∀ vs L Q E, sp vs L Q E → vs.length = ps.length) (body : BodyOf P w K mg base N x st k sp) : RunG P w K mg base CX0 (k + 1) f argsP (toSp sp) := run_plain F S argsP id id (fun _ _ r => r) hb hl len body
end G
set_option Elab.async false
set_option linter.all false
set_option maxRecDepth 100000
set_option maxHeartbeats 4000000
namespace G
open PySem PySem.Spec PyProof.Rows L2 NdefX
def AtSs (X : Cx) (B sts : List Stmt) : TS := fun D σ H => ∀ pins s, Inv X pins σ H s → _root_.PySem.wpAt (model X.prog X.w) X.A (.func B X.env) (execs sts X.env) (SP X pins D) X.xe s
theorem AtSs.any {X : Cx} {B sts : List Stmt} {D : Ends} {σ : L2.St} {H : Hp} (h : WSs X sts D σ H) : AtSs X B sts D σ H := fun pins s I => _root_.PySem.wpAt_of_wpAny (h pins s I)
/-- the words of a method that says super() -/
abbrev nfS (x q : Str) (st : Stmt) (cc c : Addr) : NF := ⟨x, q, defArgs st, defBody st, defScope st, [("__class__", cc)], c⟩
structure SupF (P : Program) (K : PySem.W.Frag) (x q : Str) (st : Stmt) (f c cc D : Addr) (fd : FuncData) : Prop where
  ex : ∃ (oc : Value) (od : Option Addr) (kV doc pm ct : Value) (an : Option Addr) (osl : Array (Option Value)), fd = PySem.W.fnX x q (defArgs st) (defBody st) (defScope st) [("__class__", cc)] .none kV doc pm an (.ref c) ct ∧ K.lookup f = some ⟨oc, od, .func fd, osl⟩
  cd : PySem.W.codeIn K (.ref c) q = true
  cell : ∃ (cl : Value) (cld : Option Addr) (csl : Array (Option Value)), K.lookup cc = some ⟨cl, cld, .cell (some (.ref D)), csl⟩
  file : ∃ (ccl : Value) (cdd : Option Addr) (vs : Array Value) (ccs : Array (Option Value)) (fl : Str) (tf : Tok), K.lookup c = some ⟨ccl, cdd, .fields vs, ccs⟩ ∧ vs[2]? = some (.str fl tf) ∧ (P.main.file == fl) = true
  cls : ∃ cd, PySem.W.clsIn K D = some cd
  top : (P.main.scope.names.lookup ("super" : Str)).isSome = false
section
variable {CX : CXT} {P : Program} {w : World} {K : PySem.W.Frag} {mg : Str → Option Value} {base : Heap} {N ps : List Str} {x q : Str} {st : Stmt} {f c cc D : Addr} {fd : FuncData} {k : Nat} {sp : Sp}
theorem SupF.cells (F : SupF P K x q st f c cc D fd) {A : Around} {outer : List Env} {s : Shared} {H : Hp} (e0 : Env0 P w K mg base A outer s H) : CellsAt [("__class__", cc)] ["__class__"] [none] s.heap H := by
  obtain ⟨cl, cld, csl, hc⟩ := F.cell
  have look : ∀ {y : Str} {a : Addr}, List.lookup y [(("__class__" : Str), cc)] = some a → y = "__class__" ∧ a = cc := fun {y a} e => by
    by_cases hy : y = "__class__"
    · subst hy
      simp [List.lookup] at e
      exact ⟨rfl, e.symm⟩
    · have z : (y == ("__class__" : Str)) = false := by simpa using hy
      simp [List.lookup, z] at e
  have hb := e0.bs cc _ (e0.mod.kin _ _ hc)
  refine ⟨rfl, fun y a e => ?_, fun y z a e1 e2 => (look e1).1.trans (look e2).1.symm, fun i y e => ?_⟩
  · obtain ⟨_, rfl⟩ := look e
    exact ⟨hb.2, _, _, hb.1, rfl⟩
  · cases i with
    | zero =>
      have e' : some ("__class__" : Str) = some y := e
      cases e'
      exact ⟨cc, by simp [List.lookup], fun v z => by cases z⟩
    | succ i => cases e
/-- such a method keeps its promise -/
theorem SupF.ok (F : SupF P K x q st f c cc D fd) (S : NScope N ps ["__class__"] (defScope st)) (len : ∀ vs H Q E, sp vs H Q E → vs.length = ps.length)
    (body : ∀ (A : Around) (outer : List Env) (s : Shared) (H : Hp) (vs : List V) (Q : VK) (E : XK), Room k (A.deeper (envF (nfS x q st cc c) f s.heap.objs.size)) → sp vs H Q E →
      AtSs (ncx CX P w K mg base N (nfS x q st cc c) f A outer s H E) (defBody st) (defBody st) { nx := fun _ H' => Q .non H', rt := Q } (startF N vs [none]) H) : FnOk P w K mg base CX (k + 1) f fd ps sp := by
  refine ⟨len, fun A outer s H args us vs Q E hr e0 hb r hsp => ?_⟩
  obtain ⟨oc, od, kV, doc, pm, ct, an, osl, rfl, lk⟩ := F.ex
  have KX : K.In s.heap := e0.mod.kin.keeps fun b o e => (e0.bs b o e).1
  have lim : s.heap.NoLimit := e0.mod.nolimit.keeps fun b o e => (e0.bs b o e).1
  refine _root_.PySem.ks_codeAny_call_defAt (body := defBody st) hr.depth (KX _ _ lk) rfl lim (PySem.W.codeRec_of KX F.cd) rfl hb S.nocell (fun ⟨n, _⟩ hy => S.par n (List.of_mem_zip hy).1) (fun h₁ hns kp => ?_) S.co S.gen S.kind
  have I : Inv (ncx CX P w K mg base N (nfS x q st cc c) f A outer s H E) [] (startF N vs [none]) H { s with heap := h₁, toks := s.toks + (ps.zip us).length } := inv_startN S hr.hd e0 (len _ _ _ _ hsp) r (F.cells e0) hns kp
  refine _root_.PySem.wpAt_mono (body A outer s H vs Q E (hr.deeper _) hsp [] _ I) (fun fl s' hs => ?_) fun e s' hs => hs
  have fin : ∀ {σ' : L2.St} {H' : Hp} {v : V} {u : Value}, Inv (ncx CX P w K mg base N (nfS x q st cc c) f A outer s H E) [] σ' H' s' → L2.RelV v u → Q v H' → CE outer P w H s Q u s' := fun {σ' H' v u} J rv qq => ⟨v, H', J.os, J.bare, J.base, J.hok, rv, qq⟩
  cases fl with
  | ret u =>
    obtain ⟨v, σ', H', J, rv, qq⟩ := hs
    exact fin J rv qq
  | next =>
    obtain ⟨σ', H', J, qq⟩ := hs
    exact fin (v := V.non) (u := Value.none) J rfl qq
  | brk => exact hs.elim fun _ z => z.elim fun _ z => z.2.elim
  | cont => exact hs.elim fun _ z => z.elim fun _ z => z.2.elim
end
/-- ValueError.__init__ bound to the error at x -/
def mwO (x u : Addr) : HO := .ext fun h => h.get? u = some (PySem.W.kxs_mw "ValueError.__init__" x)
theorem mwO_ok {P : Program} {w : World} {H : Hp} {h : Heap} {x u : Addr} (e : h.get? u = some (PySem.W.kxs_mw "ValueError.__init__" x)) : ObjOk P w H h u (mwO x u) := ⟨e, ⟨_, e⟩, fun _ _ z k => k _ z⟩
theorem mwO_at {P : Program} {w : World} {H : Hp} {h : Heap} {x u : Addr} (hok : HOk P w H h) (e : H u = some (mwO x u)) : h.get? u = some (PySem.W.kxs_mw "ValueError.__init__" x) := by
  obtain ⟨z, _, _⟩ := hok u _ e
  exact z
section
variable {prog : Program} {w : World} {A : Around} {E : Value → Shared → Prop} {h : Heap} {g : Array GenState} {d : Drawn} {t : Nat} {os : OsState}
variable {nm q : Str} {C N : Addr} {bs bm : List Value} {hdct : Bool} {sn : List Str} {sub : List Value} {ab : Bool} {col : Option Bool} {dd : Option Addr} {k0 k1 k2 k3 k5 : Option Value}
theorem call_mw {u e t0 : Addr} {us : List Value} {Q : Value → Shared → Prop} (hC : h.get? C = some (excClassObj nm q C N bs bm hdct sn sub ab col dd k0 k1 k2 k3 k5 "ValueError.__new__")) (he : h.get? e = some (PySem.HandSPX.excO C t0))
    (hu : h.get? u = some (PySem.W.kxs_mw "ValueError.__init__" e)) (hl : us.length ≤ sizeLine) (hq : ∀ h' t1, (∀ b o, b ≠ e → h.get? b = some o → h'.get? b = some o) → h'.get? e = some (PySem.HandSPX.excO C t1) → Q .none ⟨h', g, d, t, os⟩) :
    wpAny (model prog w) A (call (.ref u) us) Q E ⟨h, g, d, t, os⟩ := by
  refine wpAny_call (codeAny_of_tree (show wpAny _ A.in1 (callAny (.ref u) ⟨us, []⟩) _ _ _ from ?_))
  unfold callAny
  refine wpAny_bind (wpAny_load hu ?_)
  show wpAny _ _ (if (Value.type "method-wrapper" == Value.type "method" || Value.type "method-wrapper" == Value.type "builtin_function_or_method" || Value.type "method-wrapper" == Value.type "method-wrapper") = true then _ else _) _ _ _
  rw [if_pos (by decide)]
  refine PySem.W.KFB.if_so (show (Value.type "method-wrapper" != Value.type "method") = true by decide) (wpAny_bind (PySem.W.check_bound_init F.excBase_ValueError.toExcCallFacts hC he rfl (wpAny_bind (wpAny_pure (wpAny_pure ⟨_root_.PySem.plainId_quiet F.excBase_ValueError.init.plain _, codeAny_builtin F.excBase_ValueError.initEntry ?_⟩)))))
  exact PySem.W.exc_init_tree (cls := .ref C) (t0 := t0) (dv := none) (c2 := .none) (c3 := .none) (b4 := .bool false) he hl fun h' k e1 _ => hq h' _ k e1
end
section
variable {X : Cx} {B rest : List Stmt} {D : Ends} {σ : L2.St} {H : Hp} {x q : Str} {st : Stmt} {f c cc D0 C a : Addr} {fd : FuncData} {i : Nat} {ar : Arg} {ta : TA} {e : Expr} {es : List Expr} {p0 p1 p2 p3 p4 : Pos} {pl : Sem Bool}
theorem at_supx (F : SupF X.prog X.K x q st f c cc D0 fd) (hfu : X.env.func = some f) (hco : X.env.code = .ref c) (hcl : X.env.cells.lookup ("__class__" : Str) = some cc) (hp : (fd.params.posonlyargs ++ fd.params.args).head? = some ar)
    (hks : X.env.kindOf "super" = some .globalImplicit) (hkc : X.env.kindOf "__class__" = some .free) (hka : X.env.kindOf ar.arg = some .local) (hm : X.mg "super" = none)
    (T : OexC X.K C) (sm : PySem.W.ks_superIn X.K C D0 "__init__" = some (some (.builtin "ValueError.__init__"))) (sub : PySem.W.mroIn X.K C (.ref D0) = some true) (sV : PySem.W.subIn X.K (.ref C) (.type "ValueError") = some true)
    (op : PySem.W.nsIn X.K cStatics "thirdparty.any" = some none) (hi : X.N[i]? = some ar.arg) (hs : σ[i]? = some (some (.ref a))) (ha : H a = some (exo a C none)) (pa : PA X (e :: es) ta)
    (h : ∀ u, H u = none → ta σ (upd H u (mwO a u)) fun vs H1 => vs.length ≤ 1000 ∧ H1 u = some (mwO a u) ∧ H1 a = some (exo a C none) ∧ AtSs X B rest D σ H1)
    (he : starEach (e :: es) X.env = (false, eval e X.env) :: starEach es X.env := by rfl) (hpl : (backTo p3 (starEach es X.env)).any (·.1) = false := by rfl) (hint : interactive X.env = false := by rfl)
    (hsw : swapsWith (.Call (.Attribute (.Call (.Name "super" p0) [] [] p1) "__init__" p2) (e :: es) [] p3) none p4.line X.env = pure false := by rfl)
    (hev : eval (.Call (.Attribute (.Call (.Name "super" p0) [] [] p1) "__init__" p2) (e :: es) [] p3) X.env = (do
      let ov ← attributeBase (.Call (.Name "super" p0) [] [] p1) "__init__" X.env (eval (.Call (.Name "super" p0) [] [] p1) X.env)
      standAt p2.atName
      let (ff, first) ← holding [ov] (getMethod ov "__init__" pl)
      callWith p3 ff first (backTo p3 (starEach (e :: es) X.env)) []) := by rfl) :
    AtSs X B (.Expr (.Call (.Attribute (.Call (.Name "super" p0) [] [] p1) "__init__" p2) (e :: es) [] p3) p4 :: rest) D σ H := fun pins s I => by
  obtain ⟨oc, od, kV, doc, pm, ct, an, osl, efd, lk⟩ := F.ex
  obtain ⟨ccl, cdd, vs, ccs, fl, tf, lc, hvs, hfile⟩ := F.file
  obtain ⟨cl, cld, csl, hcell⟩ := F.cell
  obtain ⟨cdD, hD⟩ := F.cls
  obtain ⟨mb, hb1, hb2⟩ := I.mod.blt
  obtain ⟨oD, hD1, hD2⟩ : ∃ oD, s.heap.get? D0 = some oD ∧ oD.data = .cls cdD := by
    unfold PySem.W.clsIn at hD
    split at hD
    · rename_i c' d' cd' sl' ho
      cases hD
      exact ⟨_, I.kIn _ _ ho, rfl⟩
    · cases hD
  obtain ⟨nm, qn, NN, bs, bm, sn, sb, ab, col, dd, k0, k1, k2, k3, k5, hC, hbm⟩ := T.cls
  have hcC : PySem.W.clsIn X.K C = some { name := nm, bases := bs, mro := .ref C :: bm, ns := NN, qualname := qn, hasDict := true, slotNames := sn, subclasses := sb, abstract := ab, collection := col, hasDel := false } := by unfold PySem.W.clsIn; rw [hC] <;> rfl
  obtain ⟨t0, hx⟩ := exo_at I.hok ha
  have IA : PySem.W.InstAt s.heap a _ C none := ⟨hx, rfl, rfl, trivial⟩
  have xC : a ≠ C := PySem.W.ks_ne I.kIn IA hcC
  refine _root_.PySem.ks_wpAt_execs_cons (_root_.PySem.ks_wpAt_Expr_any (_root_.PySem.ks_wpAt_MethodCall (pl := pl) (_root_.PySem.ks_wpAt_super_base hks hkc rfl hfu (I.kIn _ _ lk) rfl hp hco (I.kIn _ _ lc) rfl hvs hfile F.top ?_) hev) hint hsw)
  refine PySem.W.ks_loadName_global I.ok.kind hks (Calls.loadGlobal_builtin (by rw [I.ok.glob]; exact I.mod.glob.keeps I.bk) hm (by rw [I.ok.blt]; exact hb1.keeps I.bk) ((hb2 _ (by decide)).trans (by decide +kernel)) ⟨rfl, ?_⟩)
  refine wpAny_loadName_free I.ok.kind hkc hcl ⟨_, I.kIn _ _ hcell, rfl⟩ ?_
  obtain ⟨m, hn, hl⟩ := id I.loc
  obtain ⟨u, r, qq⟩ := hl i _ _ hi hs (.inl hka)
  obtain rfl : u = Value.ref a := r
  rcases qq with ⟨_, em⟩ | ⟨k, _⟩
  · refine wpAny_loadName_local I.ok.kind hka hn em ?_
    obtain ⟨hp', g, d, t, os⟩ := s
    refine _root_.PySem.ks_wpAny_isType_cls hD1 hD2 ⟨rfl, ?_⟩
    refine _root_.PySem.ks_wpAny_call_super hD1 hD2 hx rfl (fun c e => by cases e) (PySem.W.looks_mroIn I.kIn sub) (fun h' eS kS => ?_)
    have J1 : Inv X pins σ H ⟨h', g, d, t, os⟩ := I.kept (t' := t) kS
    have IA1 : PySem.W.InstAt h' a _ C none := ⟨kS _ _ hx, rfl, rfl, trivial⟩
    have sm' := sm
    unfold PySem.W.ks_superIn at sm'
    rw [hcC] at sm'
    refine PySem.W.kxs_getMethod PySem.W.kxs_ValueError eS (PySem.W.looks_opaque J1.kIn op) ((PySem.W.looks_clsIn J1.kIn hcC).andThen .now) rfl J1.kIn sm' (IA1.type.andThen (PySem.W.looks_subIn J1.kIn sV)) xC rfl ?_
    have nu : H h'.objs.size = none := J1.hok.fresh (Nat.le_refl _)
    have J2 : Inv X pins σ (upd H h'.objs.size (mwO a h'.objs.size)) ⟨h'.push (PySem.W.kxs_mw "ValueError.__init__" a), g, d, t + 1, os⟩ :=
      J1.laid (t' := t + 1) (a := h'.objs.size) (fun b o z => Heap.get?_push_of_some _ z) (Nat.le_refl _) (mwO_ok (Heap.get?_push_size _ rfl))
    show wpAny _ _ (callWith p3 (Value.ref h'.objs.size) [] (backTo p3 (starEach (e :: es) X.env)) []) _ _ _
    have hpa := pa.run p3 pins _ σ _ _ J2 (h _ nu)
    rw [he] at hpa ⊢
    refine PySem.W.kxs_callWith (i := "ValueError.__init__") (x := a) (by show (false || (backTo p3 (starEach es X.env)).any (·.1)) = false; rw [hpl]; rfl) (Calls.evalArgs_plain (thn hpa fun us s1 ⟨vs', H1, J3, r1, hlen, e1, e2, qk⟩ => ?_))
    refine ⟨mwO_at J3.hok e1, ?_⟩
    show wpAny _ _ (call (Value.ref h'.objs.size) us) _ _ _
    obtain ⟨t1, hx1⟩ := exo_at J3.hok e2
    have hul : us.length ≤ sizeLine := by
      rw [← Paired.length r1, sizeLine_eq]
      omega
    have hCx := J3.kIn _ _ hC
    have hmw := mwO_at J3.hok e1
    obtain ⟨h1, g1, d1, t1', os1⟩ := s1
    refine call_mw hCx hx1 hmw hul (fun h2 t2 k2 hx2 => ?_)
    have J4 := J3.write (t' := t1') (x := a) (e := a) (o := exo a C none) (by rw [e2]; exact True.intro) (.inl rfl) k2 ⟨_, hx2⟩ (exo_ok hx2)
    have eu : upd H1 a (exo a C none) = H1 := by
      funext b
      by_cases hb : b = a
      · rw [hb, upd_same, e2]
      · rw [upd_ne hb]
    rw [eu] at J4
    exact qk pins _ J4
  · rcases k with k | k
    · have z := k.symm.trans hka
      cases z
    · have z := k.symm.trans hka
      cases z
end
/-- what the written part says of the error class at C, named x, with the fields ns -/
structure ErrK (K : PySem.W.Frag) (mg : Str → Option Value) (x : Str) (C fI : Addr) (ns : List Str) : Prop where
  gC : mg x = some (.ref C)
  T : OexC K C
  iC : PySem.W.findIn K (.ref C) "__init__" = some (some (.ref fI))
  tI : PySem.W.typeIn K (.ref fI) = some (.type "function")
  no : ∀ n ∈ ns, PySem.W.findIn K (.ref C) n = some none
  sm : PySem.W.ks_superIn K C C "__init__" = some (some (.builtin "ValueError.__init__"))
  sub : PySem.W.mroIn K C (.ref C) = some true
  sV : PySem.W.subIn K (.ref C) (.type "ValueError") = some true
  op : PySem.W.nsIn K cStatics "thirdparty.any" = some none
  su : mg "super" = none
/-- __init__ keeps: the fields stand in a new dict -/
def spErr (C : Addr) (ns : List Str) : Sp := fun vs H Q _ => ∃ (a : Addr) (ws : List V), vs = .ref a :: ws ∧ ws.length = ns.length ∧ H a = some (exo a C none) ∧
  ∀ u d, H u = none → d ≠ u → d ≠ a → u ≠ a → H d = none → Q .non (upd (upd (upd H u (mwO a u)) d (exd d (ns.zip ws).reverse)) a (exo a C (some d)))
section
variable {P : Program} {w : World} {K : PySem.W.Frag} {mg : Str → Option Value} {base : Heap} {x q : Str} {st : Stmt} {f c cc C : Addr} {fd : FuncData} {n m : Str} {pa0 : Arg} {p0 p1 p2 p3 p4 p5 p6 q0 q1 q2 q3 r0 r1 r2 r3 : Pos}
theorem clsCell {cc : Addr} : List.lookup ("__class__" : Str) [(("__class__" : Str), cc)] = some cc := by simp [List.lookup]
/-- super().__init__(n); self.n = n -/
theorem err1_ok (F : SupF P K "__init__" q st f c cc C fd) (G : ErrK K mg x C f [n]) (S : NScope ["self", n, "__class__"] ["self", n] ["__class__"] (defScope st))
    (eb : defBody st = [.Expr (.Call (.Attribute (.Call (.Name "super" p0) [] [] p1) "__init__" p2) [.Name n p3] [] p4) p5, .Assign [.Attribute (.Name "self" q0) n q1] (.Name n q2) q3])
    (hp : (fd.params.posonlyargs ++ fd.params.args).head? = some pa0) (h0 : pa0.arg = "self") (hks : (defScope st).names.lookup ("super" : Str) = some .globalImplicit)
    (hint : ∀ L, interactive (envF (nfS "__init__" q st cc c) f L) = false)
    (hsw1 : ∀ L, swapsWith (.Call (.Attribute (.Call (.Name "super" p0) [] [] p1) "__init__" p2) [.Name n p3] [] p4) none p5.line (envF (nfS "__init__" q st cc c) f L) = pure false)
    (hev : ∀ L, ∃ pl : Sem Bool, eval (.Call (.Attribute (.Call (.Name "super" p0) [] [] p1) "__init__" p2) [.Name n p3] [] p4) (envF (nfS "__init__" q st cc c) f L) = (do
      let ov ← attributeBase (.Call (.Name "super" p0) [] [] p1) "__init__" (envF (nfS "__init__" q st cc c) f L) (eval (.Call (.Name "super" p0) [] [] p1) (envF (nfS "__init__" q st cc c) f L))
      standAt p2.atName
      let (ff, first) ← holding [ov] (getMethod ov "__init__" pl)
      callWith p4 ff first (backTo p4 (starEach [.Name n p3] (envF (nfS "__init__" q st cc c) f L))) []))
    (hsw2 : ∀ L, swapsWith (.Name n q2) (some (.Attribute (.Name "self" q0) n q1)) q3.line (envF (nfS "__init__" q st cc c) f L) = pure false) (hdb : (n == ("__debug__" : Str)) = false) (hcd : (n == ("__classdict__" : Str)) = false) : FnOk P w K mg base CX0 1 f fd ["self", n] (spErr C [n]) := by
  refine F.ok S (fun vs H Q E h => ?_) (fun A outer s H vs Q E hr h => ?_)
  · obtain ⟨a, ws, rfl, hl, _⟩ := h
    simpa using hl
  · obtain ⟨a, ws, rfl, hl, ha, hq⟩ := h
    match ws, hl with
    | [v], _ =>
      obtain ⟨pl, hev⟩ := hev s.heap.objs.size
      rw [eb]
      have vn : Vis (defScope st) n := .inl (S.par n (by simp))
      have hself : (defScope st).names.lookup ("self" : Str) = some .local := S.par "self" (by simp)
      have pN : PE (ncx CX0 P w K mg base ["self", n, "__class__"] (nfS "__init__" q st cc c) f A outer s H E) (.Name n p3) (tVar 1) := pe_var rfl vn hdb hcd
      refine at_supx (i := 0) F rfl rfl clsCell hp hks (S.frk "__class__" (by simp)) (by rw [h0]; exact hself) G.su G.T G.sm G.sub G.sV G.op (by rw [h0]; rfl) rfl ha (pa_cons pN pa_nil) (fun u hu => ?_) (hint := hint _) (hsw := hsw1 _) (hev := hev)
      have ua : u ≠ a := fun z => by
        rw [z, ha] at hu
        cases hu
      refine ⟨v, rfl, by show 1 ≤ 1000; decide, upd_same, ?_, .any ?_⟩
      · rw [upd_ne (Ne.symm ua)]
        exact ha
      · refine WSs.of (pss_one (ps_ost (pe_var (i := 0) rfl (.inl hself)) (pe_var (i := 1) rfl vn hdb hcd) (hsw2 _))) ?_
        refine ⟨v, rfl, .ref a, rfl, a, C, rfl, G.T, G.no n (by simp), .inl ⟨?_, fun d hd hda => ?_⟩⟩
        · rw [upd_ne (Ne.symm ua)]
          exact ha
        · have du : d ≠ u := fun z => by
            rw [z, upd_same] at hd
            cases hd
          rw [upd_ne du] at hd
          exact hq u d hu du hda ua hd
/-- super().__init__(n, m); self.n = n; self.m = m -/
theorem err2_ok (F : SupF P K "__init__" q st f c cc C fd) (G : ErrK K mg x C f [n, m]) (S : NScope ["self", n, m, "__class__"] ["self", n, m] ["__class__"] (defScope st))
    (eb : defBody st = [.Expr (.Call (.Attribute (.Call (.Name "super" p0) [] [] p1) "__init__" p2) [.Name n p3, .Name m p6] [] p4) p5, .Assign [.Attribute (.Name "self" q0) n q1] (.Name n q2) q3, .Assign [.Attribute (.Name "self" r0) m r1] (.Name m r2) r3])
    (hp : (fd.params.posonlyargs ++ fd.params.args).head? = some pa0) (h0 : pa0.arg = "self") (hks : (defScope st).names.lookup ("super" : Str) = some .globalImplicit)
    (hint : ∀ L, interactive (envF (nfS "__init__" q st cc c) f L) = false)
    (hsw1 : ∀ L, swapsWith (.Call (.Attribute (.Call (.Name "super" p0) [] [] p1) "__init__" p2) [.Name n p3, .Name m p6] [] p4) none p5.line (envF (nfS "__init__" q st cc c) f L) = pure false)
    (hev : ∀ L, ∃ pl : Sem Bool, eval (.Call (.Attribute (.Call (.Name "super" p0) [] [] p1) "__init__" p2) [.Name n p3, .Name m p6] [] p4) (envF (nfS "__init__" q st cc c) f L) = (do
      let ov ← attributeBase (.Call (.Name "super" p0) [] [] p1) "__init__" (envF (nfS "__init__" q st cc c) f L) (eval (.Call (.Name "super" p0) [] [] p1) (envF (nfS "__init__" q st cc c) f L))
      standAt p2.atName
      let (ff, first) ← holding [ov] (getMethod ov "__init__" pl)
      callWith p4 ff first (backTo p4 (starEach [.Name n p3, .Name m p6] (envF (nfS "__init__" q st cc c) f L))) []))
    (hsw2 : ∀ L, swapsWith (.Name n q2) (some (.Attribute (.Name "self" q0) n q1)) q3.line (envF (nfS "__init__" q st cc c) f L) = pure false) (hsw3 : ∀ L, swapsWith (.Name m r2) (some (.Attribute (.Name "self" r0) m r1)) r3.line (envF (nfS "__init__" q st cc c) f L) = pure false)
    (hdb : (n == ("__debug__" : Str)) = false) (hcd : (n == ("__classdict__" : Str)) = false) (mdb : (m == ("__debug__" : Str)) = false) (mcd : (m == ("__classdict__" : Str)) = false) : FnOk P w K mg base CX0 1 f fd ["self", n, m] (spErr C [n, m]) := by
  refine F.ok S (fun vs H Q E h => ?_) (fun A outer s H vs Q E hr h => ?_)
  · obtain ⟨a, ws, rfl, hl, _⟩ := h
    simpa using hl
  · obtain ⟨a, ws, rfl, hl, ha, hq⟩ := h
    match ws, hl with
    | [v, z], _ =>
      obtain ⟨pl, hev⟩ := hev s.heap.objs.size
      rw [eb]
      have vn : Vis (defScope st) n := .inl (S.par n (by simp))
      have vm : Vis (defScope st) m := .inl (S.par m (by simp))
      have hself : (defScope st).names.lookup ("self" : Str) = some .local := S.par "self" (by simp)
      have pN : PE (ncx CX0 P w K mg base ["self", n, m, "__class__"] (nfS "__init__" q st cc c) f A outer s H E) (.Name n p3) (tVar 1) := pe_var rfl vn hdb hcd
      have pM : PE (ncx CX0 P w K mg base ["self", n, m, "__class__"] (nfS "__init__" q st cc c) f A outer s H E) (.Name m p6) (tVar 2) := pe_var rfl vm mdb mcd
      refine at_supx (i := 0) F rfl rfl clsCell hp hks (S.frk "__class__" (by simp)) (by rw [h0]; exact hself) G.su G.T G.sm G.sub G.sV G.op (by rw [h0]; rfl) rfl ha (pa_cons pN (pa_cons pM pa_nil)) (fun u hu => ?_) (hint := hint _) (hsw := hsw1 _) (hev := hev)
      have ua : u ≠ a := fun y => by
        rw [y, ha] at hu
        cases hu
      refine ⟨v, rfl, z, rfl, by show 2 ≤ 1000; decide, upd_same, ?_, .any ?_⟩
      · rw [upd_ne (Ne.symm ua)]
        exact ha
      · refine WSs.of (pss_cons (ps_ost (pe_var (i := 0) rfl (.inl hself)) (pe_var (i := 1) rfl vn hdb hcd) (hsw2 _)) (pss_one (ps_ost (pe_var (i := 0) rfl (.inl hself)) (pe_var (i := 2) rfl vm mdb mcd) (hsw3 _)))) ?_
        refine ⟨v, rfl, .ref a, rfl, a, C, rfl, G.T, G.no n (by simp), .inl ⟨?_, fun d hd hda => ?_⟩⟩
        · rw [upd_ne (Ne.symm ua)]
          exact ha
        · have du : d ≠ u := fun y => by
            rw [y, upd_same] at hd
            cases hd
          rw [upd_ne du] at hd
          refine ⟨z, rfl, .ref a, rfl, a, C, rfl, G.T, G.no m (by simp), .inr ⟨d, _, upd_same, by rw [upd_ne hda, upd_same], by show 1 ≤ 900; decide, ?_⟩⟩
          have key := hq u d hu du hda ua hd
          have e : upd (upd (upd (upd H u (mwO a u)) d (exd d [(n, v)])) a (exo a C (some d))) d (exd d [(m, z), (n, v)]) = upd (upd (upd H u (mwO a u)) d (exd d [(m, z), (n, v)])) a (exo a C (some d)) := by
            funext b
            by_cases hb : b = d
            · subst hb
              rw [upd_same, upd_ne hda, upd_same]
            · rw [upd_ne hb]
              by_cases h2 : b = a
              · subst h2
                rw [upd_same, upd_same]
              · rw [upd_ne h2, upd_ne hb, upd_ne h2, upd_ne hb]
          show Q .non (upd (upd (upd (upd H u (mwO a u)) d (exd d [(n, v)])) a (exo a C (some d))) d (exd d [(m, z), (n, v)]))
          rw [e]
          exact key
end
abbrev XW := Value → Option Addr → En → Lg → Prop
def upW (X : Cx) (W : XW) : WX := fun cls d σ H => ∃ η L, X.N = names η ∧ σ = vals η ∧ Has H L ∧ W cls d η L
/-- the frame lets out what W tells -/
def Tk (X : Cx) (W : XW) : Prop := Takes X (upW X W)
/-- an error class that can be made -/
structure ErrC (P : Program) (w : World) (K : PySem.W.Frag) (mg : Str → Option Value) (base : Heap) (x : Str) (C : Addr) (ns : List Str) : Prop where
  ex : ∃ fI fd, ErrK K mg x C fI ns ∧ FnOk P w K mg base CX0 1 fI fd ("self" :: ns) (spErr C ns) ∧ L2.Binds K fd ("self" :: ns) []
def GMk (X : Cx) (e : Expr) (η : En) (L : Lg) (Q : XL) : Prop := X.N = names η → ∀ H, Has H L → ∀ pins s, Inv X pins (vals η) H s → wpAny (model X.prog X.w) X.A (eval e X.env) (MkP X pins (vals η) (upX Q)) X.xe s
theorem mkp_imp {X : Cx} {pins : List (Addr × Obj)} {σ : L2.St} {Q Q' : XK} {u : Value} {s : Shared} (h : MkP X pins σ Q u s) (m : ∀ c d H, Q c d H → Q' c d H) : MkP X pins σ Q' u s := by
  obtain ⟨a, oe, vs, sI, H', cls, d, h1, h2, h3, h4, h5, h6, h7, h8, h9, h10, h11, h12, q⟩ := h
  exact ⟨a, oe, vs, sI, H', cls, d, h1, h2, h3, h4, h5, h6, h7, h8, h9, h10, h11, h12, m _ _ _ q⟩
section
variable {X : Cx} {η : En} {L : Lg} {e : Expr} {es : List Expr} {pos p : Pos} {D : GD} {W : XW} {Q : QV} {j k : Nat} {x : Str} {C : Addr} {ns : List Str}
theorem gs_raise (tk : Tk X W) (h : GMk X e η L fun c d L1 => W c d η L1) (hc : X.calm = true := by rfl) : GS X (.Raise (some e) none pos) D η L := fun hN H hH =>
  WS.of (ps_raise (t := fun σ H Q => ∀ pins s, Inv X pins σ H s → wpAny (model X.prog X.w) X.A (eval e X.env) (MkP X pins σ Q) X.xe s) hc tk (fun pins s σ H Q I q => q pins s I))
    (fun pins s I => thn (h hN H hH pins s I) fun u s' z => mkp_imp z fun c d H' ⟨L', h', q⟩ => ⟨η, L', hN, rfl, h', q⟩)
theorem gmk_err {E : XL} (T : ErrC X.prog X.w X.K X.mg X.base x C ns) (hr : RoomG j X.A) (h : GA X (e :: es) η L fun vs L1 => vs.length = ns.length ∧ ∀ d, E (.ref C) (some d) ((d, .xd (ns.zip vs).reverse) :: L1)) (hn : ns.length ≤ 900) (hj : 2 ≤ j := by decide) (hg : Gl X x := by rfl)
    (hdb : (x == ("__debug__" : Str)) = false := by decide) (he : starEach (e :: es) X.env = (false, eval e X.env) :: starEach es X.env := by rfl) (hpl : (backTo pos (starEach es X.env)).any (·.1) = false := by rfl) : GMk X (.Call (.Name x p) (e :: es) [] pos) η L E := fun hN H hH pins s I => by
  obtain ⟨fI, fd, G, F, hb⟩ := T.ex
  refine pmk_oex (dvs := []) (ds := []) G.T G.iC G.tI F (hr.toRoom.mono hj) hb .nil (fun _ _ _ _ _ _ _ z => z.elim) hg G.gC pa_W hdb he hpl pins s (vals η) H _ I ?_
  refine (h hN H hH).mono fun vs H1 ⟨L1, h1, hl, q⟩ => ⟨by omega, fun a ha => ⟨a, vs, by rw [List.append_nil], hl, upd_same, fun u d hu du da ua hd => ⟨rfl, d, _, upd_same, by rw [upd_ne da, upd_same], ?_, ?_⟩⟩⟩
  · rw [upd_ne da] at hd
    exact hd
  · refine ⟨_, ?_, q d⟩
    have hd1 : H1 d = none := by
      rw [upd_ne da] at hd
      exact hd
    have hu1 : H1 u = none := by
      rw [upd_ne ua] at hu
      exact hu
    have old : ∀ b o, H1 b = some o → (upd (del (upd (upd (upd (upd H1 a (exo a C none)) u (mwO a u)) d (exd d (ns.zip vs).reverse)) a (exo a C (some d))) a) d (.xd (ns.zip vs).reverse)) b = some o := fun b o z => by
      have na := ne_of_none z ha
      rw [upd_ne (ne_of_none z hd1), del_ne na, upd_ne na, upd_ne (ne_of_none z hd1), upd_ne (ne_of_none z hu1), upd_ne na]
      exact z
    exact h1.newB hd1 old upd_same
end
section
variable {X : Cx} {η : En} {L : Lg} {e : Expr} {es : List Expr} {pos p : Pos} {W : XW} {Q : QV} {j k : Nat} {x : Str} {sp : SpL}
/-- what a callee of ours lets out, taken -/
theorem run_x {pins : List (Addr × Obj)} {H : Hp} {s : Shared} {f : Addr} {args : List Value → Args} {us : List Value} {vs : List V} (F : RunG X.prog X.w X.K X.mg X.base (L2.CX X.prog X.w) k f args (toSp sp)) (hr : RoomG k X.A) (tk : Tk X W) (hN : X.N = names η) (hH : Has H L) (I : Inv X pins (vals η) H s) (r : Vals vs us)
    (h : sp vs L Q fun c d L' => W c d η L') : wpAny (model X.prog X.w) X.A (call (.ref f) (args us).pos (args us).kw) (EP X pins (vals η) (up Q)) X.xe s := by
  have hsp : toSp sp vs H (up Q) (fun c d H' => upW X W c d (vals η) H') := ⟨L, Q, _, hH, h, fun _ L' _ h' q => ⟨L', h', q⟩, fun _ _ L' _ h' q => ⟨η, L', hN, rfl, h', q⟩⟩
  refine wpAny_call (codeAny_mono (F X.A X.stack s H us vs _ _ hr I.env0 r hsp) fun r' s' hq => ?_)
  cases r' with
  | error e => exact passAt tk (vals η) pins H s e s' I hq
  | ok fl =>
    cases fl with
    | ret u => exact I.after hq
    | next => exact hq.elim
    | brk => exact hq.elim
    | cont => exact hq.elim
theorem ge_callX (F : Fn X.prog X.w X.K X.mg X.base (L2.CX X.prog X.w) x k sp) (hr : RoomG j X.A) (tk : Tk X W) (h : GA X (e :: es) η L fun vs L1 => sp vs L1 Q fun c d L' => W c d η L') (hjk : k ≤ j := by decide) (hg : Gl X x := by rfl) (hd : (x == ("__debug__" : Str)) = false := by decide)
    (he : starEach (e :: es) X.env = (false, eval e X.env) :: starEach es X.env := by rfl) (hpl : (backTo pos (starEach es X.env)).any (·.1) = false := by rfl) : GE X (.Call (.Name x p) (e :: es) [] pos) η L Q := fun hN H hH pins s I => by
  obtain ⟨f, hm, hk, F⟩ := F
  refine wpAny_Call_Name_kw (ld_glob I hg hm (PySem.W.callWith_K (h₀ := X.base) I.ok.mod.kin hk (thn (h hN H hH pos pins s I) fun us s1 ⟨vs, H1, J, r, L1, h1, q⟩ => ⟨J.kIn, ?_⟩) he hpl) hd)
  exact run_x (args := argsP) F (hr.mono hjk) tk hN h1 J r q
end
section
variable {P : Program} {w : World} {K : PySem.W.Frag} {mg : Str → Option Value} {base : Heap}
/-- where the body of a def stands that may let errors out -/
abbrev cxR (P : Program) (w : World) (K : PySem.W.Frag) (mg : Str → Option Value) (base : Heap) (N : List Str) (x : Str) (sc : Scope) (f : Addr) (cdv : Value) (A : Around) (outer : List Env) (s : Shared) (H : Hp) (E0 : XK) : Cx := cxOf (L2.CX P w) P w K mg base N x sc f cdv A outer s H E0
/-- what is left over may be dropped -/
def drpE (E : XL) : XL := fun c d L => ∃ M, Sub M L ∧ E c d M
abbrev BodyX (P : Program) (w : World) (K : PySem.W.Frag) (mg : Str → Option Value) (base : Heap) (N : List Str) (q : Str) (st : Stmt) (k : Nat) (sp : SpL) : Prop :=
  ∀ (X : Cx) (f : Addr) (cdv : Value) (A : Around) (outer : List Env) (s : Shared) (H : Hp) (E0 : XK) (L : Lg) (vs : List V) (Q : QV) (E : XL), X = cxR P w K mg base N q (defScope st) f cdv A outer s H E0 → X.N.Nodup → RoomG k X.A → Tk X (fun c d _ L' => drpE E c d L') → sp vs L Q E → GSs X (defBody st) (bodyD Q) (begun N vs) L
theorem run_raise {x q : Str} {st : Stmt} {f : Addr} {fd : FuncData} {N ps : List Str} {k : Nat} {sp : SpL} (F : Fun K x q st f fd) (S : FnScope N ps (defScope st)) (args : List Value → Args) (pmV : List V → List V) (pmU : List Value → List Value) (hpm : ∀ vs us, Vals vs us → Vals (pmV vs) (pmU us))
    (hb : ∀ (kV doc pm : Value) (an : Option Addr) (cdv ct : Value) (us : List Value), (pmU us).length = ps.length → bindArgs (PySem.W.fnOf x q (defArgs st) (defBody st) (defScope st) .none kV doc pm an cdv ct) (args us) = pure (ps.zip (pmU us)))
    (hl : ps.length ≤ N.length) (len : ∀ vs L Q E, sp vs L Q E → vs.length = ps.length) (body : BodyX P w K mg base N q st k sp) : RunG P w K mg base (L2.CX P w) (k + 1) f args (fun vs => toSp sp (pmV vs)) := by
  obtain ⟨oc, od, kV, doc, pm, an, cdv, ct, osl, rfl, lk, hcd⟩ := F.ex
  intro A outer s H us vs Q E hr e0 r hsp
  obtain ⟨L, Ql, El, hH, h, hq, he⟩ := hsp
  have hn : (pmV vs).length = ps.length := len _ L Ql El h
  have r2 := hpm vs us r
  have hlv : (pmV vs).length ≤ N.length := by
    rw [hn]
    exact hl
  have tk : Tk (cxR P w K mg base N q (defScope st) f cdv A outer s H E) (fun c d _ L' => drpE El c d L') := (takes_of rfl rfl rfl rfl).imp fun c d σ H' ⟨η, L', _, _, h', M, sb, z⟩ => he c d M H' (sb _ h') z
  exact LamX.run_ofS (CX := L2.CX P w) lk hcd S hr.toRoom e0 (.of_eq (hb kV doc pm an cdv ct us (by rw [← r2.length]; exact hn))) r2 hn fun hr2 =>
    ⟨WSs _ (defBody st), pss_W, body_end (X := cxR P w K mg base N q (defScope st) f cdv A outer s H E) hlv hq hH (body _ f cdv A outer s H E L (pmV vs) Ql El rfl S.nd ⟨hr2, guard_deeper hr.gd⟩ tk h)⟩
/-- THE RULE for a def that may let errors out -/
theorem fn_raise {x : Str} {st : Stmt} {N ps : List Str} {k : Nat} {sp : SpL} (F : Df K mg x st) (S : FnScope N ps (defScope st))
    (hb : ∀ (kV doc pm : Value) (an : Option Addr) (cdv ct : Value) (us : List Value), us.length = ps.length → bindArgs (PySem.W.fnOf x x (defArgs st) (defBody st) (defScope st) .none kV doc pm an cdv ct) ⟨us, []⟩ = pure (ps.zip us))
    (hl : ps.length ≤ N.length) (len : ∀ vs L Q E, sp vs L Q E → vs.length = ps.length) (body : BodyX P w K mg base N x st k sp) : Fn P w K mg base (L2.CX P w) x (k + 1) sp := by
  obtain ⟨f, fd, hm, F⟩ := F
  exact ⟨f, hm, F.kp, run_raise F S argsP id id (fun _ _ r => r) hb hl len body⟩
/-- values, then a tuple of the rest -/
theorem run_starredX {x q pv : Str} {st : Stmt} {f : Addr} {fd : FuncData} {N ps : List Str} {k : Nat} {sp : SpL} (F : Fun K x q st f fd) (S : FnScope N (ps ++ [pv]) (defScope st))
    (hb : ∀ (kV doc pm : Value) (an : Option Addr) (cdv ct : Value) (us rest : List Value), us.length = ps.length → bindArgs (PySem.W.fnOf x q (defArgs st) (defBody st) (defScope st) .none kV doc pm an cdv ct) ⟨us ++ rest, []⟩ = (newTuple rest >>= fun t => pure (ps.zip us ++ [(pv, t)])))
    (hl : ps.length + 1 ≤ N.length) (body : BodyX P w K mg base N q st k sp) (len : ∀ vs L Q E, sp vs L Q E → vs.length = ps.length + 1) : RunG P w K mg base (L2.CX P w) (k + 1) f argsP (toSp fun vs L Q E => ∃ ws rest, vs = ws ++ rest ∧ ws.length = ps.length ∧ rest.length ≤ sizeLine ∧ ∀ p, sp (ws ++ [.ref p]) ((p, .tup rest) :: L) Q E) := by
  obtain ⟨oc, od, kV, doc, pm, an, cdv, ct, osl, rfl, lk, hcd⟩ := F.ex
  intro A outer s H us vs Q E hr e0 r hsp
  obtain ⟨L, Ql, El, hH, ⟨ws, rest, ev, hlw, hz, hs⟩, hq, he⟩ := hsp
  subst ev
  obtain ⟨u1, u2, eu, r1, r2⟩ := StX.vals_split r
  subst eu
  have hn : H s.heap.objs.size = none := e0.hok.fresh (Nat.le_refl _)
  have hl1 : u1.length = ps.length := by
    rw [← r1.length]
    exact hlw
  have hl2 : u2.length ≤ sizeLine := by
    rw [← r2.length]
    exact hz
  refine StX.run_bnd (CX := L2.CX P w) lk hcd S hr.toRoom e0 (G := fun xs H2 => ∃ p, H p = none ∧ xs = ws ++ [V.ref p] ∧ H2 = upd H p (.tup rest)) (fun A' Ex Q' h => ?_) fun s2 H2 xs ⟨p, hp, ex, eH⟩ hr' => ?_
  · rw [show bindArgs _ (argsP (u1 ++ u2)) = _ from hb kV doc pm an cdv ct u1 u2 hl1]
    refine wpAny_bind (wpAny_newTuple (wpAny_pure ?_) hl2)
    have new : ObjOk P w (upd H s.heap.objs.size (.tup rest)) (s.heap.push ({ cls := .type "tuple", data := .seq u2.toArray } : Obj)) s.heap.objs.size (.tup rest) := ⟨hz, u2, r2, ⟨_, Heap.get?_push_size _ rfl, rfl, _, rfl⟩⟩
    have un := StX.un_laid (fs := frs outer) (s := s) (o := ({ cls := .type "tuple", data := .seq u2.toArray } : Obj)) (u := .tup rest) hn
    have z := h _ _ (ws ++ [V.ref s.heap.objs.size]) (u1 ++ [Value.ref s.heap.objs.size]) (StX.env0_laid e0 new) un rfl (fun e s' z => StX.cxUp outer s H _ _ E e s' un (fun b o q => Heap.get?_push_of_some _ q) (by rfl) z) (r1.append (.cons rfl .nil)) (by rw [List.length_append, List.length_append, hlw] <;> rfl) ⟨_, hn, rfl, rfl⟩
    rw [List.zip_append hl1.symm] at z
    exact z
  · subst ex eH
    have hlv : (ws ++ [V.ref p]).length ≤ N.length := by
      rw [List.length_append, hlw]
      exact hl
    have tk : Tk (cxR P w K mg base N q (defScope st) f cdv A outer s2 (upd H p (.tup rest)) E) (fun c d _ L' => drpE El c d L') := (takes_of rfl rfl rfl rfl).imp fun c d σ H' ⟨η, L', _, _, h', M, sb, z⟩ => he c d M H' (sb _ h') z
    exact ⟨WSs _ (defBody st), pss_W, body_end (X := cxR P w K mg base N q (defScope st) f cdv A outer s2 (upd H p (.tup rest)) E) hlv hq (hH.new hp) (body _ f cdv A outer s2 _ E _ _ Ql El rfl S.nd ⟨hr', guard_deeper hr.gd⟩ tk (hs p))⟩
end
/-- an error that was caught, at a: its class, its dict -/
def excH (a : Addr) (cls : Value) (d : Option Addr) : HO := .ext fun h => ∃ (oe : Obj) (vs : Array Value), h.get? a = some oe ∧ Zc cls d oe ∧ oe.data = .fields vs
theorem excH_at {P : Program} {w : World} {H : Hp} {h : Heap} {a : Addr} {cls : Value} {d : Option Addr} (hok : HOk P w H h) (e : H a = some (excH a cls d)) : ∃ (oe : Obj) (vs : Array Value), h.get? a = some oe ∧ Zc cls d oe ∧ oe.data = .fields vs := by
  obtain ⟨z, _, _⟩ := hok a _ e
  exact z
/-- an object of the heap is tracked from now on -/
theorem track {X : Cx} {pins : List (Addr × Obj)} {σ : L2.St} {H : Hp} {s : Shared} {a : Addr} {cls : Value} {d : Option Addr} {oe : Obj} {vs : Array Value} (I : Inv X pins σ H s) (ha : s.heap.get? a = some oe) (z : Zc cls d oe) (hd : oe.data = .fields vs) (na : H a = none) (nL : a ≠ X.env.locals)
    (n0 : X.s_0.heap.get? a = none) (np : ∀ p ∈ X.pn ++ pins, p.1 ≠ a) : Inv X pins σ (upd H a (excH a cls d)) s := by
  have ub : ∀ {b : Addr} {o : HO}, H b = some o → upd H a (excH a cls d) b = some o := fun {b o} q => (upd_ne (ne_of_none q na)).trans q
  refine ⟨I.ok, I.os, I.bare, ⟨I.base.keep, I.base.slot, fun b o e n hq => ?_, I.base.there, fun b xs e => ub (I.base.tups b xs e), fun b o u e => ub (I.base.frzs b o u e), fun b ps e => ?_⟩, I.loc, I.cell, ?_, fun x c e => ?_, fun p hp => ?_, fun b u e => ?_, I.len⟩
  · rw [upd_ne fun y => by rw [y, n0] at e; cases e]
    exact I.base.free b o e n hq
  · obtain ⟨m, q⟩ := I.base.tbls b ps e
    exact ⟨m, ub q⟩
  · rw [upd_ne (Ne.symm nL)]
    exact I.free
  · obtain ⟨v, o, ho, hc⟩ := I.cell x c e
    rw [upd_ne fun y => by
      rw [y, ha] at ho
      cases ho
      rw [hd] at hc
      cases hc]
    exact I.freeC x c e
  · obtain ⟨e, n, r⟩ := I.pin p hp
    exact ⟨e, by rw [upd_ne (np p hp)]; exact n, r⟩
  · by_cases hb : b = a
    · subst hb
      rw [upd_same] at e
      cases e
      exact ⟨⟨oe, vs, ha, z, hd⟩, ⟨oe, ha⟩, fun _ _ ⟨o, v, q, r⟩ k => ⟨o, v, k o q, r⟩⟩
    · rw [upd_ne hb] at e
      exact (I.hok b u e).stay (fun _ _ _ q => q) (fun _ q => ub q) fun _ _ q => ub q
/-- the slot of a name is empty again -/
inductive Clr (x : Str) : En → En → Prop
  | here {o : Option V} {η : En} : Clr x ((x, o) :: η) ((x, none) :: η)
  | there {e : Str × Option V} {η θ : En} : Clr x η θ → Clr x (e :: η) (e :: θ)
theorem Clr.idx {x : Str} {η θ : En} (h : Clr x η θ) : ∃ i : Nat, (names η)[i]? = some x ∧ vals θ = (vals η).set i none ∧ names θ = names η := by
  induction h with
  | here => exact ⟨0, rfl, rfl, rfl⟩
  | there _ ih =>
    obtain ⟨i, a, b, c⟩ := ih
    refine ⟨i + 1, a, ?_, ?_⟩
    · show _ :: vals _ = _ :: (vals _).set i none
      rw [b] <;> rfl
    · show _ :: names _ = _ :: names _
      rw [c] <;> rfl
/-- where an except suite stands -/
abbrev suX (X : Cx) (a : Addr) : Cx := { X with A := X.A.mark (some (.ref a)), calm := false, xe := fun _ _ => False }
/-- where the body of a try stands -/
abbrev trX (X : Cx) (pn : List (Addr × Obj)) (xe : Value → Shared → Prop) : Cx := { X with pn := pn, xe := xe }
/-- what is wanted behind the suite: n is empty -/
def suD (n : Str) (D : GD) : GD := { nx := fun θ L => ∃ θ', Clr n θ θ' ∧ D.nx θ' L, rt := D.rt, bk := fun θ L => ∃ θ', Clr n θ θ' ∧ D.bk θ' L, ct := fun θ L => ∃ θ', Clr n θ θ' ∧ D.ct θ' L }
/-- what the clause makes of an error -/
def exW (X : Cx) (c : Value) (n : Str) (suite : List Stmt) (D : GD) (Wout : XW) : XW := fun cls d θ L => ∃ b, PySem.W.exmOne X.K cls c = some b ∧ (b = true → ∀ a, ∃ θ', Put n (.ref a) θ θ' ∧ GSs (suX X a) suite (suD n D) θ' ((a, excH a cls d) :: L)) ∧ (b = false → Wout cls d θ L)
section
variable {X : Cx} {η : En} {L : Lg} {D : GD} {Wout : XW} {x n : Str} {c : Value} {body suite : List Stmt} {b₀ : Stmt} {np pos pos' : Pos}
theorem gs_try_as (hc : Names X x c) (tk : Tk X Wout) (hb : ∀ (X' : Cx) (pn : List (Addr × Obj)) (xe : Value → Shared → Prop), X' = trX X pn xe → PassesOwn (model X'.prog X'.w) X'.A X'.env X'.xe → X'.N.Nodup → Tk X' (exW X c n (b₀ :: suite) D Wout) → GSs X' body D η L)
    (hi : n ∈ X.N) (hn : X.N.Nodup := by assumption) (hs : X.stack = X.env :: X.outer := by rfl) (hf : X.env.frame = some X.env.locals := by rfl) (hln : X.env.kindOf n = some .local := by rfl) (hex : X.ex = [] := by rfl) :
    GS X (.Try body [.ExceptHandler (some (.Name x np)) (some n) (b₀ :: suite) pos'] [] [] pos) D η L := fun hN H hH pins s I => by
  obtain ⟨i, hi⟩ := List.mem_iff_getElem?.mp hi
  have ok := I.ok
  have fr0 : X.A.frames = some (X.env :: X.outer) := by rw [ok.frames, hs]
  have fix : ∀ {m : Nat} {θ : En}, X.N = names θ → (names θ)[m]? = some n → m = i := fun {m θ} e1 e2 => idxU hn (by rw [e1]; exact e2) hi
  -- behind the suite: the name goes
  have goes : ∀ {a : Addr} {σ6 : L2.St} {H6 : Hp} {s6 : Shared} {Q : Shared → Prop}, Inv (suX X a) pins σ6 H6 s6 → (∀ s7, Inv X pins (σ6.set i none) H6 s7 → Q s7) → wpAny (model X.prog X.w) X.A (do bindName X.env n .none; unbindBehindTheSuite X.env n pos') (fun _ s7 => Q s7) X.xe s6 := fun {a σ6 H6 s6 Q} S6 hq =>
    gone_ok (X := X) ⟨ok, S6.os, S6.bare, S6.base, S6.loc, S6.cell, S6.free, S6.freeC, S6.pin, S6.hok, S6.len⟩ hn hi hln hq
  have clr : ∀ {Q : En → Lg → Prop} {σ6 : L2.St} {H6 : Hp} {a : Addr}, upS (suX X a) (fun θ L => ∃ θ', Clr n θ θ' ∧ Q θ' L) σ6 H6 → upS X Q (σ6.set i none) H6 := fun {Q σ6 H6 a} ⟨θ, M, n1, es, h1, θ', ck, q⟩ => by
    obtain ⟨m, m1, m2, m3⟩ := ck.idx
    have mi := fix n1 m1
    subst mi
    exact ⟨θ', M, by rw [m3]; exact n1, by rw [m2, es], h1, q⟩
  refine wpAny_Try_except (wpAny_mono (hb (trX X (X.pn ++ pins) (fun e s₁ => wpAny (model X.prog X.w) X.A (noteFrame e X.env) (fun _ s₂ => wpAny (model X.prog X.w) X.A (setFlight e none) (fun _ s₃ =>
    wpAny (model X.prog X.w) X.A (handleBy e X.env [.ExceptHandler (some (.Name x np)) (some n) (b₀ :: suite) pos']) (SP X pins (D.ends X)) X.xe s₃) X.xe s₂) X.xe s₁)) _ _ rfl PassesOwn.looking hn (fun u s' air => ?_) hN H hH [] s (I.toTry _)) (fun fl s1 z => ?_) fun e s1 z => z)
  · obtain ⟨a, B, sI, pins', σ', H', cls, d, rfl, Jt, nb, up, sky, na, os, ag, θ, M, nθ, rfl, hM, b, hb1, yes, no⟩ := air
    have J : Inv X pins (vals θ) H' sI := Jt.ofTry ok
    have sk : Sky B (X.env :: X.outer) a (Zc cls d) X.env.locals s'.heap := by rw [← hs]; exact sky
    show wpAny (model X.prog X.w) X.A (noteFrame (Value.ref a) X.env) _ _ _
    refine Sky.land Zc.steady fr0 hf sk fun g3 F3 u3 => ?_
    have J3 : Inv X pins (vals θ) H' { s' with heap := g3 } := J.landed nb F3.1 (up.trans u3) os ag
    obtain ⟨o3, v3, he3, hz3, hd3⟩ := F3.there
    have out : a ∉ frs (X.env :: X.outer) := fun hm => by
      obtain ⟨_, o', e', hnf⟩ := F3.2.2.1.mem hm
      rw [he3] at e'
      cases e'
      exact hnf _ hd3
    have nL : a ≠ X.env.locals := fun z => out (List.mem_filterMap.mpr ⟨X.env, List.mem_cons_self, by rw [hf, z]⟩)
    have nF : a ∉ X.fs := fun hm => by
      obtain ⟨e, he, q⟩ := List.mem_filterMap.mp hm
      exact out (List.mem_filterMap.mpr ⟨e, List.mem_cons_of_mem _ he, q⟩)
    have aI : sI.heap.get? a = none := by
      cases e : sI.heap.get? a with
      | none => rfl
      | some o =>
        have z := nb a o e (by rw [hs]; exact out)
        rw [F3.2.1] at z
        cases z
    have S3 := J3.suite he3 hd3 na nL nF
    refine wpAny_handleBy_cons (codeAny_handlers_test ?_) (by intro q; cases q)
    have LT : PySem.W.Looks (model X.prog X.w) g3 (typeOf (.ref a)) cls := fun A Q E s k q => wpAny_typeOf_ref (k _ _ he3) (by rw [hz3.1]; exact q)
    have LM := PySem.W.exm_one (M := model X.prog X.w) J3.kIn LT hb1
    have asks : ∀ {Q : Value → Shared → Prop} {E : Value → Shared → Prop}, Q c { s' with heap := g3 } → wpAny (model X.prog X.w) (X.A.mark (some (.ref a))) (eval (.Name x np) X.env) Q E { s' with heap := g3 } := fun {Q E} q => by
      obtain ⟨hg, hdbg, hm | ⟨hm, hv, hnn⟩⟩ := hc
      · exact ld_glob (X := X.suite a ((a, o3) :: (X.pn ++ pins))) S3 hg hm q hdbg
      · exact ld_blt (X := X.suite a ((a, o3) :: (X.pn ++ pins))) S3 hg hm hv q hnn hdbg
    refine asks (LM.here ?_)
    cases b with
    | true =>
      refine codeAny_handlers_suite_as (HandSPX.lands_againZ F3 fun g4 F4 u4 => ?_)
      have J4 : Inv X pins (vals θ) H' { s' with heap := g4 } := J.landed nb F4.1 ((up.trans u3).trans u4) os ag
      obtain ⟨o4, v4, he4, hz4, hd4⟩ := F4.there
      have n0 : X.s_0.heap.get? a = none := by
        cases e : X.s_0.heap.get? a with
        | none => rfl
        | some o =>
          obtain ⟨o', e'⟩ := J.base.there a o e (by rw [hex]; exact fun z => nomatch z)
          rw [aI] at e'
          cases e'
      have T4 := track (cls := cls) (d := d) J4 he4 hz4 hd4 na nL n0 fun p hp z => by
        obtain ⟨e, _⟩ := J.pin p hp
        rw [z, aI] at e
        cases e
      have S4 : Inv (suX X a) pins (vals θ) (upd H' a (excH a cls d)) { s' with heap := g4 } := ⟨ok.suite a X.pn, T4.os, T4.bare, T4.base, T4.loc, T4.cell, T4.free, T4.freeC, T4.pin, T4.hok, T4.len⟩
      obtain ⟨θ', pu, run⟩ := yes rfl a
      obtain ⟨m, m1, m2, m3⟩ := pu.idx
      have mi := fix nθ m1
      subst mi
      have N4 : (suX X a).N = names θ' := by rw [m3]; exact nθ
      refine store_ok (X := suX X a) (v := .ref a) S4 hn hi (.inl hln) rfl (fun s5 S5 => ?_) (.inr hln)
      rw [← m2] at S5
      refine wpAny_mono (run N4 _ (hM.new na) pins s5 S5) (fun fl s6 z => ?_) fun _ _ z => z.elim
      cases fl with
      | next => exact z.elim fun σ6 z => z.elim fun H6 z => goes z.1 fun s7 J7 => ⟨_, H6, J7, clr z.2⟩
      | brk => exact z.elim fun σ6 z => z.elim fun H6 z => goes z.1 fun s7 J7 => ⟨_, H6, J7, clr z.2⟩
      | cont => exact z.elim fun σ6 z => z.elim fun H6 z => goes z.1 fun s7 J7 => ⟨_, H6, J7, clr z.2⟩
      | ret u => exact z.elim fun v6 z => z.elim fun σ6 z => z.elim fun H6 z => goes z.1 fun s7 J7 => ⟨v6, _, H6, J7, z.2.1, z.2.2⟩
    | false =>
      show wpAny _ X.A (handleBy (Value.ref a) X.env []) _ _ _
      refine wpAny_handleBy_nil ?_
      obtain ⟨_, _, _, oe, vs, T, oT, ts', he, hz, hd, h1, _⟩ := id F3
      unfold PySem.passOn
      refine wpAny_bind (wpAny_field he hd h1 ?_)
      rw [if_neg (show ¬ ((Value.ref T == Value.none) = true) from by simp)]
      have on : wpAny (model X.prog X.w) X.A (setFlight (.ref a) X.env.frame) (fun _ s4 => wpAny (model X.prog X.w) X.A (throw (.ref a) : Sem Flow) (SP X pins (D.ends X)) X.xe s4) X.xe { s' with heap := g3 } := by
        rw [hf]
        refine HandSPX.setFlight_upZ F3 fun g4 hh4 u4 => wpAny_throw (tk _ _ ⟨a, B, sI, pins, vals θ, H', cls, d, rfl, J, nb, (up.trans u3).trans u4, .inr (.inr (by rw [hs]; exact hh4)), na, os, ag, θ, M, nθ, rfl, hM, no rfl⟩)
      first
        | exact wpAny_bind (wpAny_pure (wpAny_bind on))
        | exact wpAny_bind on
  · cases fl with
    | next => exact z.elim fun σ' z => z.elim fun H' z => wpAny_execs_nil ⟨σ', H', z.1.ofTry ok, z.2⟩
    | brk => exact z.elim fun σ' z => z.elim fun H' z => ⟨σ', H', z.1.ofTry ok, z.2⟩
    | cont => exact z.elim fun σ' z => z.elim fun H' z => ⟨σ', H', z.1.ofTry ok, z.2⟩
    | ret u => exact z.elim fun v z => z.elim fun σ' z => z.elim fun H' z => ⟨v, σ', H', z.1.ofTry ok, z.2.1, z.2.2⟩
end
end G
set_option Elab.async false
set_option linter.all false
set_option maxRecDepth 100000
set_option maxHeartbeats 4000000
namespace G
open PySem PySem.Spec PyProof.Rows L2
/-- n turns; keep: what must stand at every turn; item: what comes at turn i, with the entries that come with it -/
structure Src where
  n : Nat
  keep : Lg → Prop
  item : Nat → V → Lg → Prop
structure SrcOk (J : It) (S : Src) : Prop where
  goes : ∀ i H M, i < S.n → Has H M → S.keep M → J.go i H
  stops : ∀ H M, Has H M → S.keep M → J.stop S.n H
  yields : ∀ i H x H' M, i < S.n → Has H M → S.keep M → J.yld i H x H' → ∃ E, S.item i x E ∧ Has H' (E ++ M)
theorem SrcOk.of {J : It} {n : Nat} {G : Hp → Prop} {Y : Nat → Hp → V → Hp → Prop} {keep : Lg → Prop} {item : Nat → V → Lg → Prop} (w : Walk J n G Y) (hg : ∀ H M, Has H M → keep M → G H)
    (hy : ∀ i H x H' M, i < n → Has H M → keep M → Y i H x H' → ∃ E, item i x E ∧ Has H' (E ++ M)) : SrcOk J ⟨n, keep, item⟩ :=
  ⟨fun i H M hi h k => w.goes i H hi (hg H M h k), fun H M h k => w.stops H (hg H M h k), fun i H x H' M hi h k y => hy i H x H' M hi h k (w.yields i H x H' hi (hg H M h k) y)⟩
def WI (X : Cx) (tg iter : Expr) : TI := fun σ H R => ∀ pins s, Inv X pins σ H s → wpAny (model X.prog X.w) X.A (eval iter X.env) (fun v s1 => wpAny (model X.prog X.w) X.A (pyIter v) (PIE X pins σ tg R) X.xe s1) X.xe s
theorem pi_W {X : Cx} {tg iter : Expr} : PI X tg iter (WI X tg iter) := ⟨fun pins s _ _ _ I h => h pins s I⟩
theorem WI.of {X : Cx} {tg iter : Expr} {wi : TI} {σ : L2.St} {H : Hp} {R : It → Hp → Prop} (h : PI X tg iter wi) (q : wi σ H R) : WI X tg iter σ H R := fun pins s I => h.run pins s σ H R I q
def GI (X : Cx) (tg iter : Expr) (η : En) (L : Lg) (Q : Src → Lg → Prop) : Prop := X.N = names η → ∀ H, Has H L → WI X tg iter (vals η) H fun J H1 => ∃ L1 S, Has H1 L1 ∧ SrcOk J S ∧ Q S L1
/-- one item of a list as it stands -/
def itemAt (xs : List V) : Nat → V → Lg → Prop := fun i x E => xs[i]? = some x ∧ E = []
def itemFn (f : Nat → V) : Nat → V → Lg → Prop := fun i x E => x = f i ∧ E = []
def itemPr (f g : Nat → Option V) : Nat → V → Lg → Prop := fun i v E => ∃ t x y, v = .ref t ∧ E = [(t, .tup [x, y])] ∧ f i = some x ∧ g i = some y
theorem y_at {xs : List V} {i : Nat} {H H' : Hp} {x : V} {M : Lg} (h : Has H M) (y : YAt xs i H x H') : ∃ E, itemAt xs i x E ∧ Has H' (E ++ M) := by
  obtain ⟨e, y⟩ := y
  subst e
  exact ⟨[], ⟨y, rfl⟩, h⟩
theorem y_fn {f : Nat → V} {i : Nat} {H H' : Hp} {x : V} {M : Lg} (h : Has H M) (y : YFn f i H x H') : ∃ E, itemFn f i x E ∧ Has H' (E ++ M) := by
  obtain ⟨e, y⟩ := y
  subst e
  exact ⟨[], ⟨y, rfl⟩, h⟩
theorem y_pr {f g : Nat → Option V} {i : Nat} {H H' : Hp} {x : V} {M : Lg} (h : Has H M) (y : YPair f g i H x H') : ∃ E, itemPr f g i x E ∧ Has H' (E ++ M) := by
  obtain ⟨T, u, v, e1, n, e2, e3, e4⟩ := y
  subst e1 e2
  exact ⟨[(T, .tup [u, v])], ⟨T, u, v, rfl, rfl, e3, e4⟩, h.new n⟩
/-- the list of xs at p stands in the ledger -/
def KeepL (p : Addr) (xs : List V) : Lg → Prop := fun M => (p, HO.lst xs) ∈ M
def KeepT (p : Addr) (xs : List V) : Lg → Prop := fun M => (p, HO.tup xs) ∈ M
section
variable {X : Cx} {η : En} {L : Lg} {Q : Src → Lg → Prop} {tg a b c e : Expr} {p pos : Pos}
theorem gi_list (h : GE X e η L fun v L1 => ∃ q xs, v = .ref q ∧ (q, HO.lst xs) ∈ L1 ∧ Q ⟨xs.length, KeepL q xs, itemAt xs⟩ L1) : GI X tg e η L Q := fun hN H hH =>
  WI.of (pi_list pe_W) (h.then hN hH fun v L1 H1 k1 ⟨q, xs, ev, m, z⟩ => ⟨q, ev, ⟨xs, sql k1 m⟩, L1, _, k1, SrcOk.of walk_list (fun H M hM k => sql hM k) (fun i H x H' M _ hM _ y => y_at hM y), z⟩)
theorem gi_str (h : GE X e η L fun v L1 => ∃ z : Str, v = .str z ∧ Q ⟨z.cps.size, fun _ => True, fun i v E => (∃ c, z.cps[i]? = some c ∧ v = .str ⟨#[c]⟩) ∧ E = []⟩ L1) : GI X tg e η L Q := fun hN H hH =>
  WI.of (pi_str pe_W) (h.then hN hH fun v L1 H1 k1 ⟨z, ev, q⟩ => ⟨z, ev, L1, _, k1, SrcOk.of walk_str (fun _ _ _ _ => True.intro) (fun i H x H' M _ hM _ y => ⟨[], ⟨y.2, rfl⟩, y.1 ▸ hM⟩), q⟩)
theorem gi_range1 (h : GA X [a] η L fun vs L1 => ∃ j : Int, vs = [.int j] ∧ (-(2 ^ 62) ≤ j ∧ j < 2 ^ 62) ∧ Q ⟨j.toNat, fun _ => True, itemFn fun i => .int (i : Int)⟩ L1) (hm : X.mg "range" = none) (hg : Gl X "range" := by rfl)
    (hs' : starEach [a] X.env = [(false, eval a X.env)] := by rfl) : GI X tg (.Call (.Name "range" p) [a] [] pos) η L Q := fun hN H hH =>
  WI.of (pi_range1 hg hm pa_W hs') (h.then hN hH fun vs L1 H1 k1 ⟨j, e1, bd, q⟩ => ⟨j, e1, bd.1, bd.2, L1, _, k1, SrcOk.of walk_range (fun _ _ _ _ => True.intro) (fun i H x H' M _ hM _ y => by
    obtain ⟨e, y⟩ := y
    subst e
    exact ⟨[], ⟨y.trans (congrArg V.int (Int.zero_add _)), rfl⟩, hM⟩), q⟩)
theorem gi_range2 (h : GA X [a, b] η L fun vs L1 => ∃ j k : Int, vs = [.int j, .int k] ∧ (-(2 ^ 62) ≤ j ∧ j < 2 ^ 62 ∧ -(2 ^ 62) ≤ k ∧ k < 2 ^ 62) ∧ Q ⟨(k - j).toNat, fun _ => True, itemFn fun i => .int (j + (i : Int))⟩ L1) (hm : X.mg "range" = none) (hg : Gl X "range" := by rfl)
    (hs' : starEach [a, b] X.env = [(false, eval a X.env), (false, eval b X.env)] := by rfl) (hs2 : starEach [b] X.env = [(false, eval b X.env)] := by rfl) : GI X tg (.Call (.Name "range" p) [a, b] [] pos) η L Q := fun hN H hH =>
  WI.of (pi_range2 hg hm pa_W hs' hs2) (h.then hN hH fun vs L1 H1 k1 ⟨j, k, e1, bd, q⟩ => ⟨j, k, e1, bd, L1, _, k1, SrcOk.of walk_range (fun _ _ _ _ => True.intro) (fun i H x H' M _ hM _ y => y_fn hM y), q⟩)
theorem gi_range3 (h : GA X [a, b, c] η L fun vs L1 => ∃ (i j k : Int) (n : Nat), vs = [.int i, .int j, .int k] ∧ RgC i j k n ∧ Q ⟨n, fun _ => True, itemFn fun t => .int (i + (t : Nat) * k)⟩ L1) (hm : X.mg "range" = none) (hg : Gl X "range" := by rfl)
    (hs' : starEach [a, b, c] X.env = (false, eval a X.env) :: starEach [b, c] X.env := by rfl) (hs2 : (backTo pos (starEach [b, c] X.env)).any (·.1) = false := by rfl) : GI X tg (.Call (.Name "range" p) [a, b, c] [] pos) η L Q := fun hN H hH =>
  WI.of (pi_range3 hg hm pa_W hs' hs2) (h.then hN hH fun vs L1 H1 k1 ⟨i, j, k, n, e1, bd, q⟩ => ⟨i, j, k, n, e1, bd, L1, _, k1, SrcOk.of walk_rangeC (fun _ _ _ _ => True.intro) (fun i H x H' M _ hM _ y => y_fn hM y), q⟩)
end
structure LoopS (X : Cx) (tg : Expr) (body : List Stmt) (D : GD) (S : Src) (η : En) (L : Lg) (Pv : Nat → En → Lg → Prop) : Prop where
  h0 : Pv 0 η L
  kp : ∀ i θ M, i ≤ S.n → (M.map (·.1)).Nodup → Pv i θ M → S.keep M
  hs : ∀ i x E θ M, i < S.n → S.item i x E → Pv i θ M → GG X tg x θ (E ++ M) fun θ' M' => GSs X body { nx := Pv (i + 1), rt := D.rt, bk := D.nx, ct := Pv (i + 1) } θ' M'
  hd : ∀ θ M, Pv S.n θ M → D.nx θ M
section
variable {X : Cx} {η : En} {L : Lg} {tg iter : Expr} {body : List Stmt} {pos : Pos} {D : GD}
theorem gs_for (h : GI X tg iter η L fun S L1 => ∃ Pv, LoopS X tg body D S η L1 Pv) (hp : PassesOwn (model X.prog X.w) X.A X.env X.xe := by first | exact PassesOwn.never | exact passes_of rfl | assumption) (hc : X.calm = true := by rfl)
    (hs : ∀ x, foldedSetIterable iter X.env x = pure x := by intro _; rfl) : GS X (.For tg iter body [] pos) D η L := fun hN H hH =>
  WS.of (ps_for hp hc pi_W pg_W pss_W hs) (by
    intro pins s I
    refine wpAny_mono (h hN H hH pins s I) (fun v s1 z => wpAny_mono z (fun itv s2 z2 => ?_) fun _ _ z => z) fun _ _ z => z
    obtain ⟨it, fp, tn, J, H1, ev, I2, T, t0, f2, L1, S, k1, ok, Pv, l⟩ := z2
    refine ⟨it, fp, tn, J, H1, ev, I2, T, t0, f2, ?_⟩
    refine ⟨fun i m σ H => m = S.n - i ∧ i ≤ S.n ∧ upS X (Pv i) σ H, ⟨S.n, by simp, Nat.zero_le _, η, L1, hN, rfl, k1, l.h0⟩, ?_⟩
    rintro i m σ H ⟨rfl, hi, θ, M, n1, es, h1, q1⟩
    have kk := l.kp i θ M hi h1.1 q1
    by_cases hlt : i < S.n
    · refine .inr ⟨ok.goes i H M hlt h1 kk, upS X (Pv (i + 1)), fun σ' H' p' => ⟨S.n - (i + 1), by omega, rfl, hlt, p'⟩, fun x H' y => ?_⟩
      obtain ⟨E, it', h2⟩ := ok.yields i H x H' M hlt h1 kk y
      rw [es]
      exact (l.hs i x E θ M hlt it' q1).then n1 h2 fun θ' M' H2 n2 h2 q2 => q2 n2 H2 h2
    · have e : i = S.n := by omega
      subst e
      exact .inl ⟨ok.stops H M h1 kk, θ, M, n1, es, h1, l.hd θ M q1⟩)
end
def GTs (X : Cx) (ifs : List Expr) (η : En) (L : Lg) (Q : Bool → Lg → Prop) : Prop := match ifs with
  | [] => Q true L
  | [c] => GT X c η L Q
  | _ => False
def WTs (X : Cx) (ifs : List Expr) : TT := match ifs with
  | [] => tYes
  | [c] => WT X c
  | _ => fun _ _ _ => False
theorem pts_W {X : Cx} {ifs : List Expr} : PTs X ifs (WTs X ifs) := by
  match ifs with
  | [] => exact pts_nil
  | [c] => exact pts_one pt_W
  | _ :: _ :: _ => exact ⟨fun _ _ _ _ _ _ h => h.elim⟩
theorem GTs.then {X : Cx} {ifs : List Expr} {η : En} {L : Lg} {Q : Bool → Lg → Prop} {Q' : Bool → Hp → Prop} (h : GTs X ifs η L Q) (hN : X.N = names η) {H : Hp} (hH : Has H L) (m : ∀ b L1 H1, Has H1 L1 → Q b L1 → Q' b H1) : WTs X ifs (vals η) H Q' := by
  match ifs, h with
  | [], h => exact m true L H hH h
  | [c], h => exact GT.then h hN hH m
/-- the block of a comprehension -/
abbrev blkX (X : Cx) (s : Shared) (H : Hp) (scope : Scope) (C : Addr) (cl : List (Str × Addr)) (fp : List Addr) : Cx := X.blk s H scope (compEnvC scope cl C X.env) fp
/-- one turn of a comprehension: the item stands in θ; B: the block's contexts -/
abbrev AllBlk (X : Cx) (scope : Scope) (φ : Cx → Prop) : Prop := ∀ (s : Shared) (H : Hp) (C : Addr) (cl : List (Str × Addr)) (fp : List Addr), φ (blkX X s H scope C cl fp)
abbrev LocB (X : Cx) (scope : Scope) (x : Str) : Prop := AllBlk X scope fun B => Loc B.env.scope x ∧ (B.fn x = true ∨ B.env.scope.names.lookup x = some .local)
theorem idxEq {N : List Str} (hn : N.Nodup) {i : Nat} {x : Str} (h : N[i]? = some x) : N.idxOf x = i := idxU hn (by
  have m := List.idxOf_lt_length_of_mem (List.mem_of_getElem? h)
  rw [List.getElem?_eq_getElem m, List.getElem_idxOf m]) h
def LcTurn (X : Cx) (scope : Scope) (ifs : List Expr) (elt : Expr) (D : Addr) (Nx : Lg → Prop) (θ : En) (M : Lg) : Prop :=
  AllBlk X scope fun B => GTs B ifs θ M fun b M1 => if b = true then AllBlk X scope fun B => GE B elt θ M1 fun y M2 => ∃ acc M3, (D, HO.lst acc) ∈ M2 ∧ acc.length < sizeLine ∧ Swap D (.lst (acc ++ [y])) M2 M3 ∧ Nx M3 else Nx M1
structure LcS (X : Cx) (scope : Scope) (ifs : List Expr) (elt : Expr) (S : Src) (D : Addr) (L : Lg) (st : V → Lg → (En → Lg → Prop) → Prop) (Pv : Nat → Lg → Prop) (Q : QV) : Prop where
  h0 : Pv 0 ((D, .lst []) :: L)
  kp : ∀ i M, i ≤ S.n → (M.map (·.1)).Nodup → Pv i M → S.keep M
  hs : ∀ i x E M, i < S.n → S.item i x E → ((E ++ M).map (·.1)).Nodup → Pv i M → st x (E ++ M) fun θ M' => LcTurn X scope ifs elt D (Pv (i + 1)) θ M'
  hd : ∀ M, Pv S.n M → Q (.ref D) M
theorem wipe_one {σ : L2.St} {i : Nat} {v : Option V} : wipe (σ.set i v) [i] = wipe σ [i] := by
  show (σ.set i v).set i none = σ.set i none
  rw [List.set_set]
def teB (X : Cx) (scope : Scope) (elt : Expr) : TE := fun σ H q => AllBlk X scope fun B => WE B elt σ H q
def ttB (X : Cx) (scope : Scope) (ifs : List Expr) : TT := fun σ H q => AllBlk X scope fun B => WTs B ifs σ H q
theorem pe_teB {X : Cx} {scope : Scope} {elt : Expr} (s : Shared) (H : Hp) (C : Addr) (cl : List (Str × Addr)) (fp : List Addr) : PE (blkX X s H scope C cl fp) elt (teB X scope elt) := ⟨fun pins s1 σ H1 Q I h => h s H C cl fp pins s1 I⟩
theorem pts_ttB {X : Cx} {scope : Scope} {ifs : List Expr} (s : Shared) (H : Hp) (C : Addr) (cl : List (Str × Addr)) (fp : List Addr) : PTs (blkX X s H scope C cl fp) ifs (ttB X scope ifs) := ⟨fun pins s1 σ H1 Q I h => pts_W.run pins s1 σ H1 Q I (h s H C cl fp)⟩
section
variable {X : Cx} {η : En} {L : Lg} {elt iter tg : Expr} {ifs : List Expr} {scope : Scope} {pos p1 p2 p3 : Pos} {x y : Str} {f : V → En} {Q : QV}
/-- what the library's comprehension asks, from ours -/
theorem lc_core' {g : TG} {vs : List Nat} {st : V → Lg → (En → Lg → Prop) → Prop} (nη : X.N = names η) {H : Hp} (hH : Has H L) {Qh : VK} (hq : ∀ D M H', Has H' M → Q (.ref D) M → Qh (.ref D) H')
    (hst : ∀ v M H' k Qk, Has H' M → st v M k → (∀ θ M' H2, X.N = names θ → Has H2 M' → k θ M' → wipe (vals θ) vs = wipe (vals η) vs → Qk (vals θ) H2) → g v (wipe (vals η) vs) H' Qk)
    (h : GI X tg iter η L fun S L1 => ∀ D, ∃ Pv, LcS X scope ifs elt S D L1 st Pv Q) : tLc (WI X tg iter) g (ttB X scope ifs) (teB X scope elt) vs (vals η) H Qh := by
  intro pins s I
  refine wpAny_mono (h nη H hH pins s I) (fun v s1 z => wpAny_mono z (fun itv s2 z2 => ?_) fun _ _ z => z) fun _ _ z => z
  obtain ⟨it, fp, tn, J, H1, ev, I2, T, t0, f2, L1, S, k1, ok, l⟩ := z2
  refine ⟨it, fp, tn, J, H1, ev, I2, T, t0, f2, fun D nD => ?_⟩
  obtain ⟨Pv, l⟩ := l D
  refine ⟨fun i m H => m = S.n - i ∧ i ≤ S.n ∧ ∃ M, Has H M ∧ Pv i M, ⟨S.n, by simp, Nat.zero_le _, _, k1.new nD, l.h0⟩, ?_⟩
  rintro t m H2 ⟨rfl, hi2, M, h3, q1⟩
  have kk := l.kp t M hi2 h3.1 q1
  by_cases hlt : t < S.n
  · refine .inr ⟨ok.goes t H2 M hlt h3 kk, fun H' => ∃ M, Has H' M ∧ Pv (t + 1) M, fun H' p' => ⟨S.n - (t + 1), by omega, rfl, hlt, p'⟩, fun v H3 y => ?_⟩
    obtain ⟨E, it', h4⟩ := ok.yields t H2 v H3 M hlt h3 kk y
    refine hst v (E ++ M) H3 _ _ h4 (l.hs t v E M hlt it' h4.1 q1) fun θ M' H5 nθ h5 q2 ew => ⟨ew, fun s' H' C cl fp => ?_⟩
    refine (q2 s' H' C cl fp).then nθ h5 fun b M1 H6 h6 q3 => ?_
    cases b with
    | true =>
      rw [if_pos rfl] at q3 ⊢
      refine fun s' H' C cl fp => (q3 s' H' C cl fp).then nθ h6 fun y M2 H7 h7 q4 => ?_
      obtain ⟨acc, M3, m2, z, sw, q5⟩ := q4
      exact ⟨acc, h7.get m2, z, M3, h7.swap sw, q5⟩
    | false =>
      rw [if_neg Bool.false_ne_true] at q3 ⊢
      exact ⟨M1, h6, q3⟩
  · have e : t = S.n := by omega
    subst e
    exact .inl ⟨ok.stops H2 M h3 kk, hq D M H2 h3 (l.hd M q1)⟩
/-- the store of the item: one name -/
theorem st_one {i : Nat} (P : PutF x η f) (hi : X.N[i]? = some x) (hN : X.N.Nodup) (nη : X.N = names η) : ∀ (v : V) (M : Lg) (H' : Hp) (k : En → Lg → Prop) (Qk : L2.St → Hp → Prop), Has H' M → k (f v) M → (∀ θ M' H2, X.N = names θ → Has H2 M' → k θ M' → wipe (vals θ) [i] = wipe (vals η) [i] → Qk (vals θ) H2) → gName i v (wipe (vals η) [i]) H' Qk := fun v M H' k Qk hM q hk => by
  obtain ⟨j, h1, h2⟩ := P.idx
  have ij : i = j := idxU hN hi (by rw [nη]; exact h1)
  subst ij
  have e1 : (wipe (vals η) [i]).set i (some v) = vals (f v) := by
    rw [(h2 v).1]
    show ((vals η).set i none).set i (some v) = _
    rw [List.set_set]
  have z := hk (f v) M H' (by rw [(h2 v).2]; exact nη) hM q (by rw [(h2 v).1]; exact wipe_one)
  show Qk ((wipe (vals η) [i]).set i (some v)) H'
  rw [e1]
  exact z
/-- [elt for x in iter if ..], as a value -/
theorem ge_lc1 (P : PutF x η f) (h : GI X (.Name x p1) iter η L fun S L1 => ∀ D, ∃ Pv, LcS X scope ifs elt S D L1 (fun v M k => k (f v) M) Pv Q) (hb : blkC X.N X.env.scope scope [(x, X.N.idxOf x)] = true) (hlx : LocB X scope x := by exact fun _ _ _ _ _ => ⟨.inl rfl, .inr rfl⟩)
    (hN : X.N.Nodup := by assumption) (hc : X.calm = true := by rfl) (hs : ∀ z, foldedSetIterable iter X.env z = pure z := by intro _; rfl) : GE X (.ListComp elt [⟨.Name x p1, iter, ifs, 0⟩] scope pos) η L Q := fun nη H hH => by
  obtain ⟨i, h1, _⟩ := P.idx
  have hi : X.N[i]? = some x := by rw [nη]; exact h1
  exact WE.of (pe_lc (own := [(x, i)]) hc hN pi_W (blkOk_by (by rw [idxEq hN hi] at hb; exact hb)) (fun s H C cl fp => pg_name (X := blkX X s H scope C cl fp) hN hi (hlx s H C cl fp).1 (hlx s H C cl fp).2) pts_ttB pe_teB hs)
    (lc_core' (Qh := up Q) nη hH (fun D M H' hM q => ⟨M, hM, q⟩) (st_one P hi hN nη) h)
theorem wipe_two {σ : L2.St} {i j : Nat} (ne : i ≠ j) {a b : Option V} : ((wipe σ [i, j]).set i a).set j b = (σ.set i a).set j b ∧ wipe ((σ.set i a).set j b) [i, j] = wipe σ [i, j] := by
  refine ⟨?_, ?_⟩
  · show ((((σ.set j none).set i none).set i a).set j b) = _
    rw [List.set_set, List.set_comm _ _ ne, List.set_set, List.set_comm _ _ (Ne.symm ne)]
  · show ((((σ.set i a).set j b).set j none).set i none) = (σ.set j none).set i none
    rw [List.set_set, List.set_comm _ _ ne, List.set_set, List.set_comm _ _ (Ne.symm ne)]
/-- the store of an item: a pair's two names -/
theorem st_two {K : PySem.W.Frag} {g : V → V → En} {i j : Nat} (P : PutF x η f) (R : ∀ v, PutF y (f v) (g v)) (hi : X.N[i]? = some x) (hj : X.N[j]? = some y) (ne : i ≠ j) (hN : X.N.Nodup) (nη : X.N = names η) :
    ∀ (v : V) (M : Lg) (H' : Hp) (k : En → Lg → Prop) (Qk : L2.St → Hp → Prop), Has H' M → (∃ p a b, v = .ref p ∧ (p, HO.tup [a, b]) ∈ M ∧ k (g a b) M) → (∀ θ M' H2, X.N = names θ → Has H2 M' → k θ M' → wipe (vals θ) [i, j] = wipe (vals η) [i, j] → Qk (vals θ) H2) →
      gTup K 2 (gCons (gName i) (gCons (gName j) gNil)) v (wipe (vals η) [i, j]) H' Qk := fun v M H' k Qk hM ⟨p, a, b, ev, m, q⟩ hk => by
  have nf : ∀ v, X.N = names (f v) := fun v => by
    obtain ⟨_, _, h2⟩ := P.idx
    rw [(h2 v).2]
    exact nη
  have e1 : vals (f a) = (vals η).set i (some a) := (P.at hN nη hi a).1
  have e2 : vals (g a b) = (vals (f a)).set j (some b) := ((R a).at hN (nf a) hj b).1
  have nθ : X.N = names (g a b) := (nf a).trans ((R a).at hN (nf a) hj b).2.symm
  have e3 : vals (g a b) = ((vals η).set i (some a)).set j (some b) := by rw [e2, e1]
  refine ⟨p, [a, b], ev, sqt hM m, rfl, a, [b], rfl, b, [], rfl, rfl, ?_⟩
  have z := hk (g a b) M H' nθ hM q (by rw [e3]; exact (wipe_two ne).2)
  rw [e3] at z
  show Qk (((wipe (vals η) [i, j]).set i (some a)).set j (some b)) H'
  rw [(wipe_two ne).1]
  exact z
theorem pg_pair {i j : Nat} {kt : Nat} {pt : Pos} (hc : X.calm = true) (hN : X.N.Nodup) (hi : X.N[i]? = some x) (hj : X.N[j]? = some y) (hlx : LocB X scope x) (hly : LocB X scope y) :
    ∀ (s : Shared) (H : Hp) (C : Addr) (cl : List (Str × Addr)) (fp : List Addr), PG (blkX X s H scope C cl fp) (.Tuple [.Name x p1, .Name y p2] kt pt) (gTup X.K 2 (gCons (gName i) (gCons (gName j) gNil))) := fun s H C cl fp =>
  pg_tup (X := blkX X s H scope C cl fp) (n := 2) hc (pgs_cons (pg_name hN hi (hlx s H C cl fp).1 (hlx s H C cl fp).2) (pgs_cons (pg_name hN hj (hly s H C cl fp).1 (hly s H C cl fp).2) pgs_nil)) rfl rfl
end
end G
set_option Elab.async false
set_option linter.all false
set_option maxRecDepth 100000
set_option maxHeartbeats 4000000
namespace G
open PySem PySem.Spec PyProof.Rows L2
open PySem.W in
/-- what an own error class says of its instances -/
structure ErV (K : Frag) (D : Addr) : Prop where
  ga : findIn K (.ref D) "__getattribute__" = some (some (.builtin "BaseException.__getattribute__"))
  gt : findIn K (.ref D) "__getattr__" = some none
  ex : subIn K (.ref D) (.type "BaseException") = some true
  hd : hasDictIn K D = true
  cl : findIn K (.ref D) "__class__" = some (some (.builtin "object.__class__"))
  sp : specialIn K (.builtin "object.__class__") "__get__" = some (some (.builtin "getset_descriptor.__get__"))
  tk : takesIn K (.builtin "object.__class__") = some true
  mo : mroIn K D (.type "object") = some true
section
open PySem.W
variable {prog : Program} {w : World} {A : Around} {E : Value → Shared → Prop} {s : Shared} {K : Frag} {x D : Addr} {ox : Obj} {od : Option Obj}
theorem ErV.find (T : ErV K D) : findObj K D od "__class__" = some (.bind (.builtin "getset_descriptor.__get__") (.builtin "object.__class__")) := by
  obtain ⟨cd, hc, _⟩ := any_some T.hd
  unfold findObj
  rw [hc, Option.bind_some, T.cl, Option.bind_some]
  simp [T.sp, T.tk]
/-- its __class__ -/
theorem ErV.cls (T : ErV K D) {Q : Option Value → Shared → Prop} (X : K.In s.heap) (I : InstAt s.heap x ox D od) (h : Q (some (.ref D)) { s with toks := s.toks + 1 }) : wpAny (model prog w) A (getAttr? (.ref x) "__class__") Q E s := by
  obtain ⟨hh, gg, dd, tt, oo⟩ := s
  have ty := I.type (M := model prog w)
  have lga := looks_findIn (M := model prog w) X T.ga
  have lgt := looks_findIn (M := model prog w) X T.gt
  have lfi := looks_find (M := model prog w) X I T.find
  have isb : Looks (model prog w) hh (isInstance (.ref x) (.type "BaseException")) true := ty.andThen (looks_subIn X T.ex)
  have no : (Value.builtin "BaseException.__getattribute__" == Value.builtin "object.__getattribute__") = false := by decide +kernel
  have no2 : (onTheHeap (Value.ref D) && Value.builtin "BaseException.__getattribute__" == Value.builtin "object.__getattribute__") = false := by
    rw [no]
    rfl
  have no3 : (false && onTheHeap (Value.builtin "BaseException.__getattribute__")) = false := rfl
  unfold getAttr? getAttrBy? getAttrBy
  refine wpAny_bind (wpAny_mkText (wpAny_bind (wpAny_attempt (wpAny_holding (wpAny_bind (ty.at (wpAny_bind (lga.at ?_))))))))
  show wpAny _ _ (if (onTheHeap (Value.ref D) && Value.builtin "BaseException.__getattribute__" == Value.builtin "object.__getattribute__") = true then _ else _) _ _ _
  rw [no2, if_neg Bool.false_ne_true]
  unfold getAttrByItsOwn hookBefore
  refine wpAny_bind ?_
  rw [if_pos (show onTheHeap (Value.ref D) = true from rfl)]
  refine lgt.at (wpAny_bind (wpAny_attempt (wpAny_holding ?_)))
  unfold callGetattribute
  rw [no3, if_neg Bool.false_ne_true]
  unfold boundAndCalled
  rw [PySem.F.excAttr_ValueError.ga.bind (.ref x)]
  refine wpAny_bind (wpAny_pure ?_)
  show wpAny _ _ (call (.builtin "BaseException.__getattribute__") [.ref x, .str "__class__" tt]) _ _ _
  refine wpAny_call (codeAny_call_builtin PySem.F.excAttr_ValueError.ga.plain PySem.F.entry_bexc_ga (@check_slot (model prog w) _ _ ⟨hh, gg, dd, tt + 1, oo⟩ "BaseException.__getattribute__" "BaseException" "__getattribute__" (.ref x) [.str "__class__" tt] [] _ (by decide +kernel) (by decide +kernel) isb (PySem.F.args_bexc_ga (.ref x) (.str "__class__" tt)) ?_))
  unfold Builtin.«object.__getattribute__»
  refine wpAny_bind (wpAny_of_eq (a := ((Value.ref x : Value), [Value.str "__class__" tt])) (by first | rfl | (simp only [slotArgs]; rfl)) (wpAny_bind (wpAny_pure (wpAny_bind (ty.at (wpAny_bind (lfi.at ?_)))))))
  show wpAny _ _ (holding [Value.builtin "object.__class__"] (call (.builtin "getset_descriptor.__get__") [.builtin "object.__class__", .ref x, .ref D]) >>= ret) _ _ _
  refine wpAny_bind (wpAny_holding (wpAny_call (class_get (s := ⟨hh, gg, dd, tt + 1, oo⟩) (ox := ox) (od := od) X I T.mo (wpAny_pure ?_))))
  show wpAny _ _ (handedOut (.ref D)) _ _ _
  rw [handedOut_of (v := .ref D) rfl]
  first
    | exact wpAny_pure (wpAny_pure h)
    | exact wpAny_pure h
    | exact wpAny_pure (wpAny_bind (wpAny_pure (wpAny_pure h)))
theorem ErV.kit (T : ErV K D) : KitX K (.ref x) (.ref D) (fun h => ∃ ox od, InstAt h x ox D od) where
  ty := fun _ _ _ ⟨_, _, I⟩ => I.type
  it := fun _ _ X _ => by
    obtain ⟨cd, hc, _⟩ := any_some T.hd
    unfold clsIn at hc
    split at hc
    · rename_i e
      exact fun A' Q' E' s' k q => by
        unfold isType loadHead
        exact wpAny_bind (wpAny_loadPart (k _ _ (X _ _ e)) (wpAny_pure q))
    · cases hc
  ne := fun h tp dd its n sl X htp => by
    obtain ⟨cd, hc, _⟩ := any_some T.hd
    refine Bool.eq_false_iff.mpr fun q => ?_
    obtain rfl : D = tp := Value.ref.inj (beq_iff_eq.mp q)
    unfold clsIn at hc
    split at hc
    · rename_i e
      cases (X _ _ e).symm.trans htp
    · cases hc
  ca := fun X ⟨_, _, I⟩ k => T.cls X I k
end
section
variable {X : Cx} {η : En} {L : Lg} {Q : QV} {a C D : Addr} {d : Option Addr} {c : V} {e : Expr} {pos : Pos} {n : Str}
/-- the error at a, in the heap -/
theorem exc_inst {P : Program} {w : World} {H : Hp} {h : Heap} (hok : HOk P w H h) (e : H a = some (excH a (.ref C) none)) : ∃ oe, PySem.W.InstAt h a oe C none := by
  obtain ⟨oe, vs, h1, h2, h3⟩ := excH_at hok e
  exact ⟨oe, h1, h2.1, by unfold PySem.W.notCls; rw [h3] <;> rfl, by rw [h2.2]; trivial⟩
theorem exc_instD {P : Program} {w : World} {H : Hp} {h : Heap} {dd : Addr} {fs : List (Str × V)} (hok : HOk P w H h) (e : H a = some (excH a (.ref C) (some dd))) (ed : H dd = some (.xd fs)) :
    ∃ (oe od : Obj) (mA : Str → Option Value), PySem.W.InstAt h a oe C (some od) ∧ (∀ name, PySem.W.lookIn name od = some (mA name)) ∧ ∀ f, RelO (fs.lookup f) (mA f) := by
  obtain ⟨oe, vs, h1, h2, h3⟩ := excH_at hok e
  obtain ⟨mA, hns, hr⟩ := (show ObjOk P w H h dd (.xd fs) from hok dd _ ed)
  obtain ⟨od, ho, hl⟩ := lookIn_ns hns
  exact ⟨oe, od, mA, ⟨h1, h2.1, by unfold PySem.W.notCls; rw [h3] <;> rfl, by rw [h2.2]; exact ho⟩, hl, hr⟩
/-- the same where it has no dict -/
theorem gc_isE0 {cv : Value} {b : Bool} (T : ErV X.K C) (m : (a, excH a (.ref C) none) ∈ L) (kc : ClsV c cv) (k : PySem.W.kitOne X.K (.ref C) cv = some b) (q : Q (.bl b) L) : GC X (.builtin "isinstance") [.ref a, c] L Q := fun pins s σ H us hH I r => by
  cases r with
  | cons rx rr =>
    cases rr with
    | cons rt rr =>
      cases rr
      obtain rfl : _ = Value.ref a := rx
      have ec := kc.eq rt
      subst ec
      obtain ⟨oe, J⟩ := exc_inst I.hok (hH.get m)
      exact PySem.W.kia_one T.kit I.kIn ⟨_, _, J⟩ k (fun z => nomatch z) fun tk => ⟨.bl b, H, I.kept (t' := tk) fun _ _ z => z, rfl, L, hH, q⟩
/-- a field of an error -/
def GAt (X : Cx) (n : Str) (x : V) (L : Lg) (Q : QV) : Prop := ∀ pins s σ H u (ex : Bool), Has H L → Inv X pins σ H s → RelV x u → wpAny (model X.prog X.w) X.A (getAttr u n ex) (EP X pins σ (up Q)) X.xe s
theorem gat_exc {dd : Addr} {fs : List (Str × V)} {v : V} (T : ErV X.K C) (hno : PySem.W.findIn X.K (.ref C) n = some none) (m : (a, excH a (.ref C) (some dd)) ∈ L) (md : (dd, HO.xd fs) ∈ L) (l : fs.lookup n = some v) (q : Q v L) : GAt X n (.ref a) L Q := fun pins s σ H u ex hH I r => by
  obtain rfl : u = Value.ref a := r
  obtain ⟨oe, od, mA, J, hl, hr⟩ := exc_instD I.hok (hH.get m) (hH.get md)
  obtain ⟨u, hu, ru⟩ := RelO.some_of (v := v) (o := mA n) (by rw [← l]; exact hr n)
  exact HandSPX.exc_get I.kIn J T.ga T.gt T.ex (PySem.W.findObj_own T.hd hno rfl (by rw [hl, hu])) (handed_of ru) ⟨v, H, I.tok _, ru, L, hH, q⟩
theorem ge_attr (h : GE X e η L fun x L1 => GAt X n x L1 Q) (hb : attributeBase e n X.env (eval e X.env) = eval e X.env := by rfl) : GE X (.Attribute e n pos) η L Q := fun hN H hH pins s I =>
  attr_of hb (thn (h hN H hH pins s I) fun u s1 ⟨x, H1, I1, r1, L1, k1, q1⟩ => q1 pins s1 _ H1 u _ k1 I1 r1)
end
end G
set_option Elab.async false
set_option linter.all false
set_option maxRecDepth 100000
set_option maxHeartbeats 4000000
namespace G
open PySem PySem.Spec PyProof.Rows L2
/-- v is the value d, as repr reads it -/
def Rd (L : Lg) (v : V) (d : PyData) : Prop := ∀ (X : Cx) (pins : List (Addr × Obj)) (σ : L2.St) (H : Hp) (s : Shared) (u : Value), Has H L → Inv X pins σ H s → RelV v u → ∃ as, Reads s.heap u d as ∧ (d.hasDict = true → sysModules ∉ as)
section
variable {L : Lg} {v : V} {d : PyData} {p : Addr} {x : Str} {i : Int}
theorem rd_dl (h : Dl L v d) (n : d.hasDict = false) : Rd L v d := fun X pins σ H s u hH I r => by
  obtain ⟨as, q⟩ := Dp.reads I d v u (h X.K H hH) r
  exact ⟨as, q, PyData.noDict_hsm n⟩
end
section
variable {X : Cx} {L : Lg} {Q : QV} {v : V} {d : PyData} {k : Nat}
theorem gc_repr (hr : RoomG k X.A) (r : Rd L v d) (s : d.showable = true) (dp : d.depth ≤ 60) (sz : d.shown.length ≤ sizeLine) (q : Q (.str d.shown) L) : GC X (.builtin "repr") [v] L Q := fun pins s' σ H us hH I rv => by
  cases rv with
  | cons ru rr =>
    cases rr
    obtain ⟨as, rd, ns⟩ := r X pins σ H s' _ hH I ru
    have fin : ∀ tk, EP X pins σ (up Q) (.str d.shown tk) { s' with toks := s'.toks + 1 } := fun tk => ⟨.str d.shown, H, I.tok _, ⟨tk, rfl⟩, L, hH, q⟩
    have hu : X.A.units + (d.depth + 1) < cLine := by
      have := hr.toRoom.un
      omega
    cases rd with
    | none =>
      rw [PyData.shown] at fin
      exact P.repr_of_none (fin _)
    | bool b =>
      rw [PyData.shown] at fin
      exact P.repr_of_bool (fin _)
    | int i t =>
      rw [PyData.shown] at fin
      rw [PyData.showable] at s
      exact P.repr_of_int (of_decide_eq_true s) (fin _)
    | str x t =>
      rw [PyData.shown] at fin sz
      exact P.repr_of_str (fin _) sz
    | list h1 h2 h3 h4 => exact repr_of_reads' (.list h1 h2 h3 h4) s ns hr.gd hu (fun _ _ e => e) (fun h' u tk kp => ⟨.str _, H, I.kept (t' := tk) kp, ⟨u, rfl⟩, L, hH, q⟩) sz
    | tuple h1 h2 h3 h4 => exact repr_of_reads' (.tuple h1 h2 h3 h4) s ns hr.gd hu (fun _ _ e => e) (fun h' u tk kp => ⟨.str _, H, I.kept (t' := tk) kp, ⟨u, rfl⟩, L, hH, q⟩) sz
    | dict h1 h2 h3 h4 h5 => exact repr_of_reads' (.dict h1 h2 h3 h4 h5) s ns hr.gd hu (fun _ _ e => e) (fun h' u tk kp => ⟨.str _, H, I.kept (t' := tk) kp, ⟨u, rfl⟩, L, hH, q⟩) sz
end
end G
set_option Elab.async false
set_option linter.all false
set_option maxRecDepth 100000
set_option maxHeartbeats 4000000
namespace G
open PySem PySem.Spec PyProof.Rows L2
end G
set_option Elab.async false
set_option linter.all false
set_option maxRecDepth 100000
set_option maxHeartbeats 4000000
namespace G
open PySem PySem.Spec PyProof.Rows L2 NdefX
def clsBody : Stmt → List Stmt
  | .ClassDef _ _ _ b _ _ _ _ _ _ _ => b
  | _ => []
def clsAt (c : Stmt) (j : Nat) : Stmt := (clsBody c).getD j (.Pass ⟨0, 0, 0, 0⟩)
/-- an own error class, as its user wants it -/
structure ErrT (P : Program) (w : World) (K : PySem.W.Frag) (mg : Str → Option Value) (base : Heap) (x : Str) (C : Addr) (ns : List Str) : Prop where
  gC : mg x = some (.ref C)
  ck : ErrC P w K mg base x C ns
  ev : ErV K C
  no : ∀ n ∈ ns, PySem.W.findIn K (.ref C) n = some none
section
variable {P : Program} {w : World} {K : PySem.W.Frag} {mg : Str → Option Value} {base : Heap} {x q : Str} {st : Stmt} {C fI c cc : Addr} {n m : Str}
variable {nm qn : Str} {N : Addr} {bs bm : List Value} {sn : List Str} {sub : List Value} {ab : Bool} {col : Option Bool} {dd : Option Addr} {k0 k1 k2 k3 k5 : Option Value} {oc kV doc pm ct cl ccl : Value} {od an cld cdd : Option Addr} {osl csl ccs : Array (Option Value)} {vs : Array Value} {fl : Str} {tf : Tok} {cd : ClassData}
/-- what the written part says of an own error class with its own __init__ over ValueError's -/
structure ErrFacts (P : Program) (K : PySem.W.Frag) (x q : Str) (st : Stmt) (C fI c cc : Addr) (nm qn : Str) (N : Addr) (bs bm : List Value) (sn : List Str) (sub : List Value) (ab : Bool) (col : Option Bool) (dd : Option Addr) (k0 k1 k2 k3 k5 : Option Value) (oc kV doc pm ct cl ccl : Value) (od an cld cdd : Option Addr) (osl csl ccs : Array (Option Value)) (vs : Array Value) (fl : Str) (tf : Tok) (cd : ClassData) : Prop where
  a1 : PySem.W.nsIn K mainGlobals x = some (some (.ref C))
  a2 : K.lookup C = some (excClassObj nm qn C N bs bm true sn sub ab col dd k0 k1 k2 k3 k5 "ValueError.__new__")
  a3 : PySem.HandSPX.refsVE bm = true
  a4 : PySem.W.findIn K (.ref C) "__setattr__" = some (some (.builtin "object.__setattr__"))
  a5 : PySem.W.subIn K (.ref C) (.type "BaseException") = some true
  a6 : PySem.W.typeIn K (.ref C) = some (.type "type")
  a7 : PySem.W.keepIn K (.ref C) = true
  a8 : PySem.W.findIn K (.ref C) "__init__" = some (some (.ref fI))
  a9 : PySem.W.typeIn K (.ref fI) = some (.type "function")
  b1 : PySem.W.ks_superIn K C C "__init__" = some (some (.builtin "ValueError.__init__"))
  b2 : PySem.W.mroIn K C (.ref C) = some true
  b3 : PySem.W.subIn K (.ref C) (.type "ValueError") = some true
  b4 : K.lookup fI = some ⟨oc, od, .func (PySem.W.fnX "__init__" q (defArgs st) (defBody st) (defScope st) [("__class__", cc)] .none kV doc pm an (.ref c) ct), osl⟩
  b5 : PySem.W.codeIn K (.ref c) q = true
  b6 : K.lookup cc = some ⟨cl, cld, .cell (some (.ref C)), csl⟩
  b7 : K.lookup c = some ⟨ccl, cdd, .fields vs, ccs⟩
  b8 : vs[2]? = some (.str fl tf)
  b9 : (P.main.file == fl) = true
  c1 : PySem.W.clsIn K C = some cd
  c2 : PySem.W.findIn K (.ref C) "__getattribute__" = some (some (.builtin "BaseException.__getattribute__"))
  c3 : PySem.W.findIn K (.ref C) "__getattr__" = some none
  c4 : PySem.W.hasDictIn K C = true
  c5 : PySem.W.findIn K (.ref C) "__class__" = some (some (.builtin "object.__class__"))
  c6 : PySem.W.mroIn K C (.type "object") = some true
section
variable (F : ErrFacts P K x q st C fI c cc nm qn N bs bm sn sub ab col dd k0 k1 k2 k3 k5 oc kV doc pm ct cl ccl od an cld cdd osl csl ccs vs fl tf cd)
include F
theorem ErrFacts.sup (top : (P.main.scope.names.lookup ("super" : Str)).isSome = false) : SupF P K "__init__" q st fI c cc C (PySem.W.fnX "__init__" q (defArgs st) (defBody st) (defScope st) [("__class__", cc)] .none kV doc pm an (.ref c) ct) :=
  ⟨⟨oc, od, kV, doc, pm, ct, an, osl, rfl, F.b4⟩, F.b5, ⟨cl, cld, csl, F.b6⟩, ⟨ccl, cdd, vs, ccs, fl, tf, F.b7, F.b8, F.b9⟩, ⟨cd, F.c1⟩, top⟩
theorem ErrFacts.errK {ns : List Str} {h : Heap} (X : K.In h) (G : h.Ns mainGlobals mg) (op : PySem.W.nsIn K cStatics "thirdparty.any" = some none) (su : mg "super" = none) (no : ∀ n ∈ ns, PySem.W.findIn K (.ref C) n = some none) : ErrK K mg x C fI ns :=
  ⟨PySem.W.mg_of X G F.a1, ⟨⟨_, _, _, _, _, _, _, _, _, _, _, _, _, _, _, F.a2, F.a3⟩, F.a4, F.a5, F.a6, F.a7⟩, F.a8, F.a9, no, F.b1, F.b2, F.b3, op, su⟩
theorem ErrFacts.errV (sp : PySem.W.specialIn K (.builtin "object.__class__") "__get__" = some (some (.builtin "getset_descriptor.__get__"))) (tk : PySem.W.takesIn K (.builtin "object.__class__") = some true) : ErV K C := ⟨F.c2, F.c3, F.a5, F.c4, F.c5, sp, tk, F.c6⟩
end
/-- the top's own words, needed for every error class -/
structure ErrAll (P : Program) (K : PySem.W.Frag) (mg : Str → Option Value) : Prop where
  top : (P.main.scope.names.lookup ("super" : Str)).isSome = false
  op : PySem.W.nsIn K cStatics "thirdparty.any" = some none
  su : mg "super" = none
  sp : PySem.W.specialIn K (.builtin "object.__class__") "__get__" = some (some (.builtin "getset_descriptor.__get__"))
  tk : PySem.W.takesIn K (.builtin "object.__class__") = some true
section
variable {p0 p1 p2 p3 p4 p5 p6 q0 q1 q2 q3 r0 r1 r2 r3 : Pos} {pa0 : Arg}
/-- a class of one field: def __init__(self, n): super().__init__(n); self.n = n -/
theorem err_mk1 {h : Heap} (n : Str) (X : K.In h) (G : h.Ns mainGlobals mg) (A : ErrAll P K mg) (F : ErrFacts P K x q st C fI c cc nm qn N bs bm sn sub ab col dd k0 k1 k2 k3 k5 oc kV doc pm ct cl ccl od an cld cdd osl csl ccs vs fl tf cd) (no : PySem.W.findIn K (.ref C) n = some none)
    (S : NScope ["self", n, "__class__"] ["self", n] ["__class__"] (defScope st))
    (eb : defBody st = [.Expr (.Call (.Attribute (.Call (.Name "super" p0) [] [] p1) "__init__" p2) [.Name n p3] [] p4) p5, .Assign [.Attribute (.Name "self" q0) n q1] (.Name n q2) q3])
    (hp : ((defArgs st).posonlyargs ++ (defArgs st).args).head? = some pa0) (h0 : pa0.arg = "self") (hks : (defScope st).names.lookup ("super" : Str) = some .globalImplicit)
    (hint : ∀ L, interactive (envF (nfS "__init__" q st cc c) fI L) = false)
    (hsw1 : ∀ L, swapsWith (.Call (.Attribute (.Call (.Name "super" p0) [] [] p1) "__init__" p2) [.Name n p3] [] p4) none p5.line (envF (nfS "__init__" q st cc c) fI L) = pure false)
    (hev : ∀ L, ∃ pl : Sem Bool, eval (.Call (.Attribute (.Call (.Name "super" p0) [] [] p1) "__init__" p2) [.Name n p3] [] p4) (envF (nfS "__init__" q st cc c) fI L) = (do
      let ov ← attributeBase (.Call (.Name "super" p0) [] [] p1) "__init__" (envF (nfS "__init__" q st cc c) fI L) (eval (.Call (.Name "super" p0) [] [] p1) (envF (nfS "__init__" q st cc c) fI L))
      standAt p2.atName
      let (ff, first) ← holding [ov] (getMethod ov "__init__" pl)
      callWith p4 ff first (backTo p4 (starEach [.Name n p3] (envF (nfS "__init__" q st cc c) fI L))) []))
    (hsw2 : ∀ L, swapsWith (.Name n q2) (some (.Attribute (.Name "self" q0) n q1)) q3.line (envF (nfS "__init__" q st cc c) fI L) = pure false) (hdb : (n == ("__debug__" : Str)) = false) (hcd : (n == ("__classdict__" : Str)) = false)
    (hb : ∀ us : List Value, us.length = 2 → bindArgs (PySem.W.fnX "__init__" q (defArgs st) (defBody st) (defScope st) [("__class__", cc)] .none kV doc pm an (.ref c) ct) ⟨us, []⟩ = pure ((["self", n] : List Str).zip us)) : ErrT P w K mg base x C [n] := by
  have N1 : ∀ m ∈ [n], PySem.W.findIn K (.ref C) m = some none := fun m hm => by
    rw [List.mem_singleton.mp hm]
    exact no
  have EK := F.errK (ns := [n]) X G A.op A.su N1
  exact ⟨EK.gC, ⟨fI, _, EK, err1_ok (F.sup A.top) EK S eb hp h0 hks hint hsw1 hev hsw2 hdb hcd, .all fun us hl => hb us hl⟩, F.errV A.sp A.tk, N1⟩
/-- a class of two fields -/
theorem err_mk2 {h : Heap} (n m : Str) (X : K.In h) (G : h.Ns mainGlobals mg) (A : ErrAll P K mg) (F : ErrFacts P K x q st C fI c cc nm qn N bs bm sn sub ab col dd k0 k1 k2 k3 k5 oc kV doc pm ct cl ccl od an cld cdd osl csl ccs vs fl tf cd) (no : PySem.W.findIn K (.ref C) n = some none) (no2 : PySem.W.findIn K (.ref C) m = some none)
    (S : NScope ["self", n, m, "__class__"] ["self", n, m] ["__class__"] (defScope st))
    (eb : defBody st = [.Expr (.Call (.Attribute (.Call (.Name "super" p0) [] [] p1) "__init__" p2) [.Name n p3, .Name m p6] [] p4) p5, .Assign [.Attribute (.Name "self" q0) n q1] (.Name n q2) q3, .Assign [.Attribute (.Name "self" r0) m r1] (.Name m r2) r3])
    (hp : ((defArgs st).posonlyargs ++ (defArgs st).args).head? = some pa0) (h0 : pa0.arg = "self") (hks : (defScope st).names.lookup ("super" : Str) = some .globalImplicit)
    (hint : ∀ L, interactive (envF (nfS "__init__" q st cc c) fI L) = false)
    (hsw1 : ∀ L, swapsWith (.Call (.Attribute (.Call (.Name "super" p0) [] [] p1) "__init__" p2) [.Name n p3, .Name m p6] [] p4) none p5.line (envF (nfS "__init__" q st cc c) fI L) = pure false)
    (hev : ∀ L, ∃ pl : Sem Bool, eval (.Call (.Attribute (.Call (.Name "super" p0) [] [] p1) "__init__" p2) [.Name n p3, .Name m p6] [] p4) (envF (nfS "__init__" q st cc c) fI L) = (do
      let ov ← attributeBase (.Call (.Name "super" p0) [] [] p1) "__init__" (envF (nfS "__init__" q st cc c) fI L) (eval (.Call (.Name "super" p0) [] [] p1) (envF (nfS "__init__" q st cc c) fI L))
      standAt p2.atName
      let (ff, first) ← holding [ov] (getMethod ov "__init__" pl)
      callWith p4 ff first (backTo p4 (starEach [.Name n p3, .Name m p6] (envF (nfS "__init__" q st cc c) fI L))) []))
    (hsw2 : ∀ L, swapsWith (.Name n q2) (some (.Attribute (.Name "self" q0) n q1)) q3.line (envF (nfS "__init__" q st cc c) fI L) = pure false) (hsw3 : ∀ L, swapsWith (.Name m r2) (some (.Attribute (.Name "self" r0) m r1)) r3.line (envF (nfS "__init__" q st cc c) fI L) = pure false)
    (hdb : (n == ("__debug__" : Str)) = false) (hcd : (n == ("__classdict__" : Str)) = false) (mdb : (m == ("__debug__" : Str)) = false) (mcd : (m == ("__classdict__" : Str)) = false)
    (hb : ∀ us : List Value, us.length = 3 → bindArgs (PySem.W.fnX "__init__" q (defArgs st) (defBody st) (defScope st) [("__class__", cc)] .none kV doc pm an (.ref c) ct) ⟨us, []⟩ = pure ((["self", n, m] : List Str).zip us)) : ErrT P w K mg base x C [n, m] := by
  have N1 : ∀ y ∈ [n, m], PySem.W.findIn K (.ref C) y = some none := fun y hy => by
    rcases List.mem_cons.mp hy with rfl | hy
    · exact no
    · rw [List.mem_singleton.mp hy]
      exact no2
  have EK := F.errK (ns := [n, m]) X G A.op A.su N1
  exact ⟨EK.gC, ⟨fI, _, EK, err2_ok (F.sup A.top) EK S eb hp h0 hks hint hsw1 hev hsw2 hsw3 hdb hcd mdb mcd, .all fun us hl => hb us hl⟩, F.errV A.sp A.tk, N1⟩
end
end
section
variable {X : Cx} {η : En} {L : Lg} {Q : QV} {El : XL} {CX : CXT} {x : Str} {j k : Nat} {sp : SpL} {e : Expr} {es : List Expr} {kws : List Keyword} {pos p : Pos} {W : XW}
/-- the values of keywords, one behind another -/
def GK (X : Cx) (kws : List Keyword) (η : En) (L : Lg) (Q : List V → Lg → Prop) : Prop := match kws with
  | [] => Q [] L
  | k :: r => GE X k.value η L fun v L1 => GK X r η L1 fun vs L2 => Q (v :: vs) L2
theorem gk_nil {Q : List V → Lg → Prop} (q : Q [] L) : GK X [] η L Q := q
theorem gk_cons {k : Keyword} {Q : List V → Lg → Prop} (h : GE X k.value η L fun v L1 => GK X kws η L1 fun vs L2 => Q (v :: vs) L2) : GK X (k :: kws) η L Q := h
theorem GK.run {Q : List V → Lg → Prop} : ∀ {kws : List Keyword} {L : Lg} {Q : List V → Lg → Prop}, GK X kws η L Q → X.N = names η → ∀ (pos : Pos) (pins : List (Addr × Obj)) (s : Shared) (H : Hp), Has H L → Inv X pins (vals η) H s →
    wpAny (model X.prog X.w) X.A (evalAll ((backToKw pos (keywordEach kws X.env)).map (·.2))) (fun us s' => ∃ vs H', Inv X pins (vals η) H' s' ∧ Vals vs us ∧ ∃ L', Has H' L' ∧ Q vs L') X.xe s
  | [], L, Q, h, hN, pos, pins, s, H, hH, I => wpAny_evalAll_nil ⟨[], H, I, .nil, L, hH, h⟩
  | ⟨nm, e, kp⟩ :: r, L, Q, h, hN, pos, pins, s, H, hH, I => by
    show wpAny _ _ (evalAll ((do let v ← eval e X.env; standAt pos; pure v) :: (backToKw pos (keywordEach r X.env)).map (·.2))) _ _ s
    refine wpAny_evalAll_cons (wpAny_bind (thn (h hN H hH pins s I) fun u s1 ⟨x, H1, I1, r1, L1, h1, q1⟩ => wpAny_bind (wpAny_standAt (wpAny_pure ?_))))
    exact thn (GK.run (Q := Q) q1 hN pos pins s1 H1 h1 I1) fun us s2 ⟨xs, H2, I2, r2, L2, h2, q2⟩ => ⟨x :: xs, H2, I2, .cons r1 r2, L2, h2, q2⟩
/-- what is at f, called with values that keep φ -/
def GF (X : Cx) (η : En) (f : Addr) (args : List Value → Args) (φ : List V → Lg → Prop) (Q : QV) : Prop :=
  ∀ (pins : List (Addr × Obj)) (s : Shared) (H : Hp) (us : List Value) (vs : List V) (L : Lg), Has H L → Inv X pins (vals η) H s → Vals vs us → φ vs L → wpAny (model X.prog X.w) X.A (call (.ref f) (args us).pos (args us).kw) (EP X pins (vals η) (up Q)) X.xe s
/-- a def by its name, as a value -/
theorem gv_def {f : Addr} (hm : X.mg x = some (.ref f)) (q : Q (.ref f) L) (hg : Gl X x := by rfl) (hd : (x == ("__debug__" : Str)) = false := by decide) : GE X (.Name x pos) η L Q := ge_con (pe_glob (v := .ref f) hg hm rfl hd) q
end
section
variable {X : Cx} {η : En} {L : Lg} {Q : QV} {pos : Pos}
theorem gv_ValueError (B : Bi X.mg) (q : Q (.ty "ValueError") L) (hg : Gl X "ValueError" := by rfl) : GE X (.Name "ValueError" pos) η L Q := ge_tyName B.ValueError bt_ValueError q hg (by decide) (by decide)
theorem gv_LookupError (B : Bi X.mg) (q : Q (.ty "LookupError") L) (hg : Gl X "LookupError" := by rfl) : GE X (.Name "LookupError" pos) η L Q := ge_tyName B.LookupError bt_LookupError q hg (by decide) (by decide)
/-- {} -/
theorem ge_dict0 (h : ∀ p, Q (.ref p) ((p, .dK []) :: L)) : GE X (.Dict [] [] pos) η L Q := fun _ H hH => WE.of pe_dnewK fun p hp => ⟨_, hH.new hp, h p⟩
theorem gb_repr {e : Expr} {p : Pos} {k : Nat} (B : Bi X.mg) (hr : RoomG k X.A) (h : GE X e η L fun v L1 => ∃ d, Rd L1 v d ∧ d.showable = true ∧ d.depth ≤ 60 ∧ d.shown.length ≤ sizeLine ∧ Q (.str d.shown) L1) (hg : Gl X "repr" := by rfl) (hs : starEach [e] X.env = (false, eval e X.env) :: starEach [] X.env := by rfl) :
    GE X (.Call (.Name "repr" p) [e] [] pos) η L Q :=
  ge_B B.repr (by decide +kernel) (ga_cons (h.imp fun v L1 ⟨d, r, s, dp, z, q⟩ => ga_nil (gc_repr hr r s dp z q)) hs) hg (by decide) (by decide) hs rfl
end
end G
set_option Elab.async false
set_option linter.all false
set_option maxRecDepth 100000
set_option maxHeartbeats 4000000
namespace G
open PySem PySem.Spec PyProof.Rows L2
section
variable {X : Cx} {η : En} {L : Lg} {Q : QV} {p q : Addr} {xs ys : List V} {i k : Int}
theorem go_cat (m1 : (p, HO.lst xs) ∈ L) (m2 : (q, HO.lst ys) ∈ L) (z : xs.length + ys.length ≤ sizeLine) (h : ∀ r, Q (.ref r) ((r, .lst (xs ++ ys)) :: L)) : GOp X (binaryOp .Add) (.ref p) (.ref q) L Q := GOp.of op_cat fun H hH => ⟨p, q, xs, ys, rfl, rfl, hH.get m1, hH.get m2, z, fun r hr => ⟨_, hH.new hr, h r⟩⟩
end
/-- a datum that repr shows, within n signs and k levels -/
structure Sh (d : PyData) (n k : Nat) : Prop where
  s : d.showable = true
  dp : d.depth ≤ k
  l : d.shown.length ≤ n
theorem log_lt {i : Int} (h : i.natAbs < 2 ^ 1920) : i.natAbs.log2 < 1920 := by
  by_cases z : i.natAbs = 0
  · rw [z]
    decide
  · exact (Nat.log2_lt z).mpr h
theorem sh_int {i : Int} (h : i.natAbs < 2 ^ 1920) : Sh (.int i) 1921 0 := ⟨by rw [PyData.showable]; exact decide_eq_true (log_lt h), by rw [PyData.depth]; exact Nat.le_refl _, by rw [PyData.shown]; exact int_text_len_1921 (log_lt h)⟩
theorem showAll_of {n k : Nat} : ∀ {xs : List PyData}, (∀ x ∈ xs, Sh x n k) → PyData.showableAll xs = true
  | [], _ => by rw [PyData.showableAll]
  | x :: xs, h => by
    rw [PyData.showableAll, (h x (List.mem_cons_self ..)).s, Bool.true_and]
    exact showAll_of fun y hy => h y (List.mem_cons_of_mem _ hy)
theorem depthAll_of {n k : Nat} : ∀ {xs : List PyData}, (∀ x ∈ xs, Sh x n k) → PyData.depthAll xs ≤ k
  | [], _ => by simp [PyData.depthAll]
  | x :: xs, h => by
    have a := (h x (List.mem_cons_self ..)).dp
    have b := depthAll_of (xs := xs) fun y hy => h y (List.mem_cons_of_mem _ hy)
    simp only [PyData.depthAll]
    omega
theorem lenAll_of {n k : Nat} : ∀ {xs : List PyData}, (∀ x ∈ xs, Sh x n k) → ((PyData.shownAll xs).map (·.length)).sum ≤ n * xs.length ∧ (PyData.shownAll xs).length = xs.length
  | [], _ => by simp [PyData.shownAll]
  | x :: xs, h => by
    have a := (h x (List.mem_cons_self ..)).l
    have b := lenAll_of (xs := xs) fun y hy => h y (List.mem_cons_of_mem _ hy)
    rw [PyData.shownAll]
    simp only [List.map_cons, List.sum_cons, List.length_cons, Nat.mul_succ]
    omega
section
variable {X : Cx} {η : En} {L : Lg} {Q : QV} {e : Expr} {p pos : Pos} {k n m : Nat}
/-- repr(e), by the datum's measure -/
theorem gb_reprS (B : Bi X.mg) (hr : RoomG k X.A) (h : GE X e η L fun v L1 => ∃ d n m, Rd L1 v d ∧ Sh d n m ∧ m ≤ 60 ∧ n ≤ sizeLine ∧ Q (.str d.shown) L1) (hg : Gl X "repr" := by rfl) (hs : starEach [e] X.env = (false, eval e X.env) :: starEach [] X.env := by rfl) :
    GE X (.Call (.Name "repr" p) [e] [] pos) η L Q := gb_repr B hr (h.imp fun v L1 ⟨d, n, m, r, s, a, b, q⟩ => ⟨d, r, s.s, Nat.le_trans s.dp a, Nat.le_trans s.l b, q⟩) hg hs
theorem szL (h : n ≤ 16777216) : n ≤ sizeLine := by
  rw [sizeLine_eq]
  exact h
end
theorem range_more {p : Nat → Bool} {g : Nat → V} {i : Nat} : ((List.range (i + 1)).filter p).map g = ((List.range i).filter p).map g ++ (if p i = true then [g i] else []) := by
  rw [List.range_succ, List.filter_append, List.map_append]
  congr 1
  by_cases h : p i = true
  · rw [if_pos h, List.filter_cons_of_pos h]
    rfl
  · rw [if_neg h, List.filter_cons_of_neg h]
    rfl
theorem GTs.sub {X : Cx} {ifs : List Expr} {η : En} {L M : Lg} {Q : Bool → Lg → Prop} (s : Sub M L) (h : GTs X ifs η M fun b M1 => ∀ M2, Sub M1 M2 → Q b M2) : GTs X ifs η L Q := by
  match ifs, h with
  | [], h => exact h _ s
  | [c], h => exact GT.sub s (h.imp fun b M1 q => q _ .refl)
section
variable {X : Cx} {η : En} {L : Lg} {elt iter tg : Expr} {ifs : List Expr} {scope : Scope} {pos p1 p2 p3 : Pos} {x y : Str} {f : V → En} {Q : QV}
/-- what such a comprehension is shown of; st: how an item is stored -/
structure PureC (X : Cx) (scope : Scope) (ifs : List Expr) (elt : Expr) (S : Src) (L : Lg) (st : V → Lg → (En → Lg → Prop) → Prop) (p : Nat → Bool) (g : Nat → V) : Prop where
  n : S.n ≤ 1000000
  kp : ∀ M, (∀ e ∈ L, e ∈ M) → S.keep M
  tn : ∀ i x E D acc M, i < S.n → S.item i x E → ((E ++ M).map (·.1)).Nodup → Sub ((D, .lst acc) :: L) M → st x (E ++ M) fun θ M' => AllBlk X scope fun B => GTs B ifs θ M' fun b M1 => b = p i ∧ Sub ((D, .lst acc) :: L) M1 ∧ (b = true → AllBlk X scope fun B => GE B elt θ M1 fun z M2 => z = g i ∧ Sub ((D, .lst acc) :: L) M2)
theorem GE.undrp {e : Expr} (h : GE X e η L (drp Q)) : GE X e η L Q := fun hN H hH => (h hN H hH).mono fun v H' ⟨M, hM, N, s, q⟩ => ⟨N, s H' hM, q⟩
theorem filter_le {p : Nat → Bool} {g : Nat → V} {i : Nat} : (((List.range i).filter p).map g).length ≤ i := by
  rw [List.length_map]
  exact Nat.le_trans (List.length_filter_le _ _) (by rw [List.length_range]; exact Nat.le_refl _)
theorem PureC.lc {S : Src} {st : V → Lg → (En → Lg → Prop) → Prop} {p : Nat → Bool} {g : Nat → V} (h : PureC X scope ifs elt S L st p g) (mono : ∀ v M (k k' : En → Lg → Prop), (∀ θ M', k θ M' → k' θ M') → st v M k → st v M k') (D : Addr)
    (q : Q (.ref D) ((D, .lst (((List.range S.n).filter p).map g)) :: L)) : ∃ Pv, LcS X scope ifs elt S D L st Pv (drp Q) := by
  refine ⟨fun i M => Sub ((D, .lst (((List.range i).filter p).map g)) :: L) M, Sub.refl, fun i M _ nd s => h.kp M fun e m => (s.to nd).2 e (List.mem_cons_of_mem _ m), fun i x E M hi it nd s => ?_, fun M s => ⟨_, s, q⟩⟩
  refine mono x (E ++ M) _ _ (fun θ M' k => ?_) (h.tn i x E D _ M hi it nd s)
  intro s1 H1 C1 cl1 fp1
  have k1 := k s1 H1 C1 cl1 fp1
  have more := range_more (p := p) (g := g) (i := i)
  have key : ∀ b M1, (b = p i ∧ Sub ((D, .lst (((List.range i).filter p).map g)) :: L) M1 ∧ (b = true → AllBlk X scope fun B => GE B elt θ M1 fun z M2 => z = g i ∧ Sub ((D, .lst (((List.range i).filter p).map g)) :: L) M2)) →
      if b = true then AllBlk X scope fun B => GE B elt θ M1 fun y M2 => ∃ acc M3, (D, HO.lst acc) ∈ M2 ∧ acc.length < sizeLine ∧ Swap D (.lst (acc ++ [y])) M2 M3 ∧ Sub ((D, .lst (((List.range (i + 1)).filter p).map g)) :: L) M3 else Sub ((D, .lst (((List.range (i + 1)).filter p).map g)) :: L) M1 := fun b M1 ⟨eb, sb, hb⟩ => by
    cases b with
    | true =>
      rw [if_pos rfl]
      intro s2 H2 C2 cl2 fp2
      refine GE.nd ((hb rfl s2 H2 C2 cl2 fp2).imp fun y M2 ⟨ey, s3⟩ nd => ?_)
      have m2 := (s3.to nd).2 _ List.mem_cons_self
      obtain ⟨M3, sw⟩ := Swap.ex (o := .lst (((List.range i).filter p).map g ++ [y])) (u := .lst (((List.range i).filter p).map g)) rfl m2
      refine ⟨_, M3, m2, ?_, sw, ?_⟩
      · have := filter_le (p := p) (g := g) (i := i)
        have := h.n
        rw [sizeLine_eq]
        omega
      · rw [more, if_pos eb.symm, ← ey]
        exact s3.swap sw
    | false =>
      rw [if_neg Bool.false_ne_true, more, if_neg (by rw [← eb]; exact Bool.false_ne_true), List.append_nil]
      exact sb
  match ifs, k1 with
  | [], k1 => exact key _ _ k1
  | [c], k1 => exact k1.imp fun b M1 z => key b M1 z
theorem GI.imp {Q Q' : Src → Lg → Prop} (h : GI X tg iter η L Q) (m : ∀ S L1, Q S L1 → Q' S L1) : GI X tg iter η L Q' := fun hN H hH pins s I =>
  wpAny_mono (h hN H hH pins s I) (fun v s1 z => wpAny_mono z (fun itv s2 ⟨it, fp, tn, J, H1, ev, I2, T, t0, f2, L1, S, k1, ok, q⟩ => ⟨it, fp, tn, J, H1, ev, I2, T, t0, f2, L1, S, k1, ok, m S L1 q⟩) fun _ _ z => z) fun _ _ z => z
/-- what is shown of a pure comprehension: R what holds of the new list -/
def PureL (X : Cx) (scope : Scope) (ifs : List Expr) (elt : Expr) (st : V → Lg → (En → Lg → Prop) → Prop) (R : V → Lg → Prop) (S : Src) (L1 : Lg) : Prop := ∃ p g, PureC X scope ifs elt S L1 st p g ∧ ∀ D, R (.ref D) ((D, .lst (((List.range S.n).filter p).map g)) :: L1)
abbrev stOne (f : V → En) : V → Lg → (En → Lg → Prop) → Prop := fun v M k => k (f v) M
theorem monoOne {f : V → En} : ∀ v M (k k' : En → Lg → Prop), (∀ θ M', k θ M' → k' θ M') → stOne f v M k → stOne f v M k' := fun _ _ _ _ m z => m _ _ z
/-- [elt for x in iter if ..], all parts pure -/
theorem ge_lcP (P : PutF x η f) (h : GI X (.Name x p1) iter η L (PureL X scope ifs elt (stOne f) Q)) (hb : blkC X.N X.env.scope scope [(x, X.N.idxOf x)] = true) (hlx : LocB X scope x := by exact fun _ _ _ _ _ => ⟨.inl rfl, .inr rfl⟩)
    (hN : X.N.Nodup := by assumption) (hc : X.calm = true := by rfl) (hs : ∀ z, foldedSetIterable iter X.env z = pure z := by intro _; rfl) : GE X (.ListComp elt [⟨.Name x p1, iter, ifs, 0⟩] scope pos) η L Q :=
  GE.undrp (ge_lc1 P (h.imp fun S L1 ⟨p, g, pc, q⟩ D => pc.lc monoOne D (q D)) hb hlx hN hc hs)
end
section
variable {X : Cx} {L : Lg} {elt : Expr} {ifs : List Expr} {scope : Scope} {f : V → En} {R : V → Lg → Prop} {q : Addr} {xs : List V} {t : V → Bool} {g : V → V}
/-- a pure comprehension's turn: the test, then the element -/
abbrev TurnP (X : Cx) (scope : Scope) (ifs : List Expr) (elt : Expr) (L : Lg) (θ : En) (b0 : Bool) (z0 : V) : Prop := ∀ D acc, AllBlk X scope fun B => GTs B ifs θ ((D, .lst acc) :: L) fun b M1 => b = b0 ∧ Sub ((D, .lst acc) :: L) M1 ∧ (b = true → AllBlk X scope fun B => GE B elt θ M1 fun z M2 => z = z0 ∧ Sub ((D, .lst acc) :: L) M2)
theorem turnP_use {st : V → Lg → (En → Lg → Prop) → Prop} {θ : En} {b0 : Bool} {z0 : V} (h : TurnP X scope ifs elt L θ b0 z0) {D : Addr} {acc : List V} {M : Lg} (s : Sub ((D, .lst acc) :: L) M) :
    AllBlk X scope fun B => GTs B ifs θ M fun b M1 => b = b0 ∧ Sub ((D, .lst acc) :: L) M1 ∧ (b = true → AllBlk X scope fun B => GE B elt θ M1 fun z M2 => z = z0 ∧ Sub ((D, .lst acc) :: L) M2) := fun s1 H1 C1 cl1 fp1 => by
  refine GTs.sub s ?_
  have k := h D acc s1 H1 C1 cl1 fp1
  have key : ∀ b M1, (b = b0 ∧ Sub ((D, .lst acc) :: L) M1 ∧ (b = true → AllBlk X scope fun B => GE B elt θ M1 fun z M2 => z = z0 ∧ Sub ((D, .lst acc) :: L) M2)) → ∀ M2, Sub M1 M2 → b = b0 ∧ Sub ((D, .lst acc) :: L) M2 ∧ (b = true → AllBlk X scope fun B => GE B elt θ M2 fun z M2 => z = z0 ∧ Sub ((D, .lst acc) :: L) M2) :=
    fun b M1 ⟨e, s1, k⟩ M2 s2 => ⟨e, s1.trans s2, fun hb s3 H3 C3 cl3 fp3 => GE.sub s2 (k hb s3 H3 C3 cl3 fp3)⟩
  match ifs, k with
  | [], k => exact key _ _ k
  | [c], k => exact k.imp key
end
end G
set_option Elab.async false
set_option linter.all false
set_option maxRecDepth 100000
set_option maxHeartbeats 4000000
namespace G
open PySem PySem.Spec PyProof.Rows L2
abbrev penO (c : Addr) (n m : Int) : HO := .lst [.ref c, .int n, .int m]
abbrev celO (ns : List Int) : HO := .lst (ns.map V.int)
def spDraw : SpL := fun vs L Q _ => ∃ (p c : Addr) (ns : List Int) (n m many : Int) (R : Lg), vs = [.ref p, .int many] ∧ Sub ((p, penO c n m) :: (c, celO ns) :: R) L ∧ ns.length ≤ 63 ∧ 0 < many ∧ many < 2 ^ 64 ∧ 0 ≤ n ∧ n ≤ 100000 ∧ 0 ≤ m ∧
  ∀ d n' m', 0 ≤ d → d < many → 0 ≤ n' → n' ≤ n + 1 → 0 ≤ m' → Q (.int d) ((p, penO c n' m') :: (c, celO ns) :: R)
theorem cut63 {ns : List Int} : ∃ ms : List Int, ms.length ≤ 63 ∧ cutV (ns.map V.int) none (some 63) = ms.map V.int := by
  refine ⟨ns.take 63, by rw [List.length_take]; omega, ?_⟩
  unfold cutV
  have e1 : HT.sIx (ns.map V.int).length 0 none = 0 := rfl
  have e2 : HT.sIx (ns.map V.int).length (ns.map V.int).length (some 63) = min 63 (ns.map V.int).length := HT.sIx_nat _ _ 63
  rw [e1, e2, List.drop_zero, Nat.sub_zero, List.map_take, ← List.take_take, List.take_length]
/-- a list, one of which is drawn -/
def spPick : SpL := fun vs L Q _ => ∃ (p c q : Addr) (ns : List Int) (xs : List V) (n m : Int) (R : Lg), vs = [.ref p, .ref q] ∧ Sub ((p, penO c n m) :: (c, celO ns) :: R) L ∧ (q, HO.lst xs) ∈ R ∧ ns.length ≤ 63 ∧ 0 < xs.length ∧ xs.length < 1000 ∧ 0 ≤ n ∧ n ≤ 100000 ∧ 0 ≤ m ∧
  ∀ (k : Nat) (x : V) n' m', xs[k]? = some x → 0 ≤ n' → n' ≤ n + 1 → 0 ≤ m' → Q x ((p, penO c n' m') :: (c, celO ns) :: R)
theorem gts_nil {X : Cx} {η : En} {L : Lg} {Q : Bool → Lg → Prop} (q : Q true L) : GTs X [] η L Q := q
theorem tk0 {X : Cx} : Tk X (fun _ _ _ _ => False) := (L2.takes0 (X := X)).imp fun _ _ _ _ ⟨_, _, _, _, _, z⟩ => z.elim
theorem rdSub {L M : Lg} {v : V} {d : PyData} (s : Sub M L) (h : Rd M v d) : Rd L v d := fun X pins σ H s' u hH I r => h X pins σ H s' u (s H hH) I r
section
variable {a b c d e f g h i j : Addr × HO} {R : Lg}
theorem rot3 : Sub (c :: a :: b :: R) (a :: b :: c :: R) := Sub.perm (List.perm_middle (l₁ := [a, b]) (l₂ := R) (a := c)).symm
theorem rot3' : Sub (a :: b :: c :: R) (c :: a :: b :: R) := Sub.perm (List.perm_middle (l₁ := [a, b]) (l₂ := R) (a := c))
end
end G
set_option Elab.async false
set_option linter.all false
set_option maxRecDepth 100000
set_option maxHeartbeats 4000000
namespace G
open PySem PySem.Spec PyProof.Rows L2
/-- two entries behind others -/
theorem rotL {a b : Addr × HO} {R : Lg} (l : Lg) : Sub (a :: b :: (l ++ R)) (l ++ (a :: b :: R)) := Sub.perm (by
  refine List.Perm.trans (l₂ := a :: (l ++ (b :: R))) (.cons a ?_) ?_
  · exact List.perm_middle.symm
  · exact List.perm_middle.symm)
theorem rot12 {a b c : Addr × HO} {R : Lg} : Sub (a :: b :: c :: R) (c :: a :: b :: R) := rotL [_]
/-- a value that is shown, and of which the kind is known -/
structure Odd (L : Lg) (v : V) (d : PyData) : Prop where
  kd : ∃ T, Knd L v T
  rd : Rd L v d
  s : d.showable = true
  dp : d.depth ≤ 60
  sz : d.shown.length ≤ 100000
  ok : PyData.strOk d.shown = true
theorem Odd.drop {L : Lg} {v : V} {d : PyData} {a : Addr × HO} (h : Odd L v d) : Odd (a :: L) v d := by
  obtain ⟨T, k⟩ := h.kd
  exact ⟨⟨T, k.sub fun e m => memS m⟩, rdSub Sub.drop h.rd, h.s, h.dp, h.sz, h.ok⟩
theorem Odd.app {L : Lg} {v : V} {d : PyData} : ∀ (l : Lg), Odd L v d → Odd (l ++ L) v d
  | [], h => h
  | a :: l, h => (Odd.app l h).drop
theorem GG.sub {X : Cx} {tg : Expr} {v : V} {η : En} {L M : Lg} {Q : En → Lg → Prop} (s : Sub M L) (h : GG X tg v η M Q) : GG X tg v η L Q := fun hN H hH => h hN H (s H hH)
end G
set_option Elab.async false
set_option linter.all false
set_option maxRecDepth 100000
set_option maxHeartbeats 4000000
namespace G
open PySem PySem.Spec PyProof.Rows L2
theorem RoomG.make {k : Nat} {A : Around} (r : RoomG (k + 1) A) (C : Addr) (us : List Value) (kw : List (Str × Value)) : RoomG k (A.under (.builtin "type.__call__" ⟨.ref C :: us, kw⟩)) := ⟨r.toRoom.make C us kw, r.gd⟩
section
variable {X : Cx} {CX : CXT} {k : Nat} {C f : Addr} {sp : Sp} {E : XK} {args : List Value → Args}
/-- C(..): a new instance and its dict, then __init__ -/
theorem run_makeG {pins : List (Addr × Obj)} {σ : L2.St} {H : Hp} {s : Shared} {Q : VK} {us : List Value} {vs : List V} {ps : List Value} {kw : List (Str × Value)} (M : Mk X.K C f) (F : RunG X.prog X.w X.K X.mg X.base CX k f args sp) (hr : RoomG (k + 1) X.A) (hx : PassesAt CX X σ E) (I : Inv X pins σ H s) (r : Vals vs us)
    (ha : ∀ y : Value, args (y :: us) = ⟨y :: ps, kw⟩)
    (h : ∀ x dx, H x = none → H dx = none → dx ≠ x → sp (.ref x :: vs) (upd (upd H dx (.own x)) x (.ins C dx [])) (fun v H2 => v = .non ∧ Q (.ref x) H2) E) : wpAny (model X.prog X.w) X.A (call (.ref C) ps kw) (EP X pins σ Q) X.xe s := by
  have hq := h (s.heap.objs.size + 1) s.heap.objs.size (I.hok.fresh (Nat.le_succ _)) (I.hok.fresh (Nat.le_refl _)) (Nat.ne_of_lt (Nat.lt_succ_self _))
  have I2 := Inv.made (C := C) I
  have z := F _ X.stack _ _ (.ref (s.heap.objs.size + 1) :: us) (.ref (s.heap.objs.size + 1) :: vs) _ E (hr.make C ps kw) (I2.env0.make C ps kw) (.cons rfl r) hq
  rw [ha] at z
  refine wpAny_call (make_map (f := f) I.kIn M.makes M.init (beq_iff_eq.mp M.fn) (codeAny_mono z fun r s' hq' => ?_))
  cases r with
  | error e => exact hx pins _ _ e s' I2 hq'
  | ok fl =>
    cases fl with
    | ret u =>
      obtain ⟨v, H', I3, rv, ev, q3⟩ := I2.after hq'
      subst ev
      exact ⟨rv, ⟨V.ref (s.heap.objs.size + 1), H', I3, rfl, q3⟩⟩
    | next => exact False.elim hq'
    | brk => exact False.elim hq'
    | cont => exact False.elim hq'
end
section
variable {X : Cx} {CX : CXT} {j k : Nat} {C f g p : Addr} {sp : SpL} {El : XL} {args argsI : List Value → Args} {η : En} {L : Lg} {Q : QV} {W : XW} {x n m : Str} {e o value : Expr} {es : List Expr} {D : GD} {pos pos' p1 : Pos} {a dx : Addr} {fs : List (Str × V)} {v y : V} {u : Value}
/-- what __init__ is shown at the new instance -/
abbrev InitSp (C : Addr) (sp : SpL) (Q : QV) (El : XL) : List V → Lg → Prop := fun vs L => ∀ x dx, sp (.ref x :: vs) ((x, .ins C dx []) :: (dx, .own x) :: L) (fun v L' => v = .non ∧ Q (.ref x) L') El
theorem init_sp {H : Hp} {vs : List V} {E : XK} (hH : Has H L) (h : InitSp C sp Q El vs L) (he : ∀ c d L' H', Has H' L' → El c d L' → E c d H') : ∀ x dx, H x = none → H dx = none → dx ≠ x → toSp sp (.ref x :: vs) (upd (upd H dx (.own x)) x (.ins C dx [])) (fun v H2 => v = .non ∧ up Q (.ref x) H2) E := fun x dx hx hdx ne =>
  ⟨_, _, El, (hH.new hdx).new (by rw [upd_ne (Ne.symm ne)]; exact hx), h x dx, fun v L' H' h' q => ⟨q.1, L', h', q.2⟩, he⟩
theorem gf_make (M : Mk X.K C f) (F : RunG X.prog X.w X.K X.mg X.base CX k f argsI (toSp sp)) (ha : ∀ y us, argsI (y :: us) = ⟨y :: (args us).pos, (args us).kw⟩) (hr : RoomG j X.A) (hx : Passes CX X (upX El)) (hjk : k + 1 ≤ j := by decide) : GF X η C args (InitSp C sp Q El) Q := fun pins s H us vs L hH I r h =>
  run_makeG M F (hr.mono hjk) (fun pins => hx pins _) I r (fun y => ha y us) (init_sp hH h fun c d L' H' h' q => ⟨L', h', q⟩)
/-- x(..), x a global that holds a thing of which GF tells -/
theorem ge_callF {φ : List V → Lg → Prop} (hm : X.mg x = some (.ref f)) (hk : PySem.W.keepIn X.K (.ref f) = true) (F : X.N = names η → GF X η f argsP φ Q) (h : GA X (e :: es) η L φ) (hg : Gl X x := by rfl) (hd : (x == ("__debug__" : Str)) = false := by decide)
    (he : starEach (e :: es) X.env = (false, eval e X.env) :: starEach es X.env := by rfl) (hpl : (backTo pos (starEach es X.env)).any (·.1) = false := by rfl) : GE X (.Call (.Name x p1) (e :: es) [] pos) η L Q := fun hN H hH pins s I => by
  refine wpAny_Call_Name_kw (ld_glob I hg hm ?_ hd)
  refine PySem.W.callWith_K (h₀ := X.base) I.ok.mod.kin hk ?_ he hpl
  exact thn (h hN H hH pos pins s I) fun us s1 ⟨vs, H1, J, r, L1, h1, q⟩ => ⟨J.kIn, F hN pins s1 H1 us vs L1 h1 J r q⟩
theorem ge_callF0 {φ : List V → Lg → Prop} (hm : X.mg x = some (.ref f)) (hk : PySem.W.keepIn X.K (.ref f) = true) (F : X.N = names η → GF X η f argsP φ Q) (h : φ [] L) (hg : Gl X x := by rfl) (hd : (x == ("__debug__" : Str)) = false := by decide) : GE X (.Call (.Name x p1) [] [] pos) η L Q := fun hN H hH pins s I => by
  refine wpAny_Call_Name_kw (ld_glob I hg hm ?_ hd)
  exact PySem.W.callWith_K0 I.kIn hk (F hN pins s H [] [] L hH I .nil h)
theorem gat_fld (c : Cls X.K C) (no : NoAttr X.K C n) (mm : (a, HO.ins C dx fs) ∈ L) (l : fs.lookup n = some v) (q : Q v L) : GAt X n (.ref a) L Q := fun pins s σ H u ex hH I r => by
  obtain rfl : u = Value.ref a := r
  exact getattr_ok I (hH.get mm) c no l fun u' s' I' ru => ⟨v, H, I', ru, L, hH, q⟩
theorem gat_con (c : Cls X.K C) (k : Con X.K C n v u) (mm : (a, HO.ins C dx fs) ∈ L) (l : fs.lookup n = none) (q : Q v L) : GAt X n (.ref a) L Q := fun pins s σ H u' ex hH I r => by
  obtain rfl : u' = Value.ref a := r
  exact getcon_ok I (hH.get mm) c k l fun s' I' => ⟨v, H, I', k.rel, L, hH, q⟩
theorem gs_fld (h : GE X value η L fun y L1 => GE X o η L1 fun x L2 => ∃ a C dx fs M, x = .ref a ∧ (a, HO.ins C dx fs) ∈ L2 ∧ Cls X.K C ∧ NoAttr X.K C n ∧ fs.length < 1000 ∧ Swap a (.ins C dx (putF n y fs)) L2 M ∧ D.nx η M)
    (hs : swapsWith value (some (.Attribute o n pos')) pos.line X.env = pure false := by rfl) : GS X (.Assign [.Attribute o n pos'] value pos) D η L := fun hN H hH =>
  WS.of (ps_fld pe_W pe_W hs) (h.then hN hH fun y L1 H1 h1 q => q.then hN h1 fun x L2 H2 h2 ⟨a, C, dx, fs, M, ex, mm, c, no, l, sw, q2⟩ => ⟨a, C, dx, fs, ex, h2.get mm, c, no, l, η, M, hN, rfl, h2.swap sw, q2⟩)
/-- o.m(..) -/
theorem ge_meth {pl : Sem Bool} (F : RunG X.prog X.w X.K X.mg X.base CX k g argsP (toSp sp)) (hm : Meth X.K C m g) (c : Cls X.K C) (hr : RoomG j X.A) (hx : Passes CX X (upX El)) (h : GE X o η L fun x L1 => ∃ a dx fs, x = .ref a ∧ (a, HO.ins C dx fs) ∈ L1 ∧ fs.lookup m = none ∧ GA X (e :: es) η L1 fun vs L2 => sp (.ref a :: vs) L2 Q El) (hjk : k ≤ j := by decide)
    (hst : starEach (e :: es) X.env = (false, eval e X.env) :: starEach es X.env := by rfl) (hpl : (backTo pos (starEach es X.env)).any (·.1) = false := by rfl)
    (ht : eval (.Call (.Attribute o m pos') (e :: es) [] pos) X.env = (do
      let ov ← eval o X.env
      standAt pos'.atName
      let (f, first) ← holding [ov] (getMethod ov m pl)
      callWith pos f first (backTo pos (starEach (e :: es) X.env)) (backToKw pos (keywordEach [] X.env))) := by rfl) : GE X (.Call (.Attribute o m pos') (e :: es) [] pos) η L Q := fun hN H hH pins s I => by
  refine PySem.W.methodCall_KW (pl := pl) (thn (h hN H hH pins s I) fun u s1 ⟨x, H1, I1, rx, L1, h1, a, dx, fs, ex, ea, l, q⟩ => ?_) ht
  subst ex
  obtain rfl : u = Value.ref a := rx
  refine getmeth_ok I1 (h1.get ea) c hm l ?_
  refine PySem.W.callWith_K (first := [.ref a]) (h₀ := X.base) I.ok.mod.kin hm.kp (thn (q hN H1 h1 pos pins s1 I1) fun us s2 ⟨vs, H2, I2, r, L2, h2, q2⟩ => ⟨I2.kIn, ?_⟩) hst hpl
  exact run_G (args := argsP) (us := .ref a :: us) (vs := .ref a :: vs) F (hr.mono hjk) hx I2 (.cons rfl r) (up_sp h2 q2)
end
end G
set_option Elab.async false
set_option linter.all false
set_option maxRecDepth 100000
set_option maxHeartbeats 4000000
namespace G
open PySem PySem.Spec PyProof.Rows L2 NdefX
/-- what the written part says of super().n at an instance of C, from the class D -/
structure SupM (K : PySem.W.Frag) (mg : Str → Option Value) (C D : Addr) (n : Str) (g : Addr) : Prop where
  sm : PySem.W.ks_superIn K C D n = some (some (.ref g))
  tg : PySem.W.typeIn K (.ref g) = some (.type "function")
  fi : PySem.W.fnIn K g = true
  cls : ∃ cd, PySem.W.clsIn K C = some cd
  sub : PySem.W.mroIn K C (.ref D) = some true
  op : PySem.W.nsIn K cStatics "thirdparty.any" = some none
  su : mg "super" = none
/-- the slots of a method that says super(), when it begins -/
def begunF (N : List Str) (vs : List V) : En := N.zip (startF N vs [none])
abbrev cxS (CX : CXT) (P : Program) (w : World) (K : PySem.W.Frag) (mg : Str → Option Value) (base : Heap) (N : List Str) (x q : Str) (st : Stmt) (cc c f : Addr) (A : Around) (outer : List Env) (s : Shared) (H : Hp) (E0 : XK) : Cx := ncx CX P w K mg base N (nfS x q st cc c) f A outer s H E0
section
variable {CX : CXT} {P : Program} {w : World} {K : PySem.W.Frag} {mg : Str → Option Value} {base : Heap} {N ps : List Str} {x q : Str} {st : Stmt} {f c cc D : Addr} {fd : FuncData} {k : Nat} {sp : SpL}
/-- such a method keeps a promise over ledgers -/
theorem run_sup (F : SupF P K x q st f c cc D fd) (S : NScope N ps ["__class__"] (defScope st)) (args : List Value → Args) (pmV : List V → List V) (pmU : List Value → List Value) (hpm : ∀ vs us, Vals vs us → Vals (pmV vs) (pmU us))
    (hb : ∀ (kV doc pm ct : Value) (an : Option Addr) (us : List Value), (pmU us).length = ps.length → bindArgs (PySem.W.fnX x q (defArgs st) (defBody st) (defScope st) [("__class__", cc)] .none kV doc pm an (.ref c) ct) (args us) = pure (ps.zip (pmU us)))
    (len : ∀ vs L Q E, sp vs L Q E → vs.length = ps.length) (hl : ∀ vs : List V, vs.length = ps.length → (startF N vs [none]).length = N.length)
    (body : ∀ (X : Cx) (A : Around) (outer : List Env) (s : Shared) (H : Hp) (E0 : XK) (L : Lg) (vs : List V) (Q : QV) (E : XL), X = cxS CX P w K mg base N x q st cc c f A outer s H E0 → (∀ c d L' H', Has H' L' → E c d L' → E0 c d H') → X.N.Nodup → RoomG k X.A → sp vs L Q E → Has H L → X.N = names (begunF N vs) → AtSs X (defBody st) (defBody st) ((bodyD Q).ends X) (vals (begunF N vs)) H) :
    RunG P w K mg base CX (k + 1) f args (fun vs => toSp sp (pmV vs)) := by
  intro A outer s H us vs Q E hr e0 r hsp
  obtain ⟨oc, od, kV, doc, pm, ct, an, osl, rfl, lk⟩ := F.ex
  obtain ⟨L, Ql, El, hH, h, hq, he⟩ := hsp
  have hn : (pmV vs).length = ps.length := len _ L Ql El h
  have r2 := hpm vs us r
  have KX : K.In s.heap := e0.mod.kin.keeps fun b o e => (e0.bs b o e).1
  have lim : s.heap.NoLimit := e0.mod.nolimit.keeps fun b o e => (e0.bs b o e).1
  have hbb := hb kV doc pm ct an us (by rw [← r2.length]; exact hn)
  refine _root_.PySem.ks_codeAny_call_defAt (body := defBody st) hr.depth (KX _ _ lk) rfl lim (PySem.W.codeRec_of KX F.cd) rfl (.of_eq hbb) S.nocell (fun ⟨n, _⟩ hy => S.par n (List.of_mem_zip hy).1) (fun h₁ hns kp => ?_) S.co S.gen S.kind
  have I : Inv (ncx CX P w K mg base N (nfS x q st cc c) f A outer s H E) [] (startF N (pmV vs) [none]) H { s with heap := h₁, toks := s.toks + (ps.zip (pmU us)).length } := inv_startN S hr.hd e0 hn r2 (F.cells e0) hns kp
  have ev : vals (begunF N (pmV vs)) = startF N (pmV vs) [none] := List.map_snd_zip (Nat.le_of_eq (hl _ hn))
  have en : N = names (begunF N (pmV vs)) := (List.map_fst_zip (Nat.le_of_eq (hl _ hn).symm)).symm
  have b := body _ A outer s H E L (pmV vs) Ql El rfl he S.nd ⟨hr.toRoom.deeper _, guard_deeper hr.gd⟩ h hH en [] _ (by rw [ev]; exact I)
  refine _root_.PySem.wpAt_mono b (fun fl s' hs => ?_) fun e s' hs => hs
  have fin : ∀ {σ' : L2.St} {H' : Hp} {v : V} {u : Value}, Inv (ncx CX P w K mg base N (nfS x q st cc c) f A outer s H E) [] σ' H' s' → L2.RelV v u → Q v H' → CE outer P w H s Q u s' := fun {σ' H' v u} J rv qq => ⟨v, H', J.os, J.bare, J.base, J.hok, rv, qq⟩
  cases fl with
  | ret u =>
    obtain ⟨v, σ', H', J, rv, M, hM, N', sb, q⟩ := hs
    exact fin J rv (hq _ N' H' (sb _ hM) q)
  | next =>
    obtain ⟨σ', H', J, θ, M, _, _, hM, N', sb, q⟩ := hs
    exact fin (v := V.non) (u := Value.none) J rfl (hq _ N' H' (sb _ hM) q)
  | brk =>
    obtain ⟨σ', H', J, θ, M, _, _, hM, z⟩ := hs
    exact z.elim
  | cont =>
    obtain ⟨σ', H', J, θ, M, _, _, hM, z⟩ := hs
    exact z.elim
end
end G
set_option Elab.async false
set_option linter.all false
set_option maxRecDepth 100000
set_option maxHeartbeats 4000000
namespace PySem.W
open PySem PySem.Calls PyProof.Rows
end PySem.W
namespace G
open PySem PySem.Spec PyProof.Rows L2
/-- a class with its own __eq__ -/
structure OwnEq (K : PySem.W.Frag) (C g : Addr) : Prop where
  at_ : PySem.W.findIn K (.ref C) "__eq__" = some (some (.ref g))
  fn : PySem.W.isFn K (.ref g) = true
  ne : PySem.W.findIn K (.ref C) "__ne__" = some (some (.builtin "object.__ne__"))
  ob : PySem.W.mroIn K C (.type "object") = some true
section
variable {X : Cx} {CX : CXT} {j k : Nat} {C C' g a b dx dy : Addr} {fs gs : List (Str × V)} {sp : SpL} {El : XL} {L : Lg} {Q : QV}
theorem ins_inst {pins : List (Addr × Obj)} {σ : L2.St} {H : Hp} {s : Shared} (I : Inv X pins σ H s) (hH : Has H L) (m : (a, HO.ins C dx fs) ∈ L) : ∃ o od, PySem.W.InstAt s.heap a o C (some od) := by
  obtain ⟨mA, O, _⟩ := ins_get I.hok (hH.get m)
  obtain ⟨od, J, _⟩ := O.look
  exact ⟨_, od, J⟩
theorem RoomG.in1 {k : Nat} {A : Around} (r : RoomG (k + 1) A) : RoomG k A.in1 := ⟨r.toRoom.in1, r.gd⟩
/-- isinstance of an instance -/
structure OwnT (K : PySem.W.Frag) (C : Addr) : Prop where
  g : PySem.W.plainGet K C "__class__" = true
  d : PySem.W.hasDictIn K C = true
  a : PySem.W.findIn K (.ref C) "__class__" = some (some (.builtin "object.__class__"))
  n : PySem.W.specialIn K (.builtin "object.__class__") "__get__" = some (some (.builtin "getset_descriptor.__get__"))
  t : PySem.W.takesIn K (.builtin "object.__class__") = some true
  m : PySem.W.mroIn K C (.type "object") = some true
theorem gc_isI {c : V} {cv : Value} {r : Bool} (T : OwnT X.K C) (ma : (a, HO.ins C dx fs) ∈ L) (kc : ClsV c cv) (k : PySem.W.kitOne X.K (.ref C) cv = some r) (q : Q (.bl r) L) : GC X (.builtin "isinstance") [.ref a, c] L Q := fun pins s σ H us hH I rr => by
  cases rr with
  | cons rx rr =>
    cases rr with
    | cons rt rr =>
      cases rr
      obtain rfl : _ = Value.ref a := rx
      have ec := kc.eq rt
      subst ec
      obtain ⟨oe, od, J⟩ := ins_inst I hH ma
      exact PySem.W.kia_one (PySem.W.kitx_own T.g T.d T.a T.n T.t T.m) I.kIn J k (fun z => nomatch z) fun tk => ⟨.bl r, H, I.kept (t' := tk) fun _ _ z => z, rfl, L, hH, q⟩
end
end G
set_option Elab.async false
set_option linter.all false
set_option maxRecDepth 100000
set_option maxHeartbeats 4000000
namespace G
open PySem PySem.Spec PyProof.Rows L2
section
variable {X : Cx} {η : En} {L : Lg} {Q : QV} {a b c e : Expr} {es : List Expr} {op op' : CmpOp} {pos p p2 : Pos} {x : V} {q : Addr}
theorem ge_chain (h : GE X a η L fun x L1 => GE X b η L1 fun y L2 => GOp X (compareOp op) x y L2 fun z L3 => ∃ k, z = .bl k ∧ if k = true then GE X c η L3 fun w L4 => GOp X (compareOp op') y w L4 Q else Q (.bl false) L3)
    (hm : lastMarks [op, op'] [b, c] = false := by with_unfolding_all rfl) : GE X (.Compare a [op, op'] [b, c] pos) η L Q := fun hN H hH =>
  WE.of (pe_chain (r := fun x y H' Q' => ∀ pins s σ v u, Inv X pins σ H' s → RelV x v → RelV y u → wpAny (model X.prog X.w) X.A (compareOp op v u) (EP X pins σ Q') X.xe s)
    (r' := fun x y H' Q' => ∀ pins s σ v u, Inv X pins σ H' s → RelV x v → RelV y u → wpAny (model X.prog X.w) X.A (compareOp op' v u) (EP X pins σ Q') X.xe s)
    (fun pins s σ H' x y v u Q' I r1 r2 q => q pins s σ v u I r1 r2) (fun pins s σ H' x y v u Q' I r1 r2 q => q pins s σ v u I r1 r2) pe_W pe_W pe_W hm)
    (h.then hN hH fun x _ _ h1 q1 => q1.then hN h1 fun y _ _ h2 q2 => fun pins s σ v u I r1 r2 => by
      refine wpAny_mono (q2 pins s σ _ v u h2 I r1 r2) (fun z s' zz => ?_) fun _ _ z => z
      obtain ⟨zv, H3, I3, r3, L3, h3, k, ek, q3⟩ := zz
      refine ⟨zv, H3, I3, r3, k, ek, ?_⟩
      cases k with
      | true =>
        rw [if_pos rfl] at q3
        rw [if_pos rfl]
        exact q3.then hN h3 fun w L4 H4 h4 q4 => fun pins s σ v u I r1 r2 => q4 pins s σ _ v u h4 I r1 r2
      | false =>
        rw [if_neg Bool.false_ne_true] at q3
        rw [if_neg Bool.false_ne_true]
        exact ⟨L3, h3, q3⟩)
/-- *e among the values -/
theorem ga_star {Q : List V → Lg → Prop} (h : GE X e η L fun x L1 => ∃ p xs, x = .ref p ∧ ((p, HO.tup xs) ∈ L1 ∨ (p, HO.lst xs) ∈ L1) ∧ GA X es η L1 fun ys L2 => Q (xs ++ ys) L2) (hs : starEach (.Starred e p :: es) X.env = (true, eval e X.env) :: starEach es X.env := by rfl) : GA X (.Starred e p :: es) η L Q := fun hN H hH =>
  WA.of (StX.pa_star pe_W pa_W hs) (h.then hN hH fun x L1 H1 h1 ⟨p, xs, ex, m, q⟩ => ⟨p, xs, ex, m.imp (fun z => sqt h1 z) fun z => sql h1 z, q.then hN h1 fun _ L2 _ h2 q2 => ⟨L2, h2, q2⟩⟩)
end
theorem bt_sorted : bootBuiltins "sorted" = some (.builtin "sorted") := by decide +kernel
section
variable {X : Cx} {η : En} {L : Lg} {Q : QV} {e : Expr} {es : List Expr} {pos p : Pos} {x : V} {q : Addr} {T : String} {cs : List String} {b : Bool} {y : Str} {v : V} {u : Value}
theorem gb_sorted (B : Bi X.mg) (h : GA X (e :: es) η L fun xs L1 => GC X (.builtin "sorted") xs L1 Q) (hg : Gl X "sorted" := by rfl) (he : starEach (e :: es) X.env = (false, eval e X.env) :: starEach es X.env := by rfl) (hpl : (backTo pos (starEach es X.env)).any (·.1) = false := by rfl) :
    GE X (.Call (.Name "sorted" p) (e :: es) [] pos) η L Q := ge_B B.sorted bt_sorted h hg (by decide) (by decide) he hpl
/-- a global that holds a plain value -/
theorem gv_con (hm : X.mg y = some u) (r : RelV v u) (q : Q v L) (hg : Gl X y := by rfl) (hd : (y == ("__debug__" : Str)) = false := by decide) : GE X (.Name y pos) η L Q := ge_con (pe_glob hg hm r hd) q
end
end G
set_option Elab.async false
set_option linter.all false
set_option maxRecDepth 100000
set_option maxHeartbeats 4000000
namespace PySem
open Sem (wp)
open AutoSeq1 (wpAny_loadPart')
theorem g_enum_newT (l : Addr) (items : Array Value) (n : Nat) (dct : Option Addr) (sl : Array (Option Value)) :
    Meets (Builtin.«enumerate.__new__» ⟨[.type "enumerate", .ref l], []⟩) (fun _ R s => s.heap.get? l = some { cls := .type "tuple", dict := dct, data := .seq items n, slots := sl } ∧
      R (.ok (.ret (.ref (s.heap.push { cls := .type "tuple_iterator", data := .fields #[.ref l, .int 0 0] }).objs.size)))
        { s with heap := (s.heap.push { cls := .type "tuple_iterator", data := .fields #[.ref l, .int 0 0] }).push { cls := .type "enumerate", data := .fields #[.none, .bool false, .ref s.heap.objs.size, rawInt 0, .none, .none] } }) :=
  .of_wp fun prog w A R s h => by
    obtain ⟨hp, g, d, tk, os⟩ := s; obtain ⟨hl, h⟩ := h
    have hsub := sub_enumerate
    have hL : Heap.IsTuple (Shared.heap ⟨hp, g, d, tk, os⟩) l items := ⟨_, hl, rfl, n, rfl⟩
    wp_walk using wpAny_loadPart' hl
    refine wpAny_stack_any fun st => wpAny_pure ?_
    split
    · rename_i c _ _ _ _ _
      cases (c == Value.type "enumerate")
      · wp_walk using wpAny_loadPart' hl, wpAny_pyIter_tuple hL
        exact ⟨_, rfl, h⟩
      · wp_walk using wpAny_loadPart' hl, wpAny_pyIter_tuple hL
        exact ⟨_, rfl, h⟩
    · wp_walk using wpAny_loadPart' hl, wpAny_pyIter_tuple hL
      exact ⟨_, rfl, h⟩
theorem g_call_enumT {prog : Program} {w : World} {A : Around} {E : Value → Shared → Prop} {s : Shared} {l : Addr} {items : Array Value} {Q : Value → Shared → Prop} (hL : s.heap.IsTuple l items)
    (h : ∀ h', IsEnum h' (s.heap.objs.size + 1) s.heap.objs.size 0 .none → h'.IsTupleIter s.heap.objs.size l 0 → h'.objs.size = s.heap.objs.size + 2 →
      (∀ b o, s.heap.get? b = some o → h'.get? b = some o) → Q (.ref (s.heap.objs.size + 1)) { s with heap := h' }) :
    wpAny (model prog w) A (call (.type "enumerate") [.ref l]) Q E s := by
  obtain ⟨⟨c, dct, dt, sl⟩, hl, hc, n, hd⟩ := hL
  replace hc : c = .type "tuple" := hc
  replace hd : dt = .seq items n := hd
  subst hc hd
  refine callType_new F.called_enumerate (by decide) (F.typeCall_enumerate_1 _) (F.newCall_enumerate_1 _) (fun obj => F.args_object_init_2 obj _) F.entry_enumerate_new
    (g_enum_newT l items n dct sl) ⟨hl, ?_⟩
  have hz : (s.heap.push { cls := .type "tuple_iterator", data := .fields #[.ref l, .int 0 0] }).objs.size = s.heap.objs.size + 1 := Heap.size_push ..
  show _ ∧ _
  rw [hz]
  have he : IsEnum ((s.heap.push { cls := .type "tuple_iterator", data := .fields #[.ref l, .int 0 0] }).push
      { cls := .type "enumerate", data := .fields #[.none, .bool false, .ref s.heap.objs.size, rawInt 0, .none, .none] }) (s.heap.objs.size + 1) s.heap.objs.size 0 .none := by
    have := Heap.get?_push_size (s.heap.push { cls := .type "tuple_iterator", data := .fields #[.ref l, .int 0 0] })
      (o := { cls := .type "enumerate", data := .fields #[.none, .bool false, .ref s.heap.objs.size, rawInt 0, .none, .none] }) rfl
    rw [hz] at this; exact this
  refine ⟨⟨_, he, rfl⟩, h _ he ⟨_, Heap.get?_push_of_some _ (Heap.get?_push_size _ rfl), rfl, rfl⟩ (by rw [Heap.size_push, hz]) fun b o x => Heap.get?_push_of_some _ (Heap.get?_push_of_some _ x)⟩
theorem g_enum_endT {prog : Program} {w : World} {A : Around} {E : Value → Shared → Prop} {s : Shared} {e it t : Addr} {i : Nat} {k : Int} {items : Array Value} {old : Value} {Q : Option Value → Shared → Prop} (hh : A.handled = none)
    (he : IsEnum s.heap e it k old) (hit : s.heap.IsTupleIter it t i) (ht : s.heap.IsTuple t items) (hx : items[i]? = none) (hQ : ∀ h', Heap.ExtBut it s.heap h' → Q none { s with heap := h' }) : wpAny (model prog w) A (pyNext (.ref e)) Q E s := by
  have hT : s.TypeIs (.ref e) "enumerate" := ⟨_, he, rfl⟩
  unfold pyNext
  refine wpAny_bind (wpAny_attempt (wpAny_callSpecial?_slot (name := Str.ofString "__next__") hT F.slot_enumerate_next
    (wpAny_call_entry F.slot_enumerate_next hT F.entry_enumerate_next ?_ (F.args_enumerate_next_1 _))))
  show wpAny _ _ (field (.ref e) 2 >>= _) _ _ _
  refine wpAny_bind (wpAny_field he rfl (x := .ref it) rfl ?_)
  refine wpAny_bind (wpAny_nextOf_tuple_end (A := A.in1) hh hit ht hx fun h' x he' hx' => ?_)
  obtain ⟨o, ho, hc⟩ := hx'
  refine wpAny_bind (wpAny_isInstance (T := "StopIteration") (b := true) ⟨o, ho, hc⟩ isSubtype_stop ?_)
  exact wpAny_pure (hQ _ he')
end PySem
namespace G
open PySem PySem.Spec PyProof.Rows L2
def IteT (K : PySem.W.Frag) (a : Addr) : It :=
  ⟨fun i H => ∃ (xs : List V) (x : V), SqT K H a xs ∧ xs[i]? = some x, fun i H v H' => ∃ T x, v = .ref T ∧ H T = none ∧ H' = upd H T (.tup [.int (i : Nat), x]) ∧ ∀ xs, SqT K H a xs → xs[i]? = some x, fun i H => ∃ xs : List V, SqT K H a xs ∧ xs.length ≤ i⟩
theorem cls_ne {h : Heap} {a b : Addr} {S T : String} (x : ∃ o, h.get? a = some o ∧ o.cls = .type S) (y : ∃ o, h.get? b = some o ∧ o.cls = .type T) (n : S ≠ T) : a ≠ b := fun e => by
  obtain ⟨o, h1, c1⟩ := x
  obtain ⟨o', h2, c2⟩ := y
  rw [e, h2] at h1
  cases h1
  rw [c1] at c2
  cases c2
  exact n rfl
theorem turn_enumT {P : Program} {w : World} {K : PySem.W.Frag} {elts : List Expr} {kk : Nat} {tpos : Pos} (a e it : Addr) :
    Turn P w K (.Tuple elts kk tpos) (IteT K a) [e, it] e (fun i h => (∃ old, IsEnum h e it ((i : Nat) : Int) old) ∧ h.IsTupleIter it a i ∧ e ≠ it) where
  mem := by simp
  obj := fun i h st b hb => by
    obtain ⟨⟨old, he⟩, ⟨o, ho, hc, hd⟩, _⟩ := st
    have e' : b = e ∨ b = it := by simpa using hb
    rcases e' with z | z
    · rw [z]; exact ⟨_, he, fun v q => nomatch q⟩
    · rw [z]; exact ⟨o, ho, fun v q => by rw [hd] at q; cases q⟩
  keep := fun i h h' st k => let ⟨⟨old, he⟩, hi, hne⟩ := st; ⟨⟨old, k e (by simp) _ he⟩, hi.at fun o q => k it (by simp) o q, hne⟩
  item := by
    intro X hP hw hK hc i pins s σ H E I hf st hg
    subst hP hw hK
    obtain ⟨⟨old, he⟩, hit, hne⟩ := st
    obtain ⟨xs, x, hq, hx⟩ := hg
    obtain ⟨its, rv, p, hz⟩ := I.tuple hq
    obtain ⟨u, hu, ru⟩ := rv.get hx
    have hel : e < s.heap.objs.size := Heap.lt_size he
    have hil : it < s.heap.objs.size := by obtain ⟨_, q, _⟩ := hit; exact Heap.lt_size q
    have pT : ∃ o, s.heap.get? a = some o ∧ o.cls = .type "tuple" := by
      obtain ⟨o, h1, h2, _⟩ := p
      exact ⟨o, h1, h2⟩
    have iT : ∃ o, s.heap.get? it = some o ∧ o.cls = .type "tuple_iterator" := by
      obtain ⟨o, h1, h2, _⟩ := hit
      exact ⟨o, h1, h2⟩
    have ai : a ≠ it := cls_ne pT iT (by decide)
    have ea : e ≠ a := cls_ne ⟨_, he, rfl⟩ pT (by decide)
    have hlt : i < its.toArray.size := by
      have := (List.getElem?_eq_some_iff.mp hu).1
      simpa using this
    refine wpAny_pyNext_enum_itemD (Draws.tuple (A := X.A.in1) (I.ok.hd hc) it a ai its.toArray) he ⟨hit, p⟩ hlt hne (by simp [hne, ea]) fun u' h' tk hu' ho hst hT hsz hk => ?_
    obtain rfl : u' = u := by
      have : its.toArray[i]? = some u := by simpa using hu
      exact Option.some.inj (hu'.symm.trans this)
    refine ⟨_, rfl, wpAny_letOwnedTupleGo_enum (s := { s with heap := h', toks := tk + 1 }) ho fun h'' he' sb => ?_⟩
    have hT2 : h''.get? s.heap.objs.size = some { cls := .type "tuple", data := .seq #[.int i tk, u'] } := (sb.2 _ (Nat.ne_of_gt hel)).trans hT
    have new : ObjOk X.prog X.w (upd H s.heap.objs.size (.tup [.int (i : Nat), x])) h'' s.heap.objs.size (.tup [.int (i : Nat), x]) :=
      ⟨by show 2 ≤ sizeLine; decide, [.int i tk, u'], .cons ⟨_, rfl⟩ (.cons ru .nil), ⟨_, hT2, rfl, _, rfl⟩⟩
    have I1 : Inv X pins σ (upd H s.heap.objs.size (.tup [.int (i : Nat), x])) { s with heap := h'', toks := tk + 1 } :=
      I.turnedNew (ch := [e, it]) (fun b ob hb q => (sb.2 b (fun z => hb (by simp [z]))).trans (hk b ob (fun z => hb (by simp [z])) (fun z => hb (by simp [z])) q)) hf (Nat.le_refl _) new
    refine ⟨.ref s.heap.objs.size, _, I1, rfl, ⟨_, x, rfl, I.hok.fresh (Nat.le_refl _), rfl, fun ys hy => by rw [I.tuple_inj hy hq]; exact hx⟩, ⟨⟨u', ?_⟩, hst.1.at fun o q => (sb.2 it (Ne.symm hne)).trans q, hne⟩, fun b hb => ?_⟩
    · have e1 : ((i + 1 : Nat) : Int) = (i : Int) + 1 := by omega
      rw [e1]; exact he'
    · have hb' : b < s.heap.objs.size := by
        have e' : b = e ∨ b = it := by simpa using hb
        rcases e' with z | z
        · rw [z]; exact hel
        · rw [z]; exact hil
      rw [upd_ne (Nat.ne_of_lt hb')]
      exact (hf b hb).1
  done := by
    intro X hP hw hK hc i pins s σ H E I hf st hg
    subst hP hw hK
    obtain ⟨⟨old, he⟩, hit, hne⟩ := st
    obtain ⟨xs, hq, hx⟩ := hg
    obtain ⟨its, rv, p, hz⟩ := I.tuple hq
    obtain ⟨f0, f1, f2, f3, f4, f5⟩ := hf it (by simp)
    have hl := rv.length
    exact g_enum_endT (I.ok.hd hc) he hit p (by simp; omega) fun h' eb => ⟨rfl, I.turned (t' := s.toks) (fun b o hb q => eb b o hb q) f0 f1 f3 f4 f5⟩
  self := fun A i s Q E st h => let ⟨⟨_, he⟩, _⟩ := st; wpAny_pyIter_enum he h
def iEnumT (K : PySem.W.Frag) (ta : TA) : TI := fun σ H R => ta σ H fun vs H1 => ∃ a xs, vs = [.ref a] ∧ SqT K H1 a xs ∧ R (IteT K a) H1
theorem pi_enumT {X : Cx} {e : Expr} {ta : TA} {p pos tpos : Pos} {elts : List Expr} {kk : Nat} (hg : Gl X "enumerate") (hm : X.mg "enumerate" = none) (ha : PA X [e] ta) (hs : starEach [e] X.env = [(false, eval e X.env)] := by rfl) :
    PI X (.Tuple elts kk tpos) (.Call (.Name "enumerate" p) [e] [] pos) (iEnumT X.K ta) := by
  refine ⟨fun pins s σ H R I h => ?_⟩
  refine Call_ (ld_blt I hg hm boot_enumerate (PyProof.Rows.callWith_type1 (thn (ha.run pos pins s σ H _ I h) fun us s1 ⟨vs, H1, I1, r1, q1⟩ => ?_) hs rfl))
  obtain ⟨a, xs, ex, hq, q⟩ := q1
  subst ex
  cases r1 with
  | cons r rr =>
    cases rr
    cases r
    obtain ⟨its, rv, p', hz⟩ := I1.tuple hq
    refine g_call_enumT p' fun h' he hit hsz hk => wpAny_pyIter_enum he ?_
    have I2 : Inv X pins σ H1 { s1 with heap := h' } := I1.kept (t' := s1.toks) hk
    refine ⟨s1.heap.objs.size + 1, [s1.heap.objs.size + 1, s1.heap.objs.size], _, _, H1, rfl, I2, turn_enumT a (s1.heap.objs.size + 1) s1.heap.objs.size, ⟨⟨.none, he⟩, hit, Nat.succ_ne_self _⟩, fun b hb => ?_, q⟩
    have e' : b = s1.heap.objs.size + 1 ∨ b = s1.heap.objs.size := by simpa using hb
    have hle : s1.heap.objs.size ≤ b := by
      rcases e' with z | z
      · rw [z]; exact Nat.le_add_right _ _
      · rw [z]; exact Nat.le_refl _
    exact I1.fpOk hle (I1.hok.fresh hle)
theorem walk_enumT {K : PySem.W.Frag} {a : Addr} {xs : List V} : Walk (IteT K a) xs.length (fun H => SqT K H a xs) (YPair (fun i => some (.int (i : Nat))) (fun i => xs[i]?)) := by
  refine ⟨fun i _ hi q => ⟨xs, xs[i], q, by simp [hi]⟩, fun _ q => ⟨xs, q, Nat.le_refl _⟩, fun i H v H' _ q y => ?_⟩
  obtain ⟨T, x, h1, h2, h3, h4⟩ := y
  exact ⟨T, .int (i : Nat), x, h1, h2, h3, rfl, h4 xs q⟩
section
variable {X : Cx} {η : En} {L : Lg} {e : Expr} {elts : List Expr} {kk : Nat} {tpos p pos : Pos} {Q : Src → Lg → Prop}
theorem gi_enumT (h : GA X [e] η L fun vs L1 => ∃ q xs, vs = [.ref q] ∧ (q, HO.tup xs) ∈ L1 ∧ Q ⟨xs.length, KeepT q xs, itemPr (fun i => some (.int (i : Nat))) (fun i => xs[i]?)⟩ L1) (hm : X.mg "enumerate" = none) (hg : Gl X "enumerate" := by rfl)
    (hs' : starEach [e] X.env = [(false, eval e X.env)] := by rfl) : GI X (.Tuple elts kk tpos) (.Call (.Name "enumerate" p) [e] [] pos) η L Q := fun hN H hH =>
  WI.of (pi_enumT hg hm pa_W hs') (h.then hN hH fun vs L1 H1 k1 ⟨q, xs, e1, m, z⟩ => ⟨q, xs, e1, sqt k1 m, L1, _, k1, SrcOk.of walk_enumT (fun H M hM k => sqt hM k) (fun i H x H' M _ hM _ y => y_pr hM y), z⟩)
end
end G
set_option Elab.async false
set_option linter.all false
set_option maxRecDepth 100000
set_option maxHeartbeats 4000000
namespace G
open PySem PySem.Spec PyProof.Rows L2
abbrev P2 (p : Int × Int) : PyData := .tuple [.int p.1, .int p.2]
def lt2 (p q : Int × Int) : Bool := decide (p.1 < q.1 ∨ (p.1 = q.1 ∧ p.2 < q.2))
/-- pairs in the ledger -/
abbrev Pr2 := Addr × Int × Int
end G
set_option Elab.async false
set_option linter.all false
set_option maxRecDepth 100000
set_option maxHeartbeats 4000000
namespace PySem.W
open PySem PySem.Calls PySem.Spec PyProof.Rows
end PySem.W
namespace G
open PySem PySem.Spec PyProof.Rows L2
section
variable {X : Cx} {CX : CXT} {j k : Nat} {C g a dx p : Addr} {fs : List (Str × V)} {sp : SpL} {El : XL} {L : Lg} {Q : QV} {n : Str}
/-- a property -/
theorem gat_prop (c : Cls X.K C) (hp : PropOf X.K C n p g) (F : RunG X.prog X.w X.K X.mg X.base CX k g argsP (toSp sp)) (hr : RoomG j X.A) (hx : Passes CX X.nox (upX El)) (ma : (a, HO.ins C dx fs) ∈ L) (h : sp [.ref a] L Q El) (hjk : k + 1 ≤ j := by decide) : GAt X n (.ref a) L Q := fun pins s σ H u ex hH I r => by
  obtain rfl : u = Value.ref a := r
  obtain ⟨mA, O, _⟩ := ins_get I.hok (hH.get ma)
  obtain ⟨od, J, _⟩ := O.look
  obtain ⟨rest, hrec⟩ := hp.rec_
  have I1 := I.tok (s.toks + 1)
  have hc : (PySem.W.clsIn X.K C).isSome = true := by
    obtain ⟨cd, hc, _⟩ := PySem.W.any_some c.hd
    rw [hc]
    rfl
  refine PySem.W.get_bind I.kIn J (PySem.W.plainGet_of (c.get n)).1 (PySem.W.findObj_data hc hp.at_ hp.get hp.tak) (PySem.W.plainGet_of (c.get n)).2 (wpAny_call (PySem.W.prop_get (s := { s with toks := s.toks + 1 }) I.kIn hrec ?_))
  refine codeAny_mono (F X.A.in1 X.stack { s with toks := s.toks + 1 } H [.ref a] [.ref a] _ _ (hr.mono hjk).in1 I1.env0.in1 (.cons rfl .nil) (up_sp hH h)) fun r s' hq => ?_
  cases r with
  | error er => exact False.elim (hx pins σ H { s with toks := s.toks + 1 } er s' (I1.wish _) hq)
  | ok fl =>
    cases fl with
    | ret u =>
      obtain ⟨v, H', I3, rv, q3⟩ := I1.after hq
      show wpAny _ _ (handedOut u) _ _ _
      rw [PySem.W.handedOut_of (handed_of rv)]
      exact wpAny_pure ⟨v, H', I3, rv, q3⟩
    | next => exact False.elim hq
    | brk => exact False.elim hq
    | cont => exact False.elim hq
theorem gc_boolB {b : Bool} (h : Q (.bl b) L) : GC X (.type "bool") [.bl b] L Q := GC.of call_bool1 fun H hH => .inr ⟨b, rfl, L, hH, h⟩
end
end G
set_option Elab.async false
set_option linter.all false
set_option maxRecDepth 100000
set_option maxHeartbeats 4000000
namespace G
open PySem PySem.Spec PyProof.Rows L2
end G
namespace G
open PySem PySem.Spec PyProof.Rows L2
end G
set_option Elab.async false
set_option linter.all false
set_option maxRecDepth 100000
set_option maxHeartbeats 4000000
namespace G
open PySem PySem.Spec PyProof.Rows L2
theorem memR {α : Type} {a : α} {l r : List α} (h : a ∈ r) : a ∈ l ++ r := List.mem_append_right _ h
theorem Swap.right {p : Addr} {o : HO} {L M : Lg} (s : Swap p o L M) : ∀ {E : Lg}, Swap p o (E ++ L) (E ++ M)
  | [] => s
  | _ :: E => .there (Swap.right s (E := E))
theorem subl_app {α : Type} {l e r : List α} (h : List.Sublist l r) : List.Sublist l (e ++ r) := h.trans (List.sublist_append_right e r)
section
variable {a b x : Addr × HO} {R L es : Lg}
theorem rotStep (s : Sub (a :: b :: R) L) : Sub (a :: b :: x :: R) (x :: L) := rot12.trans (Sub.cons s)
theorem rotApp (s : Sub (a :: b :: R) L) : Sub (a :: b :: (es ++ R)) (es ++ L) := (rotL es).trans (Sub.append s)
end
/-- the references of entries -/
abbrev refs (es : Lg) : List V := es.map fun e => V.ref e.1
section
variable {X : Cx} {η : En} {L : Lg} {elt iter tg : Expr} {ifs : List Expr} {scope : Scope} {pos p1 p2 p3 : Pos} {x y : Str} {f : V → En} {g : V → V → En} {Q : QV}
/-- a turn: the test, then the element, a new object o -/
abbrev TurnF (X : Cx) (scope : Scope) (ifs : List Expr) (elt : Expr) (R : Lg) (θ : En) (b0 : Bool) (o : HO) : Prop := AllBlk X scope fun B => GTs B ifs θ R fun b M1 => b = b0 ∧ Sub R M1 ∧ (b = true → AllBlk X scope fun B => GE B elt θ M1 fun z M2 => ∃ a, z = .ref a ∧ Sub ((a, o) :: R) M2)
theorem turnF_use {θ : En} {b0 : Bool} {o : HO} {R M : Lg} (h : TurnF X scope ifs elt R θ b0 o) (s : Sub R M) :
    AllBlk X scope fun B => GTs B ifs θ M fun b M1 => b = b0 ∧ Sub R M1 ∧ (b = true → AllBlk X scope fun B => GE B elt θ M1 fun z M2 => ∃ a, z = .ref a ∧ Sub ((a, o) :: R) M2) := fun s1 H1 C1 cl1 fp1 => by
  refine GTs.sub s ?_
  have k := h s1 H1 C1 cl1 fp1
  have key : ∀ b M1, (b = b0 ∧ Sub R M1 ∧ (b = true → AllBlk X scope fun B => GE B elt θ M1 fun z M2 => ∃ a, z = .ref a ∧ Sub ((a, o) :: R) M2)) → ∀ M2, Sub M1 M2 → b = b0 ∧ Sub R M2 ∧ (b = true → AllBlk X scope fun B => GE B elt θ M2 fun z M2 => ∃ a, z = .ref a ∧ Sub ((a, o) :: R) M2) :=
    fun b M1 ⟨e, s1, k⟩ M2 s2 => ⟨e, s1.trans s2, fun hb s3 H3 C3 cl3 fp3 => GE.sub s2 (k hb s3 H3 C3 cl3 fp3)⟩
  match ifs, k with
  | [], k => exact key _ _ k
  | [c], k => exact k.imp key
/-- what such a comprehension is shown of -/
structure FreshC (X : Cx) (scope : Scope) (ifs : List Expr) (elt : Expr) (S : Src) (L : Lg) (st : V → Lg → (En → Lg → Prop) → Prop) (p : Nat → Bool) (pl : Nat → HO) : Prop where
  n : S.n ≤ 1000000
  kp : ∀ M, (∀ e ∈ L, e ∈ M) → S.keep M
  tn : ∀ i x E R M, i < S.n → S.item i x E → ((E ++ M).map (·.1)).Nodup → (∀ e ∈ L, e ∈ R) → Sub R M → st x (E ++ M) fun θ M' => AllBlk X scope fun B => GTs B ifs θ M' fun b M1 => b = p i ∧ Sub R M1 ∧ (b = true → AllBlk X scope fun B => GE B elt θ M1 fun z M2 => ∃ a, z = .ref a ∧ Sub ((a, pl i) :: R) M2)
theorem range_moreO {p : Nat → Bool} {g : Nat → HO} {i : Nat} : ((List.range (i + 1)).filter p).map g = ((List.range i).filter p).map g ++ (if p i = true then [g i] else []) := by
  rw [List.range_succ, List.filter_append, List.map_append]
  congr 1
  by_cases h : p i = true
  · rw [if_pos h, List.filter_cons_of_pos h]
    rfl
  · rw [if_neg h, List.filter_cons_of_neg h]
    rfl
theorem rotE {a b : Addr × HO} {es L : Lg} : Sub (b :: ((es ++ [a]) ++ L)) (b :: a :: (es ++ L)) := Sub.perm (by
  refine .cons b ?_
  rw [List.append_assoc]
  exact List.perm_middle)
theorem rotE2 {a b : Addr × HO} {R : Lg} : Sub (b :: a :: R) (a :: b :: R) := Sub.perm (.swap _ _ _)
theorem FreshC.lc {S : Src} {st : V → Lg → (En → Lg → Prop) → Prop} {p : Nat → Bool} {pl : Nat → HO} (h : FreshC X scope ifs elt S L st p pl) (mono : ∀ v M (k k' : En → Lg → Prop), (∀ θ M', k θ M' → k' θ M') → st v M k → st v M k') (D : Addr)
    (q : ∀ es : Lg, es.map (·.2) = ((List.range S.n).filter p).map pl → Q (.ref D) ((D, .lst (refs es)) :: (es ++ L))) : ∃ Pv, LcS X scope ifs elt S D L st Pv (drp Q) := by
  refine ⟨fun i M => ∃ es : Lg, es.map (·.2) = ((List.range i).filter p).map pl ∧ Sub ((D, .lst (refs es)) :: (es ++ L)) M, ⟨[], rfl, Sub.refl⟩, fun i M _ nd ⟨es, _, s⟩ => h.kp M fun e m => (s.to nd).2 e (List.mem_cons_of_mem _ (memR m)), fun i x E M hi it nd ⟨es, e0, s⟩ => ?_, fun M ⟨es, e0, s⟩ => ⟨_, s, q es e0⟩⟩
  refine mono x (E ++ M) _ _ (fun θ M' k => ?_) (h.tn i x E _ M hi it nd (fun e m => List.mem_cons_of_mem _ (memR m)) s)
  intro s1 H1 C1 cl1 fp1
  have k1 := k s1 H1 C1 cl1 fp1
  have more := range_moreO (p := p) (g := pl) (i := i)
  have key : ∀ b M1, (b = p i ∧ Sub ((D, .lst (refs es)) :: (es ++ L)) M1 ∧ (b = true → AllBlk X scope fun B => GE B elt θ M1 fun z M2 => ∃ a, z = .ref a ∧ Sub ((a, pl i) :: (D, .lst (refs es)) :: (es ++ L)) M2)) →
      if b = true then AllBlk X scope fun B => GE B elt θ M1 fun y M2 => ∃ acc M3, (D, HO.lst acc) ∈ M2 ∧ acc.length < sizeLine ∧ Swap D (.lst (acc ++ [y])) M2 M3 ∧ ∃ es : Lg, es.map (·.2) = ((List.range (i + 1)).filter p).map pl ∧ Sub ((D, .lst (refs es)) :: (es ++ L)) M3
      else ∃ es : Lg, es.map (·.2) = ((List.range (i + 1)).filter p).map pl ∧ Sub ((D, .lst (refs es)) :: (es ++ L)) M1 := fun b M1 ⟨eb, sb, hb⟩ => by
    cases b with
    | true =>
      rw [if_pos rfl]
      intro s2 H2 C2 cl2 fp2
      refine GE.nd ((hb rfl s2 H2 C2 cl2 fp2).imp fun y M2 ⟨a, ey, s3⟩ nd => ?_)
      have s4 : Sub ((D, .lst (refs es)) :: (a, pl i) :: (es ++ L)) M2 := rotE2.trans s3
      have m2 := (s4.to nd).2 _ List.mem_cons_self
      obtain ⟨M3, sw⟩ := Swap.ex (o := .lst (refs es ++ [y])) (u := .lst (refs es)) rfl m2
      have len : es.length ≤ i := by
        have e1 := congrArg List.length e0
        rw [List.length_map, List.length_map] at e1
        have := List.length_filter_le p (List.range i)
        rw [List.length_range] at this
        omega
      refine ⟨_, M3, m2, ?_, sw, es ++ [(a, pl i)], ?_, ?_⟩
      · rw [List.length_map, sizeLine_eq]
        have := h.n
        omega
      · rw [more, if_pos eb.symm, List.map_append, e0]
        rfl
      · subst ey
        have z : Sub ((D, .lst (refs es ++ [V.ref a])) :: (a, pl i) :: (es ++ L)) M3 := s4.swap sw
        have e2 : refs (es ++ [(a, pl i)]) = refs es ++ [V.ref a] := by
          show List.map _ _ = _
          rw [List.map_append]
          rfl
        rw [e2]
        exact rotE.trans z
    | false =>
      rw [if_neg Bool.false_ne_true]
      refine ⟨es, ?_, sb⟩
      rw [more, if_neg (by rw [← eb]; exact Bool.false_ne_true), List.append_nil]
      exact e0
  match ifs, k1 with
  | [], k1 => exact key _ _ k1
  | [c], k1 => exact k1.imp fun b M1 z => key b M1 z
def FreshL (X : Cx) (scope : Scope) (ifs : List Expr) (elt : Expr) (st : V → Lg → (En → Lg → Prop) → Prop) (R : V → Lg → Prop) (S : Src) (L1 : Lg) : Prop := ∃ p pl, FreshC X scope ifs elt S L1 st p pl ∧ ∀ D es, es.map (·.2) = ((List.range S.n).filter p).map pl → R (.ref D) ((D, .lst (refs es)) :: (es ++ L1))
/-- [elt for x in iter if ..], each turn makes one new object -/
theorem ge_lcF (P : PutF x η f) (h : GI X (.Name x p1) iter η L (FreshL X scope ifs elt (stOne f) Q)) (hb : blkC X.N X.env.scope scope [(x, X.N.idxOf x)] = true) (hlx : LocB X scope x := by exact fun _ _ _ _ _ => ⟨.inl rfl, .inr rfl⟩)
    (hN : X.N.Nodup := by assumption) (hc : X.calm = true := by rfl) (hs : ∀ z, foldedSetIterable iter X.env z = pure z := by intro _; rfl) : GE X (.ListComp elt [⟨.Name x p1, iter, ifs, 0⟩] scope pos) η L Q :=
  GE.undrp (ge_lc1 P (h.imp fun S L1 ⟨p, g, pc, q⟩ D => pc.lc monoOne D (q D)) hb hlx hN hc hs)
variable {R : V → Lg → Prop} {q : Addr} {o : HO} {xs : List V} {p : Nat → Bool} {pl : Nat → HO}
/-- over a row -/
theorem fresh_rowO (mq : (q, o) ∈ L) (hl : xs.length ≤ 1000000) (ht : ∀ i v R, xs[i]? = some v → (∀ e ∈ L, e ∈ R) → TurnF X scope ifs elt R (f v) (p i) (pl i)) (r : ∀ D es, es.map (·.2) = ((List.range xs.length).filter p).map pl → R (.ref D) ((D, .lst (refs es)) :: (es ++ L))) : FreshL X scope ifs elt (stOne f) R ⟨xs.length, fun M => (q, o) ∈ M, itemAt xs⟩ L := by
  refine ⟨p, pl, ⟨hl, fun M h => h _ mq, fun i x E R M hi ⟨hx, hE⟩ _ hR s => ?_⟩, r⟩
  subst hE
  exact turnF_use (ht i x R hx hR) s
theorem fresh_list (mq : (q, HO.lst xs) ∈ L) (hl : xs.length ≤ 1000000) (ht : ∀ i v R, xs[i]? = some v → (∀ e ∈ L, e ∈ R) → TurnF X scope ifs elt R (f v) (p i) (pl i)) (r : ∀ D es, es.map (·.2) = ((List.range xs.length).filter p).map pl → R (.ref D) ((D, .lst (refs es)) :: (es ++ L))) : FreshL X scope ifs elt (stOne f) R ⟨xs.length, KeepL q xs, itemAt xs⟩ L := fresh_rowO mq hl ht r
/-- over a range -/
theorem fresh_fn {n : Nat} {h : Nat → V} (hl : n ≤ 1000000) (ht : ∀ i R, i < n → (∀ e ∈ L, e ∈ R) → TurnF X scope ifs elt R (f (h i)) (p i) (pl i)) (r : ∀ D es, es.map (·.2) = ((List.range n).filter p).map pl → R (.ref D) ((D, .lst (refs es)) :: (es ++ L))) : FreshL X scope ifs elt (stOne f) R ⟨n, fun _ => True, itemFn h⟩ L := by
  refine ⟨p, pl, ⟨hl, fun M h => True.intro, fun i x E R M hi ⟨hx, hE⟩ _ hR s => ?_⟩, r⟩
  subst hE hx
  exact turnF_use (ht i R hi hR) s
end
section
variable {X : Cx} {η : En} {L : Lg} {a b c : Expr} {op op' : CmpOp} {pos : Pos} {Q : Bool → Lg → Prop}
/-- a < b < c as a test -/
theorem gt_chain (h : GE X a η L fun x L1 => GE X b η L1 fun y L2 => GOp X (compareOp op) x y L2 fun z L3 => ∃ k, z = .bl k ∧ if k = true then GE X c η L3 fun w L4 => GOp X (compareOp op') y w L4 fun z L5 => ∃ k, z = .bl k ∧ Q k L5 else Q false L3)
    (hm : lastMarks [op, op'] [b, c] = false := by with_unfolding_all rfl) : GT X (.Compare a [op, op'] [b, c] pos) η L Q := fun hN H hH =>
  WT.of (pt_chain (r := fun x y H' Q' => ∀ pins s σ v u, Inv X pins σ H' s → RelV x v → RelV y u → wpAny (model X.prog X.w) X.A (compareOp op v u) (EP X pins σ Q') X.xe s)
    (r' := fun x y H' Q' => ∀ pins s σ v u, Inv X pins σ H' s → RelV x v → RelV y u → wpAny (model X.prog X.w) X.A (compareOp op' v u) (EP X pins σ Q') X.xe s)
    (fun pins s σ H' x y v u Q' I r1 r2 q => q pins s σ v u I r1 r2) (fun pins s σ H' x y v u Q' I r1 r2 q => q pins s σ v u I r1 r2) pe_W pe_W pe_W hm)
    (h.then hN hH fun x _ _ h1 q1 => q1.then hN h1 fun y _ _ h2 q2 => fun pins s σ v u I r1 r2 => by
      refine wpAny_mono (q2 pins s σ _ v u h2 I r1 r2) (fun z s' zz => ?_) fun _ _ z => z
      obtain ⟨zv, H3, I3, r3, L3, h3, k, ek, q3⟩ := zz
      refine ⟨zv, H3, I3, r3, k, ek, ?_⟩
      cases k with
      | true =>
        rw [if_pos rfl] at q3
        rw [if_pos rfl]
        exact q3.then hN h3 fun w L4 H4 h4 q4 => fun pins s σ v u I r1 r2 => thn (q4 pins s σ _ v u h4 I r1 r2) fun _ _ ⟨z, H5, J, r5, L5, h5, k5, ek5, q5⟩ => ⟨z, H5, J, r5, k5, ek5, L5, h5, q5⟩
      | false =>
        rw [if_neg Bool.false_ne_true] at q3
        rw [if_neg Bool.false_ne_true]
        exact ⟨false, rfl, L3, h3, q3⟩)
end
theorem sh_tuple {n k m : Nat} {xs : List PyData} (h : ∀ x ∈ xs, Sh x n k) (hm : xs.length ≤ m) : Sh (.tuple xs) (n * m + 2 * m + 3) (k + 1) := by
  have a := lenAll_of h
  have b := tupleText_len_le (PyData.shownAll xs)
  have c : n * xs.length ≤ n * m := Nat.mul_le_mul_left _ hm
  refine ⟨by rw [PyData.showable]; exact showAll_of h, by rw [PyData.depth]; exact Nat.succ_le_succ (depthAll_of h), by rw [PyData.shown]; omega⟩
theorem gat_fldA {X : Cx} {L : Lg} {Q : QV} {a C dx : Addr} {fs : List (Str × V)} {n : Str} {v : V} (mm : (a, HO.ins C dx fs) ∈ L) (c : L2.Cls X.K C) (no : NoAttr X.K C n) (l : fs.lookup n = some v) (q : Q v L) : GAt X n (.ref a) L Q := gat_fld c no mm l q
end G
set_option Elab.async false
set_option linter.all false
set_option maxRecDepth 100000
set_option maxHeartbeats 4000000
namespace G
open PySem PySem.Spec PyProof.Rows L2 NdefX ClX
def GAs (X : Cx) (B sts : List Stmt) (D : GD) (η : En) (L : Lg) : Prop := X.N = names η → ∀ H, Has H L → AtSs X B sts (D.ends X) (vals η) H
section
variable {X : Cx} {CX : CXT} {B rest : List Stmt} {D : GD} {W : XW} {η : En} {L : Lg} {x q n : Str} {st : Stmt} {f c cc D0 C a dx g : Addr} {fd : FuncData} {ar : Arg} {fs : List (Str × V)} {sp : SpL} {El : XL} {j k : Nat} {e : Expr} {es : List Expr} {p0 p1 p2 p3 p4 : Pos} {pl : Sem Bool}
/-- the same where the def above may raise -/
theorem gas_supX (F : SupF X.prog X.K x q st f c cc D0 fd) (T : SupM X.K X.mg C D0 n g) (hfu : X.env.func = some f) (hco : X.env.code = .ref c) (hcl : X.env.cells.lookup ("__class__" : Str) = some cc) (hp : (fd.params.posonlyargs ++ fd.params.args).head? = some ar)
    (hks : X.env.kindOf "super" = some .globalImplicit) (hkc : X.env.kindOf "__class__" = some .free) (hka : X.env.kindOf ar.arg = some .local)
    (R : RunG X.prog X.w X.K X.mg X.base (L2.CX X.prog X.w) k g argsP (toSp sp)) (hr : RoomG j X.A) (tk : Tk X W) (hat : At ar.arg (.ref a) η) (mm : (a, HO.ins C dx fs) ∈ L)
    (h : ∀ u, GA X (e :: es) η ((u, .met g a) :: L) fun vs L1 => (u, HO.met g a) ∈ L1 ∧ sp (.ref a :: vs) L1 (fun _ L2 => GSs X rest D η L2) fun c d L' => W c d η L') (hjk : k ≤ j := by decide)
    (hn : (n == ("__class__" : Str)) = false := by decide) (he : starEach (e :: es) X.env = (false, eval e X.env) :: starEach es X.env := by rfl) (hpl : (backTo p3 (starEach es X.env)).any (·.1) = false := by rfl) (hint : interactive X.env = false := by rfl)
    (hsw : swapsWith (.Call (.Attribute (.Call (.Name "super" p0) [] [] p1) n p2) (e :: es) [] p3) none p4.line X.env = pure false := by rfl)
    (hev : eval (.Call (.Attribute (.Call (.Name "super" p0) [] [] p1) n p2) (e :: es) [] p3) X.env = (do
      let ov ← attributeBase (.Call (.Name "super" p0) [] [] p1) n X.env (eval (.Call (.Name "super" p0) [] [] p1) X.env)
      standAt p2.atName
      let (ff, first) ← holding [ov] (getMethod ov n pl)
      callWith p3 ff first (backTo p3 (starEach (e :: es) X.env)) []) := by rfl) :
    GAs X B (.Expr (.Call (.Attribute (.Call (.Name "super" p0) [] [] p1) n p2) (e :: es) [] p3) p4 :: rest) D η L := fun hN H hH pins s I => by
  obtain ⟨oc, od, kV, doc, pm, ct, an, osl, efd, lk⟩ := F.ex
  obtain ⟨ccl, cdd, vs, ccs, fl, tf, lc, hvs, hfile⟩ := F.file
  obtain ⟨cl, cld, csl, hcell⟩ := F.cell
  obtain ⟨cdD, hD⟩ := F.cls
  obtain ⟨mb, hb1, hb2⟩ := I.mod.blt
  obtain ⟨oD, hD1, hD2⟩ : ∃ oD, s.heap.get? D0 = some oD ∧ oD.data = .cls cdD := by
    unfold PySem.W.clsIn at hD
    split at hD
    · rename_i c' d' cd' sl' ho
      cases hD
      exact ⟨_, I.kIn _ _ ho, rfl⟩
    · cases hD
  obtain ⟨cdC, hcC⟩ := T.cls
  obtain ⟨i, hi, hs⟩ := hat.idx
  obtain ⟨mA, O, _, _, _, _⟩ := ins_get I.hok (hH.get mm)
  obtain ⟨oda, IA, _⟩ := O.look
  have xC : a ≠ C := PySem.W.ks_ne I.kIn IA hcC
  refine _root_.PySem.ks_wpAt_execs_cons (_root_.PySem.ks_wpAt_Expr_any (_root_.PySem.ks_wpAt_MethodCall (pl := pl) (_root_.PySem.ks_wpAt_super_base hks hkc hn hfu (I.kIn _ _ lk) rfl hp hco (I.kIn _ _ lc) rfl hvs hfile F.top ?_) hev) hint hsw)
  refine PySem.W.ks_loadName_global I.ok.kind hks (Calls.loadGlobal_builtin (by rw [I.ok.glob]; exact I.mod.glob.keeps I.bk) T.su (by rw [I.ok.blt]; exact hb1.keeps I.bk) ((hb2 _ (by decide)).trans (by decide +kernel)) ⟨rfl, ?_⟩)
  refine wpAny_loadName_free I.ok.kind hkc hcl ⟨_, I.kIn _ _ hcell, rfl⟩ ?_
  obtain ⟨m, hns, hl⟩ := id I.loc
  obtain ⟨u, r, qq⟩ := hl i _ _ (by rw [hN]; exact hi) hs (.inl hka)
  obtain rfl : u = Value.ref a := r
  rcases qq with ⟨_, em⟩ | ⟨kk, _⟩
  · refine wpAny_loadName_local I.ok.kind hka hns em ?_
    obtain ⟨hp', g', d, t, os⟩ := s
    refine _root_.PySem.ks_wpAny_isType_cls hD1 hD2 ⟨rfl, ?_⟩
    refine _root_.PySem.ks_wpAny_call_super hD1 hD2 IA.at_ IA.cls (fun c e => ?_) (PySem.W.looks_mroIn I.kIn T.sub) (fun h' eS kS => ?_)
    · have := IA.no
      unfold PySem.W.notCls at this
      rw [e] at this
      exact Bool.noConfusion this
    have J1 : Inv X pins (vals η) H ⟨h', g', d, t, os⟩ := I.kept (t' := t) kS
    have sm' := T.sm
    unfold PySem.W.ks_superIn at sm'
    rw [hcC] at sm'
    obtain ⟨of, hof, hofc⟩ : ∃ of, h'.get? g = some of ∧ of.cls = .type "function" := by
      have ht' : (X.K.lookup g).map (·.cls) = some (.type "function") := T.tg
      cases z : X.K.lookup g with
      | none => rw [z] at ht'; cases ht'
      | some of => rw [z] at ht'; exact ⟨of, J1.kIn _ _ z, Option.some.inj ht'⟩
    refine _root_.PySem.ks_wpAny_getMethod_super eS (PySem.W.looks_opaque J1.kIn T.op) ((PySem.W.looks_clsIn J1.kIn hcC).andThen .now) rfl J1.kIn sm' hof hofc xC hn ?_
    have nu : H h'.objs.size = none := J1.hok.fresh (Nat.le_refl _)
    have J2 : Inv X pins (vals η) (upd H h'.objs.size (.met g a)) ⟨h'.push { cls := .type "method", data := .fields #[.ref g, .ref a] }, g', d, t + 1, os⟩ :=
      J1.laid (t' := t + 1) (a := h'.objs.size) (fun b o z => Heap.get?_push_of_some _ z) (Nat.le_refl _) (Heap.get?_push_size _ rfl)
    show wpAny _ _ (callWith p3 (Value.ref h'.objs.size) [] (backTo p3 (starEach (e :: es) X.env)) []) _ _ _
    have hpa := h h'.objs.size hN _ (hH.new nu) p3 pins _ J2
    rw [he] at hpa ⊢
    refine callwith_met (X := X) (g := g) (a := a) (by show ((false || (backTo p3 (starEach es X.env)).any (·.1)) || false) = false; rw [hpl]; rfl) T.fi (Calls.evalArgs_plain (thn hpa fun us s1 ⟨vs', H1, J3, r1, L1, h1, e1, qk⟩ => ?_))
    refine ⟨met_P J3 (h1.get e1), ?_⟩
    show wpAny _ _ (call (Value.ref h'.objs.size) us) _ _ _
    have hsp : toSp sp (.ref a :: vs') H1 (up fun _ L2 => GSs X rest D η L2) (fun c d H' => upW X W c d (vals η) H') := ⟨L1, _, _, h1, qk, fun _ L' _ h' q => ⟨L', h', q⟩, fun _ _ L' _ h' q => ⟨η, L', hN, rfl, h', q⟩⟩
    refine wpAny_call (call_met J3 (h1.get e1) (codeAny_mono (R _ X.stack s1 H1 (.ref a :: us) (.ref a :: vs') _ _ (hr.mono hjk) J3.env0 (.cons rfl r1) hsp) fun r s' hq => ?_))
    cases r with
    | error e => exact passAt tk (vals η) pins H1 _ e s' J3 hq
    | ok fl =>
      cases fl with
      | ret w =>
        obtain ⟨v, H', J4, rv, L2, h2, qf⟩ := J3.after hq
        exact AtSs.any (qf hN H' h2) pins s' J4
      | next => exact hq.elim
      | brk => exact hq.elim
      | cont => exact hq.elim
  · rcases kk with kk | kk
    · have z := kk.symm.trans hka
      cases z
    · have z := kk.symm.trans hka
      cases z
end
/-- what such a method lets out is taken -/
theorem tk_sup {P : Program} {w : World} {K : PySem.W.Frag} {mg : Str → Option Value} {base : Heap} {N : List Str} {x q : Str} {st : Stmt} {cc c f : Addr} {A : Around} {outer : List Env} {s : Shared} {H : Hp} {E0 : XK} {E : XL} (he : ∀ c d L' H', Has H' L' → E c d L' → E0 c d H') :
    Tk (cxS (L2.CX P w) P w K mg base N x q st cc c f A outer s H E0) (fun c d _ L' => drpE E c d L') :=
  (takes_of rfl rfl rfl rfl).imp fun c d σ H' ⟨η, L', _, _, h', M, sb, z⟩ => he c d M H' (sb _ h') z
section
variable {X : Cx} {CX : CXT} {j k : Nat} {C g a b dx dy : Addr} {fs gs : List (Str × V)} {sp : SpL} {El : XL} {L : Lg} {Q : QV} {y : V} {T : String} {r : Bool}
theorem gc_isKO (ky : Knd L y T) (e : PySem.W.kitOne X.K (.type T) (.ref C) = some r) (h : Q (.bl r) L) : GC X (.builtin "isinstance") [y, .ref C] L Q := GC.of call_isi fun H hH => ⟨y, .ref C, .type T, .ref C, r, rfl, .own C, ky.ty H hH, e, L, hH, h⟩
/-- str(x) by an own __str__ -/
theorem gc_strM (hs : PySem.W.findIn X.K (.ref C) "__str__" = some (some (.ref g))) (hf : PySem.W.isFn X.K (.ref g) = true) (F : RunG X.prog X.w X.K X.mg X.base CX k g argsP (toSp sp)) (hr : RoomG j X.A) (hx : Passes CX X (upX El)) (ma : (a, HO.ins C dx fs) ∈ L)
    (h : sp [.ref a] L (fun v L' => ∃ z, v = .str z ∧ Q (.str z) L') El) (hjk : k + 2 ≤ j := by decide) : GC X (.type "str") [.ref a] L Q := fun pins s σ H us hH I rr => by
  rw [Vals.ref1 rr]
  obtain ⟨oe, od, J⟩ := ins_inst I hH ma
  have hu : X.A.in1.in1.units < cLine := ((hr.mono hjk).in1).in1.toRoom.units0
  refine PySem.W.kso_call hu I.kIn J hs hf (wpAny_call (codeAny_mono (F X.A.in1.in1 X.stack s H [.ref a] [.ref a] _ _ ((hr.mono hjk).in1).in1 I.env0.in1.in1 (.cons rfl .nil) (up_sp hH h)) fun r s' hq => ?_))
  cases r with
  | error e => exact hx pins σ H s e s' I hq
  | ok fl =>
    cases fl with
    | ret w =>
      obtain ⟨z, H', I', rz, L', h', y, ez, q⟩ := I.after hq
      subst ez
      obtain ⟨t, rfl⟩ : ∃ t, w = Value.str y t := rz
      exact ⟨.str y, H', I', ⟨t, rfl⟩, L', h', q⟩
    | next => exact hq.elim
    | brk => exact hq.elim
    | cont => exact hq.elim
end
def GJs (X : Cx) (es : List Expr) (η : En) (acc : Str) (L : Lg) (Q : Str → Lg → Prop) : Prop := match es with
  | [] => Q acc L
  | e :: r => GE X e η L fun x L1 => ∃ y : Str, x = .str y ∧ (acc ++ y).length ≤ sizeLine ∧ GJs X r η (acc ++ y) L1 Q
section
variable {X : Cx} {η : En} {L : Lg} {Q : QV} {e : Expr} {pos : Pos}
theorem pj_W : ∀ {es : List Expr}, PJ X es (es.map (WE X))
  | [] => .nil
  | _ :: _ => .cons pe_W pj_W
theorem GJs.to : ∀ {es : List Expr} {acc : Str} {L : Lg} {Q : Str → Lg → Prop} {Q' : Str → Hp → Prop}, GJs X es η acc L Q → X.N = names η → ∀ {H : Hp}, Has H L → (∀ v L1 H1, Has H1 L1 → Q v L1 → Q' v H1) → tJs (es.map (WE X)) acc (vals η) H Q'
  | [], acc, L, Q, Q', h, hN, H, hH, m => m _ _ _ hH h
  | e :: r, acc, L, Q, Q', h, hN, H, hH, m => GE.then h hN hH fun x L1 H1 h1 ⟨y, ey, z, q⟩ => ⟨y, ey, z, GJs.to q hN h1 m⟩
theorem ge_joined {v1 v2 : Expr} {rest : List Expr} (h : GJs X (v1 :: v2 :: rest) η Str.empty L fun out L1 => Q (.str out) L1) : GE X (.JoinedStr (v1 :: v2 :: rest) pos) η L Q := fun hN H hH =>
  WE.of (pe_joined pj_W) (GJs.to h hN hH fun v L1 H1 h1 q => ⟨L1, h1, q⟩)
theorem ge_fmtI (h : GE X e η L fun x L1 => ∃ i : Int, x = .int i ∧ i.natAbs.log2 < 1920 ∧ Q (.str (toString i)) L1) : GE X (.FormattedValue e (-1) none pos) η L Q := fun hN H hH =>
  WE.of (pe_fmt pe_W) (h.then hN hH fun x L1 H1 h1 ⟨i, ex, z, q⟩ => .inr ⟨i, ex, z, L1, h1, q⟩)
/-- parts, with the length so far -/
theorem gjs_int {acc : Str} {n : Nat} {r : List Expr} {Q : Str → Lg → Prop} (ha : acc.length ≤ n) (hn : n ≤ 1000000) (h : GE X e η L fun x L1 => ∃ i : Int, x = .int i ∧ i.natAbs < 2 ^ 1920 ∧ ((acc ++ toString i).length ≤ n + 1921 → GJs X r η (acc ++ toString i) L1 Q)) : GJs X (.FormattedValue e (-1) none pos :: r) η acc L Q :=
  ge_fmtI (h.imp fun x L1 ⟨i, ex, hi, q⟩ => by
    have l := int_text_len_1921 (log_lt hi)
    have l2 : (acc ++ toString i).length ≤ n + 1921 := by
      rw [Str.length_append]
      omega
    exact ⟨i, ex, log_lt hi, _, rfl, by rw [sizeLine_eq]; omega, q l2⟩)
theorem gjs_lit {acc z : Str} {n : Nat} {r : List Expr} {j} {Q : Str → Lg → Prop} (ha : acc.length ≤ n) (hn : n ≤ 1000000) (h : (acc ++ z).length ≤ n + 100 → GJs X r η (acc ++ z) L Q) (hz : z.length ≤ 100 := by decide) : GJs X (.Constant (.str z) j pos :: r) η acc L Q := by
  have l2 : (acc ++ z).length ≤ n + 100 := by
    rw [Str.length_append]
    omega
  exact ge_str ⟨z, rfl, by rw [sizeLine_eq]; omega, h l2⟩
end
end G
set_option Elab.async false
set_option linter.all false
set_option maxRecDepth 100000
set_option maxHeartbeats 4000000
namespace PySem.W
open PySem PySem.Calls PyProof.Rows
end PySem.W
namespace G
open PySem PySem.Spec PyProof.Rows L2
/-- one entry's place -/
theorem Swap.lens {p : Addr} {o : HO} {L M : Lg} (s : Swap p o L M) : ∃ f : HO → Lg, f o = M ∧ (∀ o', Swap p o' L (f o')) ∧ ∀ o1 o2, plain o1 = true → Swap p o2 (f o1) (f o2) := by
  induction s with
  | @here u L pl => exact ⟨fun o => (p, o) :: L, rfl, fun _ => .here pl, fun _ _ h => .here h⟩
  | @there e L M s ih =>
    obtain ⟨f, a, b, c⟩ := ih
    exact ⟨fun o => e :: f o, congrArg (e :: ·) a, fun o => .there (b o), fun o1 o2 h => .there (c o1 o2 h)⟩
end G
set_option Elab.async false
set_option linter.all false
set_option maxRecDepth 100000
set_option maxHeartbeats 4000000
namespace PySem.HandSPX
open Builtin Builtin.ObjectAttr
end PySem.HandSPX
set_option Elab.async false
set_option linter.all false
set_option maxRecDepth 100000
set_option maxHeartbeats 4000000
namespace G
open PySem PySem.Spec PyProof.Rows L2 NdefX
section
variable {X : Cx} {η : En} {L : Lg} {Q : QV} {j : Nat} {x : Str} {C : Addr} {ns : List Str} {args : List Value → Args} {pmU : List Value → List Value} {pmV : List V → List V}
/-- a class without own __init__ -/
structure ErrN (K : PySem.W.Frag) (mg : Str → Option Value) (x : Str) (C : Addr) : Prop where
  gC : mg x = some (.ref C)
  kC : PySem.W.keepIn K (.ref C) = true
  q : ∃ bmB B newId initId, ExcBaseFacts B newId initId bmB ∧ PySem.W.excIn K C bmB newId = true
end
section
variable {X : Cx} {η : En} {L : Lg} {Q : QV} {a C D dd : Addr} {fs : List (Str × V)} {c v : V} {cv : Value} {b : Bool} {n : Str}
/-- an error object in the ledger, of one class -/
inductive ErO (C : Addr) (a : Addr) (L : Lg) : Prop
  | own {dd : Addr} {fs : List (Str × V)} (m : (a, exo a C (some dd)) ∈ L) (md : (dd, exd dd fs) ∈ L) : ErO C a L
  | bare (m : (a, ExO (.ref C) a) ∈ L) : ErO C a L
theorem ErO.mono {L M : Lg} (h : ErO C a L) (s : ∀ e ∈ L, e ∈ M) : ErO C a M := by
  cases h with
  | own m md => exact .own (s _ m) (s _ md)
  | bare m => exact .bare (s _ m)
end
end G
set_option Elab.async false
set_option linter.all false
set_option maxRecDepth 100000
set_option maxHeartbeats 4000000
namespace G
open PySem PySem.Spec PyProof.Rows L2
/-- v is the value d, read without sys.modules -/
def RdS (L : Lg) (v : V) (d : PyData) : Prop := ∀ (X : Cx) (pins : List (Addr × Obj)) (σ : L2.St) (H : Hp) (s : Shared) (u : Value), Has H L → Inv X pins σ H s → RelV v u → ∃ as, Reads s.heap u d as ∧ sysModules ∉ as
section
variable {L : Lg} {v : V} {d : PyData} {p : Addr} {x : Str} {i : Int} {vs : List V} {ds : List PyData}
theorem RdS.rd (h : RdS L v d) : Rd L v d := fun X pins σ H s u hH I r => by
  obtain ⟨as, q, n⟩ := h X pins σ H s u hH I r
  exact ⟨as, q, fun _ => n⟩
theorem RdS.sub {M : Lg} (s : Sub L M) (h : RdS L v d) : RdS M v d := fun X pins σ H s' u hH I r => h X pins σ H s' u (s H hH) I r
/-- values in a row -/
inductive RdA (L : Lg) : List V → List PyData → Prop
  | nil : RdA L [] []
  | cons {v : V} {d : PyData} {vs : List V} {ds : List PyData} (h : RdS L v d) (r : RdA L vs ds) : RdA L (v :: vs) (d :: ds)
theorem RdA.run {X : Cx} {pins : List (Addr × Obj)} {σ : L2.St} {H : Hp} {s : Shared} (hH : Has H L) (I : Inv X pins σ H s) : ∀ {vs : List V} {ds : List PyData} {us : List Value}, RdA L vs ds → Vals vs us → ∃ as, ReadsAll s.heap us ds as ∧ sysModules ∉ as
  | _, _, _, .nil, .nil => ⟨[], .nil, by simp⟩
  | _, _, _, .cons h r, .cons q t => by
    obtain ⟨as, a1, a2⟩ := h X pins σ H s _ hH I q
    obtain ⟨bs, b1, b2⟩ := r.run hH I t
    exact ⟨as ++ bs, .cons a1 b1, by simp [a2, b2]⟩
end
/-- a value that is shown, alone or in a list -/
structure OddS (L : Lg) (v : V) (d : PyData) : Prop where
  o : Odd L v d
  r : RdS L v d
  dp : d.depth ≤ 10
theorem OddS.drop {L : Lg} {v : V} {d : PyData} {a : Addr × HO} (h : OddS L v d) : OddS (a :: L) v d := ⟨h.o.drop, h.r.sub Sub.drop, h.dp⟩
theorem OddS.app {L : Lg} {v : V} {d : PyData} : ∀ (l : Lg), OddS L v d → OddS (l ++ L) v d
  | [], h => h
  | a :: l, h => (OddS.app l h).drop
end G
set_option Elab.async false
set_option linter.all false
set_option maxRecDepth 100000
set_option maxHeartbeats 4000000
namespace G
open PySem PySem.Spec PyProof.Rows L2
section
variable {X : Cx} {L : Lg} {Q : QV} {q : Addr}
theorem gc_allB {bs : List Bool} (hc : X.calm = true) (m : (q, HO.lst (bs.map V.bl)) ∈ L) (h : Q (.bl (bs.all id)) L) : GC X (.builtin "all") [.ref q] L Q := GC.of (cr_all hc) fun H hH => ⟨q, bs, rfl, sql hH m, L, hH, h⟩
theorem gc_max2 {i j : Int} (hc : X.calm = true) (h : Q (.int (if j > i then j else i)) L) : GC X (.builtin "max") [.int i, .int j] L Q := GC.of (call_max2 hc) fun H hH => ⟨i, j, rfl, L, hH, h⟩
end
theorem bt_any : bootBuiltins "any" = some (.builtin "any") := by decide +kernel
theorem bt_all : bootBuiltins "all" = some (.builtin "all") := by decide +kernel
theorem bt_sum : bootBuiltins "sum" = some (.builtin "sum") := by decide +kernel
theorem bt_max : bootBuiltins "max" = some (.builtin "max") := by decide +kernel
section
variable {X : Cx} {η : En} {L : Lg} {Q : QV} {e : Expr} {es : List Expr} {pos p : Pos}
theorem gb_any (B : Bi X.mg) (h : GA X (e :: es) η L fun xs L1 => GC X (.builtin "any") xs L1 Q) (hg : Gl X "any" := by rfl) (he : starEach (e :: es) X.env = (false, eval e X.env) :: starEach es X.env := by rfl) (hpl : (backTo pos (starEach es X.env)).any (·.1) = false := by rfl) :
    GE X (.Call (.Name "any" p) (e :: es) [] pos) η L Q := ge_B B.any bt_any h hg (by decide) (by decide) he hpl
theorem gb_all (B : Bi X.mg) (h : GA X (e :: es) η L fun xs L1 => GC X (.builtin "all") xs L1 Q) (hg : Gl X "all" := by rfl) (he : starEach (e :: es) X.env = (false, eval e X.env) :: starEach es X.env := by rfl) (hpl : (backTo pos (starEach es X.env)).any (·.1) = false := by rfl) :
    GE X (.Call (.Name "all" p) (e :: es) [] pos) η L Q := ge_B B.all bt_all h hg (by decide) (by decide) he hpl
theorem gb_sum (B : Bi X.mg) (h : GA X (e :: es) η L fun xs L1 => GC X (.builtin "sum") xs L1 Q) (hg : Gl X "sum" := by rfl) (he : starEach (e :: es) X.env = (false, eval e X.env) :: starEach es X.env := by rfl) (hpl : (backTo pos (starEach es X.env)).any (·.1) = false := by rfl) :
    GE X (.Call (.Name "sum" p) (e :: es) [] pos) η L Q := ge_B B.sum bt_sum h hg (by decide) (by decide) he hpl
theorem gb_max (B : Bi X.mg) (h : GA X (e :: es) η L fun xs L1 => GC X (.builtin "max") xs L1 Q) (hg : Gl X "max" := by rfl) (he : starEach (e :: es) X.env = (false, eval e X.env) :: starEach es X.env := by rfl) (hpl : (backTo pos (starEach es X.env)).any (·.1) = false := by rfl) :
    GE X (.Call (.Name "max" p) (e :: es) [] pos) η L Q := ge_B B.max bt_max h hg (by decide) (by decide) he hpl
end
theorem cut_front {ms : List V} {l : V} : cutV (ms ++ [l]) none (some (-1)) = ms := by
  unfold cutV
  have e1 : HT.sIx (ms ++ [l]).length 0 none = 0 := rfl
  have e2 : HT.sIx (ms ++ [l]).length (ms ++ [l]).length (some (-1)) = ms.length := by
    show (if (-1 : Int) < 0 then ((-1 : Int) + ((ms ++ [l]).length : Int)).toNat else min (-1 : Int).toNat (ms ++ [l]).length) = _
    rw [if_pos (by decide), List.length_append, List.length_singleton]
    omega
  rw [e1, e2, List.drop_zero, Nat.sub_zero, List.take_left]
def Prs2 (ps : List Pr2) (L : Lg) : Prop := ∀ e ∈ ps, (e.1, HO.tup [.int e.2.1, .int e.2.2]) ∈ L
theorem Prs2.mono {ps : List Pr2} {L M : Lg} (h : Prs2 ps L) (s : ∀ e ∈ L, e ∈ M) : Prs2 ps M := fun e he => s _ (h e he)
theorem Prs2.snoc {ps : List Pr2} {e : Pr2} {L : Lg} (h : Prs2 ps L) (k : (e.1, HO.tup [.int e.2.1, .int e.2.2]) ∈ L) : Prs2 (ps ++ [e]) L := fun x hx => by
  rcases List.mem_append.mp hx with hx | hx
  · exact h x hx
  · rw [List.mem_singleton.mp hx]
    exact k
theorem GG.nd {X : Cx} {tg : Expr} {v : V} {η : En} {L : Lg} {Q : En → Lg → Prop} (h : (L.map (·.1)).Nodup → GG X tg v η L Q) : GG X tg v η L Q := fun hN H hH => h hH.1 hN H hH
theorem filter_listA {α : Type} {xs : List α} {t : α → Bool} {β : Type} {g : α → β} {p : Nat → Bool} {h : Nat → β} (hp : ∀ i v, xs[i]? = some v → p i = t v ∧ h i = g v) : ((List.range xs.length).filter p).map h = (xs.filter t).map g := by
  have key : ∀ k, k ≤ xs.length → ((List.range k).filter p).map h = ((xs.take k).filter t).map g := fun k => by
    induction k with
    | zero => intro _; rfl
    | succ k ih =>
      intro hk
      have e : xs[k]? = some xs[k] := List.getElem?_eq_getElem (by omega)
      obtain ⟨a, b⟩ := hp k _ e
      rw [List.range_succ, List.filter_append, List.map_append, ih (by omega), List.take_succ, e, List.filter_append, List.map_append]
      congr 1
      show (List.filter p [k]).map h = (List.filter t [xs[k]]).map g
      by_cases z : t xs[k] = true
      · rw [List.filter_cons_of_pos (by rw [a]; exact z), List.filter_cons_of_pos z]
        show [h k] = [g xs[k]]
        rw [b]
      · rw [List.filter_cons_of_neg (by rw [a]; exact z), List.filter_cons_of_neg z]
        rfl
  have z := key xs.length (Nat.le_refl _)
  rw [List.take_length] at z
  exact z
end G
set_option Elab.async false
set_option linter.all false
set_option maxRecDepth 100000
set_option maxHeartbeats 4000000
namespace G
open PySem PySem.Spec PyProof.Rows L2 ClX
end G
set_option Elab.async false
set_option linter.all false
set_option maxRecDepth 100000
set_option maxHeartbeats 4000000
namespace PySem.W
open PySem PySem.Calls PySem.Spec PyProof.Rows Builtin
section
variable {prog : Program} {w : World} {M : Model} {A : Around} {E : Value → Shared → Prop} {s : Shared} {K : Frag} {x C f : Addr} {ox : Obj} {odd : Option Obj} {v : Value}
theorem g_iter {Q : Value → Shared → Prop} (X : K.In s.heap) (I : InstAt s.heap x ox C odd) (hs : findIn K (.ref C) "__iter__" = some (some (.ref f))) (hf : isFn K (.ref f) = true)
    (h : wpAny M A (call (.ref f) [.ref x]) (OwitIt M A Q E) E s) : wpAny M A (pyIter (.ref x)) Q E s := by
  have fin : wpAny M A (call (.ref f) [.ref x] >>= fun v => pure (some v)) (fun r s' => ∃ v, r = some v ∧ OwitIt M A Q E v s') E s :=
    wpAny_bind (wpAny_mono h (fun v s' h' => wpAny_pure ⟨v, rfl, h'⟩) fun _ _ z => z)
  have one : ∀ refuse : Sem Value, wpAny M A (callSpecialIfBoundUnlessNone? (.ref x) "__iter__" refuse) (fun r s' => ∃ v, r = some v ∧ OwitIt M A Q E v s') E s := by
    intro refuse
    simp only [callSpecialIfBoundUnlessNone?, bindSpecialIfBound?]
    refine wpAny_holding (wpAny_bind (wpAny_bind (wpAny_bind (I.type.here ((looks_findIn X hs).here ?_)))))
    refine wpAny_bind (wpAny_askSetting (wpAny_ite ?_))
    have fin2 : wpAny M A (if (Value.ref f == Value.none) = true then (refuse >>= fun v => pure (some v)) else (call (.ref f) [.ref x] >>= fun v => pure (some v))) (fun r s' => ∃ v, r = some v ∧ OwitIt M A Q E v s') E s := by
      rw [if_neg (show ¬ ((Value.ref f == Value.none) = true) from Bool.false_ne_true)]
      exact fin
    split
    · exact wpAny_bind ((bind_fn X _ (beq_iff_eq.mp hf)).here (wpAny_pure (by exact fin2)))
    · exact wpAny_tryCatch (wpAny_bind ((bind_fn X _ (beq_iff_eq.mp hf)).here (wpAny_pure (by exact fin2))))
  unfold pyIter
  refine wpAny_bind (wpAny_bind (I.type.here ((looks_findIn X hs).here ?_)))
  show wpAny M A (callSpecialIfBoundUnlessNone? (.ref x) "__iter__" _ >>= _) Q E s
  refine wpAny_bind (wpAny_mono (one _) (fun r s' hr => ?_) fun _ _ z => z)
  obtain ⟨v, rfl, hv⟩ := hr
  refine wpAny_bind (wpAny_mono hv (fun r s₂ hr => ?_) fun _ _ z => z)
  cases r with
  | none => exact hr.elim
  | some g => exact wpAny_pure hr
end
end PySem.W
namespace G
open PySem PySem.Spec PyProof.Rows L2 ItX
/-- a promise at any state of at least n objects -/
def RunN (n : Nat) (P : Program) (w : World) (K : PySem.W.Frag) (mg : Str → Option Value) (base : Heap) (CX : CXT) (k : Nat) (f : Addr) (args : List Value → Args) (sp : Sp) : Prop :=
  ∀ (A : Around) (outer : List Env) (s : Shared) (H : Hp) (us : List Value) (vs : List V) (Q : VK) (E : XK), n ≤ s.heap.objs.size → RoomG k A → Env0 P w K mg base A outer s H → Vals vs us → sp vs H Q E → codeAny (model P w) A (.call (.ref f) (args us)) (CR CX outer P w H s Q E) s
section
variable {P : Program} {w : World} {K : PySem.W.Frag} {mg : Str → Option Value} {base : Heap}
theorem run_plainN {n : Nat} {x q : Str} {st : Stmt} {f : Addr} {fd : FuncData} {N ps : List Str} {k : Nat} {sp : SpL} (F : Fun K x q st f fd) (S : FnScope N ps (defScope st))
    (hb : ∀ (kV doc pm : Value) (an : Option Addr) (cdv ct : Value) (us : List Value), us.length = ps.length → bindArgs (PySem.W.fnOf x q (defArgs st) (defBody st) (defScope st) .none kV doc pm an cdv ct) (argsP us) = pure (ps.zip us))
    (hl : ps.length ≤ N.length) (len : ∀ vs L Q E, sp vs L Q E → vs.length = ps.length)
    (body : ∀ (X : Cx) (f : Addr) (cdv : Value) (A : Around) (outer : List Env) (s : Shared) (H : Hp) (E0 : XK) (L : Lg) (vs : List V) (Q : QV) (E : XL), X = cx0 P w K mg base N q (defScope st) f cdv A outer s H E0 → n ≤ X.s_0.heap.objs.size → X.N.Nodup → RoomG k X.A → sp vs L Q E → GSs X (defBody st) (bodyD Q) (begun N vs) L) :
    RunN n P w K mg base CX0 (k + 1) f argsP (toSp sp) := by
  obtain ⟨oc, od, kV, doc, pm, an, cdv, ct, osl, rfl, lk, hcd⟩ := F.ex
  intro A outer s H us vs Q E hn0 hr e0 r hsp
  obtain ⟨L, Ql, El, hH, h, hq, _⟩ := hsp
  have hn : vs.length = ps.length := len _ L Ql El h
  have hlv : vs.length ≤ N.length := by
    rw [hn]
    exact hl
  exact LamX.run_ofS (CX := CX0) lk hcd S hr.toRoom e0 (.of_eq (hb kV doc pm an cdv ct us (by rw [← r.length]; exact hn))) r hn fun hr2 =>
    ⟨WSs _ (defBody st), PSs.nox pss_W, body_end (X := cx0 P w K mg base N q (defScope st) f cdv A outer s H E) hlv hq hH (body _ f cdv A outer s H E L vs Ql El rfl hn0 S.nd ⟨hr2, guard_deeper hr.gd⟩ h)⟩
end
section
variable {X : Cx} {η : En} {L : Lg} {Q : QV} {e : Expr} {t : Addr} {xs : List V}
theorem bt_iter : bootBuiltins "iter" = some (.builtin "iter") := by decide +kernel
end
theorem holds_drop {H : Hp} {a p : Addr} {o : HO} (nc : ∀ c q, H c = some (LamX.CodeO c q) → c ≠ p) (ne : a ≠ p) (h : holds H a o) : holds (dropH H p) a o := by
  cases o with
  | tbl m =>
    obtain ⟨q, em, ps, e1, t2, t3⟩ := h
    refine ⟨q, em, ps, by rw [dropH_ne ne]; exact e1, t2, fun pos cv hc => ?_⟩
    obtain ⟨c, e2, e3⟩ := t3 pos cv hc
    exact ⟨c, e2, by rw [dropH_ne (nc c q e3)]; exact e3⟩
  | _ => exact (dropH_ne ne).trans h
end G
namespace G
open PySem PySem.Spec PyProof.Rows L2
section
variable {X : Cx} {η : En} {L : Lg} {Q : QV} {o e : Expr} {pos apos : Pos}
theorem ge_join (h : GE X o η L fun v L1 => ∃ a : Str, v = .str a ∧ GE X e η L1 fun y L2 => ∃ (p : Addr) (ys : List Str), y = .ref p ∧ (p, HO.lst (ys.map V.str)) ∈ L2 ∧ (ys.map (·.length)).sum + ys.length * a.length ≤ 16777216 ∧ Q (.str (Txt.join a ys)) L2)
    (hs : starEach [e] X.env = [(false, eval e X.env)] := by rfl) (hbase : attributeBase o "join" X.env (eval o X.env) = eval o X.env := by rfl) (hline : (apos.endLine == pos.line) = true := by rfl) : GE X (.Call (.Attribute o "join" apos) [e] [] pos) η L Q := fun hN H hH =>
  WE.of (pe_join pe_W pe_W hs hbase hline) (h.then hN hH fun v L1 H1 k1 ⟨a, ev, q⟩ => by
    subst ev
    exact ⟨⟨_, rfl⟩, q.then hN k1 fun y L2 H2 k2 ⟨p, ys, ey, m, z, q2⟩ => ⟨a, p, ys, rfl, by rw [ey], .inl (sql k2 m), z, L2, k2, q2⟩⟩)
end
end G
set_option Elab.async false
set_option linter.all false
set_option maxRecDepth 100000
set_option maxHeartbeats 4000000
namespace PySem.W
open PySem PySem.Calls PySem.Spec PyProof.Rows Builtin
end PySem.W
namespace G
open PySem PySem.Spec PyProof.Rows L2
end G
set_option Elab.async false
set_option linter.all false
set_option maxRecDepth 100000
set_option maxHeartbeats 4000000
namespace PySem.W
open PySem PySem.Calls PySem.Spec PyProof.Rows Builtin
end PySem.W
namespace G
open PySem PySem.Spec PyProof.Rows L2
end G
set_option Elab.async false
set_option linter.all false
set_option maxRecDepth 100000
set_option maxHeartbeats 4000000
namespace G
open PySem PySem.Spec PyProof.Rows L2
theorem GI.nd {X : Cx} {tg iter : Expr} {η : En} {L : Lg} {Q : Src → Lg → Prop} (h : GI X tg iter η L fun S L1 => (L1.map (·.1)).Nodup → Q S L1) : GI X tg iter η L Q := fun hN H hH pins s I =>
  wpAny_mono (h hN H hH pins s I) (fun v s1 z => wpAny_mono z (fun itv s2 ⟨it, fp, tn, J, H1, ev, I2, T, t0, f2, L1, S, k1, ok, q⟩ => ⟨it, fp, tn, J, H1, ev, I2, T, t0, f2, L1, S, k1, ok, q k1.1⟩) fun _ _ z => z) fun _ _ z => z
theorem GI.sub {X : Cx} {tg iter : Expr} {η : En} {L M : Lg} {Q : Src → Lg → Prop} (s : Sub M L) (h : GI X tg iter η M Q) : GI X tg iter η L Q := fun hN H hH => h hN H (s.has H hH)
section
variable {X : Cx} {η : En} {L : Lg} {elt iter tg tg1 iter1 : Expr} {scope : Scope} {pos p1 p2 p3 p4 : Pos} {x y z w : Str} {f : V → En} {Q : QV}
/-- each row's values stand for data -/
inductive Reps {α : Type} (R : V → α → Prop) : List V → List α → Prop
  | nil : Reps R [] []
  | cons {v : V} {a : α} {vs : List V} {as : List α} : R v a → Reps R vs as → Reps R (v :: vs) (a :: as)
theorem Reps.snoc {α : Type} {R : V → α → Prop} : ∀ {vs : List V} {as : List α} {v : V} {a : α}, Reps R vs as → R v a → Reps R (vs ++ [v]) (as ++ [a])
  | _, _, _, _, .nil, h => .cons h .nil
  | _, _, _, _, .cons k t, h => .cons k (t.snoc h)
theorem Reps.imp {α : Type} {R R' : V → α → Prop} (m : ∀ v a, R v a → R' v a) : ∀ {vs : List V} {as : List α}, Reps R vs as → Reps R' vs as
  | _, _, .nil => .nil
  | _, _, .cons k t => .cons (m _ _ k) (t.imp m)
theorem Reps.len {α : Type} {R : V → α → Prop} : ∀ {vs : List V} {as : List α}, Reps R vs as → vs.length = as.length
  | _, _, .nil => rfl
  | _, _, .cons _ t => by rw [List.length_cons, List.length_cons, t.len]
theorem Reps.get {α : Type} {R : V → α → Prop} : ∀ {vs : List V} {as : List α} {i : Nat} {v : V}, Reps R vs as → vs[i]? = some v → ∃ a, as[i]? = some a ∧ R v a
  | _, _, _, _, .nil, e => by simp at e
  | _, _, 0, _, .cons r _, e => by simp at e; subst e; exact ⟨_, rfl, r⟩
  | _, _, i + 1, x, .cons _ t, e => by
    obtain ⟨u, h1, h2⟩ := t.get (i := i) (v := x) (by simpa using e)
    exact ⟨u, by simpa using h1, h2⟩
/-- what a kind of standing for must keep -/
def RepMono {α : Type} (Rep : Lg → V → α → Prop) : Prop := ∀ M N v a, (∀ e ∈ M, e ∈ N) → Rep M v a → Rep N v a
end
end G
set_option Elab.async false
set_option linter.all false
set_option maxRecDepth 100000
set_option maxHeartbeats 4000000
namespace G
open PySem PySem.Spec PyProof.Rows L2
end G
set_option Elab.async false
set_option linter.all false
set_option maxRecDepth 100000
set_option maxHeartbeats 4000000
namespace G
open PySem PySem.Spec PyProof.Rows L2
end G
set_option Elab.async false
set_option linter.all false
set_option maxRecDepth 100000
set_option maxHeartbeats 4000000
namespace L2
open PySem PySem.Spec PyProof.Rows
end L2
namespace G
open PySem PySem.Spec PyProof.Rows L2
theorem perm_lift {α : Type} {f : α → V} {ys zs : List V} (pm : ys.Perm zs) : ∀ ps : List α, ps.map f = zs → ∃ qs : List α, qs.Perm ps ∧ ys = qs.map f := by
  induction pm with
  | nil => exact fun ps e => ⟨[], by rw [List.map_eq_nil_iff.mp e], rfl⟩
  | cons x _ ih =>
    intro ps e
    obtain ⟨a, r, rfl, e2, e3⟩ := List.map_eq_cons_iff.mp e
    obtain ⟨qs, h1, h2⟩ := ih r e3
    exact ⟨a :: qs, h1.cons a, by rw [h2, ← e2]; rfl⟩
  | swap x y l =>
    intro ps e
    obtain ⟨a, r, rfl, e2, e3⟩ := List.map_eq_cons_iff.mp e
    obtain ⟨b, s, rfl, e4, e5⟩ := List.map_eq_cons_iff.mp e3
    exact ⟨b :: a :: s, .swap _ _ _, by rw [← e2, ← e4, ← e5]; rfl⟩
  | trans _ _ ih1 ih2 =>
    intro ps e
    obtain ⟨qs, h1, h2⟩ := ih2 ps e
    obtain ⟨rs, h3, h4⟩ := ih1 qs h2.symm
    exact ⟨rs, h3.trans h1, h4⟩
end G
set_option Elab.async false
set_option linter.all false
set_option maxRecDepth 100000
set_option maxHeartbeats 4000000
namespace G
open PySem PySem.Spec PyProof.Rows L2
end G
set_option Elab.async false
set_option linter.all false
set_option maxRecDepth 100000
set_option maxHeartbeats 4000000
namespace L2
open PySem PySem.Spec PyProof.Rows
/-- n items, the step above 0 -/
def RgB (i j c : Int) (n : Nat) : Prop := 0 < c ∧ c.natAbs.log2 < 9000 ∧ Builtin.Range.rangeSize i j c = n
end L2
namespace G
open PySem PySem.Spec PyProof.Rows L2
/-- how many are from i on and below j, by a step -/
def stepsN (i j c : Int) : Nat := if i < j then ((j - i - 1) / c).toNat + 1 else 0
theorem RgB.of {i j c : Int} (c0 : 0 < c) (cb : c.natAbs.log2 < 9000) : RgB i j c (stepsN i j c) := by
  refine ⟨c0, cb, ?_⟩
  unfold Builtin.Range.rangeSize stepsN
  rw [if_pos c0]
  split
  · have := Int.ediv_nonneg (a := j - i - 1) (b := c) (by omega) (by omega)
    omega
  · rfl
theorem log2_lt {c : Int} {k : Nat} (h : c.natAbs < 2 ^ k) (hk : k ≤ 9000) : c.natAbs.log2 < 9000 := by
  by_cases h0 : c.natAbs = 0
  · rw [h0]
    decide +kernel
  · have := (Nat.log2_lt h0).mpr h
    omega
end G
set_option Elab.async false
set_option linter.all false
set_option maxRecDepth 100000
set_option maxHeartbeats 4000000
namespace G
open PySem PySem.Spec PyProof.Rows L2
end G
set_option Elab.async false
set_option linter.all false
set_option maxRecDepth 100000
set_option maxHeartbeats 4000000
namespace G
open PySem PySem.Spec PyProof.Rows L2
section
variable {X : Cx} {CX : CXT} {j k : Nat} {C g : Addr} {sp : SpL} {El : XL} {η : En} {L : Lg} {Q : QV} {m : Str} {e o : Expr} {es : List Expr} {kws : List Keyword} {pos pos' : Pos} {pl : Sem Bool}
/-- o.m() -/
theorem ge_meth0 (F : RunG X.prog X.w X.K X.mg X.base CX k g argsP (toSp sp)) (hm : Meth X.K C m g) (c : Cls X.K C) (hr : RoomG j X.A) (hx : Passes CX X (upX El)) (h : GE X o η L fun x L1 => ∃ a dx fs, x = .ref a ∧ (a, HO.ins C dx fs) ∈ L1 ∧ fs.lookup m = none ∧ sp [.ref a] L1 Q El) (hjk : k ≤ j := by decide)
    (ht : eval (.Call (.Attribute o m pos') [] [] pos) X.env = (do
      let ov ← eval o X.env
      standAt pos'.atName
      let (f, first) ← holding [ov] (getMethod ov m pl)
      callWith pos f first (backTo pos (starEach [] X.env)) (backToKw pos (keywordEach [] X.env))) := by rfl) : GE X (.Call (.Attribute o m pos') [] [] pos) η L Q := fun hN H hH pins s I => by
  refine PySem.W.methodCall_KW (pl := pl) (thn (h hN H hH pins s I) fun u s1 ⟨x, H1, I1, rx, L1, h1, a, dx, fs, ex, ea, l, q⟩ => ?_) ht
  subst ex
  obtain rfl : u = Value.ref a := rx
  refine getmeth_ok I1 (h1.get ea) c hm l ?_
  refine PySem.W.callWith_K0 (first := [.ref a]) I1.kIn hm.kp ?_
  exact run_G (args := argsP) (us := [.ref a]) (vs := [.ref a]) F (hr.mono hjk) hx I1 (.cons rfl .nil) (up_sp h1 q)
end
end G
set_option Elab.async false
set_option linter.all false
set_option maxRecDepth 100000
set_option maxHeartbeats 4000000
namespace G
open PySem PySem.Spec PyProof.Rows L2
end G
set_option Elab.async false
set_option linter.all false
set_option maxRecDepth 100000
set_option maxHeartbeats 4000000
namespace G
open PySem PySem.Spec PyProof.Rows L2
class St (P : Prop) (P' : outParam Prop) : Prop where
  to : P' → P
class AtI (x : Str) (v : outParam V) (η : En) : Prop where
  h : At x v η
instance (priority := high) atiH {x : Str} {v : V} {η : En} : AtI x v ((x, some v) :: η) := ⟨.here⟩
instance (priority := low) atiT {x : Str} {v : V} {e : Str × Option V} {η : En} [a : AtI x v η] : AtI x v (e :: η) := ⟨.there a.h⟩
class MemI (p : Addr) (o : outParam HO) (L : Lg) : Prop where
  h : (p, o) ∈ L
instance (priority := high) memiH {p : Addr} {o : HO} {L : Lg} : MemI p o ((p, o) :: L) := ⟨mem0⟩
instance (priority := low) memiT {p : Addr} {o : HO} {e : Addr × HO} {L : Lg} [m : MemI p o L] : MemI p o (e :: L) := ⟨memS m.h⟩
class NStar (e : Expr) : Prop where
  h : ∀ es env, starEach (e :: es) env = (false, eval e env) :: starEach es env
instance {a b} : NStar (.Name a b) := ⟨fun _ _ => rfl⟩
instance {a b c} : NStar (.Constant a b c) := ⟨fun _ _ => rfl⟩
instance {a b c d} : NStar (.BinOp a b c d) := ⟨fun _ _ => rfl⟩
instance {a b c} : NStar (.UnaryOp a b c) := ⟨fun _ _ => rfl⟩
instance {a b c} : NStar (.BoolOp a b c) := ⟨fun _ _ => rfl⟩
instance {a b c d} : NStar (.Compare a b c d) := ⟨fun _ _ => rfl⟩
instance {a b c d} : NStar (.Call a b c d) := ⟨fun _ _ => rfl⟩
instance {a b c} : NStar (.Attribute a b c) := ⟨fun _ _ => rfl⟩
instance {a b c} : NStar (.Subscript a b c) := ⟨fun _ _ => rfl⟩
instance {a b c} : NStar (.Tuple a b c) := ⟨fun _ _ => rfl⟩
instance {a b} : NStar (.List a b) := ⟨fun _ _ => rfl⟩
instance {a b c d} : NStar (.IfExp a b c d) := ⟨fun _ _ => rfl⟩
instance {a b c} : NStar (.NamedExpr a b c) := ⟨fun _ _ => rfl⟩
instance {a b c d} : NStar (.Lambda a b c d) := ⟨fun _ _ => rfl⟩
instance {a b c} : NStar (.Dict a b c) := ⟨fun _ _ => rfl⟩
instance {a b c} : NStar (.Set a b c) := ⟨fun _ _ => rfl⟩
instance {a b c d} : NStar (.ListComp a b c d) := ⟨fun _ _ => rfl⟩
instance {a b c d} : NStar (.SetComp a b c d) := ⟨fun _ _ => rfl⟩
instance {a b c d f} : NStar (.DictComp a b c d f) := ⟨fun _ _ => rfl⟩
instance {a b c d} : NStar (.GeneratorExp a b c d) := ⟨fun _ _ => rfl⟩
instance {a b} : NStar (.JoinedStr a b) := ⟨fun _ _ => rfl⟩
instance {a b c d} : NStar (.FormattedValue a b c d) := ⟨fun _ _ => rfl⟩
class NMark (op : CmpOp) (b : Expr) : Prop where
  h : behindInMarks op b = false
instance {op a b} : NMark op (.Name a b) := ⟨rfl⟩
instance {op a b c} : NMark op (.Constant a b c) := ⟨rfl⟩
instance {op a b c d} : NMark op (.BinOp a b c d) := ⟨rfl⟩
instance {op a b c} : NMark op (.UnaryOp a b c) := ⟨rfl⟩
instance {op a b c d} : NMark op (.Call a b c d) := ⟨rfl⟩
instance {op a b c} : NMark op (.Attribute a b c) := ⟨rfl⟩
instance {op a b c} : NMark op (.Subscript a b c) := ⟨rfl⟩
instance {op a b c} : NMark op (.Tuple a b c) := ⟨rfl⟩
instance {op a b} : NMark op (.List a b) := ⟨rfl⟩
instance {op a b c} : NMark op (.NamedExpr a b c) := ⟨rfl⟩
instance {op a b c d} : NMark op (.Lambda a b c d) := ⟨rfl⟩
instance {op a b c} : NMark op (.Dict a b c) := ⟨rfl⟩
instance {op a b c d} : NMark op (.ListComp a b c d) := ⟨rfl⟩
instance {op a b c d} : NMark op (.SetComp a b c d) := ⟨rfl⟩
instance {op a b c d f} : NMark op (.DictComp a b c d f) := ⟨rfl⟩
instance {op a b c d} : NMark op (.GeneratorExp a b c d) := ⟨rfl⟩
instance {op a b} : NMark op (.JoinedStr a b) := ⟨rfl⟩
instance {op a b c d} : NMark op (.FormattedValue a b c d) := ⟨rfl⟩
instance {op a b c} : NMark op (.BoolOp a b c) := ⟨rfl⟩
instance {op a b c d} : NMark op (.Compare a b c d) := ⟨rfl⟩
instance {op a b c d} : NMark op (.IfExp a b c d) := ⟨rfl⟩
section
variable {X : Cx} {η : En} {L : Lg} {Q : QV} {a b c e : Expr} {pos : Pos}
instance {i : Int} {j} : St (GE X (.Constant (.int i) j pos) η L Q) (Q (.int i) L) := ⟨ge_int⟩
instance {i : Bool} {j} : St (GE X (.Constant (.bool i) j pos) η L Q) (Q (.bl i) L) := ⟨ge_bl⟩
instance {j} : St (GE X (.Constant .none j pos) η L Q) (Q .non L) := ⟨ge_non⟩
instance {i : Str} {j} : St (GE X (.Constant (.str i) j pos) η L Q) (Q (.str i) L) := ⟨ge_str⟩
instance {op : Operator} : St (GE X (.BinOp a op b pos) η L Q) (GE X a η L fun x L1 => GE X b η L1 fun y L2 => GOp X (binaryOp op) x y L2 Q) := ⟨ge_bin⟩
instance {op : UnaryOp} : St (GE X (.UnaryOp op a pos) η L Q) (GE X a η L fun x L1 => GUn X (unaryOp op) x L1 Q) := ⟨ge_un⟩
instance (priority := high) : St (GE X (.UnaryOp .Not a pos) η L Q) (GE X a η L fun x L1 => ∃ k, x = .bl k ∧ Q (.bl (!k)) L1) := ⟨ge_not⟩
instance {op : CmpOp} [m : NMark op b] : St (GE X (.Compare a [op] [b] pos) η L Q) (GE X a η L fun x L1 => GE X b η L1 fun y L2 => GOp X (compareOp op) x y L2 Q) := ⟨fun h => ge_cmp h m.h⟩
instance {op : BoolOp} : St (GE X (.BoolOp op [a] pos) η L Q) (GE X a η L Q) := ⟨ge_one⟩
instance {rest : List Expr} : St (GE X (.BoolOp .And (a :: b :: rest) pos) η L Q) (GE X a η L fun x L1 => ∃ k, x = .bl k ∧ if k = true then GE X (.BoolOp .And (b :: rest) pos) η L1 Q else Q (.bl false) L1) := ⟨ge_and⟩
instance {rest : List Expr} : St (GE X (.BoolOp .Or (a :: b :: rest) pos) η L Q) (GE X a η L fun x L1 => ∃ k, x = .bl k ∧ if k = true then Q (.bl true) L1 else GE X (.BoolOp .Or (b :: rest) pos) η L1 Q) := ⟨ge_or⟩
instance : St (GE X (.IfExp c a b pos) η L Q) (GT X c η L fun k L1 => if k = true then GE X a η L1 Q else GE X b η L1 Q) := ⟨ge_if⟩
instance {es : List Expr} {x1} : St (GE X (.Tuple es x1 pos) η L Q) (GA X es η L fun xs L1 => xs.length ≤ sizeLine ∧ ∀ p, Q (.ref p) ((p, .tup xs) :: L1)) := ⟨ge_tup⟩
instance {es : List Expr} : St (GE X (.List es pos) η L Q) (GA X es η L fun xs L1 => xs.length ≤ sizeLine ∧ ∀ p, Q (.ref p) ((p, .lst xs) :: L1)) := ⟨ge_lst⟩
instance {Q : List V → Lg → Prop} : St (GA X [] η L Q) (Q [] L) := ⟨ga_nil⟩
instance {es : List Expr} {Q : List V → Lg → Prop} [n : NStar e] : St (GA X (e :: es) η L Q) (GE X e η L fun x L1 => GA X es η L1 fun xs L2 => Q (x :: xs) L2) := ⟨fun h => ga_cons h (n.h _ _)⟩
instance {i j : Int} : St (GOp X (binaryOp .Add) (.int i) (.int j) L Q) (Q (.int (i + j)) L) := ⟨go_add⟩
instance {i j : Int} : St (GOp X (binaryOp .Sub) (.int i) (.int j) L Q) (Q (.int (i - j)) L) := ⟨go_sub⟩
instance {i j : Int} : St (GOp X (compareOp .Lt) (.int i) (.int j) L Q) (Q (.bl (decide (i < j))) L) := ⟨go_lt⟩
instance {i j : Int} : St (GOp X (compareOp .LtE) (.int i) (.int j) L Q) (Q (.bl (decide (i ≤ j))) L) := ⟨go_le⟩
instance {i j : Int} : St (GOp X (compareOp .Eq) (.int i) (.int j) L Q) (Q (.bl (decide (i = j))) L) := ⟨go_eq⟩
instance {i j : Int} : St (GOp X (compareOp .Gt) (.int i) (.int j) L Q) (Q (.bl (decide (j < i))) L) := ⟨go_gt⟩
instance {i j : Int} : St (GOp X (compareOp .GtE) (.int i) (.int j) L Q) (Q (.bl (decide (j ≤ i))) L) := ⟨go_ge⟩
instance {i j : Int} : St (GOp X (compareOp .NotEq) (.int i) (.int j) L Q) (Q (.bl (!decide (i = j))) L) := ⟨go_ne⟩
end
section
variable {X : Cx} {η : En} {L : Lg} {Q : Bool → Lg → Prop} {a b c e : Expr} {pos : Pos}
instance {op : CmpOp} [m : NMark op b] : St (GT X (.Compare a [op] [b] pos) η L Q) (GE X a η L fun x L1 => GE X b η L1 fun y L2 => GOp X (compareOp op) x y L2 fun z L3 => ∃ k, z = .bl k ∧ Q k L3) := ⟨fun h => gt_cmp h m.h⟩
instance {op : BoolOp} {es : List Expr} : St (GT X (.BoolOp op es pos) η L Q) (GW X (.BoolOp op es pos) η L Q) := ⟨gt_w⟩
instance : St (GT X (.UnaryOp .Not a pos) η L Q) (GT X a η L fun k L1 => Q (!k) L1) := ⟨gt_not⟩
instance {x : Str} : St (GT X (.Name x pos) η L Q) (GE X (.Name x pos) η L fun x L1 => ∃ k, x = .bl k ∧ Q k L1) := ⟨gt_val⟩
instance {f : Expr} {es ks} : St (GT X (.Call f es ks pos) η L Q) (GE X (.Call f es ks pos) η L fun x L1 => ∃ k, x = .bl k ∧ Q k L1) := ⟨gt_val⟩
instance : St (GW X (.BoolOp .And [a] pos) η L Q) (GT X a η L Q) := ⟨gw_and1⟩
instance : St (GW X (.BoolOp .Or [a] pos) η L Q) (GT X a η L Q) := ⟨gw_or1⟩
instance {rest : List Expr} : St (GW X (.BoolOp .And (a :: b :: rest) pos) η L Q) (GT X a η L fun k L1 => if k = true then GW X (.BoolOp .And (b :: rest) pos) η L1 Q else Q false L1) := ⟨gw_and⟩
instance {rest : List Expr} : St (GW X (.BoolOp .Or (a :: b :: rest) pos) η L Q) (GT X a η L fun k L1 => if k = true then Q true L1 else GW X (.BoolOp .Or (b :: rest) pos) η L1 Q) := ⟨gw_or⟩
end
section
variable {X : Cx} {η : En} {L : Lg} {e : Expr} {pos : Pos} {D : GD}
instance {st : Stmt} {rest : List Stmt} : St (GSs X (st :: rest) D η L) (GS X st { nx := fun θ L1 => GSs X rest D θ L1, rt := D.rt, bk := D.bk, ct := D.ct } η L) := ⟨gss_cons⟩
instance : St (GSs X [] D η L) (D.nx η L) := ⟨gss_nil⟩
instance : St (GS X (.Return (some e) pos) D η L) (GE X e η L D.rt) := ⟨gs_ret⟩
instance : St (GS X (.Return none pos) D η L) (D.rt .non L) := ⟨gs_retN⟩
instance : St (GS X (.Pass pos) D η L) (D.nx η L) := ⟨gs_pass⟩
instance : St (GS X (.Break pos) D η L) (D.bk η L) := ⟨gs_break⟩
instance : St (GS X (.Continue pos) D η L) (D.ct η L) := ⟨gs_continue⟩
instance {Q : En → Lg → Prop} : St (GGs X [] [] η L Q) (Q η L) := ⟨ggs_nil⟩
end
instance {p q : Prop} : St (if true = true then p else q) p := ⟨fun h => h⟩
instance {p q : Prop} : St (if false = true then p else q) q := ⟨fun h => h⟩
instance {p q : Prop} : St (if (!true) = true then p else q) q := ⟨fun h => h⟩
instance {p q : Prop} : St (if (!false) = true then p else q) p := ⟨fun h => h⟩
instance {k : Bool} {q : Bool → Prop} : St (∃ j, V.bl k = .bl j ∧ q j) (q k) := ⟨fun h => ⟨_, rfl, h⟩⟩
/-- the names of a def, as its scope has them -/
def chkN (N : List Str) (sc : Scope) : Bool := N.all fun x => (sc.names.lookup x == some .local || sc.names.lookup x == some .cell) && !(x == ("__debug__" : Str)) && !(x == ("__classdict__" : Str))
class OkL (sc : Scope) (M : outParam (List Str)) : Prop where
  k : chkN M sc = true
class InS (x : Str) (M : List Str) : Prop where
  h : x ∈ M
instance (priority := high) insH {x : Str} {M : List Str} : InS x (x :: M) := ⟨mem0⟩
instance (priority := low) insT {x y : Str} {M : List Str} [i : InS x M] : InS x (y :: M) := ⟨memS i.h⟩
class NdI (N : List Str) : Prop where
  n : N.Nodup
class VisX (X : Cx) : Prop where
  n : X.N.Nodup
  f : ∀ x, X.fn x = true
  c : X.calm = true
class OkX (X : Cx) (x : Str) : Prop where
  l : Loc X.env.scope x
  d : (x == ("__debug__" : Str)) = false ∧ (x == ("__classdict__" : Str)) = false
theorem chkN_at {N : List Str} {sc : Scope} (h : chkN N sc = true) {x : Str} (m : x ∈ N) : Loc sc x ∧ (x == ("__debug__" : Str)) = false ∧ (x == ("__classdict__" : Str)) = false := by
  have := List.all_eq_true.mp h x m
  simp only [Bool.and_eq_true, Bool.or_eq_true, beq_iff_eq, Bool.not_eq_true'] at this
  exact ⟨this.1.1, this.1.2, this.2⟩
instance {P : Program} {w : World} {K : PySem.W.Frag} {mg : Str → Option Value} {base : Heap} {N : List Str} {x : Str} {sc : Scope} {f : Addr} {cdv : Value} {A : Around} {outer : List Env} {s : Shared} {H : Hp} {E0 : XK} [k : NdI N] : VisX (cx0 P w K mg base N x sc f cdv A outer s H E0) := ⟨k.n, fun _ => rfl, rfl⟩
instance {P : Program} {w : World} {K : PySem.W.Frag} {mg : Str → Option Value} {base : Heap} {N : List Str} {x : Str} {sc : Scope} {f : Addr} {cdv : Value} {A : Around} {outer : List Env} {s : Shared} {H : Hp} {E0 : XK} {y : Str} {M : List Str} [k : OkL sc M] [i : InS y M] : OkX (cx0 P w K mg base N x sc f cdv A outer s H E0) y := ⟨(chkN_at k.k i.h).1, (chkN_at k.k i.h).2⟩
class PutFI (x : Str) (η : En) (f : outParam (V → En)) : Prop where
  h : PutF x η f
instance (priority := high) putfiH {x : Str} {o : Option V} {η : En} : PutFI x ((x, o) :: η) (fun v => (x, some v) :: η) := ⟨.here⟩
instance (priority := low) putfiT {x : Str} {e : Str × Option V} {η : En} {f : V → En} [p : PutFI x η f] : PutFI x (e :: η) (fun v => e :: f v) := ⟨.there p.h⟩
class PutI (x : Str) (v : V) (η : En) (θ : outParam En) : Prop where
  h : Put x v η θ
instance (priority := high) putiH {x : Str} {v : V} {o : Option V} {η : En} : PutI x v ((x, o) :: η) ((x, some v) :: η) := ⟨.here⟩
instance (priority := low) putiT {x : Str} {v : V} {e : Str × Option V} {η θ : En} [p : PutI x v η θ] : PutI x v (e :: η) (e :: θ) := ⟨.there p.h⟩
class NSwap (e : Expr) : Prop where
  h : ∀ t l env, swapsWith e t l env = pure false
instance {a b} : NSwap (.Name a b) := ⟨fun _ _ _ => rfl⟩
instance {a b c} : NSwap (.Constant a b c) := ⟨fun _ _ _ => rfl⟩
instance {a b c d} : NSwap (.BinOp a b c d) := ⟨fun _ _ _ => rfl⟩
instance {a b c} : NSwap (.UnaryOp a b c) := ⟨fun _ _ _ => rfl⟩
instance {a b c} : NSwap (.BoolOp a b c) := ⟨fun _ _ _ => rfl⟩
instance {a b c d} : NSwap (.Compare a b c d) := ⟨fun _ _ _ => rfl⟩
instance {a b c d} : NSwap (.Call a b c d) := ⟨fun _ _ _ => rfl⟩
instance {a b c} : NSwap (.Attribute a b c) := ⟨fun _ _ _ => rfl⟩
instance {a b c} : NSwap (.Subscript a b c) := ⟨fun _ _ _ => rfl⟩
instance {a b c} : NSwap (.Tuple a b c) := ⟨fun _ _ _ => rfl⟩
instance {a b} : NSwap (.List a b) := ⟨fun _ _ _ => rfl⟩
instance {a b c d} : NSwap (.IfExp a b c d) := ⟨fun _ _ _ => rfl⟩
instance {a b c} : NSwap (.NamedExpr a b c) := ⟨fun _ _ _ => rfl⟩
instance {a b c d} : NSwap (.Lambda a b c d) := ⟨fun _ _ _ => rfl⟩
instance {a b c} : NSwap (.Dict a b c) := ⟨fun _ _ _ => rfl⟩
instance {a b c} : NSwap (.Set a b c) := ⟨fun _ _ _ => rfl⟩
instance {a b c d} : NSwap (.GeneratorExp a b c d) := ⟨fun _ _ _ => rfl⟩
instance {a b} : NSwap (.JoinedStr a b) := ⟨fun _ _ _ => rfl⟩
instance {a b c d} : NSwap (.FormattedValue a b c d) := ⟨fun _ _ _ => rfl⟩
class PIx (e : Expr) : Prop where
  h : PlainIx e
instance {a b} : PIx (.Name a b) := ⟨fun _ _ => rfl⟩
instance {a b c} : PIx (.Constant a b c) := ⟨fun _ _ => rfl⟩
instance {a b c d} : PIx (.BinOp a b c d) := ⟨fun _ _ => rfl⟩
instance {a b c} : PIx (.UnaryOp a b c) := ⟨fun _ _ => rfl⟩
instance {a b c} : PIx (.BoolOp a b c) := ⟨fun _ _ => rfl⟩
instance {a b c d} : PIx (.Compare a b c d) := ⟨fun _ _ => rfl⟩
instance {a b c d} : PIx (.Call a b c d) := ⟨fun _ _ => rfl⟩
instance {a b c} : PIx (.Attribute a b c) := ⟨fun _ _ => rfl⟩
instance {a b c} : PIx (.Subscript a b c) := ⟨fun _ _ => rfl⟩
instance {a b c} : PIx (.Tuple a b c) := ⟨fun _ _ => rfl⟩
instance {a b} : PIx (.List a b) := ⟨fun _ _ => rfl⟩
instance {a b c d} : PIx (.IfExp a b c d) := ⟨fun _ _ => rfl⟩
instance {a b c} : PIx (.NamedExpr a b c) := ⟨fun _ _ => rfl⟩
instance {a b c d} : PIx (.Lambda a b c d) := ⟨fun _ _ => rfl⟩
instance {a b c} : PIx (.Dict a b c) := ⟨fun _ _ => rfl⟩
instance {a b c} : PIx (.Set a b c) := ⟨fun _ _ => rfl⟩
instance {a b c d} : PIx (.ListComp a b c d) := ⟨fun _ _ => rfl⟩
instance {a b c d} : PIx (.SetComp a b c d) := ⟨fun _ _ => rfl⟩
instance {a b c d f} : PIx (.DictComp a b c d f) := ⟨fun _ _ => rfl⟩
instance {a b c d} : PIx (.GeneratorExp a b c d) := ⟨fun _ _ => rfl⟩
instance {a b} : PIx (.JoinedStr a b) := ⟨fun _ _ => rfl⟩
instance {a b c d} : PIx (.FormattedValue a b c d) := ⟨fun _ _ => rfl⟩
class NBase (e : Expr) : Prop where
  h : ∀ n env, attributeBase e n env (eval e env) = eval e env
instance {a b} : NBase (.Name a b) := ⟨fun _ _ => rfl⟩
instance {a b c} : NBase (.Attribute a b c) := ⟨fun _ _ => rfl⟩
instance {a b c} : NBase (.Subscript a b c) := ⟨fun _ _ => rfl⟩
class NTgt (e : Expr) : Prop where
  h : ∀ ts env, assignEach (e :: ts) env = (false, assign e env) :: assignEach ts env
instance {a b} : NTgt (.Name a b) := ⟨fun _ _ => rfl⟩
instance {a b c} : NTgt (.Attribute a b c) := ⟨fun _ _ => rfl⟩
instance {a b c} : NTgt (.Subscript a b c) := ⟨fun _ _ => rfl⟩
instance {a b c} : NTgt (.Tuple a b c) := ⟨fun _ _ => rfl⟩
class NTgts (es : List Expr) : Prop where
  h : ∀ env, (assignEach es env).length = es.length ∧ (assignEach es env).findIdx? (·.1) = none
instance : NTgts [] := ⟨fun _ => ⟨rfl, rfl⟩⟩
instance {e : Expr} {es : List Expr} [a : NTgt e] [b : NTgts es] : NTgts (e :: es) := ⟨fun env => by
  have := b.h env
  rw [a.h]
  exact ⟨by simp [this.1], by simp [List.findIdx?_cons, this.2]⟩⟩
class SLen {α β : Type} (xs : List α) (es : List β) : Prop where
  h : xs.length = es.length
instance {α β : Type} : SLen ([] : List α) ([] : List β) := ⟨rfl⟩
instance {α β : Type} {x : α} {xs : List α} {y : β} {ys : List β} [a : SLen xs ys] : SLen (x :: xs) (y :: ys) := ⟨by simp [a.h]⟩
section
variable {X : Cx} {η : En} {L : Lg} {Q : QV} {a b e : Expr} {pos : Pos} {D : GD}
instance {x : Str} {v : V} [k : OkX X x] [t : AtI x v η] : St (GE X (.Name x pos) η L Q) (Q v L) := ⟨fun q => ge_var t.h q (k.l.elim .inl fun z => .inr (.inl z)) k.d.1 k.d.2⟩
instance [i : PIx b] : St (GE X (.Subscript a b pos) η L Q) (GE X a η L fun x L1 => GE X b η L1 fun y L2 => GIx X x y L2 Q) := ⟨fun h => ge_ix h i.h⟩
instance {n : Str} [i : NBase e] : St (GE X (.Attribute e n pos) η L Q) (GE X e η L fun x L1 => GAt X n x L1 Q) := ⟨fun h => ge_attr h (i.h _ _)⟩
instance {x : Str} {f : V → En} {pos' : Pos} [k : VisX X] [o : OkX X x] [p : PutFI x η f] [s : NSwap e] : St (GS X (.Assign [.Name x pos'] e pos) D η L) (GE X e η L fun v L1 => D.nx (f v) L1) := ⟨fun h => gs_set p.h h k.n o.l (s.h _ _ _) (.inl (k.f x))⟩
instance [s : NSwap e] : St (GS X (.Expr e pos) D η L) (GE X e η L fun x L1 => D.nx η L1) := ⟨fun h => gs_expr h (s.h _ _ _)⟩
instance {x : Str} {y : V} {f : V → En} {pos' : Pos} {op : Operator} [k : VisX X] [o : OkX X x] [t : AtI x y η] [p : PutFI x η f] : St (GS X (.AugAssign (.Name x pos') op e pos) D η L) (GE X e η L fun z L1 => GIp X op y z L1 fun w L2 => D.nx (f w) L2) := ⟨fun h => gs_aug t.h p.h h k.n o.l (.inl (k.f x))⟩
instance {x : Str} {v : V} {θ : En} {Q : En → Lg → Prop} [k : VisX X] [o : OkX X x] [p : PutI x v η θ] : St (GG X (.Name x pos) v η L Q) (Q θ L) := ⟨fun h => gg_name p.h h k.n o.l (.inl (k.f x))⟩
instance {v : V} {ts : List Expr} {vs : List V} {Q : En → Lg → Prop} [n : NTgt e] : St (GGs X (e :: ts) (v :: vs) η L Q) (GG X e v η L fun θ L1 => GGs X ts vs θ L1 Q) := ⟨fun h => ggs_cons h (by rw [n.h]; rfl)⟩
instance {es : List Expr} {k : Nat} {p : Addr} {xs : List V} {Q : En → Lg → Prop} [v : VisX X] [m : MemI p (.tup xs) L] [n : NTgts es] [s : SLen xs es] : St (GG X (.Tuple es k pos) (.ref p) η L Q) (GGs X es xs η L Q) := ⟨fun h => gg_tup m.h h s.h v.c (n.h _).1 (n.h _).2⟩
instance {i j : Int} : St (GIp X .Add (.int i) (.int j) L Q) (Q (.int (i + j)) L) := ⟨gp_add⟩
instance {i j : Int} : St (GIp X .Sub (.int i) (.int j) L Q) (Q (.int (i - j)) L) := ⟨gp_sub⟩
instance {i : Int} : St (GUn X (unaryOp .USub) (.int i) L Q) (Q (.int (-i)) L) := ⟨gu_neg⟩
instance : St (GOp X (compareOp .Is) .non .non L Q) (Q (.bl true) L) := ⟨isN_non⟩
instance : St (GOp X (compareOp .IsNot) .non .non L Q) (Q (.bl false) L) := ⟨notN_non⟩
instance {i : Int} : St (GOp X (compareOp .Is) (.int i) .non L Q) (Q (.bl false) L) := ⟨isN_int⟩
instance {i : Int} : St (GOp X (compareOp .IsNot) (.int i) .non L Q) (Q (.bl true) L) := ⟨notN_int⟩
instance {i : Addr} : St (GOp X (compareOp .Is) (.ref i) .non L Q) (Q (.bl false) L) := ⟨isN_ref⟩
instance {i : Addr} : St (GOp X (compareOp .IsNot) (.ref i) .non L Q) (Q (.bl true) L) := ⟨notN_ref⟩
end
instance {i : Int} {q : Int → Prop} : St (∃ j, V.int i = .int j ∧ q j) (q i) := ⟨fun h => ⟨_, rfl, h⟩⟩
instance {i : Addr} {q : Addr → Prop} : St (∃ j, V.ref i = .ref j ∧ q j) (q i) := ⟨fun h => ⟨_, rfl, h⟩⟩
instance {a : V} {q : V → Prop} : St (∃ v, [a] = [v] ∧ q v) (q a) := ⟨fun h => ⟨_, rfl, h⟩⟩
instance {a b : V} {q : V → V → Prop} : St (∃ v w, [a, b] = [v, w] ∧ q v w) (q a b) := ⟨fun h => ⟨_, _, rfl, h⟩⟩
instance {a b c : V} {q : V → V → V → Prop} : St (∃ u v w, [a, b, c] = [u, v, w] ∧ q u v w) (q a b c) := ⟨fun h => ⟨_, _, _, rfl, h⟩⟩
class NSt (t e : Expr) : Prop where
  h : ∀ env, swappedStores [t] e env = pure none
instance {ts k p a b} : NSt (.Tuple ts k p) (.Name a b) := ⟨fun _ => rfl⟩
instance {ts k p a b c} : NSt (.Tuple ts k p) (.Constant a b c) := ⟨fun _ => rfl⟩
instance {ts k p a b c d} : NSt (.Tuple ts k p) (.BinOp a b c d) := ⟨fun _ => rfl⟩
instance {ts k p a b c} : NSt (.Tuple ts k p) (.UnaryOp a b c) := ⟨fun _ => rfl⟩
instance {ts k p a b c} : NSt (.Tuple ts k p) (.BoolOp a b c) := ⟨fun _ => rfl⟩
instance {ts k p a b c d} : NSt (.Tuple ts k p) (.Compare a b c d) := ⟨fun _ => rfl⟩
instance {ts k p a b c d} : NSt (.Tuple ts k p) (.Call a b c d) := ⟨fun _ => rfl⟩
instance {ts k p a b c} : NSt (.Tuple ts k p) (.Attribute a b c) := ⟨fun _ => rfl⟩
instance {ts k p a b c} : NSt (.Tuple ts k p) (.Subscript a b c) := ⟨fun _ => rfl⟩
instance {ts k p a b} : NSt (.Tuple ts k p) (.List a b) := ⟨fun _ => rfl⟩
instance {ts k p a b c d} : NSt (.Tuple ts k p) (.IfExp a b c d) := ⟨fun _ => rfl⟩
instance {u v p e} : NSt (.Subscript u v p) e := ⟨fun _ => by cases e <;> rfl⟩
class NAsg (t : Expr) : Prop where
  h : ∀ env, (assignEach [t] env).map (·.2) = [assign t env]
instance {ts k p} : NAsg (.Tuple ts k p) := ⟨fun _ => rfl⟩
instance {u v p} : NAsg (.Subscript u v p) := ⟨fun _ => rfl⟩
instance {X : Cx} {η : En} {L : Lg} {t e : Expr} {pos : Pos} {D : GD} [s : NSwap e] [n : NSt t e] [a : NAsg t] : St (GS X (.Assign [t] e pos) D η L) (GE X e η L fun v L1 => GG X t v η L1 D.nx) := ⟨fun h => gs_asg h (s.h _ _ _) (n.h _) (a.h _)⟩
/-- a step by a built-in's name -/
class StB (P : Prop) (mg : outParam (Str → Option Value)) (C P' : outParam Prop) : Prop where
  to : Bi mg → C → P' → P
section
variable {X : Cx} {η : En} {L : Lg} {Q : QV} {e : Expr} {es : List Expr} {pos p : Pos}
instance [n : NStar e] : StB (GE X (.Call (.Name "len" p) (e :: es) [] pos) η L Q) X.mg (Gl X "len" ∧ (backTo pos (starEach es X.env)).any (·.1) = false) (GA X (e :: es) η L fun xs L1 => GC X (.builtin "len") xs L1 Q) := ⟨fun B c h => gb_len B h c.1 (n.h _ _) c.2⟩
instance [n : NStar e] : StB (GE X (.Call (.Name "abs" p) (e :: es) [] pos) η L Q) X.mg (Gl X "abs" ∧ (backTo pos (starEach es X.env)).any (·.1) = false) (GA X (e :: es) η L fun xs L1 => GC X (.builtin "abs") xs L1 Q) := ⟨fun B c h => gb_abs B h c.1 (n.h _ _) c.2⟩
instance [n : NStar e] : StB (GE X (.Call (.Name "min" p) (e :: es) [] pos) η L Q) X.mg (Gl X "min" ∧ (backTo pos (starEach es X.env)).any (·.1) = false) (GA X (e :: es) η L fun xs L1 => GC X (.builtin "min") xs L1 Q) := ⟨fun B c h => gb_min B h c.1 (n.h _ _) c.2⟩
instance [n : NStar e] : StB (GE X (.Call (.Name "max" p) (e :: es) [] pos) η L Q) X.mg (Gl X "max" ∧ (backTo pos (starEach es X.env)).any (·.1) = false) (GA X (e :: es) η L fun xs L1 => GC X (.builtin "max") xs L1 Q) := ⟨fun B c h => gb_max B h c.1 (n.h _ _) c.2⟩
instance [n : NStar e] : StB (GE X (.Call (.Name "sum" p) (e :: es) [] pos) η L Q) X.mg (Gl X "sum" ∧ (backTo pos (starEach es X.env)).any (·.1) = false) (GA X (e :: es) η L fun xs L1 => GC X (.builtin "sum") xs L1 Q) := ⟨fun B c h => gb_sum B h c.1 (n.h _ _) c.2⟩
instance [n : NStar e] : StB (GE X (.Call (.Name "sorted" p) (e :: es) [] pos) η L Q) X.mg (Gl X "sorted" ∧ (backTo pos (starEach es X.env)).any (·.1) = false) (GA X (e :: es) η L fun xs L1 => GC X (.builtin "sorted") xs L1 Q) := ⟨fun B c h => gb_sorted B h c.1 (n.h _ _) c.2⟩
instance [n : NStar e] : StB (GE X (.Call (.Name "any" p) (e :: es) [] pos) η L Q) X.mg (Gl X "any" ∧ (backTo pos (starEach es X.env)).any (·.1) = false) (GA X (e :: es) η L fun xs L1 => GC X (.builtin "any") xs L1 Q) := ⟨fun B c h => gb_any B h c.1 (n.h _ _) c.2⟩
instance [n : NStar e] : StB (GE X (.Call (.Name "all" p) (e :: es) [] pos) η L Q) X.mg (Gl X "all" ∧ (backTo pos (starEach es X.env)).any (·.1) = false) (GA X (e :: es) η L fun xs L1 => GC X (.builtin "all") xs L1 Q) := ⟨fun B c h => gb_all B h c.1 (n.h _ _) c.2⟩
instance [n : NStar e] : StB (GE X (.Call (.Name "isinstance" p) (e :: es) [] pos) η L Q) X.mg (Gl X "isinstance" ∧ (backTo pos (starEach es X.env)).any (·.1) = false) (GA X (e :: es) η L fun xs L1 => GC X (.builtin "isinstance") xs L1 Q) := ⟨fun B c h => gb_isinstance B h c.1 (n.h _ _) c.2⟩
instance [n : NStar e] : StB (GE X (.Call (.Name "int" p) (e :: es) [] pos) η L Q) X.mg (Gl X "int" ∧ (backTo pos (starEach es X.env)).any (·.1) = false) (GA X (e :: es) η L fun xs L1 => GC X (.type "int") xs L1 Q) := ⟨fun B c h => gb_int B h c.1 (n.h _ _) c.2⟩
instance [n : NStar e] : StB (GE X (.Call (.Name "list" p) (e :: es) [] pos) η L Q) X.mg (Gl X "list" ∧ (backTo pos (starEach es X.env)).any (·.1) = false) (GA X (e :: es) η L fun xs L1 => GC X (.type "list") xs L1 Q) := ⟨fun B c h => gb_list B h c.1 (n.h _ _) c.2⟩
instance [n : NStar e] : StB (GE X (.Call (.Name "tuple" p) (e :: es) [] pos) η L Q) X.mg (Gl X "tuple" ∧ (backTo pos (starEach es X.env)).any (·.1) = false) (GA X (e :: es) η L fun xs L1 => GC X (.type "tuple") xs L1 Q) := ⟨fun B c h => gb_tuple B h c.1 (n.h _ _) c.2⟩
instance [n : NStar e] : StB (GE X (.Call (.Name "bool" p) (e :: es) [] pos) η L Q) X.mg (Gl X "bool" ∧ (backTo pos (starEach es X.env)).any (·.1) = false) (GA X (e :: es) η L fun xs L1 => GC X (.type "bool") xs L1 Q) := ⟨fun B c h => gb_bool B h c.1 (n.h _ _) c.2⟩
instance [n : NStar e] : StB (GE X (.Call (.Name "str" p) (e :: es) [] pos) η L Q) X.mg (Gl X "str" ∧ (backTo pos (starEach es X.env)).any (·.1) = false) (GA X (e :: es) η L fun xs L1 => GC X (.type "str") xs L1 Q) := ⟨fun B c h => gb_str B h c.1 (n.h _ _) c.2⟩
instance : StB (GE X (.Name "int" pos) η L Q) X.mg (Gl X "int" ∧ 0 = 0) (Q (.ty "int") L) := ⟨fun B c q => gv_int B q c.1⟩
instance : StB (GE X (.Name "bool" pos) η L Q) X.mg (Gl X "bool" ∧ 0 = 0) (Q (.ty "bool") L) := ⟨fun B c q => gv_bool B q c.1⟩
instance : StB (GE X (.Name "tuple" pos) η L Q) X.mg (Gl X "tuple" ∧ 0 = 0) (Q (.ty "tuple") L) := ⟨fun B c q => gv_tuple B q c.1⟩
instance : StB (GE X (.Name "list" pos) η L Q) X.mg (Gl X "list" ∧ 0 = 0) (Q (.ty "list") L) := ⟨fun B c q => gv_list B q c.1⟩
instance : StB (GE X (.Name "str" pos) η L Q) X.mg (Gl X "str" ∧ 0 = 0) (Q (.ty "str") L) := ⟨fun B c q => gv_str B q c.1⟩
instance : StB (GE X (.Name "ValueError" pos) η L Q) X.mg (Gl X "ValueError" ∧ 0 = 0) (Q (.ty "ValueError") L) := ⟨fun B c q => gv_ValueError B q c.1⟩
instance : StB (GE X (.Name "LookupError" pos) η L Q) X.mg (Gl X "LookupError" ∧ 0 = 0) (Q (.ty "LookupError") L) := ⟨fun B c q => gv_LookupError B q c.1⟩
instance {i : Int} : St (GC X (.type "int") [.int i] L Q) (Q (.int i) L) := ⟨gc_int⟩
instance {k : Bool} : St (GC X (.type "int") [.bl k] L Q) (Q (.int (if k = true then 1 else 0)) L) := ⟨gc_intB⟩
instance {i : Int} : St (GC X (.builtin "abs") [.int i] L Q) (Q (.int i.natAbs) L) := ⟨gc_abs⟩
instance {i j : Int} [v : VisX X] : St (GC X (.builtin "min") [.int i, .int j] L Q) (Q (.int (if j < i then j else i)) L) := ⟨gc_min2 v.c⟩
instance {i j : Int} [v : VisX X] : St (GC X (.builtin "max") [.int i, .int j] L Q) (Q (.int (if j > i then j else i)) L) := ⟨gc_max2 v.c⟩
instance {q : Addr} {xs : List V} [m : MemI q (.lst xs) L] : St (GC X (.builtin "len") [.ref q] L Q) (Q (.int xs.length) L) := ⟨gc_lenL m.h⟩
instance {q : Addr} {xs : List V} [m : MemI q (.tup xs) L] : St (GC X (.builtin "len") [.ref q] L Q) (Q (.int xs.length) L) := ⟨gc_lenT m.h⟩
theorem isE (h : GE X e η L Q) : GE X e η L Q := h
theorem isC {f : Value} {xs : List V} (h : GC X f xs L Q) : GC X f xs L Q := h
theorem isIx {x y : V} (h : GIx X x y L Q) : GIx X x y L Q := h
theorem isAt {n : Str} {x : V} (h : GAt X n x L Q) : GAt X n x L Q := h
theorem isS {st : Stmt} {D : GD} (h : GS X st D η L) : GS X st D η L := h
theorem isT {Q : Bool → Lg → Prop} (h : GT X e η L Q) : GT X e η L Q := h
theorem isA {Q : List V → Lg → Prop} (h : GA X es η L Q) : GA X es η L Q := h
theorem isSt {o i v : V} {Q : Lg → Prop} (h : GSt X o i v L Q) : GSt X o i v L Q := h
theorem isG {v : V} {Q : En → Lg → Prop} (h : GG X e v η L Q) : GG X e v η L Q := h
end
end G
set_option Elab.async false
set_option linter.all false
set_option maxRecDepth 100000
set_option maxHeartbeats 4000000
namespace G
open PySem PySem.Spec PyProof.Rows L2
end G
set_option Elab.async false
set_option linter.all false
set_option maxRecDepth 100000
set_option maxHeartbeats 4000000
namespace G
open PySem PySem.Spec PyProof.Rows L2
/-- a tuple that stands in the program's heap -/
def TupK (K : PySem.W.Frag) (a : Addr) (xs : List V) : Prop := ∃ (o : Obj) (its : Array Value) (n : Nat), K.lookup a = some o ∧ o.cls = .type "tuple" ∧ o.data = .seq its n ∧ its.size ≤ sizeLine ∧ Vals xs its.toList
theorem TupK.sq {K : PySem.W.Frag} {a : Addr} {xs : List V} (h : TupK K a xs) (H : Hp) : SqT K H a xs := .inr h
/-- the constant (1, ((0, 0),)) -/
structure EvT (K : PySem.W.Frag) (mg : Str → Option Value) (x : Str) where
  e : Addr
  r : Addr
  p : Addr
  at_ : mg x = some (.ref e)
  te : TupK K e [.int 1, .ref r]
  tr : TupK K r [.ref p]
  tp : TupK K p [.int 0, .int 0]
theorem EvT.dp {K : PySem.W.Frag} {mg : Str → Option Value} {x : Str} (T : EvT K mg x) (H : Hp) : Dp K H (.ref T.e) (.tuple [.int 1, .tuple [.tuple [.int 0, .int 0]]]) :=
  .tup (T.te.sq H) (.cons (.int 1) (.cons (.tup (T.tr.sq H) (.cons (.tup (T.tp.sq H) (.cons (.int 0) (.cons (.int 0) .nil))) .nil)) .nil))
end G
set_option Elab.async false
set_option linter.all false
set_option maxRecDepth 100000
set_option maxHeartbeats 4000000
namespace L2
open PySem PySem.Spec PyProof.Rows
end L2
namespace G
open PySem PySem.Spec PyProof.Rows L2
end G
set_option Elab.async false
set_option linter.all false
set_option maxRecDepth 100000
set_option maxHeartbeats 4000000
namespace G
open PySem PySem.Spec PyProof.Rows L2
end G
set_option Elab.async false
set_option linter.all false
set_option maxRecDepth 100000
set_option maxHeartbeats 4000000
namespace PySem.W
open PySem PySem.Calls PySem.Spec PyProof.Rows Builtin
end PySem.W
namespace G
open PySem PySem.Spec PyProof.Rows L2
end G
set_option Elab.async false
set_option linter.all false
set_option maxRecDepth 100000
set_option maxHeartbeats 4000000
namespace G
open PySem PySem.Spec PyProof.Rows L2
end G
set_option Elab.async false
set_option linter.all false
set_option maxRecDepth 100000
set_option maxHeartbeats 4000000
namespace PySem.SeqAt
open AutoSeq1 (wpAny_loadPart')
open MeetsSeq MeetsSeq2 MeetsSeq3 SeqRoads2
end PySem.SeqAt
namespace G
open PySem PySem.Spec PyProof.Rows L2
end G
set_option Elab.async false
set_option linter.all false
set_option maxRecDepth 100000
set_option maxHeartbeats 4000000
namespace G
open PySem PySem.Spec PyProof.Rows L2
end G
set_option Elab.async false
set_option linter.all false
set_option maxRecDepth 100000
set_option maxHeartbeats 4000000
namespace G
open PySem PySem.Spec PyProof.Rows L2
section
variable {X : Cx} {L : Lg} {elt : Expr} {scope : Scope} {f : V → En} {h : Nat → V} {N : Nat} {Q : QV} {p c D : Addr} {ns : List Int} {n m k : Int} {R : Lg}
theorem lc_drawsR {α : Type} {Rep : Lg → V → α → Prop} (mono : RepMono Rep) (hN : N ≤ 100000) (hL : Sub ((p, penO c n m) :: (c, celO ns) :: R) L) (n0 : 0 ≤ n) (m0 : 0 ≤ m) (k0 : 0 ≤ k) (nk : n + k * N ≤ 100000 - k)
    (turn : ∀ i, i < N → ∀ zs n m R', (∀ e ∈ R, e ∈ R') → 0 ≤ n → n + k ≤ 100000 → 0 ≤ m → AllBlk X scope fun B => GE B elt (f (h i)) ((p, penO c n m) :: (c, celO ns) :: (D, .lst zs) :: R') fun v M' => (M'.map (·.1)).Nodup → ∃ a R2 n' m', Sub ((p, penO c n' m') :: (c, celO ns) :: (D, .lst zs) :: R2) M' ∧ (∀ e ∈ R', e ∈ R2) ∧ Rep R2 v a ∧ 0 ≤ n' ∧ n' ≤ n + k ∧ 0 ≤ m')
    (q : ∀ zs as R2 n' m', as.length = N → (∀ e ∈ R, e ∈ R2) → Reps (Rep R2) zs as → 0 ≤ n' → n' ≤ n + k * N → 0 ≤ m' → Q (.ref D) ((D, .lst zs) :: (p, penO c n' m') :: (c, celO ns) :: R2)) :
    ∃ Pv, LcS X scope [] elt ⟨N, fun _ => True, itemFn h⟩ D L (fun v M k => k (f v) M) Pv (drp Q) := by
  refine ⟨fun i M => ∃ zs as R2 n' m', Sub ((p, penO c n' m') :: (c, celO ns) :: (D, .lst zs) :: R2) M ∧ (∀ e ∈ R, e ∈ R2) ∧ as.length = i ∧ Reps (Rep R2) zs as ∧ zs.length = i ∧ 0 ≤ n' ∧ n' ≤ n + k * i ∧ 0 ≤ m', ⟨[], [], R, n, m, ?_, fun _ h => h, rfl, .nil, rfl, n0, by omega, m0⟩, fun _ _ _ _ _ => True.intro, ?_, ?_⟩
  · exact rot3'.trans (Sub.cons hL)
  · rintro i x E M hi ⟨rfl, rfl⟩ _ ⟨zs, as, R2, n1, m1, sb, up, hl, hP, hz, a0, a1, a2⟩
    dsimp only at hi
    intro s1 H1 C1 cl1 fp1
    refine gts_nil ?_
    dsimp only
    refine ite_t ?_
    intro s2 H2 C2 cl2 fp2
    have ki : k * ((i : Nat) : Int) + k ≤ k * (N : Int) := by
      have := Int.mul_le_mul_of_nonneg_left (show ((i : Nat) : Int) + 1 ≤ (N : Int) by omega) k0
      rw [Int.mul_add, Int.mul_one] at this
      exact this
    refine GE.sub sb (GE.nd ((turn i hi zs n1 m1 _ up a0 (by omega) a2 s2 H2 C2 cl2 fp2).imp fun v M' tn nd => ?_))
    obtain ⟨a, R3, n', m', s3, u3, rp, b0, b1, b2⟩ := tn nd
    have s4 : Sub ((D, .lst zs) :: (p, penO c n' m') :: (c, celO ns) :: R3) M' := rot3.trans s3
    have m2 := (s4.to nd).2 _ List.mem_cons_self
    obtain ⟨M3, sw⟩ := Swap.ex (o := .lst (zs ++ [v])) (u := .lst zs) rfl m2
    refine ⟨_, M3, m2, ?_, sw, zs ++ [v], as ++ [a], R3, n', m', rot3'.trans (s4.swap sw), fun e he => u3 _ (up e he), by rw [List.length_append, hl]; rfl, (hP.imp fun v a hv => mono _ _ _ _ u3 hv).snoc rp, by rw [List.length_append, hz]; rfl, b0, ?_, b2⟩
    · rw [hz, sizeLine_eq]
      omega
    · rw [Int.natCast_add, Int.mul_add]
      show n' ≤ n + (k * (i : Int) + k * 1)
      omega
  · rintro M ⟨zs, as, R2, n', m', sb, up, hl, hP, hz, a0, a1, a2⟩
    exact ⟨_, rot3.trans sb, q zs as R2 n' m' hl up hP a0 a1 a2⟩
end
end G
set_option Elab.async false
set_option linter.all false
set_option maxRecDepth 100000
set_option maxHeartbeats 4000000
namespace G
open PySem PySem.Spec PyProof.Rows L2
end G
set_option Elab.async false
set_option linter.all false
set_option maxRecDepth 100000
set_option maxHeartbeats 4000000
namespace G
open PySem PySem.Spec PyProof.Rows L2
end G
set_option Elab.async false
set_option linter.all false
set_option maxRecDepth 100000
set_option maxHeartbeats 4000000
namespace G
open PySem PySem.Spec PyProof.Rows L2
section
variable {X : Cx} {j k : Nat} {η : En} {L : Lg} {x : Str} {e : Expr} {pos p1 p2 : Pos} {sp : SpL} {W : XW}
/-- an error of the class C with these fields is let out, whatever stands beside it -/
def telX (C : Addr) (fs : List (Str × V)) (E : XL) (L : Lg) : Prop := ∀ (d : Addr) (M : Lg), Sub ((d, HO.xd fs) :: L) M → E (.ref C) (some d) M
theorem telX.sub {C : Addr} {fs : List (Str × V)} {E : XL} {L L' : Lg} (h : telX C fs E L) (s : Sub L L') : telX C fs E L' := fun d M k => h d M (Sub.trans (Sub.cons s) k)
end
end G
set_option Elab.async false
set_option linter.all false
set_option maxRecDepth 100000
set_option maxHeartbeats 4000000
namespace G
open PySem PySem.Spec PyProof.Rows L2
section
variable {X : Cx} {η : En} {L : Lg} {Q : QV} {o e a b : Expr} {pos apos : Pos} {x y : Str} {i : Int}
theorem gi_sx {c : Nat} (hl : x.length ≤ sizeLine) (h : atI x.cps.toList i = some c) (q : Q (.str ⟨#[c]⟩) L) : GIx X (.str x) (.int i) L Q := GIx.of ix_str fun H hH => ⟨x, i, c, rfl, rfl, hl, h, L, hH, q⟩
theorem go_inS {c : Nat} (h : Q (.bl (decide (c ∈ y.cps.toList))) L) : GOp X (compareOp .In) (.str ⟨#[c]⟩) (.str y) L Q := GOp.of op_inS fun H hH => ⟨c, y, rfl, rfl, L, hH, h⟩
theorem go_catS (z : x.length + y.length ≤ sizeLine) (h : Q (.str (x ++ y)) L) : GOp X (binaryOp .Add) (.str x) (.str y) L Q := GOp.of op_add_str fun H hH => ⟨x, y, rfl, rfl, z, L, hH, h⟩
theorem gc_lenS (z : x.length ≤ sizeLine) (h : Q (.int x.length) L) : GC X (.builtin "len") [.str x] L Q := GC.of call_len_str fun H hH => ⟨x, rfl, z, L, hH, h⟩
end
section
variable {X : Cx} {L : Lg} {elt : Expr} {ifs : List Expr} {scope : Scope} {f : V → En} {R : V → Lg → Prop} {z : Str} {t : Nat → Bool} {g : Nat → V}
/-- a pure comprehension over the signs of a text -/
theorem pure_str (hl : z.length ≤ 1000000) (ht : ∀ c ∈ z.cps.toList, TurnP X scope ifs elt L (f (.str ⟨#[c]⟩)) (t c) (g c)) (h : ∀ D, R (.ref D) ((D, .lst ((z.cps.toList.filter t).map g)) :: L)) : PureL X scope ifs elt (stOne f) R ⟨z.cps.size, fun _ => True, fun i v E => (∃ c, z.cps[i]? = some c ∧ v = .str ⟨#[c]⟩) ∧ E = []⟩ L := by
  refine ⟨fun i => t (z.cps.toList.getD i 0), fun i => g (z.cps.toList.getD i 0), ⟨hl, fun _ _ => True.intro, fun i x E D acc M hi ⟨⟨c, hc, hx⟩, hE⟩ _ s => ?_⟩, fun D => ?_⟩
  · subst hE hx
    have hc' : z.cps.toList[i]? = some c := by simpa using hc
    have k := turnP_use (st := stOne f) (ht c (List.mem_of_getElem? hc')) s
    have e2 : z.cps.toList.getD i 0 = c := by rw [List.getD_eq_getElem?_getD, hc']; rfl
    rw [e2]
    exact k
  · have zz := filter_listA (xs := z.cps.toList) (t := t) (g := g) (p := fun i => t (z.cps.toList.getD i 0)) (h := fun i => g (z.cps.toList.getD i 0)) fun i v e => by
      have e2 : z.cps.toList.getD i 0 = v := by rw [List.getD_eq_getElem?_getD, e]; rfl
      rw [e2]
      exact ⟨rfl, rfl⟩
    show R (.ref D) ((D, .lst (((List.range z.cps.size).filter _).map _)) :: L)
    rw [show z.cps.size = z.cps.toList.length by simp, zz]
    exact h D
end
end G
set_option Elab.async false
set_option linter.all false
set_option maxRecDepth 100000
set_option maxHeartbeats 4000000
namespace PySem.W
open PySem PySem.Calls PySem.Spec PyProof.Rows Builtin
end PySem.W
namespace G
open PySem PySem.Spec PyProof.Rows L2
section
variable {X : Cx} {CX : CXT} {j k : Nat} {C g a b dx dy : Addr} {fs gs : List (Str × V)} {sp : SpL} {El : XL} {L : Lg} {Q : QV} {op : Operator} {i : Int} {y : V} {T : String}
/-- an error let out by a call is let out here: with it, the rules for own methods and operators serve callees that raise -/
theorem passTk (tk : Tk X fun c d _ L' => El c d L') : Passes (L2.CX X.prog X.w) X (upX El) := fun pins σ H s e s' I c =>
  tk e s' (XE.of_call I (fun cls d H' ⟨L', h', q⟩ => ⟨X.N.zip σ, L', by
    unfold names
    rw [List.map_fst_zip (Nat.le_of_eq I.len.symm)], by
    unfold vals
    rw [List.map_snd_zip (Nat.le_of_eq I.len)], h', q⟩) c)
end
end G
set_option Elab.async false
set_option linter.all false
set_option maxRecDepth 100000
set_option maxHeartbeats 4000000
namespace PySem.W
open PySem PySem.Calls PyProof.Rows
end PySem.W
namespace G
open PySem PySem.Spec PyProof.Rows L2
end G
set_option Elab.async false
set_option linter.all false
set_option maxRecDepth 100000
set_option maxHeartbeats 4000000
namespace G
open PySem PySem.Spec PyProof.Rows L2
/-- a dict that stands still -/
abbrev dO (od : Obj) (kvs : List (Key × V)) : HO := .frz od (.dK kvs)
section
variable {X : Cx} {η : En} {L : Lg} {Q : QV} {a : Addr} {kvs : List (Key × V)} {od : Obj}
theorem gi_dict {j : Nat} {k : Key} {v : V} (hr : RoomG j X.A) (m : (a, dO od kvs) ∈ L) (l : valV kvs k = some v) (q : Q v L) : GIx X (.ref a) (kV k) L Q := fun value slice pins s σ H ov iv hH I ro ri hs => by
  obtain rfl : ov = Value.ref a := ro
  have g : DGet H a (kV k) (some v) := .inl ⟨kvs, k, .inr ⟨od, hH.get m⟩, rfl, l.symm⟩
  exact tail_any (dict_typeIs I g) PySem.F.slot_dict_getitem.lookup (d_getItem (hu_of hr.toRoom) I g ri fun w' s3 I3 rw' => ⟨v, H, I3, rw', L, hH, q⟩) hs
end
/-- no key twice: all stand as they were given -/
theorem merge_snoc : ∀ (more kvs : List (Key × V)), ((kvs ++ more).map (·.1)).Nodup → mergeK kvs more = kvs ++ more
  | [], kvs, _ => by
    rw [List.append_nil]
    rfl
  | e :: more, kvs, h => by
    have n : valV kvs e.1 = none := by
      cases g : valV kvs e.1 with
      | none => rfl
      | some x =>
        exfalso
        unfold valV at g
        obtain ⟨y, hy, -⟩ := Option.map_eq_some_iff.mp g
        have z1 := List.find?_some hy
        have z2 := List.mem_of_find?_eq_some hy
        rw [List.map_append, List.nodup_append] at h
        exact h.2.2 y.1 (List.mem_map.mpr ⟨y, z2, rfl⟩) e.1 (by simp) (by simpa using z1)
    show mergeK (putK kvs e.1 e.2) more = _
    rw [putK_new e.2 n]
    have := merge_snoc more (kvs ++ [e]) (by rw [List.append_assoc]; exact h)
    rw [List.append_assoc] at this
    exact this
theorem merge_nodup {kvs : List (Key × V)} (h : (kvs.map (·.1)).Nodup) : mergeK [] kvs = kvs := merge_snoc kvs [] h
end G
set_option Elab.async false
set_option linter.all false
set_option maxRecDepth 100000
set_option maxHeartbeats 4000000
namespace PySem.W
open PySem PySem.Calls PyProof.Rows
end PySem.W
namespace G
open PySem PySem.Spec PyProof.Rows L2
end G
set_option Elab.async false
set_option linter.all false
set_option maxRecDepth 100000
set_option maxHeartbeats 4000000
namespace G
open PySem PySem.Spec PyProof.Rows L2
end G
set_option Elab.async false
set_option linter.all false
set_option maxRecDepth 100000
set_option maxHeartbeats 400000
namespace PySem
end PySem
namespace PySem
structure ZipGot (P1 P2 : Nat → Value → Prop) (lo : Addr) (h : Heap) (as : List Addr) : Prop where
  rise : as.Pairwise (· < ·)
  above : ∀ a ∈ as, lo < a
  pairs : ∀ (j : Nat) (a : Addr), as[j]? = some a → ∃ x1 x2, P1 j x1 ∧ P2 j x2 ∧ IsTupOf2 h a x1 x2
section
variable {prog : Program} {w : World} {A : Around} {E : Value → Shared → Prop} {s : Shared} {z TI TO i1 i2 S : Addr} {fp1 fp2 : List Addr} {n1 n2 i : Nat} {P1 P2 : Nat → Value → Prop} {St1 St2 : Nat → Heap → Prop}
theorem ZipGot.there {lo : Addr} {h : Heap} {as : List Addr} (g : ZipGot P1 P2 lo h as) {a : Addr} (ha : a ∈ as) : a < h.objs.size := by
  obtain ⟨j, hj⟩ := List.mem_iff_getElem?.mp ha
  obtain ⟨_, _, _, _, e⟩ := g.pairs j a hj
  exact Heap.lt_size e
variable {R : Result → Shared → Prop}
end
end PySem
namespace G
open PySem PySem.Spec PyProof.Rows L2
end G
set_option Elab.async false
set_option linter.all false
set_option maxRecDepth 100000
set_option maxHeartbeats 4000000
namespace G
open PySem PySem.Spec PyProof.Rows L2
end G
set_option Elab.async false
set_option linter.all false
set_option maxRecDepth 100000
set_option maxHeartbeats 400000
namespace G
open PySem PySem.Spec PyProof.Rows L2
/-- the lacking names are looked up, one behind another; then r -/
def KwCh {α : Type} (D : Addr) : List (Str × Value) → Sem α → Sem α → Prop
  | [], t, r => t = r
  | q :: l, t, r => ∃ (β γ : Type) (k1 : Option Value → Sem β) (k2 : β → Sem γ) (k3 : γ → Sem α) (a : β), t = ((nsGet D q.1 >>= k1) >>= k2) >>= k3 ∧ k1 (some q.2) = pure a ∧ KwCh D l (k2 a >>= k3) r
theorem KwCh.run {α : Type} {K : PySem.W.Frag} {M : Model} {A : Around} {E : Value → Shared → Prop} {Q : α → Shared → Prop} {s : Shared} {D : Addr} (X : K.In s.heap) : ∀ {l : List (Str × Value)} {t r : Sem α}, (∀ q ∈ l, PySem.W.nsIn K D q.1 = some (some q.2)) → KwCh D l t r → wpAny M A r Q E s → wpAny M A t Q E s
  | [], t, r, _, e, h => by
    have e : t = r := e
    rw [e]
    exact h
  | q :: l, t, r, hl, e, h => by
    obtain ⟨β, γ, k1, k2, k3, a, e1, e2, e3⟩ := e
    have z := KwCh.run X (fun p hp => hl p (List.mem_cons_of_mem _ hp)) e3 h
    have l1 : PySem.W.Looks M s.heap (nsGet D q.1 >>= k1) a := (PySem.W.looks_nsIn X (hl q (List.mem_cons_self ..))).andThen (PySem.W.Looks.of_pure e2)
    rw [e1, bind_assoc]
    exact wpAny_bind (l1.here z)
end G
set_option Elab.async false
set_option linter.all false
set_option maxRecDepth 100000
set_option maxHeartbeats 400000
namespace PySem.W
open PySem PySem.Calls PySem.Spec PyProof.Rows
end PySem.W
namespace G
open PySem PySem.Spec PyProof.Rows L2
/-- the defaults as the dict at D holds them -/
inductive KwHas (K : PySem.W.Frag) (D : Addr) : List (Str × V) → Prop
  | nil : KwHas K D []
  | cons {x : Str} {v : V} {u : Value} {l : List (Str × V)} (h : PySem.W.nsIn K D x = some (some u)) (r : RelV v u) (t : KwHas K D l) : KwHas K D ((x, v) :: l)
theorem KwHas.all {K : PySem.W.Frag} {D : Addr} : ∀ {l : List (Str × V)}, KwHas K D l → ∀ p ∈ l, ∃ u, PySem.W.nsIn K D p.1 = some (some u) ∧ RelV p.2 u
  | _, .nil, _, h => nomatch h
  | _, .cons h r t, p, hp => by
    rcases List.mem_cons.mp hp with rfl | hp
    · exact ⟨_, h, r⟩
    · exact t.all p hp
end G
set_option Elab.async false
set_option linter.all false
set_option maxRecDepth 100000
set_option maxHeartbeats 400000
namespace G
open PySem PySem.Spec PyProof.Rows L2
/-- the class C has its own __getitem__ -/
structure OwnItem (K : PySem.W.Frag) (C g : Addr) : Prop where
  at_ : PySem.W.findIn K (.ref C) "__getitem__" = some (some (.ref g))
  fn : PySem.W.isFn K (.ref g) = true
  fi : PySem.W.fnIn K g = true
section
variable {X : Cx} {CX : CXT} {η : En} {L : Lg} {Q : QV} {C g : Addr} {j k : Nat} {sp : SpL} {El : XL} {a b : Expr} {pos : Pos}
theorem ge_ixM (T : OwnItem X.K C g) (F : RunG X.prog X.w X.K X.mg X.base CX k g argsP (toSp sp)) (hr : RoomG j X.A) (hx : Passes CX X (upX El))
    (h : GE X a η L fun x L1 => GE X b η L1 fun y L2 => ∃ p dx fs, x = .ref p ∧ (p, HO.ins C dx fs) ∈ L2 ∧ sp [.ref p, y] L2 Q El) (hjk : k + 1 ≤ j := by decide)
    (hs : ∀ o i, subscripted b true o i = runValue (.builtin "lifetime.subscript" ⟨[o, i], []⟩) := by exact fun _ _ => rfl) : GE X (.Subscript a b pos) η L Q := fun hN H hH pins s I => by
  refine Subscript_ (thn (h hN H hH pins s I) fun v s1 ⟨x, H1, I1, rx, L1, h1, q1⟩ => thn (q1 hN H1 h1 pins s1 I1) fun u s2 ⟨y, H2, I2, ry, L2, h2, p, dx, fs, ex, mp, q⟩ => ?_)
  subst ex
  obtain rfl : v = Value.ref p := rx
  obtain ⟨oe, od, J⟩ := ins_inst I2 h2 mp
  obtain ⟨m, hF⟩ := I2.fr
  refine PySem.W.sub_K hF I2.ok.mod.kin J T.at_ T.fi T.fn ?_ (hs _ _)
  refine wpAny_call (codeAny_mono (F X.A.in1 X.stack s2 H2 [.ref p, u] [.ref p, y] _ _ (hr.mono hjk).in1 I2.env0.in1 (.cons rfl (.cons ry .nil)) (up_sp h2 q)) fun r s3 hq => ?_)
  cases r with
  | error e => exact hx pins _ H2 s2 e s3 I2 hq
  | ok fl =>
    cases fl with
    | ret w => exact I2.after hq
    | next => exact hq.elim
    | brk => exact hq.elim
    | cont => exact hq.elim
end
end G
set_option Elab.async false
set_option linter.all false
set_option maxRecDepth 100000
set_option maxHeartbeats 4000000
namespace G
open PySem PySem.Spec PyProof.Rows L2
end G
set_option Elab.async false
set_option linter.all false
set_option maxRecDepth 100000
set_option maxHeartbeats 4000000
namespace G
open PySem PySem.Spec PyProof.Rows L2
end G
set_option Elab.async false
set_option linter.all false
set_option maxRecDepth 100000
set_option maxHeartbeats 4000000
namespace G
open PySem PySem.Spec PyProof.Rows L2
end G
set_option Elab.async false
set_option linter.all false
set_option maxRecDepth 100000
set_option maxHeartbeats 4000000
namespace G
open PySem PySem.Spec PyProof.Rows L2
section
variable {X : Cx} {L : Lg} {elt : Expr} {ifs : List Expr} {scope : Scope} {f : V → En} {R : V → Lg → Prop} {q : Addr} {o : HO} {xs : List V} {pt : Nat → Bool} {pg : Nat → V}
theorem pure_rowI (mq : (q, o) ∈ L) (hl : xs.length ≤ 1000000) (ht : ∀ i v, xs[i]? = some v → TurnP X scope ifs elt L (f v) (pt i) (pg i)) (h : ∀ D, R (.ref D) ((D, .lst (((List.range xs.length).filter pt).map pg)) :: L)) : PureL X scope ifs elt (stOne f) R ⟨xs.length, fun M => (q, o) ∈ M, itemAt xs⟩ L := by
  refine ⟨pt, pg, ⟨hl, fun M h => h _ mq, fun i x E D acc M hi it _ s => ?_⟩, h⟩
  obtain ⟨hx, hE⟩ := it
  subst hE
  exact turnP_use (st := stOne f) (ht i x hx) s
end
end G
set_option Elab.async false
set_option linter.all false
set_option maxRecDepth 100000
set_option maxHeartbeats 4000000
namespace G
open PySem PySem.Spec PyProof.Rows L2
end G
set_option Elab.async false
set_option linter.all false
set_option maxRecDepth 100000
set_option maxHeartbeats 4000000
namespace G
open PySem PySem.Spec PyProof.Rows L2
end G
set_option Elab.async false
set_option linter.all false
set_option maxRecDepth 100000
set_option maxHeartbeats 4000000
namespace G
open PySem PySem.Spec PyProof.Rows L2
namespace DStar
section
variable {prog : Program} {w : World} {κ : Type} [DecidableEq κ] {knd : KeyKind prog w κ} {A : Around} {E : Value → Shared → Prop} {s : Shared}
/-- one entry put behind its hash -/
theorem put_at {d : Addr} {l : List (κ × Value)} {k : κ} {kv v : Value} {Q : Unit → Shared → Prop} (is : knd.is k kv = true) (md : s.heap.DictOf knd d l) (z : l.length ≤ sizeLine)
    (q : ∀ h', h'.DictOf knd d (stored l k v) → Heap.SameBut d s.heap h' → Q () { s with heap := h' }) : wpAny (model prog w) A (dictPut d (knd.hash k) kv v) Q E s := by
  obtain ⟨ob, ent, tick, eo, ex, ed, ks, prs, nodup⟩ := md
  have zs : ent.size ≤ sizeLine := by
    have a := prs.length
    rw [Array.length_toList] at a
    omega
  have same : (ent.findIdx? fun e => knd.is k e.key) = l.findIdx? fun e => decide (e.1 = k) := by
    rw [← prs.findIdx k]
    cases ent
    simp
  unfold dictPut
  refine wpAny_bind (wpAny_dictFind_of is eo ed ks ?_)
  cases f : ent.findIdx? fun e => knd.is k e.key with
  | some i =>
    have any : (l.any fun e => decide (e.1 = k)) = true := any_of_findIdx_some (same ▸ f)
    have ll : (ent.toList.findIdx? fun e => knd.is k e.key) = some i := by
      rw [← f]
      cases ent
      simp
    refine wpAny_updateDict eo ed (q _ ⟨_, _, tick, Heap.get?_update_self _ eo (Obj.isFreed_of_dict (Obj.data_mapDict ed _)), ex.mapDict _, Obj.data_mapDict ed _, ks.modify _ _, ?_, ?_⟩ (Heap.SameBut.update ..))
    · rw [stored, if_pos any]
      have m := prs.modify nodup ll v
      cases ent
      simpa using m
    · rw [stored, if_pos any, keys_map_store]
      exact nodup
  | none =>
    have out : k ∉ l.map (·.1) := not_mem_of_findIdx_none (same ▸ f)
    have any : ¬ (l.any fun e => decide (e.1 = k)) = true := fun c => by
      obtain ⟨e, he, ee⟩ := List.any_eq_true.mp c
      exact out (List.mem_map.mpr ⟨e, he, of_decide_eq_true ee⟩)
    refine wpAny_updateDictKeys (hz := zs) eo ed (q _ ⟨_, _, tick + 1, Heap.get?_update_self _ eo (Obj.isFreed_of_dict (Obj.data_mapDictKeys ed _)), ex.mapDictKeys _, Obj.data_mapDictKeys ed _, ks.push is _, ?_, ?_⟩ (Heap.SameBut.update ..))
    · rw [stored, if_neg any]
      have m := prs.append is (knd.hash k) v
      cases ent
      simpa using m
    · rw [stored, if_neg any, List.map_append]
      refine List.nodup_append.mpr ⟨nodup, List.pairwise_singleton _ _, fun x hx y hy e => ?_⟩
      have : y = k := List.mem_singleton.mp hy
      exact out (by rw [← this, ← e]; exact hx)
theorem dict_sub : isSubtype (.type "dict") (.type "dict") = pure true := by first | rfl | kernel_rfl
theorem dict_iter : typeLookup (.type "dict") "__iter__" = pure (some (.builtin "dict.__iter__")) := by first | rfl | kernel_rfl
theorem loop_in {d o : Addr} {l more : List (κ × Value)} {Q : Unit → Shared → Prop} (ne : d ≠ o) (md : s.heap.DictOf knd d l) (mo : s.heap.DictOf knd o more) (z : l.length + more.length ≤ sizeLine)
    (q : ∀ h', h'.DictOf knd d (merged l more) → Heap.SameBut d s.heap h' → Q () { s with heap := h' }) : wpAny (model prog w) A (do
      let es ← dictEntries o
      let tick ← dictEpoch o
      forIn (List.range es.size) PUnit.unit fun i __s => do
          let now ← dictEntries o
          match now[i]? with
            | some e => do
              holding [e.key, e.val]
                  (if false = true then do
                    let found ← dictFind d e.key e.hash
                    if found.isSome = true then do
                        rule "dict.merge.duplicate-key"
                        let err ← newExc (Value.type "KeyError") [e.key]
                        raiseNew err
                        dictPut d e.hash e.key e.val
                      else dictPut d e.hash e.key e.val
                  else dictPut d e.hash e.key e.val)
              let tock ← dictEpoch o
              if (tock != tick) = true then do
                  unsupported "dict.changed-during-merge"
                  pure (ForInStep.yield PUnit.unit)
                else pure (ForInStep.yield PUnit.unit)
            | x => do
              unsupported "dict.changed-during-merge"
              pure (ForInStep.yield PUnit.unit)
      pure ()) Q E s := by
  obtain ⟨oo, ent, tick, eoo, exo, eod2, ks, prs, nodup⟩ := id mo
  have len : more.length = ent.size := by
    rw [← prs.length, Array.length_toList]
  refine wpAny_bind (wpAny_dictEntries eoo eod2 ?_)
  refine wpAny_bind (wpAny_dictEpoch eoo eod2 ?_)
  refine wpAny_bind ?_
  rw [List.range_eq_range']
  refine wpAny_forIn_list _ (fun rest _ s' => ∃ h' i, s' = { s with heap := h' } ∧ rest = List.range' i (ent.size - i) ∧ i ≤ ent.size ∧ h'.DictOf knd d (merged l (more.take i)) ∧ h'.get? o = some oo ∧ Heap.SameBut d s.heap h') _ ?_ ?_ _ _
    ⟨s.heap, 0, rfl, by rw [Nat.sub_zero], Nat.zero_le _, by simpa [merged] using md, eoo, Heap.SameBut.refl _ _⟩
  · rintro x rest b s' ⟨h', i, rfl, er, li, md', eo', same⟩
    have lt : i < ent.size := by
      rcases Nat.lt_or_ge i ent.size with c | c
      · exact c
      · rw [Nat.sub_eq_zero_of_le c] at er
        cases er
    obtain ⟨rfl, er2⟩ : x = i ∧ rest = List.range' (i + 1) (ent.size - (i + 1)) := by
      rw [show ent.size - i = (ent.size - (i + 1)) + 1 by omega, List.range'_succ] at er
      exact List.cons.inj er
    refine wpAny_bind (wpAny_dictEntries eo' eod2 ?_)
    rw [Array.getElem?_eq_getElem lt]
    have lm : x < more.length := by omega
    obtain ⟨k, v, hk⟩ : ∃ k v, more[x]? = some (k, v) := ⟨_, _, List.getElem?_eq_getElem lm⟩
    obtain ⟨is, ev⟩ := prs.get? (e := ent[x]) (by simp [lt]) hk
    obtain ⟨k2, is2, hash⟩ := ks ent[x] (Array.getElem_mem lt)
    obtain rfl : k2 = k := knd.inj _ _ _ is2 is
    have room : (merged l (more.take x)).length ≤ sizeLine := by
      have a := merged_length_le l (more.take x)
      rw [List.length_take] at a
      omega
    show wpAny _ _ (holding [ent[x].key, ent[x].val] _ >>= _) _ _ _
    refine wpAny_bind (wpAny_holding ?_)
    rw [if_neg (by decide), hash, ev]
    refine put_at is md' room fun h2 md2 same2 => ?_
    have eo2 : h2.get? o = some oo := (same2.2 o fun e => ne e.symm).trans eo'
    refine wpAny_bind (wpAny_dictEpoch eo2 eod2 ?_)
    rw [if_neg (by simp)]
    exact wpAny_pure ⟨h2, x + 1, rfl, er2, lt, by rw [merged_take_succ l more x (k2, v) hk]; exact md2, eo2, same.trans same2⟩
  · rintro b s' ⟨h', i, rfl, er, li, md', eo', same⟩
    have ei : i = ent.size := by
      rcases Nat.lt_or_ge i ent.size with c | c
      · rw [show ent.size - i = (ent.size - (i + 1)) + 1 by omega, List.range'_succ] at er
        cases er
      · exact Nat.le_antisymm li c
    refine wpAny_pure (q h' ?_ same)
    rw [ei, ← len, List.take_length] at md'
    exact md'
/-- a dict merged into another -/
theorem merge_in {d o : Addr} {l more : List (κ × Value)} {Q : Unit → Shared → Prop} (ne : d ≠ o) (ns : (o == sysModules) = false) (md : s.heap.DictOf knd d l) (mo : s.heap.DictOf knd o more) (z : l.length + more.length ≤ sizeLine)
    (q : ∀ h', h'.DictOf knd d (merged l more) → Heap.SameBut d s.heap h' → Q () { s with heap := h' }) : wpAny (model prog w) A (mergeMapping d (.ref o) false) Q E s := by
  obtain ⟨od, dent, dtick, eod, exd, edd, kds, dprs, dnodup⟩ := id md
  obtain ⟨oo, ent, tick, eoo, exo, eod2, ks, prs, nodup⟩ := id mo
  have ty : s.TypeIs (.ref o) "dict" := ⟨oo, eoo, exo.1⟩
  have len : more.length = ent.size := by
    rw [← prs.length, Array.length_toList]
  unfold mergeMapping
  refine wpAny_bind (wpAny_isInstance ty dict_sub ?_)
  refine wpAny_bind (wpAny_specialOf ty dict_iter ?_)
  refine wpAny_bind (wpAny_pure ?_)
  rw [show (some (Value.builtin "dict.__iter__") == some (Value.builtin "dict.__iter__")) = true from rfl]
  dsimp only
  rw [if_neg (by rw [ns]; exact Bool.false_ne_true)]
  refine wpAny_bind (wpAny_dictEntries eod edd ?_)
  refine wpAny_ite_split (fun emp => ?_) (fun _ => ?_)
  · refine wpAny_bind (wpAny_dictEntries eoo eod2 ?_)
    have quiet : ∀ e ∈ ent, ∀ b, e.key ≠ .ref b := fun e he b eb => by
      obtain ⟨k, hk, _⟩ := ks e he
      have c := knd.byValue k _ hk
      rw [eb] at c
      cases c
    refine wpAny_bind ?_
    rw [← Array.forIn_toList]
    refine wpAny_forIn_list _ (fun rest _ s' => s' = s ∧ ∀ e ∈ rest, e ∈ ent) _ ?_ ?_ _ _ ⟨rfl, fun e he => Array.mem_toList_iff.mp he⟩
    · rintro e rest b s' ⟨rfl, sub⟩
      have qe := quiet e (sub e List.mem_cons_self)
      split
      · rename_i b hb
        exact absurd hb (qe b)
      · exact wpAny_pure ⟨rfl, fun x hx => sub x (List.mem_cons_of_mem _ hx)⟩
    rintro b s' ⟨rfl, -⟩
    exact loop_in ne md mo z q
  exact loop_in ne md mo z q
/-- {**m, k: v} -/
theorem display_in {m k v : Sem Value} {Q : Value → Shared → Prop}
    (h : wpAny (model prog w) A m (fun x s1 => wpAny (model prog w) A (mergeMapping s.heap.objs.size x false) (fun _ s2 => wpAny (model prog w) A (subDict [(k, v)]) (fun S s3 =>
      wpAny (model prog w) A (mergeMapping s.heap.objs.size (.ref S) false) (fun _ s4 => Q (.ref s.heap.objs.size) s4) (fun _ _ => False) s3) E s2) (fun _ _ => False) s1) E { s with heap := s.heap.push { cls := .type "dict", data := .dict #[] } }) :
    wpAny (model prog w) A (dictDisplay [(none, m), (some k, v)]) Q E s := by
  unfold dictDisplay
  dsimp only
  rw [List.forIn_cons]
  simp only [List.isEmpty_nil, if_true, pure_bind]
  refine wpAny_bind (wpAny_bind (wpAny_bind (wpAny_alloc ?_)))
  refine wpAny_bind (wpAny_holding (wpAny_mono h (fun x s1 h1 => ?_) fun _ _ e => e))
  refine wpAny_bind (wpAny_onRaise (wpAny_tryCatch (wpAny_onRaise (wpAny_holding (wpAny_mono h1 (fun _ s2 h2 => ?_) fun _ _ z => z.elim)))))
  refine wpAny_pure ?_
  dsimp only
  rw [List.forIn_cons]
  simp only [List.nil_append, List.length_singleton, List.forIn_nil, pure_bind, List.isEmpty_cons]
  rw [if_neg (by decide)]
  refine wpAny_bind (wpAny_pure (wpAny_pure ?_))
  dsimp only
  rw [if_neg (by simp)]
  refine wpAny_bind (wpAny_bind (wpAny_holding (wpAny_mono h2 (fun S s3 h3 => ?_) fun _ _ e => e)))
  refine wpAny_bind (wpAny_onRaise (wpAny_holding (wpAny_mono h3 (fun _ s4 h4 => ?_) fun _ _ z => z.elim)))
  exact wpAny_pure (wpAny_pure h4)
end
end DStar
end G
set_option Elab.async false
set_option linter.all false
set_option maxRecDepth 100000
set_option maxHeartbeats 4000000
namespace G
open PySem PySem.Spec PyProof.Rows L2
theorem mem_pinsAt1 {D : Addr} {h : Heap} {o : Obj} (e : h.get? D = some o) : (D, o) ∈ pinsAt [D] h := mem_pinsAt List.mem_cons_self e
section
variable {X : Cx} {η : En} {L : Lg} {Q : QV} {e kx vx : Expr} {pos : Pos}
theorem ge_dstar (h : GE X e η L fun x L1 => ∃ a od kvs, x = .ref a ∧ (a, dO od kvs) ∈ L1 ∧ kvs.length + 1 ≤ sizeLine ∧ GE X kx η L1 fun kv L2 => ∃ k, kv = kV k ∧ GE X vx η L2 fun v L3 => ∀ q od', Q (.ref q) ((q, dO od' (putK kvs k v)) :: L3)) :
    GE X (.Dict [none, some kx] [e, vx] pos) η L Q := fun hN H hH pins s I => by
  rw [arm_eval_Dict]
  refine wpAny_bind (wpAny_standAt ?_)
  show wpAny _ _ (dictDisplay [(none, do let x ← eval e X.env; standAt pos; pure x), (some (eval kx X.env), do let x ← eval vx X.env; standAt pos; pure x)]) _ _ _
  refine DStar.display_in ?_
  have n0 : H s.heap.objs.size = none := I.hok.fresh (Nat.le_refl _)
  have f0 : FpOk X pins H s.heap.objs.size := I.fpOk (Nat.le_refl _) n0
  have I0 : Inv X pins (vals η) H { s with heap := s.heap.push { cls := .type "dict", data := .dict #[] } } := I.kept (t' := s.toks) (fun _ _ q => Heap.get?_push_of_some _ q)
  have hD0 : (s.heap.push { cls := .type "dict", data := .dict #[] }).get? s.heap.objs.size = some { cls := .type "dict", data := .dict #[] } := Heap.get?_push_size _ rfl
  generalize hD : s.heap.objs.size = D at *
  have I1 := I0.pinned (fp := [D]) (fun b hb => by obtain rfl := List.mem_singleton.mp hb; exact f0) (fun b hb => by obtain rfl := List.mem_singleton.mp hb; exact ⟨_, hD0, fun v z => nomatch z⟩)
  refine wpAny_bind (wpAny_mono (h hN H hH _ _ I1) (fun v s1 z => ?_) fun _ _ z => z)
  obtain ⟨x, H1, I2, rx, L1, hH1, a, od, kvs, rfl, ma, sz, hk⟩ := z
  obtain rfl : v = Value.ref a := rx
  refine wpAny_bind (wpAny_standAt (wpAny_pure ?_))
  obtain ⟨g1, n1, -⟩ := I2.pin (D, _) (List.mem_append_right _ (List.mem_append_right _ (mem_pinsAt1 hD0)))
  have I3 := I2.unpinned
  have f1 : FpOk X pins H1 D := ⟨n1, f0.2⟩
  obtain ⟨z1, hd, vs, rel, dd⟩ := dk_rd I3.hok (.inr ⟨od, hH1.get ma⟩)
  have d1 : s1.heap.DictOf (mixKind X.prog X.w) D [] := ⟨_, #[], 0, g1, ⟨rfl, rfl, rfl⟩, rfl, fun e he => absurd he (by simp), .nil, List.nodup_nil⟩
  have ne : D ≠ a := fun z => by
    have q := hH1.get ma
    rw [← z, n1] at q
    cases q
  have lv : vs.length = kvs.length := rel.length.symm
  refine DStar.merge_in (knd := mixKind X.prog X.w) ne hd d1 dd (by rw [List.length_nil]; omega) (fun h2 dd2 same => ?_)
  have I4 : Inv X pins (vals η) H1 { s1 with heap := h2 } := I3.turned (t' := s1.toks) (it := D) (fun b o hb q => (same.2 b hb).trans q) f1.1 f1.2.1 f1.2.2.2.1 f1.2.2.2.2.1 f1.2.2.2.2.2
  obtain ⟨ob2, es2, t2, e2, ex2, ed2, ks2, prs2, nd2⟩ := dd2
  have nc : ∀ v, ob2.data ≠ .cell v := fun v z => by rw [ed2] at z; cases z
  have I5 := I4.pinned (fp := [D]) (fun b hb => by obtain rfl := List.mem_singleton.mp hb; exact f1) (fun b hb => by obtain rfl := List.mem_singleton.mp hb; exact ⟨_, e2, nc⟩)
  have I6 : Inv X (pins ++ pinsAt [D] h2) (vals η) H1 { s1 with heap := h2.push { cls := .type "dict", data := .dict #[] } } := I5.kept (t' := s1.toks) (fun _ _ q => Heap.get?_push_of_some _ q)
  have nS : H1 h2.objs.size = none := I5.hok.fresh (Nat.le_refl _)
  have fS : FpOk X (pins ++ pinsAt [D] h2) H1 h2.objs.size := I5.fpOk (Nat.le_refl _) nS
  have hS0 : (h2.push { cls := .type "dict", data := .dict #[] }).get? h2.objs.size = some { cls := .type "dict", data := .dict #[] } := Heap.get?_push_size _ rfl
  have big : sysModules < h2.objs.size := I5.big
  have neS : D ≠ h2.objs.size := fun z => absurd (Heap.lt_size e2) (by rw [z]; exact Nat.lt_irrefl _)
  refine wpAny_subDict (knd := mixKind X.prog X.w) (by show 1 ≤ 15; decide) ?_
  show wpAny _ _ _ (fun vs s₁ => ∃ kvs, Carries (mixKind X.prog X.w) vs kvs ∧ s₁.heap.DictOf (mixKind X.prog X.w) h2.objs.size [] ∧ _) _ _
  dsimp only
  generalize hS : h2.objs.size = S at *
  have I7 := I6.pinned (fp := [S]) (fun b hb => by obtain rfl := List.mem_singleton.mp hb; exact fS) (fun b hb => by obtain rfl := List.mem_singleton.mp hb; exact ⟨_, hS0, fun v z => nomatch z⟩)
  refine evalPairs_cons (wpAny_mono (hk hN H1 hH1 _ _ I7) (fun kv s3 z => ?_) fun _ _ z => z)
  obtain ⟨_, H2, I8, rk, L2, hH2, k, rfl, hv⟩ := z
  refine wpAny_bind (wpAny_mono (hv hN H2 hH2 _ _ I8) (fun vv s4 z => ?_) fun _ _ z => z)
  obtain ⟨v, H3, I9, rv, L3, hH3, q⟩ := z
  refine wpAny_bind (wpAny_standAt (wpAny_pure ?_))
  refine evalPairs_nil ?_
  obtain ⟨gS, nS3, -⟩ := I9.pin (S, _) (List.mem_append_right _ (List.mem_append_right _ (mem_pinsAt1 hS0)))
  refine ⟨[(k, vv)], ⟨kV_is rk, rfl, True.intro⟩, ⟨_, #[], 0, gS, ⟨rfl, rfl, rfl⟩, rfl, fun e he => absurd he (by simp), .nil, List.nodup_nil⟩, fun h5 dd5 same5 => ?_⟩
  have I10 := I9.unpinned
  have f3 : FpOk X (pins ++ pinsAt [D] h2) H3 S := ⟨nS3, fS.2⟩
  have I11 : Inv X (pins ++ pinsAt [D] h2) (vals η) H3 { s4 with heap := h5, toks := s4.toks + 1 } := I10.turned (t' := s4.toks + 1) (it := S) (fun b o hb q => (same5.2 b hb).trans q) f3.1 f3.2.1 f3.2.2.2.1 f3.2.2.2.2.1 f3.2.2.2.2.2
  obtain ⟨gD, nD3, -⟩ := I11.pin (D, _) (List.mem_append_right _ (List.mem_append_right _ (mem_pinsAt1 e2)))
  have I12 := I11.unpinned
  have f4 : FpOk X pins H3 D := ⟨nD3, f0.2⟩
  have nds : (S == sysModules) = false := beq_eq_false_iff_ne.mpr fun z => absurd big (by rw [z]; exact Nat.lt_irrefl _)
  have lm : (merged ([] : List (Key × Value)) vs).length ≤ vs.length := by
    have := merged_length_le ([] : List (Key × Value)) vs
    rw [List.length_nil, Nat.zero_add] at this
    exact this
  refine DStar.merge_in (knd := mixKind X.prog X.w) neS nds ⟨ob2, es2, t2, gD, ex2, ed2, ks2, prs2, nd2⟩ dd5 ?_ (fun h6 dd6 same6 => ?_)
  · have e1 : (merged ([] : List (Key × Value)) [(k, vv)]).length ≤ 1 := merged_length_le ([] : List (Key × Value)) [(k, vv)]
    omega
  have nodup : (kvs.map (·.1)).Nodup := by
    rw [rel.keys]
    obtain ⟨_, _, _, _, _, _, _, _, nn⟩ := dd
    exact nn
  have rel2 : KV (putK kvs k v) (merged (merged [] vs) (merged [] [(k, vv)])) := by
    have r1 := KV.merge (more := kvs) (rs := vs) (kvs := []) (vs := []) rel .nil
    rw [merge_nodup nodup] at r1
    exact KV.merge (more := [(k, v)]) (rs := [(k, vv)]) (.cons ⟨rfl, rv⟩ .nil) r1
  have z2 : (putK kvs k v).length ≤ sizeLine := by
    have := length_putK kvs k v
    omega
  have I13 : Inv X pins (vals η) (upd H3 D (.dK (putK kvs k v))) { s4 with heap := h6, toks := s4.toks + 1 } := I12.take (it := D) (t' := s4.toks + 1) (fun b o hb q => (same6.2 b hb).trans q) f4 ⟨z2, beq_eq_false_iff_ne.mpr fun z => absurd I.big (by rw [hD, z]; exact Nat.lt_irrefl _), _, rel2, dd6⟩
  obtain ⟨od', I14⟩ := I13.lock (d := D) upd_same True.intro
  rw [upd_upd] at I14
  exact ⟨.ref D, _, I14, rfl, _, hH3.new nD3, q D od'⟩
end
end G
set_option Elab.async false
set_option linter.all false
set_option maxRecDepth 100000
set_option maxHeartbeats 4000000
namespace G
open PySem PySem.Spec PyProof.Rows L2 NdefX
/-- the frame lets out what W tells, without a context -/
def TkN (X : Cx) (W : XW) : Prop := L2N.Takes X (upW X W)
def GMkN (X : Cx) (e : Expr) (η : En) (L : Lg) (Q : XL) : Prop := X.N = names η → ∀ H, Has H L → ∀ pins s, Inv X pins (vals η) H s → wpAny (model X.prog X.w) X.A (eval e X.env) (fun u s' => L2N.MkP X pins (vals η) (upX Q) u s' ∧ L2H.Six u s') X.xe s
theorem mkpN_imp {X : Cx} {pins : List (Addr × Obj)} {σ : L2.St} {Q Q' : XK} {u : Value} {s : Shared} (h : L2N.MkP X pins σ Q u s) (m : ∀ c d H, Q c d H → Q' c d H) : L2N.MkP X pins σ Q' u s := by
  obtain ⟨a, oe, vs, sI, H', cls, d, h1, h2, h3, h4, h5, h6, h7, h8, h9, h10, h11, h12, q⟩ := h
  exact ⟨a, oe, vs, sI, H', cls, d, h1, h2, h3, h4, h5, h6, h7, h8, h9, h10, h11, h12, m _ _ _ q⟩
/-- an error without a context is an error -/
theorem cxN {P : Program} {w : World} {outer : List Env} {H : Hp} {s : Shared} {E : XK} {u : Value} {s' : Shared} (h : L2N.CX P w outer H s E u s') : L2.CX P w outer H s E u s' := by
  obtain ⟨a, B, H', cls, d, e, fl, r⟩ := h
  exact ⟨a, B, H', cls, d, e, L2H.flyingZ_imp (fun o z => z.zc) fl, r⟩
theorem runN_run {P : Program} {w : World} {K : PySem.W.Frag} {mg : Str → Option Value} {base : Heap} {k : Nat} {f : Addr} {args : List Value → Args} {sp : Sp} (F : RunG P w K mg base (L2N.CX P w) k f args sp) : RunG P w K mg base (L2.CX P w) k f args sp :=
  fun A outer s H us vs Q E hr e0 r h => codeAny_mono (F A outer s H us vs Q E hr e0 r h) fun r s' hq => by
    cases r with
    | error e => exact cxN hq
    | ok fl => cases fl <;> exact hq
theorem fnN_fn {P : Program} {w : World} {K : PySem.W.Frag} {mg : Str → Option Value} {base : Heap} {x : Str} {k : Nat} {args : List Value → Args} {sp : SpL} (F : FnA P w K mg base (L2N.CX P w) x k args sp) : FnA P w K mg base (L2.CX P w) x k args sp := by
  obtain ⟨f, h1, h2, h3⟩ := F
  exact ⟨f, h1, h2, runN_run h3⟩
section
variable {X : Cx} {η : En} {L : Lg} {e : Expr} {es : List Expr} {pos p : Pos} {D : GD} {W : XW} {Q : QV} {j k : Nat} {x : Str} {C : Addr} {ns : List Str} {sp : SpL}
theorem gs_raiseN (tk : TkN X W) (h : GMkN X e η L fun c d L1 => W c d η L1) (hc : X.calm = true := by rfl) : GS X (.Raise (some e) none pos) D η L := fun hN H hH =>
  WS.of (L2N.ps_raise (t := fun σ H Q => ∀ pins s, Inv X pins σ H s → wpAny (model X.prog X.w) X.A (eval e X.env) (L2N.MkP X pins σ Q) X.xe s) hc tk (fun pins s σ H Q I q => q pins s I))
    (fun pins s I => thn (h hN H hH pins s I) fun u s' z => mkpN_imp z.1 fun c d H' ⟨L', h', q⟩ => ⟨η, L', hN, rfl, h', q⟩)
/-- C(e, ..) where nothing is handled -/
theorem pmk_oexN {CX : CXT} {C fI : Addr} {fd : FuncData} {ps : List Str} {sp : Sp} {ta : TA} (T : OexC X.K C) (iC : PySem.W.findIn X.K (.ref C) "__init__" = some (some (.ref fI))) (tI : PySem.W.typeIn X.K (.ref fI) = some (.type "function"))
    (F1 : FnOk X.prog X.w X.K X.mg X.base CX k fI fd ps sp) (hr : Room (k + 1) X.A) (hb : L2.Binds X.K fd ps []) (hx : L2.Passes CX X (fun _ _ _ => False)) (hg : Gl X x) (hm : X.mg x = some (.ref C)) (ha : PA X (e :: es) ta)
    (hdb : (x == ("__debug__" : Str)) = false := by decide) (he : starEach (e :: es) X.env = (false, eval e X.env) :: starEach es X.env := by rfl) (hpl : (backTo pos (starEach es X.env)).any (·.1) = false := by rfl) :
    L2H.PMk5 X (.Call (.Name x p) (e :: es) [] pos) (tMkO C sp [] ta) := by
  intro pins s σ H Q I h
  obtain ⟨nm, q, N, bs, bm, sn, sub, ab, col, dd, k0, k1, k2, k3, k5, hC, hbm⟩ := T.cls
  refine wpAny_Call_Name_kw (ld_glob I hg hm ?_ hdb)
  refine PySem.W.callWith_K (h₀ := X.base) I.ok.mod.kin T.kC (thn (ha.run pos pins s σ H _ I h) fun us s1 ⟨vs, H1, I1, r1, hz, q1⟩ => ⟨I1.kIn, ?_⟩) he hpl
  show wpAny _ _ (call (.ref C) us) _ _ _
  obtain ⟨hp, g, dr, tk, os⟩ := s1
  have hsz : hp.objs.size ≤ hp.objs.size + 1 := Nat.le_succ _
  have hn : H1 (hp.objs.size + 1) = none := I1.hok.fresh hsz
  have hq := q1 (hp.objs.size + 1) hn
  rw [List.append_nil] at hq
  have kk : ∀ b o, hp.get? b = some o → ((hp.push (PySem.W.kdv_tup us)).push (PySem.HandSPX.excO C hp.objs.size)).get? b = some o := fun b o e => Heap.get?_push_of_some _ (Heap.get?_push_of_some _ e)
  have hget : ((hp.push (PySem.W.kdv_tup us)).push (PySem.HandSPX.excO C hp.objs.size)).get? (hp.objs.size + 1) = some (PySem.HandSPX.excO C hp.objs.size) := by heap_get
  have I2 : Inv X pins σ (upd H1 (hp.objs.size + 1) (exo (hp.objs.size + 1) C none)) ⟨(hp.push (PySem.W.kdv_tup us)).push (PySem.HandSPX.excO C hp.objs.size), g, dr, tk, os⟩ :=
    I1.laid (t' := tk) (a := hp.objs.size + 1) (o := exo (hp.objs.size + 1) C none) (h' := (hp.push (PySem.W.kdv_tup us)).push (PySem.HandSPX.excO C hp.objs.size)) kk hsz (exo_ok hget)
  have r2 : Vals (V.ref (hp.objs.size + 1) :: vs) (Value.ref (hp.objs.size + 1) :: us) := .cons rfl r1
  have hl : (Value.ref (hp.objs.size + 1) :: us ++ []).length = ps.length := by
    have e := r2.length
    rw [F1.len _ _ _ _ hq] at e
    rw [List.append_nil]
    exact e.symm
  have hus : us.length ≤ sizeLine := by
    rw [← Paired.length r1, sizeLine_eq]
    omega
  have b2 := hb _ (Value.ref (hp.objs.size + 1) :: us) I2.kIn hl
  rw [List.append_nil] at b2
  refine wpAny_call (PySem.HandSPX.call_own F.excBase_ValueError (fun Y => PySem.HandSPX.refsVE_contains Y bm hbm) (I1.kIn _ _ hC) (PySem.W.looks_findIn I1.kIn iC) (fun self => PySem.W.bind_fn I1.kIn self tI) hus
    (codeAny_mono (F1.run _ X.stack _ _ ⟨Value.ref (hp.objs.size + 1) :: us, []⟩ (Value.ref (hp.objs.size + 1) :: us) _ _ (fun _ _ _ => False) (hr.make C us []) (I2.env0.make C us []) b2 r2 hq) fun r s' hq' => ?_))
  cases r with
  | error er => exact hx pins σ _ _ er s' I2 hq'
  | ok fl =>
    cases fl with
    | ret u =>
      obtain ⟨v, H2, os2, bare2, un2, hok2, rv, ev, d, fs, ea, ed, hd1, q2⟩ := hq'
      subst ev
      obtain ⟨h2, g2, d2, t2, os'⟩ := s'
      obtain ⟨t0, G, J, kG, ge, hoe, na⟩ := mk_end0 (d2 := d2) (t2 := t2) I1 hsz kk un2 hok2 os2 bare2 ea ed hd1
      refine ⟨rv, ⟨hp.objs.size + 1, _, _, ⟨G, g2, d2, t2, os'⟩, _, .ref C, some d, rfl, J, kG, ge, hoe, ⟨rfl, rfl, fun vs hv => ?_⟩, rfl, rfl, na, rfl, bare2, raises_own T.exC T.tyC, q2⟩, fun a oe vs ea2 hg2 hd2 => ?_⟩
      · cases hv
        rfl
      · cases ea2
        have hg3 : h2.get? (hp.objs.size + 1) = some oe := hg2
        rw [hoe] at hg3
        cases hg3
        cases hd2
        show (4 : Nat) < 6
        decide
    | next => exact False.elim hq'
    | brk => exact False.elim hq'
    | cont => exact False.elim hq'
/-- what an error's __init__ leaves, told of a ledger -/
theorem tMk_of {E : XL} {H : Hp} (h : GA X (e :: es) η L fun vs L1 => vs.length = ns.length ∧ ∀ d, E (.ref C) (some d) ((d, .xd (ns.zip vs).reverse) :: L1)) (hn : ns.length ≤ 900) (hN : X.N = names η) (hH : Has H L) : tMkO C (spErr C ns) [] (WA X (e :: es)) (vals η) H (upX E) := by
  refine (h hN H hH).mono fun vs H1 ⟨L1, h1, hl, q⟩ => ⟨by omega, fun a ha => ⟨a, vs, by rw [List.append_nil], hl, upd_same, fun u d hu du da ua hd => ⟨rfl, d, _, upd_same, by rw [upd_ne da, upd_same], ?_, ?_⟩⟩⟩
  · rw [upd_ne da] at hd
    exact hd
  · refine ⟨_, ?_, q d⟩
    have hd1 : H1 d = none := by
      rw [upd_ne da] at hd
      exact hd
    have hu1 : H1 u = none := by
      rw [upd_ne ua] at hu
      exact hu
    have old : ∀ b o, H1 b = some o → (upd (del (upd (upd (upd (upd H1 a (exo a C none)) u (mwO a u)) d (exd d (ns.zip vs).reverse)) a (exo a C (some d))) a) d (.xd (ns.zip vs).reverse)) b = some o := fun b o z => by
      have na := ne_of_none z ha
      rw [upd_ne (ne_of_none z hd1), del_ne na, upd_ne na, upd_ne (ne_of_none z hd1), upd_ne (ne_of_none z hu1), upd_ne na]
      exact z
    exact h1.newB hd1 old upd_same
theorem gmk_errN {E : XL} (T : ErrC X.prog X.w X.K X.mg X.base x C ns) (hr : RoomG j X.A) (h : GA X (e :: es) η L fun vs L1 => vs.length = ns.length ∧ ∀ d, E (.ref C) (some d) ((d, .xd (ns.zip vs).reverse) :: L1)) (hn : ns.length ≤ 900) (hj : 2 ≤ j := by decide) (hg : Gl X x := by rfl)
    (hdb : (x == ("__debug__" : Str)) = false := by decide) (he : starEach (e :: es) X.env = (false, eval e X.env) :: starEach es X.env := by rfl) (hpl : (backTo pos (starEach es X.env)).any (·.1) = false := by rfl) : GMkN X (.Call (.Name x p) (e :: es) [] pos) η L E := fun hN H hH pins s I => by
  obtain ⟨fI, fd, G, F, hb⟩ := T.ex
  exact pmk_oexN G.T G.iC G.tI F (hr.toRoom.mono hj) hb (fun _ _ _ _ _ _ _ z => z.elim) hg G.gC pa_W hdb he hpl pins s (vals η) H _ I (tMk_of h hn hN hH)
/-- what a callee of ours lets out, taken -/
theorem run_xN {pins : List (Addr × Obj)} {H : Hp} {s : Shared} {f : Addr} {args : List Value → Args} {us : List Value} {vs : List V} (F : RunG X.prog X.w X.K X.mg X.base (L2N.CX X.prog X.w) k f args (toSp sp)) (hr : RoomG k X.A) (tk : TkN X W) (hN : X.N = names η) (hH : Has H L) (I : Inv X pins (vals η) H s) (r : Vals vs us)
    (h : sp vs L Q fun c d L' => W c d η L') : wpAny (model X.prog X.w) X.A (call (.ref f) (args us).pos (args us).kw) (EP X pins (vals η) (up Q)) X.xe s := by
  have hsp : toSp sp vs H (up Q) (fun c d H' => upW X W c d (vals η) H') := ⟨L, Q, _, hH, h, fun _ L' _ h' q => ⟨L', h', q⟩, fun _ _ L' _ h' q => ⟨η, L', hN, rfl, h', q⟩⟩
  refine wpAny_call (codeAny_mono (F X.A X.stack s H us vs _ _ hr I.env0 r hsp) fun r' s' hq => ?_)
  cases r' with
  | error e => exact L2N.passAt tk (vals η) pins H s e s' I hq
  | ok fl =>
    cases fl with
    | ret u => exact I.after hq
    | next => exact hq.elim
    | brk => exact hq.elim
    | cont => exact hq.elim
theorem ge_callXN (F : Fn X.prog X.w X.K X.mg X.base (L2N.CX X.prog X.w) x k sp) (hr : RoomG j X.A) (tk : TkN X W) (h : GA X (e :: es) η L fun vs L1 => sp vs L1 Q fun c d L' => W c d η L') (hjk : k ≤ j := by decide) (hg : Gl X x := by rfl) (hd : (x == ("__debug__" : Str)) = false := by decide)
    (he : starEach (e :: es) X.env = (false, eval e X.env) :: starEach es X.env := by rfl) (hpl : (backTo pos (starEach es X.env)).any (·.1) = false := by rfl) : GE X (.Call (.Name x p) (e :: es) [] pos) η L Q := fun hN H hH pins s I => by
  obtain ⟨f, hm, hk, F⟩ := F
  refine wpAny_Call_Name_kw (ld_glob I hg hm (PySem.W.callWith_K (h₀ := X.base) I.ok.mod.kin hk (thn (h hN H hH pos pins s I) fun us s1 ⟨vs, H1, J, r, L1, h1, q⟩ => ⟨J.kIn, ?_⟩) he hpl) hd)
  exact run_xN (args := argsP) F (hr.mono hjk) tk hN h1 J r q
end
section
variable {P : Program} {w : World} {K : PySem.W.Frag} {mg : Str → Option Value} {base : Heap}
abbrev cxRN (P : Program) (w : World) (K : PySem.W.Frag) (mg : Str → Option Value) (base : Heap) (N : List Str) (x : Str) (sc : Scope) (f : Addr) (cdv : Value) (A : Around) (outer : List Env) (s : Shared) (H : Hp) (E0 : XK) : Cx := cxOf (L2N.CX P w) P w K mg base N x sc f cdv A outer s H E0
abbrev BodyXN (P : Program) (w : World) (K : PySem.W.Frag) (mg : Str → Option Value) (base : Heap) (N : List Str) (q : Str) (st : Stmt) (k : Nat) (sp : SpL) : Prop :=
  ∀ (X : Cx) (f : Addr) (cdv : Value) (A : Around) (outer : List Env) (s : Shared) (H : Hp) (E0 : XK) (L : Lg) (vs : List V) (Q : QV) (E : XL), X = cxRN P w K mg base N q (defScope st) f cdv A outer s H E0 → X.N.Nodup → RoomG k X.A → TkN X (fun c d _ L' => drpE E c d L') → sp vs L Q E → GSs X (defBody st) (bodyD Q) (begun N vs) L
theorem run_raiseN {x q : Str} {st : Stmt} {f : Addr} {fd : FuncData} {N ps : List Str} {k : Nat} {sp : SpL} (F : Fun K x q st f fd) (S : FnScope N ps (defScope st)) (args : List Value → Args) (pmV : List V → List V) (pmU : List Value → List Value) (hpm : ∀ vs us, Vals vs us → Vals (pmV vs) (pmU us))
    (hb : ∀ (kV doc pm : Value) (an : Option Addr) (cdv ct : Value) (us : List Value), (pmU us).length = ps.length → bindArgs (PySem.W.fnOf x q (defArgs st) (defBody st) (defScope st) .none kV doc pm an cdv ct) (args us) = pure (ps.zip (pmU us)))
    (hl : ps.length ≤ N.length) (len : ∀ vs L Q E, sp vs L Q E → vs.length = ps.length) (body : BodyXN P w K mg base N q st k sp) : RunG P w K mg base (L2N.CX P w) (k + 1) f args (fun vs => toSp sp (pmV vs)) := by
  obtain ⟨oc, od, kV, doc, pm, an, cdv, ct, osl, rfl, lk, hcd⟩ := F.ex
  intro A outer s H us vs Q E hr e0 r hsp
  obtain ⟨L, Ql, El, hH, h, hq, he⟩ := hsp
  have hn : (pmV vs).length = ps.length := len _ L Ql El h
  have r2 := hpm vs us r
  have hlv : (pmV vs).length ≤ N.length := by
    rw [hn]
    exact hl
  have tk : TkN (cxRN P w K mg base N q (defScope st) f cdv A outer s H E) (fun c d _ L' => drpE El c d L') := (L2N.takes_of rfl rfl rfl rfl).imp fun c d σ H' ⟨η, L', _, _, h', M, sb, z⟩ => he c d M H' (sb _ h') z
  exact LamX.run_ofS (CX := L2N.CX P w) lk hcd S hr.toRoom e0 (.of_eq (hb kV doc pm an cdv ct us (by rw [← r2.length]; exact hn))) r2 hn fun hr2 =>
    ⟨WSs _ (defBody st), pss_W, body_end (X := cxRN P w K mg base N q (defScope st) f cdv A outer s H E) hlv hq hH (body _ f cdv A outer s H E L (pmV vs) Ql El rfl S.nd ⟨hr2, guard_deeper hr.gd⟩ tk h)⟩
/-- a def that may let errors out; where it is called nothing is handled -/
theorem fn_raiseN {x : Str} {st : Stmt} {N ps : List Str} {k : Nat} {sp : SpL} (F : Df K mg x st) (S : FnScope N ps (defScope st))
    (hb : ∀ (kV doc pm : Value) (an : Option Addr) (cdv ct : Value) (us : List Value), us.length = ps.length → bindArgs (PySem.W.fnOf x x (defArgs st) (defBody st) (defScope st) .none kV doc pm an cdv ct) ⟨us, []⟩ = pure (ps.zip us))
    (hl : ps.length ≤ N.length) (len : ∀ vs L Q E, sp vs L Q E → vs.length = ps.length) (body : BodyXN P w K mg base N x st k sp) : Fn P w K mg base (L2N.CX P w) x (k + 1) sp := by
  obtain ⟨f, fd, hm, F⟩ := F
  exact ⟨f, hm, F.kp, run_raiseN F S argsP id id (fun _ _ r => r) hb hl len body⟩
end
end G
set_option Elab.async false
set_option linter.all false
set_option maxRecDepth 100000
set_option maxHeartbeats 4000000
namespace G
open PySem PySem.Spec PyProof.Rows L2 NdefX
section
variable {CX : CXT} {P : Program} {w : World} {K : PySem.W.Frag} {mg : Str → Option Value} {base : Heap} {N ps : List Str} {x q : Str} {st : Stmt} {f c cc D : Addr} {fd : FuncData} {k : Nat} {sp : Sp}
/-- a method with super() keeps its promise where an error is handled -/
theorem SupF.okH (F : SupF P K x q st f c cc D fd) (S : NScope N ps ["__class__"] (defScope st)) (len : ∀ vs H Q E, sp vs H Q E → vs.length = ps.length)
    (body : ∀ (A : Around) (outer : List Env) (s : Shared) (H : Hp) (vs : List V) (Q : VK) (E : XK) (p : Addr × Obj), L2H.Hot1 A p → L2H.RoomH k (A.deeper (envF (nfS x q st cc c) f s.heap.objs.size)) → sp vs H Q E →
      AtSs (ncxH CX P w K mg base N (nfS x q st cc c) f A outer s H E p) (defBody st) (defBody st) { nx := fun _ H' => Q .non H', rt := Q } (startF N vs [none]) H) : L2H.FnH P w K mg base CX (k + 1) f fd ps sp := by
  refine ⟨len, fun A outer s H args us vs Q E p hr hot hpin e0 hb r hsp => ?_⟩
  obtain ⟨oc, od, kV, doc, pm, ct, an, osl, rfl, lk⟩ := F.ex
  have KX : K.In s.heap := e0.mod.kin.keeps fun b o e => (e0.bs b o e).1
  have lim : s.heap.NoLimit := e0.mod.nolimit.keeps fun b o e => (e0.bs b o e).1
  refine _root_.PySem.ks_codeAny_call_defAt (body := defBody st) hr.depth (KX _ _ lk) rfl lim (PySem.W.codeRec_of KX F.cd) rfl hb S.nocell (fun ⟨n, _⟩ hy => S.par n (List.of_mem_zip hy).1) (fun h₁ hns kp => ?_) S.co S.gen S.kind
  have I : Inv (ncxH CX P w K mg base N (nfS x q st cc c) f A outer s H E p) [] (startF N vs [none]) H { s with heap := h₁, toks := s.toks + (ps.zip us).length } := inv_startNH S hpin e0 (len _ _ _ _ hsp) r (F.cells e0) hns kp
  refine _root_.PySem.wpAt_mono (body A outer s H vs Q E p hot (hr.deeper _) hsp [] _ I) (fun fl s' hs => ?_) fun e s' hs => hs
  have fin : ∀ {σ' : L2.St} {H' : Hp} {v : V} {u : Value}, Inv (ncxH CX P w K mg base N (nfS x q st cc c) f A outer s H E p) [] σ' H' s' → L2.RelV v u → Q v H' → CE outer P w H s Q u s' := fun {σ' H' v u} J rv qq => ⟨v, H', J.os, J.bare, J.base, J.hok, rv, qq⟩
  cases fl with
  | ret u =>
    obtain ⟨v, σ', H', J, rv, qq⟩ := hs
    exact fin J rv qq
  | next =>
    obtain ⟨σ', H', J, qq⟩ := hs
    exact fin (v := V.non) (u := Value.none) J rfl qq
  | brk => exact hs.elim fun _ z => z.elim fun _ z => z.2.elim
  | cont => exact hs.elim fun _ z => z.elim fun _ z => z.2.elim
end
/-- an error class that can be made in an except suite -/
structure ErrH (P : Program) (w : World) (K : PySem.W.Frag) (mg : Str → Option Value) (base : Heap) (x : Str) (C : Addr) (ns : List Str) : Prop where
  ex : ∃ fI fd, ErrK K mg x C fI ns ∧ L2H.FnH P w K mg base CX0 1 fI fd ("self" :: ns) (spErr C ns) ∧ L2.Binds K fd ("self" :: ns) []
section
variable {P : Program} {w : World} {K : PySem.W.Frag} {mg : Str → Option Value} {base : Heap} {x q : Str} {st : Stmt} {f c cc C : Addr} {fd : FuncData} {n m : Str} {pa0 : Arg} {p0 p1 p2 p3 p4 p5 p6 q0 q1 q2 q3 r0 r1 r2 r3 : Pos}
/-- super().__init__(n); self.n = n -/
theorem err1_okH (F : SupF P K "__init__" q st f c cc C fd) (G : ErrK K mg x C f [n]) (S : NScope ["self", n, "__class__"] ["self", n] ["__class__"] (defScope st))
    (eb : defBody st = [.Expr (.Call (.Attribute (.Call (.Name "super" p0) [] [] p1) "__init__" p2) [.Name n p3] [] p4) p5, .Assign [.Attribute (.Name "self" q0) n q1] (.Name n q2) q3])
    (hp : (fd.params.posonlyargs ++ fd.params.args).head? = some pa0) (h0 : pa0.arg = "self") (hks : (defScope st).names.lookup ("super" : Str) = some .globalImplicit)
    (hint : ∀ L, interactive (envF (nfS "__init__" q st cc c) f L) = false)
    (hsw1 : ∀ L, swapsWith (.Call (.Attribute (.Call (.Name "super" p0) [] [] p1) "__init__" p2) [.Name n p3] [] p4) none p5.line (envF (nfS "__init__" q st cc c) f L) = pure false)
    (hev : ∀ L, ∃ pl : Sem Bool, eval (.Call (.Attribute (.Call (.Name "super" p0) [] [] p1) "__init__" p2) [.Name n p3] [] p4) (envF (nfS "__init__" q st cc c) f L) = (do
      let ov ← attributeBase (.Call (.Name "super" p0) [] [] p1) "__init__" (envF (nfS "__init__" q st cc c) f L) (eval (.Call (.Name "super" p0) [] [] p1) (envF (nfS "__init__" q st cc c) f L))
      standAt p2.atName
      let (ff, first) ← holding [ov] (getMethod ov "__init__" pl)
      callWith p4 ff first (backTo p4 (starEach [.Name n p3] (envF (nfS "__init__" q st cc c) f L))) []))
    (hsw2 : ∀ L, swapsWith (.Name n q2) (some (.Attribute (.Name "self" q0) n q1)) q3.line (envF (nfS "__init__" q st cc c) f L) = pure false) (hdb : (n == ("__debug__" : Str)) = false) (hcd : (n == ("__classdict__" : Str)) = false) : L2H.FnH P w K mg base CX0 1 f fd ["self", n] (spErr C [n]) := by
  refine F.okH S (fun vs H Q E h => ?_) (fun A outer s H vs Q E p hot hr h => ?_)
  · obtain ⟨a, ws, rfl, hl, _⟩ := h
    simpa using hl
  · obtain ⟨a, ws, rfl, hl, ha, hq⟩ := h
    match ws, hl with
    | [v], _ =>
      obtain ⟨pl, hev⟩ := hev s.heap.objs.size
      rw [eb]
      have vn : Vis (defScope st) n := .inl (S.par n (by simp))
      have hself : (defScope st).names.lookup ("self" : Str) = some .local := S.par "self" (by simp)
      have pN : PE (ncxH CX0 P w K mg base ["self", n, "__class__"] (nfS "__init__" q st cc c) f A outer s H E p) (.Name n p3) (tVar 1) := pe_var rfl vn hdb hcd
      refine at_supx (i := 0) F rfl rfl clsCell hp hks (S.frk "__class__" (by simp)) (by rw [h0]; exact hself) G.su G.T G.sm G.sub G.sV G.op (by rw [h0]; rfl) rfl ha (pa_cons pN pa_nil) (fun u hu => ?_) (hint := hint _) (hsw := hsw1 _) (hev := hev)
      have ua : u ≠ a := fun z => by
        rw [z, ha] at hu
        cases hu
      refine ⟨v, rfl, by show 1 ≤ 1000; decide, upd_same, ?_, .any ?_⟩
      · rw [upd_ne (Ne.symm ua)]
        exact ha
      · refine WSs.of (pss_one (ps_ost (pe_var (i := 0) rfl (.inl hself)) (pe_var (i := 1) rfl vn hdb hcd) (hsw2 _))) ?_
        refine ⟨v, rfl, .ref a, rfl, a, C, rfl, G.T, G.no n (by simp), .inl ⟨?_, fun d hd hda => ?_⟩⟩
        · rw [upd_ne (Ne.symm ua)]
          exact ha
        · have du : d ≠ u := fun z => by
            rw [z, upd_same] at hd
            cases hd
          rw [upd_ne du] at hd
          exact hq u d hu du hda ua hd
end
section
variable {P : Program} {w : World} {K : PySem.W.Frag} {mg : Str → Option Value} {base : Heap} {x q : Str} {st : Stmt} {C fI c cc : Addr} {n m : Str}
variable {nm qn : Str} {N : Addr} {bs bm : List Value} {sn : List Str} {sub : List Value} {ab : Bool} {col : Option Bool} {dd : Option Addr} {k0 k1 k2 k3 k5 : Option Value} {oc kV doc pm ct cl ccl : Value} {od an cld cdd : Option Addr} {osl csl ccs : Array (Option Value)} {vs : Array Value} {fl : Str} {tf : Tok} {cd : ClassData}
variable {p0 p1 p2 p3 p4 p5 p6 q0 q1 q2 q3 r0 r1 r2 r3 : Pos} {pa0 : Arg}
/-- a class of one field: def __init__(self, n): super().__init__(n); self.n = n -/
theorem err_mk1H {h : Heap} (n : Str) (X : K.In h) (G : h.Ns mainGlobals mg) (A : ErrAll P K mg) (F : ErrFacts P K x q st C fI c cc nm qn N bs bm sn sub ab col dd k0 k1 k2 k3 k5 oc kV doc pm ct cl ccl od an cld cdd osl csl ccs vs fl tf cd) (no : PySem.W.findIn K (.ref C) n = some none)
    (S : NScope ["self", n, "__class__"] ["self", n] ["__class__"] (defScope st))
    (eb : defBody st = [.Expr (.Call (.Attribute (.Call (.Name "super" p0) [] [] p1) "__init__" p2) [.Name n p3] [] p4) p5, .Assign [.Attribute (.Name "self" q0) n q1] (.Name n q2) q3])
    (hp : ((defArgs st).posonlyargs ++ (defArgs st).args).head? = some pa0) (h0 : pa0.arg = "self") (hks : (defScope st).names.lookup ("super" : Str) = some .globalImplicit)
    (hint : ∀ L, interactive (envF (nfS "__init__" q st cc c) fI L) = false)
    (hsw1 : ∀ L, swapsWith (.Call (.Attribute (.Call (.Name "super" p0) [] [] p1) "__init__" p2) [.Name n p3] [] p4) none p5.line (envF (nfS "__init__" q st cc c) fI L) = pure false)
    (hev : ∀ L, ∃ pl : Sem Bool, eval (.Call (.Attribute (.Call (.Name "super" p0) [] [] p1) "__init__" p2) [.Name n p3] [] p4) (envF (nfS "__init__" q st cc c) fI L) = (do
      let ov ← attributeBase (.Call (.Name "super" p0) [] [] p1) "__init__" (envF (nfS "__init__" q st cc c) fI L) (eval (.Call (.Name "super" p0) [] [] p1) (envF (nfS "__init__" q st cc c) fI L))
      standAt p2.atName
      let (ff, first) ← holding [ov] (getMethod ov "__init__" pl)
      callWith p4 ff first (backTo p4 (starEach [.Name n p3] (envF (nfS "__init__" q st cc c) fI L))) []))
    (hsw2 : ∀ L, swapsWith (.Name n q2) (some (.Attribute (.Name "self" q0) n q1)) q3.line (envF (nfS "__init__" q st cc c) fI L) = pure false) (hdb : (n == ("__debug__" : Str)) = false) (hcd : (n == ("__classdict__" : Str)) = false)
    (hb : ∀ us : List Value, us.length = 2 → bindArgs (PySem.W.fnX "__init__" q (defArgs st) (defBody st) (defScope st) [("__class__", cc)] .none kV doc pm an (.ref c) ct) ⟨us, []⟩ = pure ((["self", n] : List Str).zip us)) : ErrH P w K mg base x C [n] := by
  have N1 : ∀ m ∈ [n], PySem.W.findIn K (.ref C) m = some none := fun m hm => by
    rw [List.mem_singleton.mp hm]
    exact no
  have EK := F.errK (ns := [n]) X G A.op A.su N1
  exact ⟨fI, _, EK, err1_okH (F.sup A.top) EK S eb hp h0 hks hint hsw1 hev hsw2 hdb hcd, .all fun us hl => hb us hl⟩
end
section
variable {X : Cx} {η : En} {L : Lg} {e : Expr} {es : List Expr} {pos p : Pos} {j : Nat} {x : Str} {C : Addr} {ns : List Str}
theorem gmk_errH {E : XL} (T : ErrH X.prog X.w X.K X.mg X.base x C ns) (hr : L2H.RoomH j X.A) (hot : L2H.HotC X) (h : GA X (e :: es) η L fun vs L1 => vs.length = ns.length ∧ ∀ d, E (.ref C) (some d) ((d, .xd (ns.zip vs).reverse) :: L1)) (hn : ns.length ≤ 900) (hj : 2 ≤ j := by decide) (hg : Gl X x := by rfl)
    (hdb : (x == ("__debug__" : Str)) = false := by decide) (he : starEach (e :: es) X.env = (false, eval e X.env) :: starEach es X.env := by rfl) (hpl : (backTo pos (starEach es X.env)).any (·.1) = false := by rfl) : GMkN X (.Call (.Name x p) (e :: es) [] pos) η L E := fun hN H hH pins s I => by
  obtain ⟨fI, fd, G, F, hb⟩ := T.ex
  exact L2H.pmk5_oexH G.T G.iC G.tI F (hr.mono hj) hot hb (fun _ _ _ _ _ _ _ z => z.elim) hg G.gC pa_W hdb he hpl pins s (vals η) H _ I (tMk_of h hn hN hH)
end
end G
set_option Elab.async false
set_option linter.all false
set_option maxRecDepth 100000
set_option maxHeartbeats 4000000
namespace G
open PySem PySem.Spec PyProof.Rows L2 HotX
/-- the heap behind «from y»: field 3 is y, field 4 is True -/
def causeAt (h : Heap) (a : Addr) (y : Value) : Heap := (h.update a (Obj.mapFields (·.setIfInBounds 3 y))).update a (Obj.mapFields (·.setIfInBounds 4 (.bool true)))
theorem causeAt_at {h : Heap} {a : Addr} {oe : Obj} {vs : Array Value} {y : Value} (ha : h.get? a = some oe) (hd : oe.data = .fields vs) :
    (causeAt h a y).get? a = some ((oe.mapFields (·.setIfInBounds 3 y)).mapFields (·.setIfInBounds 4 (.bool true))) ∧ ((oe.mapFields (·.setIfInBounds 3 y)).mapFields (·.setIfInBounds 4 (.bool true))).data = .fields ((vs.setIfInBounds 3 y).setIfInBounds 4 (.bool true)) := by
  have hd3 := Obj.data_mapFields hd (·.setIfInBounds 3 y)
  have ha3 := Heap.get?_update_self (Obj.mapFields (·.setIfInBounds 3 y)) ha (Obj.isFreed_of_fields hd3)
  have hd4 := Obj.data_mapFields hd3 (·.setIfInBounds 4 (.bool true))
  exact ⟨Heap.get?_update_self (Obj.mapFields (·.setIfInBounds 4 (.bool true))) ha3 (Obj.isFreed_of_fields hd4), hd4⟩
theorem causeAt_other {h : Heap} {a b : Addr} {y : Value} (hne : a ≠ b) : (causeAt h a y).get? b = h.get? b := by
  unfold causeAt
  rw [Heap.get?_update_other _ _ hne, Heap.get?_update_other _ _ hne]
theorem raise_from {prog : Program} {w : World} {A : Around} {E : Value → Shared → Prop} {env : Env} {s : Shared} {x c : Sem Value} {Q : Flow → Shared → Prop} {x1 : Addr}
    (h : wpAny (model prog w) A x (fun v s₁ => ∃ a oe vs cls o1 v1, v = .ref a ∧ s₁.heap.get? a = some oe ∧ oe.cls = cls ∧ oe.data = .fields vs ∧ vs[1]? = some .none ∧ 4 < vs.size ∧ x1 ≠ a ∧ HotAt A x1 s₁.heap ∧
      (∀ Q' : Value → Shared → Prop, Q' (.ref x1) s₁ → wpAny (model prog w) A c Q' E s₁) ∧ s₁.heap.get? x1 = some o1 ∧ o1.data = .fields v1 ∧ PySem.W.Looks (model prog w) s₁.heap (isSubtype o1.cls (.type "BaseException")) true ∧
      PySem.W.Looks (model prog w) s₁.heap (isSubtype cls (.type "BaseException")) true ∧ PySem.W.Looks (model prog w) (causeAt s₁.heap a (.ref x1)) (typeOf cls) (.type "type") ∧
      E (.ref a) { s₁ with heap := (causeAt s₁.heap a (.ref x1)).update a (Obj.mapFields (·.setIfInBounds 2 (.ref x1))) }) E s) :
    wpAny (model prog w) A (raiseStmt env (some x) (some c)) Q E s := by
  unfold raiseStmt
  dsimp only
  refine wpAny_bind (wpAny_mono h (fun v s₁ h₁ => ?_) fun _ _ x => x)
  obtain ⟨a, oe, vs, cls, o1, v1, rfl, ha, hcls, hd, h1, hi, hne, hot, hcs, g1, d1, L0, L1, L3, hE⟩ := h₁
  have LT : PySem.W.Looks (model prog w) s₁.heap (typeOf (.ref a)) cls := fun A Q E s k q => wpAny_typeOf_ref (k _ _ ha) (by rw [hcls]; exact q)
  have LI : PySem.W.Looks (model prog w) s₁.heap (isInstance (.ref a) (.type "BaseException")) true := LT.andThen L1
  have LT1 : PySem.W.Looks (model prog w) s₁.heap (typeOf (.ref x1)) o1.cls := fun A Q E s k q => wpAny_typeOf_ref (k _ _ g1) q
  have LI1 : PySem.W.Looks (model prog w) s₁.heap (isInstance (.ref x1) (.type "BaseException")) true := LT1.andThen L0
  have hnt : ∀ {Q' : Bool → Shared → Prop}, Q' false s₁ → wpAny (model prog w) A (isType (.ref a)) Q' E s₁ := by
    intro Q' hq
    simp only [isType, loadHead]
    refine wpAny_bind (wpAny_loadPart ha ?_)
    rw [hd]; exact wpAny_pure hq
  have hnt1 : ∀ {Q' : Bool → Shared → Prop}, Q' false s₁ → wpAny (model prog w) A (isType (.ref x1)) Q' E s₁ := by
    intro Q' hq
    simp only [isType, loadHead]
    refine wpAny_bind (wpAny_loadPart g1 ?_)
    rw [d1]; exact wpAny_pure hq
  have hd3 := Obj.data_mapFields hd (·.setIfInBounds 3 (.ref x1))
  have ha3 := Heap.get?_update_self (Obj.mapFields (·.setIfInBounds 3 (.ref x1))) ha (Obj.isFreed_of_fields hd3)
  obtain ⟨ha4, hd4⟩ := causeAt_at (y := .ref x1) ha hd
  have s3 : 3 < vs.size := by omega
  have s4 : 4 < (vs.setIfInBounds 3 (Value.ref x1)).size := by rw [set_size]; exact hi
  have s2 : 2 < ((vs.setIfInBounds 3 (Value.ref x1)).setIfInBounds 4 (Value.bool true)).size := by rw [set_size, set_size]; omega
  have h14 : ((vs.setIfInBounds 3 (Value.ref x1)).setIfInBounds 4 (Value.bool true))[1]? = some Value.none := set_other (by decide) (set_other (by decide) h1)
  have hcls4 : ((oe.mapFields (·.setIfInBounds 3 (.ref x1))).mapFields (·.setIfInBounds 4 (.bool true))).cls = cls := by rw [Obj.cls_mapFields, Obj.cls_mapFields]; exact hcls
  have LT4 : PySem.W.Looks (model prog w) (causeAt s₁.heap a (.ref x1)) (typeOf (.ref a)) cls := fun A Q E s k q => wpAny_typeOf_ref (k _ _ ha4) (by rw [hcls4]; exact q)
  have hnt4 : ∀ {Q' : Bool → Shared → Prop}, Q' false { s₁ with heap := causeAt s₁.heap a (.ref x1) } → wpAny (model prog w) A (isType (.ref a)) Q' E { s₁ with heap := causeAt s₁.heap a (.ref x1) } := by
    intro Q' hq
    simp only [isType, loadHead]
    refine wpAny_bind (wpAny_loadPart ha4 ?_)
    rw [hd4]; exact wpAny_pure hq
  have hot4 : HotAt A x1 (causeAt s₁.heap a (.ref x1)) := by
    obtain ⟨q1, o, vs', q2, q3, q4⟩ := hot
    exact ⟨q1, o, vs', by rw [causeAt_other (Ne.symm hne)]; exact q2, q3, q4⟩
  have rest : wpAny (model prog w) A (do
      let b ← isType (.ref a)
      if b = true then do
        let e ← holding [.ref a] (raisedFor (.ref a) (.ref a))
        setFlight e none
        raiseNew e
      else do
        let e ← raisedInstance (.ref a)
        setFlight e none
        raiseNew e : Sem Flow) Q E { s₁ with heap := causeAt s₁.heap a (.ref x1) } := by
    refine wpAny_bind (hnt4 ?_)
    simp only [Bool.false_eq_true, if_false]
    unfold raisedInstance
    refine wpAny_bind (wpAny_bind (LT4.here (wpAny_bind (L3.here ?_))))
    rw [if_pos (beq_self_eq_true _)]
    refine wpAny_pure ?_
    unfold setFlight
    refine wpAny_bind (wpAny_bind (wpAny_field ha4 hd4 h14 ?_))
    rw [if_neg (by decide)]
    refine wpAny_pure ?_
    exact raiseNew_hot hot4 hne ha4 hd4 s2 hE
  refine wpAny_bind (wpAny_holding (hcs _ (wpAny_bind (wpAny_pure ?_))))
  dsimp only
  refine wpAny_bind (wpAny_holding ?_)
  unfold excFromValue isExcClass
  refine wpAny_bind (wpAny_bind (hnt ?_))
  simp only [Bool.false_eq_true, if_false]
  refine wpAny_pure ?_
  simp only [Bool.false_eq_true, if_false]
  refine wpAny_bind (LI.here ?_)
  simp only [if_true]
  refine wpAny_pure ?_
  rw [if_neg (show ¬ ((Value.ref x1 == Value.none) = true) from by simp)]
  refine wpAny_bind (wpAny_holding ?_)
  refine wpAny_bind (wpAny_bind (hnt1 ?_))
  simp only [Bool.false_eq_true, if_false]
  refine wpAny_pure ?_
  simp only [Bool.false_eq_true, if_false]
  refine wpAny_bind (LI1.here ?_)
  simp only [if_true]
  refine wpAny_pure ?_
  first
  | refine wpAny_bind (wpAny_setField ha hd s3 (wpAny_bind (wpAny_setField ha3 hd3 s4 ?_)))
  | refine wpAny_bind (wpAny_bind (wpAny_setField ha hd s3 (wpAny_bind (wpAny_setField ha3 hd3 s4 ?_))))
  | refine wpAny_bind (wpAny_bind (wpAny_setField ha hd s3 (wpAny_setField ha3 hd3 s4 ?_)))
  first
  | exact rest
  | (dsimp only; exact rest)
  | (refine wpAny_pure ?_; exact rest)
  | (simp only [bind_pure_comp] ; exact rest)
end G
set_option Elab.async false
set_option linter.all false
set_option maxRecDepth 100000
set_option maxHeartbeats 4000000
namespace G
open PySem PySem.Spec PyProof.Rows L2 HotX
section
variable {X : Cx}
/-- an error that an except suite with a name raised: noted, the name unbound, on it goes -/
theorem out_of_suite {Wout : WX} {pins : List (Addr × Obj)} {σ : L2.St} {H : Hp} {n : Str} {i : Nat} {pos' : Pos} {b : Addr} {B : Heap} {sI s3 : Shared} {cls : Value} {d : Option Addr} (hs : X.stack = X.env :: X.outer) (hf : X.env.frame = some X.env.locals) (hex : X.ex = []) (ok : X.Ok) (tk : Takes X Wout)
    (hpa : ∀ hd : Option Value, PassesOwnAt (model X.prog X.w) (X.A.mark hd) X.A X.env X.xe) (hn : X.N.Nodup) (hi : X.N[i]? = some n) (hln : X.env.kindOf n = some .local) (J : Inv X pins σ H sI)
    (nb : ∀ c o, sI.heap.get? c = some o → c ∉ frs X.stack → B.get? c = some o) (up : sI.heap.UpToSlots s3.heap) (sky : Sky B X.stack b (Zc cls d) X.env.locals s3.heap) (na : H b = none) (os : s3.os = sI.os) (ag : AllBare s3.gens) (hw : Wout cls d (σ.set i none) H) (hd : Option Value) :
    AsSuiteRaised (model X.prog X.w) (X.A.mark hd) X.env n pos' (notedBy (model X.prog X.w) (X.A.mark hd) X.env (cameBackBy (model X.prog X.w) X.A X.env X.xe)) (.ref b) s3 := by
  have hfr : (X.A.mark hd).frames = some (X.env :: X.outer) := by
    show X.A.frames = _
    rw [ok.frames, hs]
  have fin : ∀ h1, HandSPX.HeldZ B (X.env :: X.outer) b (Zc cls d) X.env.locals h1 → s3.heap.UpToSlots h1 →
      wpAny (model X.prog X.w) (X.A.mark hd) (do bindName X.env n .none; unbindBehindTheSuite X.env n pos')
      (fun _ s₂ => wpAny (model X.prog X.w) (X.A.mark hd) (PySem.passOn "try.except-as" (.ref b) X.env : Sem Flow) (fun _ _ => False) (notedBy (model X.prog X.w) (X.A.mark hd) X.env (cameBackBy (model X.prog X.w) X.A X.env X.xe)) s₂)
      (fun y s₂ => wpAny (model X.prog X.w) (X.A.mark hd) (setFlight (.ref b) none) (fun _ s₃ => (notedBy (model X.prog X.w) (X.A.mark hd) X.env (cameBackBy (model X.prog X.w) X.A X.env X.xe)) y s₃) (notedBy (model X.prog X.w) (X.A.mark hd) X.env (cameBackBy (model X.prog X.w) X.A X.env X.xe)) s₂) { s3 with heap := h1 } := fun h1 hh1 up1 => by
    have J3 : Inv X pins σ H { s3 with heap := h1 } := J.landed nb hh1.1 (up.trans up1) os ag
    obtain ⟨k1, k2, k3, oe, vs, T, oT, ts, he3, hz, hd1, hv1, hnT, hTe, hT, hdT, ht3⟩ := id hh1
    have nT : H T = none := (J.inGround nb).gone hnT
    have notFr : ∀ (c : Addr) (o : Obj) (fv : Array Value), h1.get? c = some o → o.data = .fields fv → c ∉ frs (X.env :: X.outer) := fun c o fv e dd hm => by
      obtain ⟨_, o', e', hnf⟩ := k3.mem hm
      have eo : o = o' := Option.some.inj (e.symm.trans e')
      rw [← eo] at hnf
      exact hnf _ dd
    have locF : X.env.locals ∈ frs (X.env :: X.outer) := List.mem_filterMap.mpr ⟨X.env, List.mem_cons_self, hf⟩
    have fsF : ∀ c, c ∈ X.fs → c ∈ frs (X.env :: X.outer) := fun c hm => by
      obtain ⟨e, he, q⟩ := List.mem_filterMap.mp hm
      exact List.mem_filterMap.mpr ⟨e, List.mem_cons_of_mem _ he, q⟩
    have fa := notFr b oe vs he3 hd1
    have fT := notFr T oT ts hT hdT
    have S3 : Inv X ((b, oe) :: (T, oT) :: pins) σ H { s3 with heap := h1 } := J3.pins_of fun p hp => by
      rcases List.mem_cons.mp hp with z | hp
      · rw [z]
        exact ⟨he3, na, fun z2 => fa (by rw [show b = X.env.locals from z2]; exact locF), fun z2 => fa (fsF _ z2), fun v z2 => by
          have z3 : oe.data = .cell v := z2
          rw [hd1] at z3
          cases z3⟩
      · rcases List.mem_cons.mp hp with z | hp
        · rw [z]
          exact ⟨hT, nT, fun z2 => fT (by rw [show T = X.env.locals from z2]; exact locF), fun z2 => fT (fsF _ z2), fun v z2 => by
            have z3 : oT.data = .cell v := z2
            rw [hdT] at z3
            cases z3⟩
        · exact J3.pin p (List.mem_append_right _ hp)
    refine gone_ok S3 hn hi hln (fun s6 S6 => ?_)
    have J6 : Inv X pins (σ.set i none) H s6 := S6.pins_of fun p hp => S6.pin p (List.mem_append_right _ (List.mem_cons_of_mem _ (List.mem_cons_of_mem _ hp)))
    have pa := S6.pin (b, oe) (List.mem_append_right _ List.mem_cons_self)
    have pT := S6.pin (T, oT) (List.mem_append_right _ (List.mem_cons_of_mem _ List.mem_cons_self))
    have ga : s6.heap.get? b = some oe := pa.1
    have gT : s6.heap.get? T = some oT := pT.1
    have far : ∀ c o, sI.heap.get? c = some o → c ≠ b ∧ c ≠ T := fun c o e => by
      by_cases hb : c ∈ frs X.stack
      · rw [hs] at hb
        exact ⟨fun z => fa (by rw [← z]; exact hb), fun z => fT (by rw [← z]; exact hb)⟩
      · have q := nb c o e hb
        exact ⟨fun z => by
          rw [z, k2] at q
          exact (nomatch q), fun z => by
          rw [z, hnT] at q
          cases q⟩
    have far0 : ∀ c o, X.s_0.heap.get? c = some o → c ≠ b ∧ c ≠ T := fun c o e => by
      obtain ⟨o', q⟩ := J.base.there c o e (by rw [hex]; simp)
      exact far c o' q
    have farP : ∀ p ∈ X.pn ++ pins, p.1 ≠ b ∧ p.1 ≠ T := fun p hp => far p.1 p.2 (J.pin p hp).1
    obtain ⟨G, g1, g2⟩ := restrict s6.heap fun c => !(decide (c = b) || decide (c = T))
    have gIn : ∀ c o, G.get? c = some o → s6.heap.get? c = some o ∧ c ≠ b ∧ c ≠ T := fun c o e => by
      cases q : (!(decide (c = b) || decide (c = T))) with
      | false =>
        rw [g2 c q] at e
        cases e
      | true =>
        rw [g1 c q] at e
        simp only [Bool.not_eq_true', Bool.or_eq_false_iff, decide_eq_false_iff_not] at q
        exact ⟨e, q.1, q.2⟩
    have gOf : ∀ c o, c ≠ b → c ≠ T → s6.heap.get? c = some o → G.get? c = some o := fun c o h1 h2 e => by
      rw [g1 c (by simp [h1, h2])]
      exact e
    have I6 : Inv X pins (σ.set i none) H { s6 with heap := G } := J6.less (fun c o e => (gIn c o e).1) gOf ⟨oe, vs, ga, hd1⟩ ⟨oT, ts, gT, hdT⟩ na nT far0 farP
    have B6in : ∀ c o, (PySem.W.hideAll G (frs X.stack)).get? c = some o → s6.heap.get? c = some o := fun c o e => (gIn c o (PySem.W.of_hideAll _ e)).1
    have Bno : ∀ c, (c = b ∨ c = T) → (PySem.W.hideAll G (frs X.stack)).get? c = none := fun c hb => by
      cases q : (PySem.W.hideAll G (frs X.stack)).get? c with
      | none => rfl
      | some o =>
        obtain ⟨_, n1, n2⟩ := gIn c o (PySem.W.of_hideAll _ q)
        rcases hb with z | z
        · exact absurd z n1
        · exact absurd z n2
    have hh6 : HandSPX.HeldZ (PySem.W.hideAll G (frs X.stack)) (X.env :: X.outer) b (Zc cls d) X.env.locals s6.heap := by
      refine ⟨B6in, Bno b (.inl rfl), ?_, oe, vs, T, oT, ts, ga, hz, hd1, hv1, Bno T (.inr rfl), hTe, gT, hdT, ht3⟩
      have ff := funFrames_none (B := PySem.W.hideAll G (frs X.stack)) J6.stack fun c hb => PySem.W.hideAll_none _ hb
      rw [← hs]
      exact ff
    unfold PySem.passOn
    refine wpAny_bind (wpAny_field ga hd1 hv1 ?_)
    rw [if_neg (show ¬ ((Value.ref T == Value.none) = true) from by simp)]
    have goOn : wpAny (model X.prog X.w) (X.A.mark hd) (setFlight (.ref b) X.env.frame) (fun _ s7 => wpAny (model X.prog X.w) (X.A.mark hd) (throw (.ref b) : Sem Flow) (fun _ _ => False) (notedBy (model X.prog X.w) (X.A.mark hd) X.env (cameBackBy (model X.prog X.w) X.A X.env X.xe)) s7) (notedBy (model X.prog X.w) (X.A.mark hd) X.env (cameBackBy (model X.prog X.w) X.A X.env X.xe)) s6 := by
      rw [hf]
      refine HandSPX.setFlight_onZ hh6 fun h7 hh7 up7 => wpAny_throw (hpa hd _ _ (tk _ _ ?_))
      refine ⟨b, PySem.W.hideAll G (frs X.stack), { s6 with heap := G }, pins, σ.set i none, H, cls, d, rfl, I6, fun c o e hb => PySem.W.hideAll_get _ e hb, ?_, .inr (.inr (by rw [← hs] at hh7; exact hh7)), na, rfl, J6.bare, hw⟩
      exact Heap.UpToSlots.trans (Heap.UpToSlots.of_keeps fun c o e => (gIn c o e).1) up7
    first
      | exact wpAny_bind (wpAny_pure (wpAny_bind goOn))
      | exact wpAny_bind goOn
  have sky' : Sky B (X.env :: X.outer) b (Zc cls d) X.env.locals s3.heap := by rw [← hs]; exact sky
  show wpAny _ _ (noteFrame (.ref b) X.env) _ _ _
  rcases sky' with ⟨hB, hn1, hl, oe, vs, he0, hz, hd1, hv1⟩ | fl | hh
  · exact HandSPX.look_newZ Zc.steady hfr hl hf he0 hB hn1 hd1 hv1 hz fin
  · exact HandSPX.looks_onZ Zc.steady hfr hf fl fin
  · exact HandSPX.againZ hf hh.2.2.2 (fin s3.heap hh (Heap.UpToSlots.refl _))
end
/-- an error that is caught: what the raise in its suite wants -/
def frW (X : Cx) (c : Value) (n : Str) (ex : Expr) (We : XL) : XW := fun cls d θ L => PySem.W.exmOne X.K cls c = some true ∧ (∃ C, cls = .ref C ∧ OexC X.K C) ∧
  ∀ (X2 : Cx) (a : Addr) (pn : List (Addr × Obj)), X2 = X.suite a pn → L2H.HotC X2 → ∃ θ', Put n (.ref a) θ θ' ∧ GMkN X2 ex θ' L We
section
variable {X : Cx} {η : En} {L : Lg} {D : GD} {We : XL} {x n : Str} {c : Value} {body : List Stmt} {ex : Expr} {np nq rp pos pos' : Pos}
theorem gs_try_from (hc : Names X x c) (tk : Tk X fun c d _ L => We c d L) (hpa : ∀ hd : Option Value, PassesOwnAt (model X.prog X.w) (X.A.mark hd) X.A X.env X.xe)
    (hb : ∀ (X' : Cx) (pn : List (Addr × Obj)) (xe : Value → Shared → Prop), X' = trX X pn xe → PassesOwn (model X'.prog X'.w) X'.A X'.env X'.xe → X'.N.Nodup → TkN X' (frW X c n ex We) → GSs X' body D η L)
    (hi : n ∈ X.N) (hnd : (n == ("__debug__" : Str)) = false := by decide) (hn : X.N.Nodup := by assumption) (hs : X.stack = X.env :: X.outer := by rfl) (hf : X.env.frame = some X.env.locals := by rfl) (hln : X.env.kindOf n = some .local := by rfl) (hex : X.ex = [] := by rfl) :
    GS X (.Try body [.ExceptHandler (some (.Name x np)) (some n) [.Raise (some ex) (some (.Name n nq)) rp] pos'] [] [] pos) D η L := fun hN H hH pins s I => by
  obtain ⟨i, hi⟩ := List.mem_iff_getElem?.mp hi
  have ok := I.ok
  have fr0 : X.A.frames = some (X.env :: X.outer) := by rw [ok.frames, hs]
  have fix : ∀ {m : Nat} {θ : En}, X.N = names θ → (names θ)[m]? = some n → m = i := fun {m θ} e1 e2 => idxU hn (by rw [e1]; exact e2) hi
  refine wpAny_Try_except (wpAny_mono (hb (trX X (X.pn ++ pins) (fun e s₁ => wpAny (model X.prog X.w) X.A (noteFrame e X.env) (fun _ s₂ => wpAny (model X.prog X.w) X.A (setFlight e none) (fun _ s₃ =>
    wpAny (model X.prog X.w) X.A (handleBy e X.env [.ExceptHandler (some (.Name x np)) (some n) [.Raise (some ex) (some (.Name n nq)) rp] pos']) (SP X pins (D.ends X)) X.xe s₃) X.xe s₂) X.xe s₁)) _ _ rfl PassesOwn.looking hn (fun u s' air => ?_) hN H hH [] s (I.toTry _)) (fun fl s1 z => ?_) fun e s1 z => z)
  · obtain ⟨a, B, sI, pins', σ', H', cls, d, rfl, Jt, nb, up, sky, na, os, ag, θ, M, nθ, rfl, hM, hb1, ⟨C, rfl, T⟩, yes⟩ := air
    have J : Inv X pins (vals θ) H' sI := Jt.ofTry ok
    have sk : Sky B (X.env :: X.outer) a (L2N.Zn (.ref C) d) X.env.locals s'.heap := by rw [← hs]; exact sky
    show wpAny (model X.prog X.w) X.A (noteFrame (Value.ref a) X.env) _ _ _
    refine L2N.Sky.land L2N.Zn.steady fr0 hf sk fun g3 F3 u3 => ?_
    have J3 : Inv X pins (vals θ) H' { s' with heap := g3 } := J.landed nb F3.1 (up.trans u3) os ag
    obtain ⟨o3, v3, he3, hz3, hd3⟩ := F3.there
    have out : a ∉ frs (X.env :: X.outer) := fun hm => by
      obtain ⟨_, o', e', hnf⟩ := F3.2.2.1.mem hm
      rw [he3] at e'
      cases e'
      exact hnf _ hd3
    have nL : a ≠ X.env.locals := fun z => out (List.mem_filterMap.mpr ⟨X.env, List.mem_cons_self, by rw [hf, z]⟩)
    have nF : a ∉ X.fs := fun hm => by
      obtain ⟨e, he, q⟩ := List.mem_filterMap.mp hm
      exact out (List.mem_filterMap.mpr ⟨e, List.mem_cons_of_mem _ he, q⟩)
    have S3 := J3.suite he3 hd3 na nL nF
    refine wpAny_handleBy_cons (codeAny_handlers_test ?_) (by intro q; cases q)
    have LT : PySem.W.Looks (model X.prog X.w) g3 (typeOf (.ref a)) (.ref C) := fun A Q E s k q => wpAny_typeOf_ref (k _ _ he3) (by rw [hz3.1]; exact q)
    have LM := PySem.W.exm_one (M := model X.prog X.w) J3.kIn LT hb1
    have asks : ∀ {Q : Value → Shared → Prop} {E : Value → Shared → Prop}, Q c { s' with heap := g3 } → wpAny (model X.prog X.w) (X.A.mark (some (.ref a))) (eval (.Name x np) X.env) Q E { s' with heap := g3 } := fun {Q E} q => by
      obtain ⟨hg, hdbg, hm | ⟨hm, hv, hnn⟩⟩ := hc
      · exact ld_glob (X := X.suite a ((a, o3) :: (X.pn ++ pins))) S3 hg hm q hdbg
      · exact ld_blt (X := X.suite a ((a, o3) :: (X.pn ++ pins))) S3 hg hm hv q hnn hdbg
    refine asks (LM.here ?_)
    refine codeAny_handlers_suite_as (HandSPX.lands_againZ F3 fun g4 F4 u4 => ?_)
    have J4 : Inv X pins (vals θ) H' { s' with heap := g4 } := J.landed nb F4.1 ((up.trans u3).trans u4) os ag
    obtain ⟨o4, v4, he4, hz4, hd4⟩ := F4.there
    have S4 := J4.suite he4 hd4 na nL nF
    have hot : L2H.HotC (X.suite a ((a, o4) :: (X.pn ++ pins))) := ⟨(a, o4), ⟨rfl, v4, hd4, hz4.2.2 v4 hd4⟩, List.mem_cons_self⟩
    obtain ⟨θ', pu, run⟩ := yes _ a _ rfl hot
    obtain ⟨m, m1, m2, m3⟩ := pu.idx
    have mi := fix nθ m1
    subst mi
    have N4 : (X.suite a ((a, o4) :: (X.pn ++ pins))).N = names θ' := by rw [m3]; exact nθ
    refine store_ok (X := X.suite a ((a, o4) :: (X.pn ++ pins))) (v := .ref a) S4 hn hi (.inl hln) rfl (fun s5 S5 => ?_) (.inr hln)
    rw [← m2] at S5
    refine wpAny_execs_cons (s := s5) ?_
    rw [arm_exec_Raise]
    show wpAny _ _ (do standAt rp; raiseStmt X.env (some (do let v ← eval ex X.env; standAt rp; pure v)) (some (do let v ← eval (.Name n nq) X.env; standAt rp; pure v))) _ _ _
    refine wpAny_bind (wpAny_standAt (raise_from (x1 := a) (wpAny_bind (wpAny_mono (run N4 _ hM [] s5 S5) (fun u s1 hu => wpAny_bind (wpAny_standAt (wpAny_pure ?_))) fun _ _ z => z.elim))))
    obtain ⟨⟨b, oe, vs, sI2, H2, cls2, d2, rfl, J2, k, hne, ha, hz, hd, h1, na2, os2, ag2, r, L2, hL2, hW⟩, h5⟩ := hu
    have hi4 : 4 < vs.size := h5 b oe vs rfl ha hd
    have S1 : Inv (X.suite a ((a, o4) :: (X.pn ++ pins))) [] (vals θ') H2 s1 := J2.call' (ch := []) os2 (Un.kept k) (J2.hok.kept k) ag2 (fun _ z => nomatch z)
    have k4 : ∀ c u, sI2.heap.get? c = some u → (causeAt s1.heap b (.ref a)).get? c = some u := fun c u z => by
      have nab : b ≠ c := fun y => by
        rw [← y, hne] at z
        cases z
      rw [causeAt_other nab]
      exact k c u z
    obtain ⟨r1, _⟩ := r (model X.prog X.w) s1.heap (J2.kIn.keeps k)
    obtain ⟨_, r2⟩ := r (model X.prog X.w) (causeAt s1.heap b (.ref a)) (J2.kIn.keeps k4)
    have P1 := (J2.pin (a, o4) (List.mem_append_left _ List.mem_cons_self)).1
    have nap : a ≠ b := fun z => by
      rw [z, hne] at P1
      cases P1
    have g1 : s1.heap.get? a = some o4 := k _ _ P1
    obtain ⟨ha4, hd4'⟩ := causeAt_at (y := .ref a) ha hd
    have h12 : (((vs.setIfInBounds 3 (Value.ref a)).setIfInBounds 4 (Value.bool true)).setIfInBounds 2 (Value.ref a))[1]? = some Value.none := set_other (by decide) (set_other (by decide) (set_other (by decide) h1))
    have L0 : PySem.W.Looks (model X.prog X.w) s1.heap (isSubtype o4.cls (.type "BaseException")) true := by
      rw [hz4.1]
      exact PySem.W.looks_subIn (J2.kIn.keeps k) T.exC
    refine ⟨b, oe, vs, cls2, o4, v4, rfl, ha, hz.1, hd, h1, hi4, nap, ⟨rfl, o4, v4, g1, hd4, hz4.2.2 v4 hd4⟩, fun Q' q' => ?_, g1, hd4, L0, r1, r2, ?_⟩
    · obtain ⟨mm, hns, hl⟩ := S1.loc
      have e2 : (vals θ')[m]? = some (some (V.ref a)) := by
        rw [m2, List.getElem?_set_self (by
          have z := m1
          have z2 := (List.getElem?_eq_some_iff.mp z).1
          unfold names at z2
          unfold vals
          rw [List.length_map] at z2 ⊢
          exact z2)]
      obtain ⟨u, ru, lk⟩ := hl m n (.ref a) hi e2 (.inl hln)
      obtain rfl : u = Value.ref a := ru
      rcases lk with ⟨_, hm2⟩ | ⟨hk, _⟩
      · exact wpAny_bind (wpAny_Name (wpAny_loadName_local S1.ok.kind hln hns hm2 (wpAny_bind (wpAny_standAt (wpAny_pure q')))) hnd)
      · exfalso
        rcases hk with hk | hk
        · have z : some NameKind.local = some NameKind.cell := hln.symm.trans hk
          cases z
        · have z : some NameKind.local = some NameKind.free := hln.symm.trans hk
          cases z
    · have J5 : Inv X pins (vals θ') H2 sI2 := Inv.unsuite (X := X) (a := a) (q := (a, o4)) (pn' := []) J2 ok
      have kF : ∀ c u, sI2.heap.get? c = some u → ((causeAt s1.heap b (.ref a)).update b (Obj.mapFields (·.setIfInBounds 2 (.ref a)))).get? c = some u := fun c u z => by
        have nab : b ≠ c := fun y => by
          rw [← y, hne] at z
          cases z
        rw [Heap.get?_update_other _ _ nab]
        exact k4 c u z
      have ln : X.N.length = ((vals θ').set m none).length := by
        rw [List.length_set, show X.N = names θ' from N4]
        unfold names vals
        rw [List.length_map, List.length_map]
      have xe := XE.new (W := fun c d σ H => upW X (fun c d _ L => We c d L) c d (σ.set m none) H) (s' := { s1 with heap := (causeAt s1.heap b (.ref a)).update b (Obj.mapFields (·.setIfInBounds 2 (.ref a))) }) J5 kF hne (Heap.get?_update_self _ ha4 (Obj.isFreed_of_fields (Obj.data_mapFields hd4' _)))
        (cls := cls2) (d := d2) ⟨by rw [Obj.cls_mapFields, Obj.cls_mapFields, Obj.cls_mapFields]; exact hz.1, by rw [HandSPX.dict_mapFields, HandSPX.dict_mapFields, HandSPX.dict_mapFields]; exact hz.2.1⟩ (Obj.data_mapFields hd4' _) h12 na2 os2 ag2
        ⟨X.N.zip ((vals θ').set m none), L2, by unfold names; rw [List.map_fst_zip (by omega)], by unfold vals; rw [List.map_snd_zip (by unfold vals at ln; omega)], hL2, hW⟩
      obtain ⟨b', B', sI', pins2, σ2, H2', cls3, d3, eb, J', nb', up', sky', na', os', ag', w'⟩ := xe
      cases eb
      exact out_of_suite hs hf hex ok tk hpa hn hi hln J' nb' up' sky' na' os' ag' w' (some (.ref a))
  · cases fl with
    | next => exact z.elim fun σ' z => z.elim fun H' z => wpAny_execs_nil ⟨σ', H', z.1.ofTry ok, z.2⟩
    | brk => exact z.elim fun σ' z => z.elim fun H' z => ⟨σ', H', z.1.ofTry ok, z.2⟩
    | cont => exact z.elim fun σ' z => z.elim fun H' z => ⟨σ', H', z.1.ofTry ok, z.2⟩
    | ret u => exact z.elim fun v z => z.elim fun σ' z => z.elim fun H' z => ⟨v, σ', H', z.1.ofTry ok, z.2.1, z.2.2⟩
end
end G
set_option Elab.async false
set_option linter.all false
set_option maxRecDepth 100000
set_option maxHeartbeats 4000000
namespace G
open PySem PySem.Spec PyProof.Rows L2 ItX
section
variable {X : Cx} {L : Lg} {Q : QV} {a q : Addr} {kvs : List (Key × V)} {od : Obj} {k : Key} {j : Nat}
theorem gc_listD (hc : X.calm = true) (m : (a, dO od kvs) ∈ L) (h : ∀ p, Q (.ref p) ((p, .lst (kvs.map fun kv => kV kv.1)) :: L)) : GC X (.type "list") [.ref a] L Q :=
  GC.of (call_listD hc) fun H hH => ⟨a, kvs, rfl, .inr ⟨od, hH.get m⟩, fun p hp => ⟨_, hH.new hp, h p⟩⟩
theorem gc_sortedS {xs : List Str} (m : (q, HO.lst (xs.map V.str)) ∈ L) (h64 : xs.length < 64) (h : ∀ (ys : List Str) p, ys.Perm xs → sortedS ys = true → Q (.ref p) ((p, .lst (ys.map V.str)) :: L)) : GC X (.builtin "sorted") [.ref q] L Q :=
  GC.of cr_sortedS fun H hH => ⟨q, xs, rfl, sql hH m, h64, fun ys p hp hs hn => ⟨_, hH.new hn, h ys p hp hs⟩⟩
theorem gc_lenD (m : (a, dO od kvs) ∈ L) (h : Q (.int (kvs.length : Nat)) L) : GC X (.builtin "len") [.ref a] L Q := fun pins s σ H us hH I rr => by
  rw [Vals.ref1 rr]
  exact d_len I (.inr ⟨od, hH.get m⟩) fun t s' I' => ⟨.int (kvs.length : Nat), H, I', ⟨t, rfl⟩, L, hH, h⟩
theorem go_notInD (hr : RoomG j X.A) (m : (a, dO od kvs) ∈ L) (h : Q (.bl (!(valV kvs k).isSome)) L) : GOp X (compareOp .NotIn) (kV k) (.ref a) L Q := fun pins s σ H v u hH I rv ru => by
  obtain rfl : u = Value.ref a := ru
  exact d_notIn (hu_of hr.toRoom) I (.inl ⟨kvs, k, .inr ⟨od, hH.get m⟩, rfl, rfl⟩) rv fun s' I' => ⟨.bl (!(valV kvs k).isSome), H, I', rfl, L, hH, h⟩
/-- iter(l) -/
theorem gc_iterL {xs : List V} (m : (a, HO.lst xs) ∈ L) (h : ∀ it, X.s_0.heap.objs.size ≤ it → Q (.ref it) ((it, ItO a it 0) :: L)) : GC X (.builtin "iter") [.ref a] L Q := fun pins s σ H us hH I rr => by
  rw [Vals.ref1 rr]
  obtain ⟨its, rv, pl, hz⟩ := I.list (sql hH m)
  refine GNX.call_iter pl.isList ?_
  have hn : H s.heap.objs.size = none := I.hok.fresh (Nat.le_refl _)
  exact ⟨.ref s.heap.objs.size, _, I.laid (t' := s.toks) (fun b u e => Heap.get?_push_of_some _ e) (Nat.le_refl _) (itO_ok (Heap.get?_push_size _ rfl)), rfl, _, hH.newB hn (updGrow hn) (holds_of (by rfl) upd_same), h _ I.sz⟩
end
/-- o.__iter__() gives an iterator over the list at t, young -/
def spIterL (n : Nat) (φ : Addr → Addr → List V → Lg → Prop) : SpL := fun vs L Q _ => ∃ (a t : Addr) (xs : List V), vs = [.ref a] ∧ φ a t xs L ∧ (t, HO.lst xs) ∈ L ∧ ∀ it, n ≤ it → Q (.ref it) ((it, ItO t it 0) :: L)
section
variable {X : Cx} {η : En} {L : Lg} {Q : Src → Lg → Prop} {tg e : Expr} {g C : Addr} {φ : Addr → Addr → List V → Lg → Prop} {k j : Nat}
theorem gi_ownL (F : ∀ n, RunN n X.prog X.w X.K X.mg X.base CX0 k g argsP (toSp (spIterL n φ))) (hr : RoomG j X.A) (hs : PySem.W.findIn X.K (.ref C) "__iter__" = some (some (.ref g))) (hf : PySem.W.isFn X.K (.ref g) = true)
    (h : GE X e η L fun v L1 => ∃ (a t dx : Addr) (fs : List (Str × V)) (xs : List V), v = .ref a ∧ (a, HO.ins C dx fs) ∈ L1 ∧ (t, HO.lst xs) ∈ L1 ∧ φ a t xs L1 ∧ Q ⟨xs.length, KeepL t xs, itemAt xs⟩ L1) (hjk : k ≤ j := by decide) : GI X tg e η L Q := fun hN H hH pins s I => by
  refine thn (h hN H hH pins s I) fun v s1 ⟨x, H1, I1, rx, L1, h1, a, t, dx, fs, xs, ex, ma, mt, hφ, q⟩ => ?_
  subst ex
  obtain rfl : v = Value.ref a := rx
  obtain ⟨oe, od, J⟩ := ins_inst I1 h1 ma
  refine PySem.W.g_iter I1.kIn J hs hf (wpAny_call (codeAny_mono (F X.s_0.heap.objs.size X.A X.stack s1 H1 [.ref a] [.ref a] (up fun v L' => ∃ it, v = .ref it ∧ X.s_0.heap.objs.size ≤ it ∧ L' = (it, ItO t it 0) :: L1) (upX NoX) I1.sz (hr.mono hjk) I1.env0 (.cons rfl .nil) (up_sp h1 ⟨a, t, xs, rfl, hφ, mt, fun it hit => ⟨it, rfl, hit, rfl⟩⟩)) fun r s' hq => ?_))
  cases r with
  | error e => exact hq.elim
  | ok fl =>
    cases fl with
    | ret w =>
      obtain ⟨z, H', I', rz, L', h', it, ez, hit, eL⟩ := I1.after hq
      subst ez eL
      obtain rfl : w = Value.ref it := rz
      have ho : H' it = some (ItO t it 0) := h'.2 _ List.mem_cons_self
      have go : s'.heap.get? it = some (GNX.itObj t 0) := itO_get I' ho
      have st : s'.heap.IsListIter it t 0 := ⟨_, go, rfl, rfl⟩
      have ha : Has (dropH H' it) L1 := by
        refine ⟨(List.nodup_cons.mp h'.1).2, fun e he => ?_⟩
        have ne : e.1 ≠ it := fun z => (List.nodup_cons.mp h'.1).1 (List.mem_map.mpr ⟨e, he, z⟩)
        refine holds_drop (fun c q' e3 => ?_) ne (h'.2 e (List.mem_cons_of_mem _ he))
        rintro rfl
        obtain ⟨oc, vs, tk, g1, g2, g3⟩ := (show ∃ (oc : Obj) (vs : Array Value) (t : Tok), s'.heap.get? c = some oc ∧ oc.data = .fields vs ∧ vs[1]? = some (.str q' t) from (I'.hok c _ e3).1)
        rw [go] at g1
        cases g1
        cases g2
        simp at g3
      have ho' := ho
      unfold ItO at ho'
      show PySem.W.OwitIt _ _ _ _ (Value.ref it) s'
      unfold PySem.W.OwitIt
      refine wpAny_specialOf st.typeIs slot_listiter_next.lookup ?_
      dsimp only
      refine ⟨it, [it], _, _, dropH H' it, rfl, inv_drop I' ho', turn_list t it, st, fun b hb => ?_, L1, _, ha, SrcOk.of walk_list (fun H M hM k => sql hM k) (fun i H x H' M _ hM _ y => y_at hM y), q⟩
      have e : b = it := by simpa using hb
      rw [e]
      exact inv_fp I' ho hit
    | next => exact hq.elim
    | brk => exact hq.elim
    | cont => exact hq.elim
end
end G
set_option Elab.async false
set_option linter.all false
set_option maxRecDepth 100000
set_option maxHeartbeats 4000000
namespace G
open PySem PySem.Spec PyProof.Rows L2
section
variable {X : Cx} {η : En} {L : Lg} {D : GD} {st : List Stmt} {a : Addr} {kvs : List (Key × V)}
/-- a dict stands still from here on -/
theorem gss_lock {M : Obj → Lg} (m : (a, HO.dK kvs) ∈ L) (sw : ∀ od, Swap a (dO od kvs) L (M od)) (h : ∀ od, GSs X st D η (M od)) : GSs X st D η L := fun hN H hH pins s I => by
  obtain ⟨od, I2⟩ := I.lock (hH.get m) True.intro
  exact h od hN _ (hH.swap (sw od)) pins s I2
end
end G
set_option Elab.async false
set_option linter.all false
set_option maxRecDepth 100000
set_option maxHeartbeats 4000000
namespace G
open PySem PySem.Spec PyProof.Rows L2
def IsTrip (h : Heap) (v : Value) (k : Str × Str × Int) : Prop := ∃ a o t u c n, v = .ref a ∧ h.get? a = some o ∧ o.cls = .type "tuple" ∧ o.data = .seq #[.str k.1 t, .str k.2.1 u, .int k.2.2 c] n
theorem IsTrip.keeps {h h' : Heap} {v : Value} {k : Str × Str × Int} (x : IsTrip h v k) (kp : ∀ b o, h.get? b = some o → o.cls = .type "tuple" → h'.get? b = some o) : IsTrip h' v k := by
  obtain ⟨a, o, t, u, c, n, e, ho, hc, hd⟩ := x
  exact ⟨a, o, t, u, c, n, e, kp _ _ ho hc, hc, hd⟩
abbrev ltS (x y : Str) : Bool := decide (x.cps.toList < y.cps.toList)
theorem ltS_swo {α : Type} (k : α → Str) : SrtO.Swo fun v u => ltS (k v) (k u) := by
  refine ⟨fun x y h => ?_, fun x y z h1 h2 => ?_⟩
  · exact decide_eq_false (List.lt_asymm (of_decide_eq_true h))
  · have a := of_decide_eq_false h1
    have b := of_decide_eq_false h2
    exact decide_eq_false (List.not_lt.mpr (List.le_trans (List.not_lt.mp a) (List.not_lt.mp b)))
section
variable {prog : Program} {w : World} {A : Around} {E : Value → Shared → Prop} {s : Shared}
theorem trip_firsts {h : Heap} {k : Value → Str × Str × Int} : ∀ {vs : List Value}, (∀ v ∈ vs, IsTrip h v (k v)) → ∃ fs : List Value, PySem.W.KatTups h vs fs ∧ fs.length = vs.length ∧ ∀ f ∈ fs, ∃ x t, f = Value.str x t
  | [], _ => ⟨[], PySem.W.KatTups.nil, rfl, fun f hf => by simp at hf⟩
  | v :: vs, x => by
    obtain ⟨fs, kk, hl, hi⟩ := trip_firsts (vs := vs) fun u hu => x u (List.mem_cons_of_mem _ hu)
    obtain ⟨a, o, t, u, c, n, rfl, ho, hc, hd⟩ := x v List.mem_cons_self
    refine ⟨.str (k (.ref a)).1 t :: fs, PySem.W.KatTups.cons ho hc hd rfl kk, by rw [List.length_cons, List.length_cons, hl], fun f hf => ?_⟩
    rcases List.mem_cons.mp hf with rfl | hf
    · exact ⟨_, _, rfl⟩
    · exact hi f hf
theorem trip_cmp {vs : List Value} {k : Value → Str × Str × Int} (hp : ∀ v ∈ vs, IsTrip s.heap v (k v)) (hk : ∀ v ∈ vs, ∀ u ∈ vs, (k v).1 = (k u).1 → k v = k u) : SrtO.Cmp prog w A s (tuples' true) (fun p => p.1 ∈ vs) (SrtO.lt2 fun v u => ltS (k v).1 (k u).1) := by
  intro p q hm hm'
  have h1 := hp _ hm
  have h2 := hp _ hm'
  have h3 := hk _ hm _ hm'
  show wpAny (model prog w) A (keyLt' (tuples' true) p.1 q.1) (fun r s' => s' = s ∧ r = ltS (k p.1).1 (k q.1).1) (fun _ _ => False) s
  generalize k p.1 = x at h1 h3 ⊢
  generalize k q.1 = y at h2 h3 ⊢
  obtain ⟨a, o, t, u, c, n, e, ho, hc, hd⟩ := h1
  obtain ⟨a', o', t', u', c', n', e', ho', hc', hd'⟩ := h2
  rw [e, e']
  refine PySem.W.kat_lt ho hd ho' hd' ?_
  show PySem.W.KatLex prog w A true (decide (3 < 3)) _ [(.str x.1 t, .str y.1 t'), (.str x.2.1 u, .str y.2.1 u'), (.int x.2.2 c, .int y.2.2 c')] 0 s
  refine PySem.W.kat_cons (wpAny_eqBool_str ?_)
  refine PySem.W.kat_go (fun e1 => ?_) (fun e1 => ?_)
  · have ex : x = y := h3 (of_decide_eq_true e1)
    subst ex
    refine PySem.W.kat_yes (PySem.W.kat_cons (wpAny_eqBool_str ?_))
    refine PySem.W.kat_go (fun e2 => ?_) (fun e2 => absurd rfl (of_decide_eq_false e2))
    refine PySem.W.kat_yes (PySem.W.kat_cons (SeqAt.EqAt.int_int _ _ _ _ prog w _ _ ?_))
    refine PySem.W.kat_go (fun e3 => ?_) (fun e3 => ?_)
    · exact PySem.W.kat_yes (PySem.W.kat_nil ⟨rfl, (decide_eq_false (List.lt_irrefl _)).symm⟩)
    · exfalso
      simp at e3
  · exact PySem.W.kat_no (oneLt_str ⟨rfl, rfl⟩)
theorem sorted_trips {l : Addr} {vs : List Value} {k : Value → Str × Str × Int} {Q : Value → Shared → Prop} (hl : s.heap.IsList l vs.toArray) (hz : vs.length ≤ sizeLine) (hp : ∀ v ∈ vs, IsTrip s.heap v (k v)) (hk : ∀ v ∈ vs, ∀ u ∈ vs, (k v).1 = (k u).1 → k v = k u)
    (h : ∀ (h' : Heap) (d : Addr) (out : List Value), SrtO.Srtd (fun v u => ltS (k v).1 (k u).1) out → SrtO.Stb (fun v u => ltS (k v).1 (k u).1) out vs → (∀ b o, s.heap.get? b = some o → h'.get? b = some o) → s.heap.objs.size ≤ d → (∃ n, h'.get? d = some (seqObj "list" out.toArray n)) → Q (.ref d) { s with heap := h' }) :
    wpAny (model prog w) A (call (.builtin "sorted") [.ref l]) Q E s := by
  refine SrtO.sorted_ord (ltS_swo fun v => (k v).1) hl hz (fun h2 h₁ a ha kk => ?_) fun out hs hb => ?_
  · intro h' keep
    have hp' : ∀ v ∈ vs, IsTrip h' v (k v) := fun v hm => (hp v hm).keeps fun b o e c => keep b o (fun z => by
      subst z
      have e1 := (kk b o e).2
      have e' : some o = some (seqObj "list" vs.toArray 0) := e1.symm.trans ha
      cases e'
      exact absurd (Value.type.inj c) (by decide)) ((kk b o e).2)
    obtain ⟨fs, h1, h2', h3⟩ := trip_firsts (vs := vs) hp'
    refine ⟨tuples' true, fun Q E hq => ?_, trip_cmp hp' hk⟩
    refine PySem.W.kat_kind (T := .type "str") h1 (by omega) (fun f hm => ?_) (by rfl) ?_
    · obtain ⟨x, t, rfl⟩ := h3 f hm
      exact PySem.W.Looks.now
    · have e : (Value.type "str" != Value.type "tuple") = true := by first | decide +kernel | rfl | decide
      rw [e]
      exact hq
  · exact h _ _ out hs hb (fun b o e => sortedAll_old e) (Nat.le_succ _) (sortedAll_at s.heap vs out.toArray)
end
/-- a triple and where it stands -/
abbrev Ts3 := Addr × (Str × Str × Int)
def keyTs (ts : List Ts3) : Value → Str × Str × Int
  | .ref a => ((ts.find? fun e => e.1 == a).map (·.2)).getD (⟨#[]⟩, ⟨#[]⟩, 0)
  | _ => (⟨#[]⟩, ⟨#[]⟩, 0)
abbrev tsO (t : Str × Str × Int) : HO := .tup [.str t.1, .str t.2.1, .int t.2.2]
theorem keyTs_at {ts : List Ts3} {H : Hp} (ht : ∀ e ∈ ts, H e.1 = some (tsO e.2)) {e : Ts3} (he : e ∈ ts) : keyTs ts (.ref e.1) = e.2 := by
  have f : ∃ e', ts.find? (fun e' => e'.1 == e.1) = some e' := by
    cases z : ts.find? (fun e' => e'.1 == e.1) with
    | some e' => exact ⟨e', rfl⟩
    | none =>
      have := List.find?_eq_none.mp z e he
      simp at this
  obtain ⟨e', z⟩ := f
  have m' := List.mem_of_find?_eq_some z
  have k' : e'.1 = e.1 := by
    have := List.find?_some z
    simpa using this
  have h1 := ht e he
  have h2 := ht e' m'
  rw [k', h1] at h2
  show ((ts.find? fun e' => e'.1 == e.1).map (·.2)).getD _ = e.2
  rw [z]
  show e'.2 = e.2
  have t := Option.some.inj h2
  injection t with t
  injection t with t1 t
  injection t with t2 t
  injection t with t3 _
  exact Prod.ext (V.str.inj t1).symm (Prod.ext (V.str.inj t2).symm (V.int.inj t3).symm)
section
variable {X : Cx} {L : Lg} {Q : QV} {q : Addr}
theorem gc_sortedT {ts : List Ts3} (m : (q, HO.lst (ts.map fun e => V.ref e.1)) ∈ L) (ht : ∀ e ∈ ts, (e.1, tsO e.2) ∈ L) (hn : (ts.map (·.2.1)).Nodup)
    (h : ∀ (us : List Ts3) p, us.Perm ts → us.Pairwise (fun x y => ltS y.2.1 x.2.1 = false) → Q (.ref p) ((p, .lst (us.map fun e => V.ref e.1)) :: L)) : GC X (.builtin "sorted") [.ref q] L Q := fun pins s σ H us hH I rr => by
  obtain ⟨its, rv, hl, hz⟩ := I.list (sql hH m)
  rw [Vals.ref1 rr]
  have hH2 : ∀ e ∈ ts, H e.1 = some (tsO e.2) := fun e he => hH.get (ht e he)
  have ei : its = ts.map fun e => Value.ref e.1 := by
    clear hl hz h m
    have key : ∀ (l : List Ts3) (its : List Value), Vals (l.map fun e => V.ref e.1) its → its = l.map fun e => Value.ref e.1 := fun l => by
      induction l with
      | nil =>
        intro its r
        cases r
        rfl
      | cons e l ih =>
        intro its r
        cases r with
        | cons a r =>
          rw [List.map_cons, ← ih _ r]
          exact congrArg (· :: _) a
    exact key ts its rv
  subst ei
  have uniq : ∀ e ∈ ts, ∀ e' ∈ ts, e.2.1 = e'.2.1 → e = e' := by
    intro e he e' he' z
    obtain ⟨i, hi, rfl⟩ := List.mem_iff_getElem.mp he
    obtain ⟨j, hj, rfl⟩ := List.mem_iff_getElem.mp he'
    have pw := List.pairwise_iff_getElem.mp hn
    by_cases c : i = j
    · subst c
      rfl
    · exfalso
      rcases Nat.lt_or_gt_of_ne c with c | c
      · exact pw i j (by rw [List.length_map]; exact hi) (by rw [List.length_map]; exact hj) c (by rw [List.getElem_map, List.getElem_map]; exact z)
      · exact pw j i (by rw [List.length_map]; exact hj) (by rw [List.length_map]; exact hi) c (by rw [List.getElem_map, List.getElem_map]; exact z.symm)
  refine sorted_trips (k := keyTs ts) hl.isList (by rw [List.length_map] at hz ⊢; exact hz) (fun v hv => ?_) (fun v hv u hu z => ?_) fun h' d out h1 h2 kp hd hn' => ?_
  · obtain ⟨e, he, rfl⟩ := List.mem_map.mp hv
    rw [keyTs_at hH2 he]
    obtain ⟨_, its2, r2, o, ho, hc, n, hd⟩ := I.hok _ _ (hH2 e he)
    cases r2 with
    | cons r1 r2 =>
      cases r2 with
      | cons r3 r2 =>
        cases r2 with
        | cons r4 r2 =>
          cases r2
          obtain ⟨t1, rfl⟩ := r1
          obtain ⟨t2, rfl⟩ := r3
          obtain ⟨t3, rfl⟩ := r4
          exact ⟨e.1, o, t1, t2, t3, n, rfl, ho, hc, hd⟩
  · obtain ⟨e, he, rfl⟩ := List.mem_map.mp hv
    obtain ⟨e', he', rfl⟩ := List.mem_map.mp hu
    rw [keyTs_at hH2 he, keyTs_at hH2 he'] at z
    rw [uniq e he e' he' z]
  · obtain ⟨n, hn'⟩ := hn'
    obtain ⟨us2, pm, eo⟩ := L2.perm_lift (fun e : Ts3 => Value.ref e.1) h2.perm ts rfl
    subst eo
    have rv2 : Vals (us2.map fun e => V.ref e.1) (us2.map fun e => Value.ref e.1) := by
      clear h1 h2 hn' pm
      induction us2 with
      | nil => exact .nil
      | cons e l ih => exact .cons rfl ih
    have lz : (us2.map fun e => V.ref e.1).length ≤ sizeLine := by
      rw [List.length_map, pm.length_eq]
      rw [List.length_map] at hz
      exact hz
    refine ⟨.ref d, upd H d (.lst (us2.map fun e => V.ref e.1)), I.laid (t' := s.toks) kp hd ⟨lz, _, n, rv2, hn'⟩, rfl, _, hH.new (I.hok.fresh hd), h us2 d pm ?_⟩
    have h1' := List.pairwise_map.mp h1
    refine h1'.imp_of_mem fun {a b} ha hb z => ?_
    replace z : ltS (keyTs ts (Value.ref b.1)).1 (keyTs ts (Value.ref a.1)).1 = false := z
    rw [keyTs_at hH2 (pm.mem_iff.mp ha), keyTs_at hH2 (pm.mem_iff.mp hb)] at z
    exact z
end
end G
set_option Elab.async false
set_option linter.all false
set_option maxRecDepth 100000
set_option maxHeartbeats 4000000
namespace PySem.SeqAt
open AutoSeq1 (wpAny_loadPart')
open MeetsSeq MeetsSeq2 MeetsSeq3 SeqRoads2
end PySem.SeqAt
namespace G
open PySem PySem.Spec PyProof.Rows L2
end G
set_option Elab.async false
set_option linter.all false
set_option maxRecDepth 100000
set_option maxHeartbeats 4000000
namespace G
open PySem PySem.Spec PyProof.Rows L2
end G
set_option Elab.async false
set_option linter.all false
set_option maxRecDepth 100000
set_option maxHeartbeats 4000000
namespace G
open PySem PySem.Spec PyProof.Rows L2
section
variable {X : Cx} {W : XW} {j k : Nat} {C g : Addr} {sp : SpL} {η : En} {L : Lg} {Q : QV} {m : Str} {e o : Expr} {es : List Expr} {pos pos' : Pos} {pl : Sem Bool}
/-- o.m(..), errors let out -/
theorem ge_methX (F : RunG X.prog X.w X.K X.mg X.base (L2.CX X.prog X.w) k g argsP (toSp sp)) (hm : Meth X.K C m g) (c : Cls X.K C) (hr : RoomG j X.A) (tk : Tk X W) (h : GE X o η L fun x L1 => ∃ a dx fs, x = .ref a ∧ (a, HO.ins C dx fs) ∈ L1 ∧ fs.lookup m = none ∧ GA X (e :: es) η L1 fun vs L2 => sp (.ref a :: vs) L2 Q fun c d L' => W c d η L') (hjk : k ≤ j := by decide)
    (hst : starEach (e :: es) X.env = (false, eval e X.env) :: starEach es X.env := by rfl) (hpl : (backTo pos (starEach es X.env)).any (·.1) = false := by rfl)
    (ht : eval (.Call (.Attribute o m pos') (e :: es) [] pos) X.env = (do
      let ov ← eval o X.env
      standAt pos'.atName
      let (f, first) ← holding [ov] (getMethod ov m pl)
      callWith pos f first (backTo pos (starEach (e :: es) X.env)) (backToKw pos (keywordEach [] X.env))) := by rfl) : GE X (.Call (.Attribute o m pos') (e :: es) [] pos) η L Q := fun hN H hH pins s I => by
  refine PySem.W.methodCall_KW (pl := pl) (thn (h hN H hH pins s I) fun u s1 ⟨x, H1, I1, rx, L1, h1, a, dx, fs, ex, ea, l, q⟩ => ?_) ht
  subst ex
  obtain rfl : u = Value.ref a := rx
  refine getmeth_ok I1 (h1.get ea) c hm l ?_
  refine PySem.W.callWith_K (first := [.ref a]) (h₀ := X.base) I.ok.mod.kin hm.kp (thn (q hN H1 h1 pos pins s1 I1) fun us s2 ⟨vs, H2, I2, r, L2, h2, q2⟩ => ⟨I2.kIn, ?_⟩) hst hpl
  exact run_x (args := argsP) (us := .ref a :: us) (vs := .ref a :: vs) F (hr.mono hjk) tk hN h2 I2 (.cons rfl r) q2
/-- o.m(), errors let out -/
theorem ge_methX0 (F : RunG X.prog X.w X.K X.mg X.base (L2.CX X.prog X.w) k g argsP (toSp sp)) (hm : Meth X.K C m g) (c : Cls X.K C) (hr : RoomG j X.A) (tk : Tk X W) (h : GE X o η L fun x L1 => ∃ a dx fs, x = .ref a ∧ (a, HO.ins C dx fs) ∈ L1 ∧ fs.lookup m = none ∧ sp [.ref a] L1 Q fun c d L' => W c d η L') (hjk : k ≤ j := by decide)
    (ht : eval (.Call (.Attribute o m pos') [] [] pos) X.env = (do
      let ov ← eval o X.env
      standAt pos'.atName
      let (f, first) ← holding [ov] (getMethod ov m pl)
      callWith pos f first (backTo pos (starEach [] X.env)) (backToKw pos (keywordEach [] X.env))) := by rfl) : GE X (.Call (.Attribute o m pos') [] [] pos) η L Q := fun hN H hH pins s I => by
  refine PySem.W.methodCall_KW (pl := pl) (thn (h hN H hH pins s I) fun u s1 ⟨x, H1, I1, rx, L1, h1, a, dx, fs, ex, ea, l, q⟩ => ?_) ht
  subst ex
  obtain rfl : u = Value.ref a := rx
  refine getmeth_ok I1 (h1.get ea) c hm l ?_
  refine PySem.W.callWith_K0 (first := [.ref a]) I1.kIn hm.kp ?_
  exact run_x (args := argsP) (us := [.ref a]) (vs := [.ref a]) F (hr.mono hjk) tk hN h1 I1 (.cons rfl .nil) q
end
end G
set_option Elab.async false
set_option linter.all false
set_option maxRecDepth 100000
set_option maxHeartbeats 4000000
namespace G
open PySem PySem.Spec PyProof.Rows L2
open L2H (RoomH)
theorem RoomH.in1 {k : Nat} {A : Around} (r : RoomH (k + 1) A) : RoomH k A.in1 :=
  ⟨by have := r.dp; show A.depth + 3 * k + 5 < _; omega, by have := r.un; show A.units + 1 + 16 * k + 200 < _; omega⟩
/-- in an except suite there is as much room -/
theorem RoomG.suite {k : Nat} {X : Cx} {a : Addr} (r : RoomG k X.A) : RoomH k (suX X a).A := L2H.roomH_mark r.toRoom _
section
variable {X : Cx} {j k : Nat} {C g a dx : Addr} {fs : List (Str × V)} {sp : SpL} {El : XL} {η : En} {L : Lg} {Q : QV} {n : Str} {kvs : List (Key × V)} {od : Obj}
theorem RoomH.unit {k : Nat} {A : Around} (r : RoomH k A) : A.units + 1 < cLine := by have := r.un; omega
end
end G
set_option Elab.async false
set_option linter.all false
set_option maxRecDepth 100000
set_option maxHeartbeats 4000000
namespace PySem.W
open PySem PySem.Spec PyProof.Rows
section
variable {M : Model} {A : Around} {E : Value → Shared → Prop} {s : Shared} {K : Frag} {x C f : Addr} {i v : Value} {ox : Obj} {od : Option Obj}
theorem g_setItem {Q : Unit → Shared → Prop} (X : K.In s.heap) (I : InstAt s.heap x ox C od) (hq : noSeq K C = true) (hs : findIn K (.ref C) "__setitem__" = some (some (.ref f))) (hf : isFn K (.ref f) = true)
    (h : wpAny M A (call (.ref f) [.ref x, i, v]) (fun _ s' => Q () s') E s) : wpAny M A (setItem (.ref x) i v) Q E s := by
  unfold setItem sequenceKey
  refine wpAny_holding (wpAny_bind (wpAny_bind (I.type.here ?_)))
  refine wpAny_bind ((anyM_none X hq).here ?_)
  rw [if_pos (show (!false) = true from rfl)]
  exact wpAny_pure (wpAny_bind (special_fn X I hs (beq_iff_eq.mp hf) (wpAny_mono h (fun _ _ z => wpAny_pure z) fun _ _ z => z)))
end
end PySem.W
namespace L2
open PySem PySem.Spec PyProof.Rows
section
variable {prog : Program} {w : World} {A : Around} {E : Value → Shared → Prop} {s : Shared}
theorem bounds_tail {a n : Nat} (ha : a ≤ n) : sliceBounds (some (a : Int)) none none n = ((a : Int), (n : Int), 1) := by
  simp only [sliceBounds, Option.getD_none]
  have h1 : ¬ ((a : Int) < 0) := by omega
  simp only [h1, if_false, show (1 : Int) > 0 by decide, if_true]
  congr 1
  omega
set_option maxRecDepth 100000 in
/-- list.__setitem__ with a slice from a place on, and another list -/
theorem setItem_tail {l b sl : Addr} {items new : Array Value} {n n2 : Nat} {vl : Value} {a : Nat} {Q : Unit → Shared → Prop}
    (e : s.heap.get? l = some { cls := .type "list", data := .seq items n }) (e2 : s.heap.get? b = some { cls := .type "list", data := .seq new n2 }) (hne : l ≠ b)
    (hs : s.heap.IsSliceOf sl vl .none .none) (pl : IsPart vl (some (a : Int))) (ha : a ≤ items.size)
    (hsz : items.size + new.size ≤ sizeLine) (h : Q () { s with heap := s.heap.update l (Obj.mapSeq fun xs => xs.extract 0 a ++ new ++ xs.extract items.size xs.size) }) :
    wpAny (model prog w) A (setItem (.ref l) (.ref sl) (.ref b)) Q E s := by
  have hl : s.heap.IsList l items := PySem.IsL.isList e
  have hb : s.heap.IsList b new := PySem.IsL.isList e2
  obtain ⟨os, hos, hcs, hds⟩ := id hs
  have hTs : s.TypeIs (.ref sl) "slice" := ⟨os, hos, hcs⟩
  have hstep : ¬ ((rawPart none == rawInt 0) = true) := Bool.false_ne_true
  have hsame : Builtin.List.listSameRef (.ref l) (.ref b) = false := by
    unfold Builtin.List.listSameRef
    exact beq_eq_false_iff_ne.mpr hne
  have hmax : (max (a : Int) (items.size : Int)).toNat = items.size := by omega
  have hz' : ((fun xs : Array Value => xs.extract 0 a ++ new ++ xs.extract items.size xs.size) items).size ≤ sizeLine + 1 := by
    simp only [Array.size_append, Array.size_extract]
    omega
  unfold setItem
  try with_reducible refine wpAny_holding ?_
  first | refine wpAny_bind (wpAny_pure ?_) | skip
  refine wpAny_bind (wpAny_sequenceKey hl.typeIs (by decide) ?_)
  refine wpAny_bind (wpAny_callSpecial?_slot (name := Str.ofString "__setitem__") hl.typeIs slot_list_setitem
    (wpAny_call_entry slot_list_setitem hl.typeIs entry_list_setitem ?_ (args_list_setitem _ _ _)))
  show wpAny _ _ (Builtin.List.listSubscript? (.ref sl) >>= _) _ _ s
  refine wpAny_bind ?_
  unfold Builtin.List.listSubscript?
  refine wpAny_bind (wpAny_specialOf hTs slice_no_index ?_)
  simp only [Option.isNone_none, if_true]
  refine wpAny_pure ?_
  show wpAny _ _ (typeOf (.ref sl) >>= _) _ _ s
  refine wpAny_bind (wpAny_typeOf hTs ?_)
  first
    | rw [if_neg (by decide)]
    | refine PySem.W.KFB.if_not (by decide) ?_
  rw [listSliceParts_eq]
  refine wpAny_bind (wpAny_bind (wpAny_field hos hds (x := .none) rfl (wpAny_bind (wpAny_listPart .none ?_))))
  rw [if_neg hstep]
  refine wpAny_bind (wpAny_field hos hds (x := vl) rfl (wpAny_bind (wpAny_listPart pl ?_)))
  refine wpAny_bind (wpAny_field hos hds (x := .none) rfl (wpAny_bind (wpAny_listPart .none (wpAny_pure ?_))))
  first
    | simp only [hsame, Bool.false_eq_true, if_false]
    | refine PySem.W.KFB.if_not hsame ?_
    | (dsimp only
       rw [if_neg (by rw [hsame]; exact Bool.false_ne_true)])
  refine wpAny_bind (m := Builtin.List.listAllItems (.ref b) "must assign iterable to extended slice") ?_
  unfold Builtin.List.listAllItems
  refine wpAny_bind (wpAny_typeOf hb.typeIs ?_)
  first
    | refine PySem.W.KFB.if_so (by decide) ?_
    | rw [if_pos (by decide)]
    | simp only [beq_self_eq_true, Bool.true_or, if_true]
  unfold Builtin.List.listItems
  refine wpAny_bind (wpAny_seqItems e2 rfl (wpAny_pure ?_))
  refine wpAny_bind (wpAny_bind (wpAny_seqItems e rfl (wpAny_pure ?_)))
  refine wpAny_bind (wpAny_of_eq ((sliceIndices_raw (some (a : Int)) none none items.size (by simp)).trans (congrArg (pure : Int × Int × Int → Sem (Int × Int × Int)) (bounds_tail ha))) ?_)
  show wpAny _ _ (if ((1 : Int) == 1) = true then _ else _) _ _ s
  rw [if_pos (by decide)]
  refine wpAny_bind (wpAny_rule ?_)
  first
    | simp only [notLongL hsz, Bool.false_eq_true, if_false]
    | refine PySem.W.KFB.if_not (notLongL hsz) ?_
  first | refine wpAny_bind (wpAny_pure ?_) | skip
  show wpAny _ _ (updateSeq l (fun xs => xs.extract 0 ((a : Int)).toNat ++ new ++ xs.extract (max (a : Int) (items.size : Int)).toNat xs.size) >>= _) _ _ s
  rw [hmax, Int.toNat_natCast]
  refine wpAny_bind (wpAny_updateSeq (hz := Nat.le_trans (Nat.le_add_right _ _) hsz) (_hz' := hz') e rfl ?_)
  refine wpAny_bind (wpAny_letGo ?_)
  first
    | exact wpAny_bind (wpAny_pure (wpAny_pure ⟨.none, rfl, wpAny_pure h⟩))
    | exact wpAny_pure ⟨.none, rfl, wpAny_pure h⟩
end
section
variable {X : Cx}
theorem set_tail {pins : List (Addr × Obj)} {s : Shared} {σ : St} {H : Hp} {l b sl : Addr} {xs ys : List V} {a : Int} {vl : Value} {Q : Unit → Shared → Prop} (I : Inv X pins σ H s)
    (hH : H l = some (.lst xs)) (hB : H b = some (.lst ys)) (hne : l ≠ b) (hs : s.heap.IsSliceOf sl vl .none .none) (ra : RelV (.int a) vl) (h0 : 0 ≤ a) (hac : a ≤ xs.length)
    (hz : xs.length + ys.length ≤ sizeLine) (h : ∀ s', Inv X pins σ (upd H l (.lst (xs.take a.toNat ++ ys))) s' → Q () s') :
    wpAny (model X.prog X.w) X.A (setItem (.ref l) (.ref sl) (.ref b)) Q X.xe s := by
  obtain ⟨ta, rfl⟩ := ra
  obtain ⟨z, its, n, r, hl, e⟩ := I.lstM hH
  obtain ⟨z2, its2, n2, r2, hl2, e2⟩ := I.lstM hB
  obtain ⟨a', rfl⟩ := Int.eq_ofNat_of_zero_le h0
  simp only [Int.toNat_natCast] at h
  refine setItem_tail (a := a') e e2 hne hs (.int _ _) (by rw [List.size_toArray]; omega) (by rw [List.size_toArray, List.size_toArray]; omega) (h _ ?_)
  refine I.lset (its' := its.take a' ++ its2) (t' := s.toks) hH e ?_ (Vals.append (r.take _) r2) ?_
  · have := splice_eq its its2 a' its.toArray.size
    rw [List.size_toArray] at this ⊢
    rw [this, List.drop_length, List.append_nil]
  · rw [List.length_append, List.length_take]
    omega
end
end L2
namespace G
open PySem PySem.Spec PyProof.Rows L2
section
variable {X : Cx} {CX : CXT} {W : XW} {j k : Nat} {C g a dx : Addr} {fs : List (Str × V)} {sp : SpL} {El : XL} {η : En} {L : Lg} {i v : V} {Q : Lg → Prop} {pos p2 : Pos}
/-- o[i] = v by an own __setitem__ -/
structure OwnSet (K : PySem.W.Frag) (C g : Addr) : Prop where
  no : PySem.W.noSeq K C = true
  at_ : PySem.W.findIn K (.ref C) "__setitem__" = some (some (.ref g))
  fn : PySem.W.isFn K (.ref g) = true
theorem gst_own (T : OwnSet X.K C g) (F : RunG X.prog X.w X.K X.mg X.base CX k g argsP (toSp sp)) (hr : RoomG j X.A) (hx : Passes CX X (upX El)) (ma : (a, HO.ins C dx fs) ∈ L) (h : sp [.ref a, i, v] L (fun _ L' => Q L') El) (hjk : k ≤ j := by decide) : GSt X (.ref a) i v L Q := fun pins s σ H ov iv u hH I r1 r2 r3 => by
  obtain rfl : ov = Value.ref a := id r1
  obtain ⟨oe, od, J⟩ := ins_inst I hH ma
  refine PySem.W.g_setItem I.kIn J T.no T.at_ T.fn (wpAny_mono (run_G (args := argsP) (us := [.ref a, iv, u]) (vs := [.ref a, i, v]) F (hr.mono hjk) hx I (.cons r1 (.cons r2 (.cons r3 .nil))) (up_sp hH h)) (fun r s' hq => ?_) fun _ _ z => z)
  obtain ⟨z, H', I', rz, L', h', q⟩ := hq
  exact ⟨H', I', L', h', q⟩
/-- o[lo:] = a list -/
theorem gg_tail {o lo : Expr} {Q : En → Lg → Prop} (h : GE X o η L fun x L1 => GE X lo η L1 fun i L2 => ∃ (p b : Addr) (xs ys : List V) (n : Nat) (M : Lg), x = .ref p ∧ i = .int (n : Nat) ∧ v = .ref b ∧ (p, HO.lst xs) ∈ L2 ∧ (b, HO.lst ys) ∈ L2 ∧ ((L2.map (·.1)).Nodup → p ≠ b) ∧ n ≤ xs.length ∧ xs.length + ys.length ≤ sizeLine ∧ Swap p (.lst (xs.take n ++ ys)) L2 M ∧ Q η M)
    (ha : ∀ v, assign (.Subscript o (.Slice (some lo) none none p2) pos) X.env v = (do
      let ov ← holding [v] (eval o X.env)
      let iv ← holding [v, ov] (eval (.Slice (some lo) none none p2) X.env)
      standAt pos
      holding [v, ov, iv] (setItem ov iv v)
      release [iv, v, ov] []) := by intro _; rfl) : GG X (.Subscript o (.Slice (some lo) none none p2) pos) v η L Q := fun hN H hH pins s u I r => by
  rw [ha]
  refine wpAny_bind (wpAny_holding (thn (h hN H hH pins s I) fun ov s1 ⟨x, H1, I1, r1, L1, h1, q1⟩ => ?_))
  refine wpAny_bind (wpAny_holding ?_)
  refine wpAny_Slice ?_
  rw [evalPart_some]
  refine thn (q1 hN H1 h1 pins s1 I1) fun vl s2 ⟨y, H2, I2, r2, L2, h2, p, b, xs, ys, n, M, ex, ey, ev, mp, mb, ne, ln, lz, sw, q⟩ => ?_
  rw [evalPart_none]
  refine wpAny_pure (wpAny_pure ?_)
  subst ex ey ev
  obtain rfl : ov = Value.ref p := r1
  obtain rfl : u = Value.ref b := r
  have I4 : Inv X pins (vals η) H2 { s2 with heap := s2.heap.push { cls := .type "slice", data := .fields #[vl, .none, .none] } } := I2.kept (t' := s2.toks) fun b ob q => Heap.get?_push_of_some _ q
  refine wpAny_bind (wpAny_standAt (wpAny_bind (wpAny_holding ?_)))
  refine set_tail I4 (h2.get mp) (h2.get mb) (ne h2.1) (Heap.IsSliceOf.new ..) r2 (Int.natCast_nonneg _) (by omega) lz fun s' I5 => ?_
  rw [Int.toNat_natCast] at I5
  exact wpAny_release ⟨_, _, I5, η, M, hN, rfl, h2.swap sw, q⟩
end
end G
set_option Elab.async false
set_option linter.all false
set_option maxRecDepth 100000
set_option maxHeartbeats 4000000
namespace G
open PySem PySem.Spec PyProof.Rows L2
def DcTurn (X : Cx) (scope : Scope) (ifs : List Expr) (kx vx : Expr) (D : Addr) (Nx : Lg → Prop) (θ : En) (M : Lg) : Prop :=
  AllBlk X scope fun B => GTs B ifs θ M fun b M1 => if b = true then AllBlk X scope fun B => GE B kx θ M1 fun y M2 => AllBlk X scope fun B => GE B vx θ M2 fun z M3 => ∃ kvs k M4, y = kV k ∧ (D, HO.dK kvs) ∈ M3 ∧ kvs.length < sizeLine ∧ Swap D (.dK (putK kvs k z)) M3 M4 ∧ Nx M4 else Nx M1
structure DcS (X : Cx) (scope : Scope) (ifs : List Expr) (kx vx : Expr) (S : Src) (D : Addr) (L : Lg) (st : V → Lg → (En → Lg → Prop) → Prop) (Pv : Nat → Lg → Prop) (Q : QV) : Prop where
  h0 : Pv 0 ((D, .dK []) :: L)
  kp : ∀ i M, i ≤ S.n → (M.map (·.1)).Nodup → Pv i M → S.keep M
  hs : ∀ i x E M, i < S.n → S.item i x E → ((E ++ M).map (·.1)).Nodup → Pv i M → st x (E ++ M) fun θ M' => DcTurn X scope ifs kx vx D (Pv (i + 1)) θ M'
  hd : ∀ M, Pv S.n M → Q (.ref D) M
section
variable {X : Cx} {η : En} {L : Lg} {kx vx iter tg e : Expr} {ifs : List Expr} {scope : Scope} {pos p1 p2 p3 apos cpos : Pos} {x y : Str} {f : V → En} {Q : QV}
theorem dc_core' {g : TG} {vs : List Nat} {st : V → Lg → (En → Lg → Prop) → Prop} (nη : X.N = names η) {H : Hp} (hH : Has H L) {Qh : VK} (hq : ∀ D M H', Has H' M → Q (.ref D) M → Qh (.ref D) H')
    (hst : ∀ v M H' k Qk, Has H' M → st v M k → (∀ θ M' H2, X.N = names θ → Has H2 M' → k θ M' → wipe (vals θ) vs = wipe (vals η) vs → Qk (vals θ) H2) → g v (wipe (vals η) vs) H' Qk)
    (h : GI X tg iter η L fun S L1 => ∀ D, ∃ Pv, DcS X scope ifs kx vx S D L1 st Pv Q) : tDc (WI X tg iter) g (ttB X scope ifs) (teB X scope kx) (teB X scope vx) vs (vals η) H Qh := by
  intro pins s I
  refine wpAny_mono (h nη H hH pins s I) (fun v s1 z => wpAny_mono z (fun itv s2 z2 => ?_) fun _ _ z => z) fun _ _ z => z
  obtain ⟨it, fp, tn, J, H1, ev, I2, T, t0, f2, L1, S, k1, ok, l⟩ := z2
  refine ⟨it, fp, tn, J, H1, ev, I2, T, t0, f2, fun D nD => ?_⟩
  obtain ⟨Pv, l⟩ := l D
  refine ⟨fun i m H => m = S.n - i ∧ i ≤ S.n ∧ ∃ M, Has H M ∧ Pv i M, ⟨S.n, by simp, Nat.zero_le _, _, k1.new nD, l.h0⟩, ?_⟩
  rintro t m H2 ⟨rfl, hi2, M, h3, q1⟩
  have kk := l.kp t M hi2 h3.1 q1
  by_cases hlt : t < S.n
  · refine .inr ⟨ok.goes t H2 M hlt h3 kk, fun H' => ∃ M, Has H' M ∧ Pv (t + 1) M, fun H' p' => ⟨S.n - (t + 1), by omega, rfl, hlt, p'⟩, fun v H3 y => ?_⟩
    obtain ⟨E, it', h4⟩ := ok.yields t H2 v H3 M hlt h3 kk y
    refine hst v (E ++ M) H3 _ _ h4 (l.hs t v E M hlt it' h4.1 q1) fun θ M' H5 nθ h5 q2 ew => ⟨ew, fun s' H' C cl fp => ?_⟩
    refine (q2 s' H' C cl fp).then nθ h5 fun b M1 H6 h6 q3 => ?_
    cases b with
    | true =>
      rw [if_pos rfl] at q3 ⊢
      refine fun s' H' C cl fp => (q3 s' H' C cl fp).then nθ h6 fun y M2 H7 h7 q4 => ?_
      refine fun s' H' C cl fp => (q4 s' H' C cl fp).then nθ h7 fun z M3 H8 h8 q5 => ?_
      obtain ⟨kvs, k, M4, ey, m2, lz, sw, q6⟩ := q5
      exact ⟨kvs, k, ey, h8.get m2, lz, M4, h8.swap sw, q6⟩
    | false =>
      rw [if_neg Bool.false_ne_true] at q3 ⊢
      exact ⟨M1, h6, q3⟩
  · have e : t = S.n := by omega
    subst e
    exact .inl ⟨ok.stops H2 M h3 kk, hq D M H2 h3 (l.hd M q1)⟩
/-- {kx: vx for x, y in iter if ..} -/
theorem ge_dc2 {g : V → V → En} {kt : Nat} {pt : Pos} (P : PutF x η f) (R : ∀ v, PutF y (f v) (g v)) (h : GI X (.Tuple [.Name x p1, .Name y p2] kt pt) iter η L fun S L1 => ∀ D, ∃ Pv, DcS X scope ifs kx vx S D L1 (fun v M k => ∃ p a b, v = .ref p ∧ (p, HO.tup [a, b]) ∈ M ∧ k (g a b) M) Pv Q)
    (hxy : x ≠ y) (hb : blkC X.N X.env.scope scope [(x, X.N.idxOf x), (y, X.N.idxOf y)] = true) (hlx : LocB X scope x := by exact fun _ _ _ _ _ => ⟨.inl rfl, .inr rfl⟩) (hly : LocB X scope y := by exact fun _ _ _ _ _ => ⟨.inl rfl, .inr rfl⟩)
    (hN : X.N.Nodup := by assumption) (hc : X.calm = true := by rfl) (hs : ∀ z, foldedSetIterable iter X.env z = pure z := by intro _; rfl) : GE X (.DictComp kx vx [⟨.Tuple [.Name x p1, .Name y p2] kt pt, iter, ifs, 0⟩] scope pos) η L Q := fun nη H hH => by
  obtain ⟨i, h1, h2⟩ := P.idx
  have hi : X.N[i]? = some x := by rw [nη]; exact h1
  obtain ⟨j, k1, _⟩ := (R .non).idx
  have hj : X.N[j]? = some y := by
    rw [(h2 .non).2] at k1
    rw [nη]
    exact k1
  have ne : i ≠ j := fun z => hxy (by rw [z, hj] at hi; exact (Option.some.inj hi).symm)
  exact WE.of (pe_dc (own := [(x, i), (y, j)]) hc hN pi_W (blkOk_by (by rw [idxEq hN hi, idxEq hN hj] at hb; exact hb)) (pg_pair hc hN hi hj hlx hly) pts_ttB pe_teB pe_teB hs)
    (dc_core' (Qh := up Q) nη hH (fun D M H' hM q => ⟨M, hM, q⟩) (st_two P R hi hj ne hN nη) h)
/-- for k, v in d.items(): d stands still -/
theorem gi_items {elts : List Expr} {kk : Nat} {tpos : Pos} {Q : Src → Lg → Prop} (h : GE X e η L fun v L1 => ∃ q od kvs, v = .ref q ∧ (q, dO od kvs) ∈ L1 ∧ Q ⟨kvs.length, fun M => (q, dO od kvs) ∈ M, itemPr (fun i => kvs[i]?.map fun kv => kV kv.1) (fun i => kvs[i]?.map Prod.snd)⟩ L1)
    (hbase : attributeBase e "items" X.env (eval e X.env) = eval e X.env := by rfl) (hline : (apos.endLine == cpos.line) = true := by rfl) : GI X (.Tuple elts kk tpos) (.Call (.Attribute e "items" apos) [] [] cpos) η L Q := fun hN H hH =>
  WI.of (pi_items pe_W hbase hline) (h.then hN hH fun v L1 H1 k1 ⟨q, od, kvs, ev, m, z⟩ => ⟨q, od, kvs, ev, k1.get m, L1, _, k1, SrcOk.of walk_items (fun H M hM k => hM.get k) (fun i H x H' M _ hM _ y => y_pr hM y), z⟩)
end
section
variable {X : Cx} {η : En} {L : Lg} {iter tg e : Expr} {c : Expr} {scope : Scope} {pos p1 p2 p3 p4 p5 apos cpos : Pos} {x y : Str} {f : V → En} {Q : QV}
theorem putK_new {kvs : List (Key × V)} {k : Key} {v : V} (h : k ∉ kvs.map (·.1)) : putK kvs k v = kvs ++ [(k, v)] := by
  unfold putK
  rw [if_neg]
  intro z
  rw [List.any_eq_true] at z
  obtain ⟨kv, m, e⟩ := z
  exact h (List.mem_map.mpr ⟨kv, m, of_decide_eq_true e⟩)
/-- {k: v for k, v in d.items() if c}: keys and values as they are -/
theorem ge_dcItems {g : V → V → En} {kt : Nat} {pt : Pos} {kvs : List (Key × V)} {t : Key × V → Bool} (P : PutF x η f) (R : ∀ v, PutF y (f v) (g v)) (hAx : ∀ a b, At x a (g a b)) (hAy : ∀ a b, At y b (g a b))
    (h : GE X e η L fun v L1 => ∃ q od, v = .ref q ∧ (q, dO od kvs) ∈ L1 ∧ (kvs.map (·.1)).Nodup ∧ kvs.length ≤ 1000000 ∧ (∀ kv ∈ kvs, ∀ M, (∀ en ∈ L1, en ∈ M) → AllBlk X scope fun B => GT B c (g (kV kv.1) kv.2) M fun b M1 => b = t kv ∧ M1 = M) ∧ ∀ D, Q (.ref D) ((D, .dK (kvs.filter t)) :: L1))
    (hxy : x ≠ y) (hb : blkC X.N X.env.scope scope [(x, X.N.idxOf x), (y, X.N.idxOf y)] = true) (hvx : AllBlk X scope fun B => Vis B.env.scope x := by exact fun _ _ _ _ _ => .inl rfl) (hvy : AllBlk X scope fun B => Vis B.env.scope y := by exact fun _ _ _ _ _ => .inl rfl)
    (hdx : (x == ("__debug__" : Str)) = false ∧ (x == ("__classdict__" : Str)) = false := by decide) (hdy : (y == ("__debug__" : Str)) = false ∧ (y == ("__classdict__" : Str)) = false := by decide)
    (hbase : attributeBase e "items" X.env (eval e X.env) = eval e X.env := by rfl) (hline : (apos.endLine == cpos.line) = true := by rfl)
    (hlx : LocB X scope x := by exact fun _ _ _ _ _ => ⟨.inl rfl, .inr rfl⟩) (hly : LocB X scope y := by exact fun _ _ _ _ _ => ⟨.inl rfl, .inr rfl⟩)
    (hN : X.N.Nodup := by assumption) (hc : X.calm = true := by rfl) (hs : ∀ z, foldedSetIterable (.Call (.Attribute e "items" apos) [] [] cpos) X.env z = pure z := by intro _; rfl) :
    GE X (.DictComp (.Name x p4) (.Name y p5) [⟨.Tuple [.Name x p1, .Name y p2] kt pt, .Call (.Attribute e "items" apos) [] [] cpos, [c], 0⟩] scope pos) η L Q := by
  refine GE.undrp (ge_dc2 P R (gi_items (h.imp fun v L1 ⟨q, od, ev, m, nd, ln, ht, hq⟩ => ⟨q, od, kvs, ev, m, fun D => ?_⟩) hbase hline) hxy hb hlx hly hN hc hs)
  refine ⟨fun i M => Sub ((D, .dK ((kvs.take i).filter t)) :: L1) M, Sub.refl, fun i M _ ndM s => (s.to ndM).2 _ (List.mem_cons_of_mem _ m), fun i z E M hi it ndM s => ?_, fun M s => ?_⟩
  · replace hi : i < kvs.length := hi
    obtain ⟨T, a, b, rfl, rfl, ea, eb⟩ := it
    have hk : kvs[i]? = some kvs[i] := List.getElem?_eq_getElem hi
    replace ea : kvs[i]?.map (fun kv => kV kv.1) = some a := ea
    replace eb : kvs[i]?.map Prod.snd = some b := eb
    rw [hk] at ea eb
    obtain rfl : kV kvs[i].1 = a := Option.some.inj ea
    obtain rfl : kvs[i].2 = b := Option.some.inj eb
    refine ⟨T, _, _, rfl, mem0, fun s1 H1 C1 cl1 fp1 => ?_⟩
    refine GTs.sub (Sub.trans s Sub.drop) ?_
    have mi : kvs[i] ∈ kvs := List.getElem_mem hi
    have et : (kvs.take (i + 1)).filter t = (kvs.take i).filter t ++ (if t kvs[i] = true then [kvs[i]] else []) := by
      rw [List.take_succ, hk, List.filter_append]
      congr 1
      show List.filter t [kvs[i]] = _
      rw [List.filter_cons, List.filter_nil]
    refine (ht _ mi _ (fun en he => List.mem_cons_of_mem _ he) s1 H1 C1 cl1 fp1).imp fun b0 M1 ⟨eb0, eM⟩ => ?_
    subst eM
    intro M2 s2
    cases b0 with
    | false =>
      rw [if_neg Bool.false_ne_true]
      show Sub ((D, .dK ((kvs.take (i + 1)).filter t)) :: L1) M2
      rw [et, if_neg (by rw [← eb0]; exact Bool.false_ne_true), List.append_nil]
      exact s2
    | true =>
      rw [if_pos rfl]
      intro s3 H3 C3 cl3 fp3
      refine ge_var (hAx _ _) ?_ (hvx s3 H3 C3 cl3 fp3) hdx.1 hdx.2
      intro s4 H4 C4 cl4 fp4
      refine GE.nd ?_
      refine ge_var (hAy _ _) ?_ (hvy s4 H4 C4 cl4 fp4) hdy.1 hdy.2
      intro nd2
      have nk : kvs[i].1 ∉ ((kvs.take i).filter t).map (·.1) := fun z => by
        obtain ⟨kv, mk, ek⟩ := List.mem_map.mp z
        obtain ⟨j, hj, ej⟩ := List.mem_iff_getElem.mp (List.mem_filter.mp mk).1
        rw [List.length_take] at hj
        rw [List.getElem_take] at ej
        have pw := List.pairwise_iff_getElem.mp nd j i (by rw [List.length_map]; omega) (by rw [List.length_map]; exact hi) (by omega)
        rw [List.getElem_map, List.getElem_map, ej] at pw
        exact pw ek
      have m2 := (s2.to nd2).2 _ mem0
      obtain ⟨M4, sw⟩ := Swap.ex (o := .dK (putK ((kvs.take i).filter t) kvs[i].1 kvs[i].2)) (u := .dK ((kvs.take i).filter t)) rfl m2
      refine ⟨_, kvs[i].1, M4, rfl, m2, ?_, sw, ?_⟩
      · have := List.length_filter_le t (kvs.take i)
        rw [List.length_take] at this
        rw [sizeLine_eq]
        omega
      · have z := s2.swap sw
        rw [putK_new nk] at z
        show Sub ((D, .dK ((kvs.take (i + 1)).filter t)) :: L1) M4
        rw [et, if_pos eb0.symm]
        exact z
  · replace s : Sub ((D, .dK ((kvs.take kvs.length).filter t)) :: L1) M := s
    rw [List.take_length] at s
    exact ⟨_, s, hq D⟩
/-- a dict just made stands still from here on -/
theorem GE.lock {ex : Expr} (h : GE X ex η L fun v M => ∃ D kvs L1, v = .ref D ∧ M = (D, HO.dK kvs) :: L1 ∧ ∀ od, Q v ((D, dO od kvs) :: L1)) : GE X ex η L Q := fun hN H hH pins s I =>
  thn (h hN H hH pins s I) fun u s1 ⟨v, H1, I1, r, M, h1, D, kvs, L1, ev, eM, q⟩ => by
    subst ev eM
    obtain ⟨od, I2⟩ := I1.lock (h1.get mem0) True.intro
    exact ⟨_, _, I2, r, _, h1.swap (.here), q od⟩
end
end G
set_option Elab.async false
set_option linter.all false
set_option maxRecDepth 100000
set_option maxHeartbeats 4000000
namespace G
open PySem PySem.Spec PyProof.Rows L2
/-- an own error class that is made without values -/
structure ErrB (K : PySem.W.Frag) (mg : Str → Option Value) (x : Str) (C : Addr) : Prop where
  n : ErrN K mg x C
  ev : ErV K C
  ty : PySem.W.typeIn K (.ref C) = some (.type "type")
section
variable {X : Cx} {η : En} {L : Lg} {x : Str} {C : Addr} {p pos : Pos}
theorem gmk_err0 {E : XL} (T : ErrB X.K X.mg x C) (h : E (.ref C) none L) (hg : Gl X x := by rfl) (hdb : (x == ("__debug__" : Str)) = false := by decide) : GMk X (.Call (.Name x p) [] [] pos) η L E := fun hN H hH pins s I => by
  obtain ⟨bmB, B, newId, initId, F, q⟩ := T.n.q
  refine wpAny_Call_Name_kw (ld_glob I hg T.n.gC ?_ hdb)
  refine PySem.W.callWith_K0 I.kIn T.n.kC ?_
  show wpAny _ _ (call (.ref C) []) _ _ _
  obtain ⟨bm, N, nm, qn, bs, hdct, sn, sub, ab, col, dd, k0, k1, k2, k3, k5, mN, hC, hN', hni, Tl⟩ := exc_obj I.kIn q
  refine wpAny_call_exc_subT F Tl hC hN' hni (fun h' e hm => ?_) (by show 0 ≤ sizeLine; omega)
  exact mk_of I hm (raises_own T.ev.ex T.ty) ⟨L, hH, h⟩ (I.hok.gone hm.new)
end
end G
local macro_rules | `(tactic| tm_at "g_at") => `(tactic| first | with_reducible apply G.At.here | (with_reducible apply G.At.there; tm_at "g_at"))
local macro_rules | `(tactic| tm_at "g_put") => `(tactic| first | with_reducible apply G.PutF.here | (with_reducible apply G.PutF.there; tm_at "g_put"))
local macro_rules | `(tactic| tm_at "g_pv") => `(tactic| first | with_reducible apply G.Put.here | (with_reducible apply G.Put.there; tm_at "g_pv"))
local macro_rules | `(tactic| tm_at "g_mem") => `(tactic| first | with_reducible apply G.mem0 | (with_reducible apply G.memS; tm_at "g_mem") | (with_reducible apply G.memR; tm_at "g_mem") | with_reducible assumption)
local macro_rules | `(tactic| tm_at "g_memd") => `(tactic| first | apply G.mem0 | (apply G.memS; tm_at "g_memd") | (with_reducible apply G.memR; tm_at "g_memd"))
local macro_rules | `(tactic| tm_at "g_swap") => `(tactic| first | ((with_reducible apply G.Swap.here); rfl) | with_reducible assumption | ((with_reducible apply G.Swap.there); tm_at "g_swap") | ((with_reducible apply G.Swap.right); tm_at "g_swap"))
local macro_rules | `(tactic| tm_at "g_sub") => `(tactic| first | with_reducible apply G.Sub.refl | (refine G.Sub.trans ?_ G.Sub.drop; tm_at "g_sub"))
local macro_rules | `(tactic| tm_at "g_subl") => `(tactic| first | with_reducible exact List.Sublist.refl _ | with_reducible apply List.Sublist.cons_cons | with_reducible apply List.Sublist.cons)
local macro_rules | `(tactic| tm_at "g_end") => `(tactic| (refine G.Sub.sublist ?_; repeat (first | with_reducible exact List.Sublist.refl _ | with_reducible apply List.Sublist.cons_cons | with_reducible apply List.Sublist.cons | with_reducible apply G.subl_app)))
local macro_rules | `(tactic| tm_at "g_br") => `(tactic| first | with_reducible apply G.br0 | with_reducible apply G.br1 | with_reducible apply G.br2 | with_reducible apply G.br3 | with_reducible apply G.br4 | with_reducible apply G.br5 | with_reducible apply G.br6)
local macro_rules | `(tactic| tm_at "g_len") => `(tactic| (intro vs L Q E h; repeat (first | (obtain ⟨e, _⟩ := h; subst e; rfl) | (obtain ⟨_, h⟩ := h))))
local macro_rules | `(tactic| tm_at "g_size") => `(tactic| first | exact G.sz1 | exact G.sz2 | exact G.sz3 | exact G.sz_le (n := 0) (by decide) | exact G.sz_le (n := 4) (by decide) | exact G.sz_le (n := 5) (by decide) | exact G.sz_le (n := 6) (by decide) | exact G.sz_le (n := 7) (by decide) | exact G.sz_le (n := 8) (by decide) | exact G.sz_le (by first | decide | omega | (simp only [List.length_append, List.length_cons, List.length_nil, List.length_map]; omega)))
/-- all steps but a test's -/
local macro_rules | `(tactic| tm_at "f_e") => `(tactic| first
  | ((with_reducible show G.GE _ (PySem.Expr.Call (PySem.Expr.Attribute _ "append" _) _ _ _) _ _ _); refine G.ge_append ?_)
  | ((with_reducible show G.GE _ (PySem.Expr.Compare _ [_, _] _ _) _ _ _); refine G.ge_chain ?_)
  | ((with_reducible show G.GE _ (PySem.Expr.Subscript _ (PySem.Expr.Slice _ _ none _) _) _ _ _); refine G.ge_sliceL ?_)
  | ((with_reducible show G.GE _ (PySem.Expr.Name _ _) _ _ _); refine G.ge_var (by tm_at "g_at") ?_)
  | ((with_reducible show G.GE _ (PySem.Expr.Dict [] [] _) _ _ _); refine G.ge_dict0 (fun p => ?_))
  | ((with_reducible show G.GE _ (PySem.Expr.Compare _ _ _ _) _ _ _); refine G.ge_cmp ?_)
  | ((with_reducible show G.GE _ (PySem.Expr.Subscript _ _ _) _ _ _); refine G.ge_ix ?_)
  | ((with_reducible show G.GE _ (PySem.Expr.Attribute _ _ _) _ _ _); refine G.ge_attr ?_))
local macro_rules | `(tactic| tm_at "f_t") => `(tactic| first
  | ((with_reducible show G.GT _ (PySem.Expr.Compare _ [_, _] _ _) _ _ _); refine G.gt_chain ?_)
  | ((with_reducible show G.GT _ (PySem.Expr.Compare _ _ _ _) _ _ _); refine G.gt_cmp ?_)
  | refine G.gt_val ?_)
local macro_rules | `(tactic| tm_at "f_s") => `(tactic| first
  | ((with_reducible show G.GS _ (PySem.Stmt.Assign [PySem.Expr.Name _ _] _ _) _ _ _); refine G.gs_set (by tm_at "g_put") ?_)
  | ((with_reducible show G.GS _ (PySem.Stmt.Assign [PySem.Expr.Tuple [PySem.Expr.Name _ _, PySem.Expr.Name _ _] _ _] (PySem.Expr.Tuple _ _ _) _) _ _ _); refine G.gs_par (by tm_at "g_put") (fun _ => by tm_at "g_put") ?_)
  | ((with_reducible show G.GS _ (PySem.Stmt.Assign [PySem.Expr.Tuple [PySem.Expr.Name _ _, PySem.Expr.Name _ _, PySem.Expr.Name _ _] _ _] (PySem.Expr.Tuple _ _ _) _) _ _ _); refine G.gs_par3 (by tm_at "g_put") (fun _ => by tm_at "g_put") (fun _ _ => by tm_at "g_put") ?_)
  | ((with_reducible show G.GS _ (PySem.Stmt.Assign [PySem.Expr.Attribute _ _ _] _ _) _ _ _); refine G.gs_fld ?_)
  | ((with_reducible show G.GS _ (PySem.Stmt.Assign _ _ _) _ _ _); refine G.gs_asg ?_)
  | ((with_reducible show G.GS _ (PySem.Stmt.AugAssign _ _ _ _) _ _ _); refine G.gs_aug (by tm_at "g_at") (by tm_at "g_put") ?_)
  | ((with_reducible show G.GS _ (PySem.Stmt.Expr _ _) _ _ _); refine G.gs_expr ?_))
local macro_rules | `(tactic| tm_at "f_c") => `(tactic| first
  | ((with_reducible show G.GC _ (PySem.Value.builtin "len") _ _ _); first | refine G.gc_lenL (by tm_at "g_mem") ?_ | refine G.gc_lenT (by tm_at "g_mem") ?_)
  | ((with_reducible show G.GC _ (PySem.Value.builtin "min") [L2.V.int _, L2.V.int _] _ _); refine G.gc_min2 rfl ?_)
  | ((with_reducible show G.GC _ (PySem.Value.builtin "max") [L2.V.int _, L2.V.int _] _ _); refine G.gc_max2 rfl ?_))
local macro_rules | `(tactic| tm_at "f_g") => `(tactic| first
  | ((with_reducible show G.GG _ (PySem.Expr.Name _ _) _ _ _ _); refine G.gg_name (by tm_at "g_pv") ?_)
  | ((with_reducible show G.GG _ (PySem.Expr.Tuple _ _ _) _ _ _ _); refine G.gg_tup (by tm_at "g_mem") ?_)
  | ((with_reducible show G.GG _ (PySem.Expr.Subscript _ _ _) _ _ _ _); refine G.gg_sub ?_))
local macro_rules | `(tactic| tm_at "f_st") => `(tactic| first
  | refine G.gst_30 (by tm_at "g_mem") (by tm_at "g_swap") ?_
  | refine G.gst_31 (by tm_at "g_mem") (by tm_at "g_swap") ?_
  | refine G.gst_32 (by tm_at "g_mem") (by tm_at "g_swap") ?_)
local macro_rules | `(tactic| tm_at "f_i") => `(tactic| first
  | ((with_reducible show ∃ _, _ = _ ∧ _); with_reducible refine ⟨_, rfl, ?_⟩)
  | ((with_reducible show ∃ _ _, _ = _ ∧ _ ∈ _ ∧ _); refine ⟨_, _, rfl, (by tm_at "g_mem"), ?_⟩)
  | ((with_reducible show ∃ _ _, _ ∈ _ ∧ _ < _ ∧ _); refine ⟨_, _, (by tm_at "g_mem"), (by exact G.sz_lt (by simp only [List.length_append, List.length_cons, List.length_nil, List.length_map]; omega)), (by tm_at "g_swap"), ?_⟩)
  | ((with_reducible show ∃ _ _, _ = _ ∧ _); with_reducible refine ⟨_, _, rfl, ?_⟩)
  | ((with_reducible show ∃ _ _ _, _ = _ ∧ _); with_reducible refine ⟨_, _, _, rfl, ?_⟩))
local macro_rules | `(tactic| tm_at "f_a") => `(tactic| first
  | ((with_reducible show G.GA _ (PySem.Expr.Starred _ _ :: _) _ _ _); refine G.ga_star ?_)
  | refine G.ga_cons ?_)
local macro_rules | `(tactic| tm_at "f_k") => `(tactic| first
  | ((with_reducible show G.GK _ (_ :: _) _ _ _); refine G.gk_cons ?_)
  | ((with_reducible show G.GK _ [] _ _ _); refine G.gk_nil ?_)
  | ((with_reducible show G.GGs _ (_ :: _) _ _ _ _); refine G.ggs_cons ?_))
local macro_rules | `(tactic| tm_at "f1") => `(tactic| first
  | ((with_reducible apply G.isE); tm_at "f_e")
  | ((with_reducible apply G.isS); tm_at "f_s")
  | ((with_reducible apply G.isAt); refine G.gat_fldA (by tm_at "g_mem") (by assumption) (by assumption) (by exact rfl) ?_)
  | ((with_reducible apply G.isIx); first | refine G.gi_lst (by tm_at "g_mem") (by exact rfl) ?_ | refine G.gi_tup (by tm_at "g_mem") (by exact rfl) ?_)
  | ((with_reducible apply G.isT); tm_at "f_t")
  | ((with_reducible apply G.isC); tm_at "f_c")
  | ((with_reducible apply G.isG); tm_at "f_g")
  | ((with_reducible apply G.isA); tm_at "f_a")
  | ((with_reducible apply G.isSt); tm_at "f_st")
  | tm_at "f_i"
  | tm_at "f_k")
local macro_rules | `(tactic| tm_at "gx1") => `(tactic| first
  | refine G.St.to ?_
  | ((with_reducible show _ ∧ _); refine ⟨(by tm_at "g_size"), fun p => ?_⟩)
  | refine G.StB.to (by assumption) ⟨rfl, rfl⟩ ?_
  | tm_at "f1")
local macro_rules | `(tactic| tm_at "g1") => `(tactic| first
  | refine G.St.to ?_
  | with_reducible apply G.gs_if
  | ((with_reducible show _ ∧ _); refine ⟨(by tm_at "g_size"), fun p => ?_⟩)
  | refine G.StB.to (by assumption) ⟨rfl, rfl⟩ ?_
  | tm_at "f1")
local macro_rules | `(tactic| tm_at "g") => `(tactic| repeat (tm_at "g1"; try dsimp only [G.bodyD]))
local macro_rules | `(tactic| tm_at "gx") => `(tactic| repeat (tm_at "gx1"; try dsimp only [G.bodyD]))
local macro_rules | `(tactic| tm_at "g_rot") => `(tactic| first | with_reducible apply G.Sub.refl | (with_reducible apply G.rotStep; tm_at "g_rot") | (with_reducible apply G.rotApp; tm_at "g_rot"))
/-- what a draw is shown of; then intro d n m d0 d1 a0 a1 a2 -/
local macro_rules | `(tactic| tm_at "g_dr") => `(tactic| refine ⟨_, _, _, _, _, _, _, rfl, by tm_at "g_rot", by assumption, by omega, by omega, by omega, by omega, by omega, ?_⟩)
local macro_rules | `(tactic| tm_at "g_draw") => `(tactic| (refine G.ge_call (El := G.NoX) (by assumption) (by assumption) G.passA ?_; tm_at "g"; tm_at "g_dr"))
/-- what a pick is shown of; then intro k x n m hx a0 a1 a2 -/
local macro_rules | `(tactic| tm_at "g_pk") => `(tactic| refine ⟨_, _, _, _, _, _, _, _, rfl, by tm_at "g_rot", by tm_at "g_mem", by assumption, by first | exact Nat.le_of_ble_eq_true rfl | (simp only [List.length_append, List.length_cons, List.length_nil, List.length_map]; omega), by first | exact Nat.le_of_ble_eq_true rfl | (simp only [List.length_append, List.length_cons, List.length_nil, List.length_map]; omega), by omega, by omega, by omega, ?_⟩)
namespace T
open PySem PySem.Spec PyProof.Rows L2 G
def top (i : Nat) : Stmt := PySem.Challenge.pw_wheelreach_k81_whole_shelves_led_back_an.main.body.getD i (.Pass ⟨0, 0, 0, 0⟩)
abbrev s_BadNumber_init : Stmt := clsAt (top 3) 0
abbrev N_BadNumber_init : List Str := ["self", "value", "__class__"]
theorem sc_BadNumber_init : NdefX.NScope N_BadNumber_init ["self", "value"] ["__class__"] (defScope s_BadNumber_init) := NdefX.nscope_by (by decide +kernel)
abbrev s_BadWheel_init : Stmt := clsAt (top 4) 0
abbrev N_BadWheel_init : List Str := ["self", "part", "__class__"]
theorem sc_BadWheel_init : NdefX.NScope N_BadWheel_init ["self", "part"] ["__class__"] (defScope s_BadWheel_init) := NdefX.nscope_by (by decide +kernel)
abbrev s_BadValue_init : Stmt := clsAt (top 5) 0
abbrev N_BadValue_init : List Str := ["self", "value", "__class__"]
theorem sc_BadValue_init : NdefX.NScope N_BadValue_init ["self", "value"] ["__class__"] (defScope s_BadValue_init) := NdefX.nscope_by (by decide +kernel)
abbrev s_BadShelf_init : Stmt := clsAt (top 6) 0
abbrev N_BadShelf_init : List Str := ["self", "part", "__class__"]
theorem sc_BadShelf_init : NdefX.NScope N_BadShelf_init ["self", "part"] ["__class__"] (defScope s_BadShelf_init) := NdefX.nscope_by (by decide +kernel)
abbrev s_BadDeed_init : Stmt := clsAt (top 7) 0
abbrev N_BadDeed_init : List Str := ["self", "at", "__class__"]
theorem sc_BadDeed_init : NdefX.NScope N_BadDeed_init ["self", "at"] ["__class__"] (defScope s_BadDeed_init) := NdefX.nscope_by (by decide +kernel)
abbrev s_BadText_init : Stmt := clsAt (top 8) 0
abbrev N_BadText_init : List Str := ["self", "line", "word", "__class__"]
theorem sc_BadText_init : NdefX.NScope N_BadText_init ["self", "line", "word"] ["__class__"] (defScope s_BadText_init) := NdefX.nscope_by (by decide +kernel)
abbrev s_NoName_init : Stmt := clsAt (top 9) 0
abbrev N_NoName_init : List Str := ["self", "name", "__class__"]
theorem sc_NoName_init : NdefX.NScope N_NoName_init ["self", "name"] ["__class__"] (defScope s_NoName_init) := NdefX.nscope_by (by decide +kernel)
abbrev s_TooMany_init : Stmt := clsAt (top 11) 0
abbrev N_TooMany_init : List Str := ["self", "what", "most", "__class__"]
theorem sc_TooMany_init : NdefX.NScope N_TooMany_init ["self", "what", "most"] ["__class__"] (defScope s_TooMany_init) := NdefX.nscope_by (by decide +kernel)
abbrev s_Wheel_init : Stmt := clsAt (top 29) 1
abbrev N_Wheel_init : List Str := ["self", "period", "back", "ahead"]
theorem sc_Wheel_init : FnScope N_Wheel_init ["self", "period", "back", "ahead"] (defScope s_Wheel_init) := ⟨rfl, rfl, rfl, by decide +kernel, rfl, by decide +kernel, by decide +kernel⟩
instance : G.NdI N_Wheel_init := ⟨sc_Wheel_init.nd⟩
instance : G.OkL (defScope s_Wheel_init) ["self", "period", "back", "ahead"] := ⟨by decide +kernel⟩
abbrev s_Wheel_trusted : Stmt := clsAt (top 29) 3
abbrev N_Wheel_trusted : List Str := ["self"]
theorem sc_Wheel_trusted : FnScope N_Wheel_trusted ["self"] (defScope s_Wheel_trusted) := ⟨rfl, rfl, rfl, by decide +kernel, rfl, by decide +kernel, by decide +kernel⟩
instance : G.NdI N_Wheel_trusted := ⟨sc_Wheel_trusted.nd⟩
instance : G.OkL (defScope s_Wheel_trusted) ["self"] := ⟨by decide +kernel⟩
abbrev s_Wheel_eq : Stmt := clsAt (top 29) 15
abbrev N_Wheel_eq : List Str := ["self", "other"]
theorem sc_Wheel_eq : FnScope N_Wheel_eq ["self", "other"] (defScope s_Wheel_eq) := ⟨rfl, rfl, rfl, by decide +kernel, rfl, by decide +kernel, by decide +kernel⟩
instance : G.NdI N_Wheel_eq := ⟨sc_Wheel_eq.nd⟩
instance : G.OkL (defScope s_Wheel_eq) ["self", "other"] := ⟨by decide +kernel⟩
abbrev s_Wheel_str : Stmt := clsAt (top 29) 16
abbrev N_Wheel_str : List Str := ["self"]
theorem sc_Wheel_str : FnScope N_Wheel_str ["self"] (defScope s_Wheel_str) := ⟨rfl, rfl, rfl, by decide +kernel, rfl, by decide +kernel, by decide +kernel⟩
instance : G.NdI N_Wheel_str := ⟨sc_Wheel_str.nd⟩
instance : G.OkL (defScope s_Wheel_str) ["self"] := ⟨by decide +kernel⟩
abbrev s_Exact_init : Stmt := clsAt (top 30) 0
abbrev N_Exact_init : List Str := ["self", "period", "__class__"]
theorem sc_Exact_init : NdefX.NScope N_Exact_init ["self", "period"] ["__class__"] (defScope s_Exact_init) := NdefX.nscope_by (by decide +kernel)
abbrev s_Grid_init : Stmt := clsAt (top 31) 1
abbrev N_Grid_init : List Str := ["self", "period", "__class__"]
theorem sc_Grid_init : NdefX.NScope N_Grid_init ["self", "period"] ["__class__"] (defScope s_Grid_init) := NdefX.nscope_by (by decide +kernel)
abbrev s_Shelf_init : Stmt := clsAt (top 38) 0
abbrev N_Shelf_init : List Str := ["self"]
theorem sc_Shelf_init : FnScope N_Shelf_init ["self"] (defScope s_Shelf_init) := ⟨rfl, rfl, rfl, by decide +kernel, rfl, by decide +kernel, by decide +kernel⟩
instance : G.NdI N_Shelf_init := ⟨sc_Shelf_init.nd⟩
instance : G.OkL (defScope s_Shelf_init) ["self"] := ⟨by decide +kernel⟩
abbrev s_Shelf_settle : Stmt := clsAt (top 38) 1
abbrev N_Shelf_settle : List Str := ["self", "rows"]
theorem sc_Shelf_settle : FnScope N_Shelf_settle ["self", "rows"] (defScope s_Shelf_settle) := ⟨rfl, rfl, rfl, by decide +kernel, rfl, by decide +kernel, by decide +kernel⟩
instance : G.NdI N_Shelf_settle := ⟨sc_Shelf_settle.nd⟩
instance : G.OkL (defScope s_Shelf_settle) ["self", "rows"] := ⟨by decide +kernel⟩
abbrev s_Shelf_go : Stmt := clsAt (top 38) 2
abbrev N_Shelf_go : List Str := ["self", "rows"]
theorem sc_Shelf_go : FnScope N_Shelf_go ["self", "rows"] (defScope s_Shelf_go) := ⟨rfl, rfl, rfl, by decide +kernel, rfl, by decide +kernel, by decide +kernel⟩
instance : G.NdI N_Shelf_go := ⟨sc_Shelf_go.nd⟩
instance : G.OkL (defScope s_Shelf_go) ["self", "rows"] := ⟨by decide +kernel⟩
abbrev s_Shelf_need_name : Stmt := clsAt (top 38) 3
abbrev N_Shelf_need_name : List Str := ["self", "value"]
theorem sc_Shelf_need_name : FnScope N_Shelf_need_name ["self", "value"] (defScope s_Shelf_need_name) := ⟨rfl, rfl, rfl, by decide +kernel, rfl, by decide +kernel, by decide +kernel⟩
instance : G.NdI N_Shelf_need_name := ⟨sc_Shelf_need_name.nd⟩
instance : G.OkL (defScope s_Shelf_need_name) ["self", "value"] := ⟨by decide +kernel⟩
abbrev s_Shelf_can_undo : Stmt := clsAt (top 38) 5
abbrev N_Shelf_can_undo : List Str := ["self"]
theorem sc_Shelf_can_undo : FnScope N_Shelf_can_undo ["self"] (defScope s_Shelf_can_undo) := ⟨rfl, rfl, rfl, by decide +kernel, rfl, by decide +kernel, by decide +kernel⟩
instance : G.NdI N_Shelf_can_undo := ⟨sc_Shelf_can_undo.nd⟩
instance : G.OkL (defScope s_Shelf_can_undo) ["self"] := ⟨by decide +kernel⟩
abbrev s_Shelf_can_redo : Stmt := clsAt (top 38) 6
abbrev N_Shelf_can_redo : List Str := ["self"]
theorem sc_Shelf_can_redo : FnScope N_Shelf_can_redo ["self"] (defScope s_Shelf_can_redo) := ⟨rfl, rfl, rfl, by decide +kernel, rfl, by decide +kernel, by decide +kernel⟩
instance : G.NdI N_Shelf_can_redo := ⟨sc_Shelf_can_redo.nd⟩
instance : G.OkL (defScope s_Shelf_can_redo) ["self"] := ⟨by decide +kernel⟩
abbrev s_Shelf_drop : Stmt := clsAt (top 38) 7
abbrev N_Shelf_drop : List Str := ["self", "name", "key", "row"]
theorem sc_Shelf_drop : FnScope N_Shelf_drop ["self", "name"] (defScope s_Shelf_drop) := ⟨rfl, rfl, rfl, by decide +kernel, rfl, by decide +kernel, by decide +kernel⟩
instance : G.NdI N_Shelf_drop := ⟨sc_Shelf_drop.nd⟩
instance : G.OkL (defScope s_Shelf_drop) ["self", "name"] := ⟨by decide +kernel⟩
abbrev s_Shelf_stock : Stmt := clsAt (top 38) 8
abbrev N_Shelf_stock : List Str := ["self", "rows", "state", "at", "row", "why"]
theorem sc_Shelf_stock : FnScope N_Shelf_stock ["self", "rows"] (defScope s_Shelf_stock) := ⟨rfl, rfl, rfl, by decide +kernel, rfl, by decide +kernel, by decide +kernel⟩
instance : G.NdI N_Shelf_stock := ⟨sc_Shelf_stock.nd⟩
instance : G.OkL (defScope s_Shelf_stock) ["self", "rows", "state", "at", "row", "why"] := ⟨by decide +kernel⟩
abbrev s_Shelf_undo : Stmt := clsAt (top 38) 9
abbrev N_Shelf_undo : List Str := ["self", "rows"]
theorem sc_Shelf_undo : FnScope N_Shelf_undo ["self"] (defScope s_Shelf_undo) := ⟨rfl, rfl, rfl, by decide +kernel, rfl, by decide +kernel, by decide +kernel⟩
instance : G.NdI N_Shelf_undo := ⟨sc_Shelf_undo.nd⟩
instance : G.OkL (defScope s_Shelf_undo) ["self", "rows"] := ⟨by decide +kernel⟩
abbrev s_Shelf_redo : Stmt := clsAt (top 38) 10
abbrev N_Shelf_redo : List Str := ["self", "rows"]
theorem sc_Shelf_redo : FnScope N_Shelf_redo ["self"] (defScope s_Shelf_redo) := ⟨rfl, rfl, rfl, by decide +kernel, rfl, by decide +kernel, by decide +kernel⟩
instance : G.NdI N_Shelf_redo := ⟨sc_Shelf_redo.nd⟩
instance : G.OkL (defScope s_Shelf_redo) ["self", "rows"] := ⟨by decide +kernel⟩
abbrev s_Shelf_twin : Stmt := clsAt (top 38) 13
abbrev N_Shelf_twin : List Str := ["self", "found"]
theorem sc_Shelf_twin : FnScope N_Shelf_twin ["self"] (defScope s_Shelf_twin) := ⟨rfl, rfl, rfl, by decide +kernel, rfl, by decide +kernel, by decide +kernel⟩
instance : G.NdI N_Shelf_twin := ⟨sc_Shelf_twin.nd⟩
instance : G.OkL (defScope s_Shelf_twin) ["self", "found"] := ⟨by decide +kernel⟩
abbrev s_Shelf_len : Stmt := clsAt (top 38) 14
abbrev N_Shelf_len : List Str := ["self"]
theorem sc_Shelf_len : FnScope N_Shelf_len ["self"] (defScope s_Shelf_len) := ⟨rfl, rfl, rfl, by decide +kernel, rfl, by decide +kernel, by decide +kernel⟩
instance : G.NdI N_Shelf_len := ⟨sc_Shelf_len.nd⟩
instance : G.OkL (defScope s_Shelf_len) ["self"] := ⟨by decide +kernel⟩
abbrev s_Shelf_iter : Stmt := clsAt (top 38) 15
abbrev N_Shelf_iter : List Str := ["self"]
theorem sc_Shelf_iter : FnScope N_Shelf_iter ["self"] (defScope s_Shelf_iter) := ⟨rfl, rfl, rfl, by decide +kernel, rfl, by decide +kernel, by decide +kernel⟩
instance : G.NdI N_Shelf_iter := ⟨sc_Shelf_iter.nd⟩
instance : G.OkL (defScope s_Shelf_iter) ["self"] := ⟨by decide +kernel⟩
abbrev s_Shelf_getitem : Stmt := clsAt (top 38) 17
abbrev N_Shelf_getitem : List Str := ["self", "name"]
theorem sc_Shelf_getitem : FnScope N_Shelf_getitem ["self", "name"] (defScope s_Shelf_getitem) := ⟨rfl, rfl, rfl, by decide +kernel, rfl, by decide +kernel, by decide +kernel⟩
instance : G.NdI N_Shelf_getitem := ⟨sc_Shelf_getitem.nd⟩
instance : G.OkL (defScope s_Shelf_getitem) ["self", "name"] := ⟨by decide +kernel⟩
abbrev s_Shelf_setitem : Stmt := clsAt (top 38) 18
abbrev N_Shelf_setitem : List Str := ["self", "name", "item"]
theorem sc_Shelf_setitem : FnScope N_Shelf_setitem ["self", "name", "item"] (defScope s_Shelf_setitem) := ⟨rfl, rfl, rfl, by decide +kernel, rfl, by decide +kernel, by decide +kernel⟩
instance : G.NdI N_Shelf_setitem := ⟨sc_Shelf_setitem.nd⟩
instance : G.OkL (defScope s_Shelf_setitem) ["self", "name", "item"] := ⟨by decide +kernel⟩
abbrev s_is_whole : Stmt := top 13
abbrev N_is_whole : List Str := ["value"]
theorem sc_is_whole : FnScope N_is_whole ["value"] (defScope s_is_whole) := ⟨rfl, rfl, rfl, by decide +kernel, rfl, by decide +kernel, by decide +kernel⟩
instance : G.NdI N_is_whole := ⟨sc_is_whole.nd⟩
instance : G.OkL (defScope s_is_whole) ["value"] := ⟨by decide +kernel⟩
abbrev s_is_name : Stmt := top 20
abbrev N_is_name : List Str := ["value", "letter"]
theorem sc_is_name : FnScope N_is_name ["value"] (defScope s_is_name) := ⟨rfl, rfl, rfl, by decide +kernel, rfl, by decide +kernel, by decide +kernel⟩
instance : G.NdI N_is_name := ⟨sc_is_name.nd⟩
instance : G.OkL (defScope s_is_name) ["value"] := ⟨by decide +kernel⟩
abbrev s_need_part : Stmt := top 26
abbrev N_need_part : List Str := ["value", "least", "part"]
theorem sc_need_part : FnScope N_need_part ["value", "least", "part"] (defScope s_need_part) := ⟨rfl, rfl, rfl, by decide +kernel, rfl, by decide +kernel, by decide +kernel⟩
instance : G.NdI N_need_part := ⟨sc_need_part.nd⟩
instance : G.OkL (defScope s_need_part) ["value", "least", "part"] := ⟨by decide +kernel⟩
abbrev s_with_item : Stmt := top 36
abbrev N_with_item : List Str := ["rows", "name", "item", "wheel", "price"]
theorem sc_with_item : FnScope N_with_item ["rows", "name", "item"] (defScope s_with_item) := ⟨rfl, rfl, rfl, by decide +kernel, rfl, by decide +kernel, by decide +kernel⟩
instance : G.NdI N_with_item := ⟨sc_with_item.nd⟩
instance : G.OkL (defScope s_with_item) ["rows", "name", "item", "wheel", "price"] := ⟨by decide +kernel⟩
abbrev s_with_row : Stmt := top 37
abbrev N_with_row : List Str := ["rows", "row"]
theorem sc_with_row : FnScope N_with_row ["rows", "row"] (defScope s_with_row) := ⟨rfl, rfl, rfl, by decide +kernel, rfl, by decide +kernel, by decide +kernel⟩
instance : G.NdI N_with_row := ⟨sc_with_row.nd⟩
instance : G.OkL (defScope s_with_row) ["rows", "row"] := ⟨by decide +kernel⟩
abbrev s_law_pen : Stmt := top 40
abbrev N_law_pen : List Str := ["_law_script"]
theorem sc_law_pen : FnScope N_law_pen ["_law_script"] (defScope s_law_pen) := ⟨rfl, rfl, rfl, by decide +kernel, rfl, by decide +kernel, by decide +kernel⟩
instance : G.NdI N_law_pen := ⟨sc_law_pen.nd⟩
instance : G.OkL (defScope s_law_pen) ["_law_script"] := ⟨by decide +kernel⟩
abbrev s_law_draw : Stmt := top 41
abbrev N_law_draw : List Str := ["_law_pen_here", "_law_many", "_law_digit", "_law_begun", "_law_lone", "_law_great", "_law_mixed"]
theorem sc_law_draw : FnScope N_law_draw ["_law_pen_here", "_law_many"] (defScope s_law_draw) := ⟨rfl, rfl, rfl, by decide +kernel, rfl, by decide +kernel, by decide +kernel⟩
instance : G.NdI N_law_draw := ⟨sc_law_draw.nd⟩
instance : G.OkL (defScope s_law_draw) ["_law_pen_here", "_law_many", "_law_digit", "_law_begun", "_law_lone", "_law_great", "_law_mixed"] := ⟨by decide +kernel⟩
abbrev s_law_pick : Stmt := top 42
abbrev N_law_pick : List Str := ["_law_pen_here", "_law_some"]
theorem sc_law_pick : FnScope N_law_pick ["_law_pen_here", "_law_some"] (defScope s_law_pick) := ⟨rfl, rfl, rfl, by decide +kernel, rfl, by decide +kernel, by decide +kernel⟩
instance : G.NdI N_law_pick := ⟨sc_law_pick.nd⟩
instance : G.OkL (defScope s_law_pick) ["_law_pen_here", "_law_some"] := ⟨by decide +kernel⟩
abbrev s_law_name : Stmt := top 43
abbrev N_law_name : List Str := ["_law_pen_here", "_law_word", "_law_lap"]
theorem sc_law_name : FnScope N_law_name ["_law_pen_here"] (defScope s_law_name) := ⟨rfl, rfl, rfl, by decide +kernel, rfl, by decide +kernel, by decide +kernel⟩
instance : G.NdI N_law_name := ⟨sc_law_name.nd⟩
instance : G.OkL (defScope s_law_name) ["_law_pen_here", "_law_word"] := ⟨by decide +kernel⟩
abbrev s_law_state : Stmt := top 44
abbrev N_law_state : List Str := ["_law_shelf", "_law_name_here"]
theorem sc_law_state : FnScope N_law_state ["_law_shelf"] (defScope s_law_state) := ⟨rfl, rfl, rfl, by decide +kernel, rfl, by decide +kernel, by decide +kernel⟩
instance : G.NdI N_law_state := ⟨sc_law_state.nd⟩
instance : G.OkL (defScope s_law_state) ["_law_shelf"] := ⟨by decide +kernel⟩
abbrev s_law_with : Stmt := top 45
abbrev N_law_with : List Str := ["_law_state_here", "_law_row_here", "_law_old"]
theorem sc_law_with : FnScope N_law_with ["_law_state_here", "_law_row_here"] (defScope s_law_with) := ⟨rfl, rfl, rfl, by decide +kernel, rfl, by decide +kernel, by decide +kernel⟩
instance : G.NdI N_law_with := ⟨sc_law_with.nd⟩
instance : G.OkL (defScope s_law_with) ["_law_state_here", "_law_row_here"] := ⟨by decide +kernel⟩
abbrev s_law_row : Stmt := top 46
abbrev N_law_row : List Str := ["_law_pen_here", "_law_names", "_law_wheel"]
theorem sc_law_row : FnScope N_law_row ["_law_pen_here", "_law_names"] (defScope s_law_row) := ⟨rfl, rfl, rfl, by decide +kernel, rfl, by decide +kernel, by decide +kernel⟩
instance : G.NdI N_law_row := ⟨sc_law_row.nd⟩
instance : G.OkL (defScope s_law_row) ["_law_pen_here", "_law_names", "_law_wheel"] := ⟨by decide +kernel⟩
abbrev s_law_deed : Stmt := top 47
abbrev N_law_deed : List Str := ["_law_pen_here", "_law_shelf", "_law_names", "_law_state_here", "_law_way", "_law_first", "_law_last", "e", "_law_row_here"]
theorem sc_law_deed : FnScope N_law_deed ["_law_pen_here", "_law_shelf", "_law_names"] (defScope s_law_deed) := ⟨rfl, rfl, rfl, by decide +kernel, rfl, by decide +kernel, by decide +kernel⟩
instance : G.NdI N_law_deed := ⟨sc_law_deed.nd⟩
instance : G.OkL (defScope s_law_deed) ["_law_pen_here", "_law_shelf", "_law_names", "_law_state_here", "_law_way", "_law_first", "_law_last", "e"] := ⟨by decide +kernel⟩
abbrev s_law_step : Stmt := top 48
abbrev N_law_step : List Str := ["_law_shelf", "_law_way", "_law_told", "e"]
theorem sc_law_step : FnScope N_law_step ["_law_shelf", "_law_way"] (defScope s_law_step) := ⟨rfl, rfl, rfl, by decide +kernel, rfl, by decide +kernel, by decide +kernel⟩
instance : G.NdI N_law_step := ⟨sc_law_step.nd⟩
instance : G.OkL (defScope s_law_step) ["_law_shelf", "_law_way", "_law_told", "e"] := ⟨by decide +kernel⟩
abbrev s_law_stands : Stmt := top 49
abbrev N_law_stands : List Str := ["_law_shelf", "_law_states", "_law_at", "_law_counts"]
theorem sc_law_stands : FnScope N_law_stands ["_law_shelf", "_law_states", "_law_at"] (defScope s_law_stands) := ⟨rfl, rfl, rfl, by decide +kernel, rfl, by decide +kernel, by decide +kernel⟩
instance : G.NdI N_law_stands := ⟨sc_law_stands.nd⟩
instance : G.OkL (defScope s_law_stands) ["_law_shelf", "_law_states", "_law_at", "_law_counts"] := ⟨by decide +kernel⟩
abbrev s_law_led : Stmt := top 50
abbrev N_law_led : List Str := ["_law_pen_here", "_law_shelf", "_law_names", "_law_states", "_law_at", "_law_lap", "_law_way", "_law_step_here", "_law_end", "_law_state_here"]
theorem sc_law_led : FnScope N_law_led ["_law_pen_here", "_law_shelf", "_law_names", "_law_states", "_law_at"] (defScope s_law_led) := ⟨rfl, rfl, rfl, by decide +kernel, rfl, by decide +kernel, by decide +kernel⟩
instance : G.NdI N_law_led := ⟨sc_law_led.nd⟩
instance : G.OkL (defScope s_law_led) ["_law_pen_here", "_law_shelf", "_law_names", "_law_states", "_law_at", "_law_lap", "_law_way", "_law_step_here", "_law_end", "_law_state_here"] := ⟨by decide +kernel⟩
abbrev s_law_walked : Stmt := top 51
abbrev N_law_walked : List Str := ["_law_shelf", "_law_states", "_law_at", "_law_end", "_law_ways", "_law_way", "_law_place", "_law_k"]
theorem sc_law_walked : FnScope N_law_walked ["_law_shelf", "_law_states", "_law_at"] (defScope s_law_walked) := ⟨rfl, rfl, rfl, by decide +kernel, rfl, by decide +kernel, by decide +kernel⟩
instance : G.NdI N_law_walked := ⟨sc_law_walked.nd⟩
instance : G.OkL (defScope s_law_walked) ["_law_shelf", "_law_states", "_law_at", "_law_end", "_law_ways", "_law_way", "_law_place"] := ⟨by decide +kernel⟩
abbrev s_law_same_right : Stmt := top 52
abbrev N_law_same_right : List Str := ["_law_shelf", "_law_state_here", "_law_many"]
theorem sc_law_same_right : FnScope N_law_same_right ["_law_shelf"] (defScope s_law_same_right) := ⟨rfl, rfl, rfl, by decide +kernel, rfl, by decide +kernel, by decide +kernel⟩
instance : G.NdI N_law_same_right := ⟨sc_law_same_right.nd⟩
instance : G.OkL (defScope s_law_same_right) ["_law_shelf", "_law_state_here", "_law_many"] := ⟨by decide +kernel⟩
abbrev s_law : Stmt := top 53
abbrev N_law : List Str := ["_law_script", "_law_pen_here", "_law_lap", "_law_shelf", "_law_names", "_law_states", "_law_at", "_law_twin", "_law_own", "_law_state_here", "_law_place", "_law_turn"]
theorem sc_law : FnScope N_law ["_law_script"] (defScope s_law) := ⟨rfl, rfl, rfl, by decide +kernel, rfl, by decide +kernel, by decide +kernel⟩
instance : G.NdI N_law := ⟨sc_law.nd⟩
instance : G.OkL (defScope s_law) ["_law_script", "_law_pen_here", "_law_lap", "_law_shelf", "_law_names", "_law_states", "_law_at", "_law_twin", "_law_own", "_law_state_here", "_law_place"] := ⟨by decide +kernel⟩
section
variable {P : Program} {w : World} {K : PySem.W.Frag} {mg : Str → Option Value} {base : Heap}
theorem fn_law_pen (B : Bi mg) (F : Df K mg "_law_pen" s_law_pen) : Fn P w K mg base CX0 "_law_pen" 1 (fun vs L Q _ => ∃ (a : Addr) (ns : List Int), vs = [.ref a] ∧ InL K L a (ns.map V.int) ∧ ∀ p c ms, ms.length ≤ 63 → Q (.ref p) ((p, penO c 0 0) :: (c, celO ms) :: L)) := by
  refine fn_plain F sc_law_pen (fun _ _ _ _ _ _ us hl => match us, hl with | [_], _ => rfl) (by decide) (by tm_at "g_len") ?_
  intro X f cdv A outer s H E0 L vs Q E hX nd hr h
  subst hX
  obtain ⟨a, ns, rfl, hi, q⟩ := h
  show GSs _ (defBody s_law_pen) (bodyD Q) [("_law_script", some (.ref a))] L
  refine gss_cons ?_
  tm_at "g"
  refine ⟨a, ns.map V.int, rfl, ?_⟩
  show GE _ _ _ _ _
  tm_at "g"
  refine ⟨hi, fun q1 => ?_⟩
  obtain ⟨ms, hm, em⟩ := cut63 (ns := ns)
  rw [em]
  tm_at "g"
  refine gc_list mem0 fun c => ?_
  tm_at "g"

  exact ⟨_, Sub.sublist (((List.sublist_cons_self _ _).cons_cons _).cons_cons _), q _ c ms hm⟩
theorem fn_law_draw (B : Bi mg) (F : Df K mg "_law_draw" s_law_draw) : Fn P w K mg base CX0 "_law_draw" 1 spDraw := by
  refine fn_plain F sc_law_draw (fun _ _ _ _ _ _ us hl => match us, hl with | [_, _], _ => rfl) (by decide) (by tm_at "g_len") ?_
  intro X f cdv A outer s H E0 L vs Q E hX nd hr h
  subst hX
  obtain ⟨p, c, ns, n, m, many, R, rfl, sb, h63, k1, k2, n0, n1, m0, q⟩ := h
  refine GSs.sub sb ?_
  show GSs _ (defBody s_law_draw) (bodyD Q) [("_law_pen_here", some (.ref p)), ("_law_many", some (.int many)), ("_law_digit", none), ("_law_begun", none), ("_law_lone", none), ("_law_great", none), ("_law_mixed", none)] _
  refine gss_cons ?_
  tm_at "g"
  refine ite_d (fun hm => ?_) (fun hm => ?_)
  · tm_at "g"
    refine go_modR k1 fun d d0 d1 => ?_
    tm_at "g"
    refine go_divS k1 k2 ?_
    tm_at "g"
    exact ⟨_, Sub.refl, q d n (m / many) d0 d1 n0 (by omega) (Int.ediv_nonneg m0 (by omega))⟩
  tm_at "g"
  refine go_mulS (.inl (by decide)) ?_
  tm_at "gx"
  refine GS.cut (fun θ M => ∃ r : Int, θ = ([("_law_pen_here", some (.ref p)), ("_law_many", some (.int many)), ("_law_digit", none), ("_law_begun", some (.int n)), ("_law_lone", some (.int r)), ("_law_great", none), ("_law_mixed", none)] : En) ∧ Sub ((p, penO c (n + 1) m) :: (c, celO ns) :: R) M) ?_ ?_
  · tm_at "g"
    refine go_neD (d := .list (ns.map PyData.int)) (e := .list ([].map PyData.int)) hr.toRoom (dl_lst (by tm_at "g_mem") dls_ints) (dl_lst (by tm_at "g_mem") dls_nil) (shapedL _) (shapedL _) ?_
    rw [eqvL]
    tm_at "g"
    refine ite_n (fun hz => ?_) (fun hz => ?_)
    · tm_at "g"
      have hp : 0 < (ns.length : Int) := by
        cases ns with
        | nil => exact absurd rfl hz
        | cons a r => rw [List.length_cons]; omega
      rw [List.length_map]
      refine go_modR hp fun d d0 d1 => ?_
      obtain ⟨k, rfl⟩ : ∃ k : Nat, d = (k : Int) := ⟨d.toNat, by omega⟩
      have hk : k < ns.length := by omega
      refine gi_lst (by tm_at "g_mem") (atI_nat (v := .int ns[k]) (by rw [List.getElem?_map, List.getElem?_eq_getElem hk] <;> rfl)) ?_
      tm_at "g"
      tm_at "g_sub"
    · tm_at "g"
      tm_at "g_sub"
  rintro θ M ⟨raw, rfl, hs⟩
  refine GSs.sub hs ?_
  tm_at "gx"
  refine gs_if (GT.imp (Q := fun k M => M = (p, penO c (n + 1) m) :: (c, celO ns) :: R ∧ (k = true → 1000000000000000000 ≤ (raw.natAbs : Int))) ?_ ?_)
  · tm_at "g"
    refine ite_d (fun _ => ?_) (fun _ => ⟨rfl, fun z => nomatch z⟩)
    tm_at "g"
    refine go_powL (r := 1000000000000000000) ⟨by decide, by decide, by decide⟩ (by decide) ?_
    tm_at "g"
    exact ⟨rfl, fun z => of_decide_eq_true z⟩
  rintro k M ⟨rfl, hk⟩
  refine ite_b (fun e => ?_) (fun e => ?_)
  · have hr1 := hk e
    tm_at "g"
    refine go_powL (r := 1000000000000000000) ⟨by decide, by decide, by decide⟩ (by decide) ?_
    tm_at "g"
    refine go_mulS (.inl (by decide)) ?_
    tm_at "g"
    have g0 : 0 ≤ 2 * ((raw.natAbs : Int) - 1000000000000000000) + (if (decide (raw < 0)) = true then 1 else 0) := by split <;> omega
    refine go_divS k1 k2 ?_
    tm_at "g"
    refine go_modR k1 fun d d0 d1 => ?_
    tm_at "g"
    exact ⟨_, Sub.refl, q d (n + 1) _ d0 d1 (by omega) (by omega) (Int.ediv_nonneg g0 (by omega))⟩
  tm_at "g"
  refine go_modR (by decide) fun a a0 a1 => ?_
  tm_at "g"
  refine go_mulS (.inl (by decide)) ?_
  tm_at "g"
  refine go_powR ⟨by decide, by decide, by omega⟩ fun b => ?_
  tm_at "g"
  refine go_modR (by decide) fun s s0 s1 => ?_
  tm_at "g"
  refine go_mulS (.inl (by decide)) ?_
  tm_at "g"
  have b1 := bnd (t := 2 * n + 725) (B := 200000 + 725) s0 (Int.le_of_lt s1) (by omega) (by omega)
  refine go_mulS (.inl (by omega)) ?_
  tm_at "g"
  refine go_mulS (.inl (by decide)) ?_
  tm_at "g"
  have b2 := bnd (s := 61952 * n) (t := n) (A := 61952 * 100000) (B := 100000) (by omega) (by omega) n0 n1
  refine go_mulS (.inl (by omega)) ?_
  tm_at "g"
  refine go_powR ⟨by decide, by decide, by omega⟩ fun b => ?_
  tm_at "g"
  refine go_modR (by decide) fun s' s0' s1' => ?_
  tm_at "g"
  refine go_divS (by decide) (by decide) ?_
  tm_at "g"
  refine go_modR k1 fun d d0 d1 => ?_
  tm_at "g"
  exact ⟨_, Sub.refl, q d (n + 1) m d0 d1 (by omega) (by omega) m0⟩
end
section
variable {P : Program} {w : World} {K : PySem.W.Frag} {mg : Str → Option Value} {base : Heap} {C : Addr}
theorem fn_law_pick (B : Bi mg) (F : Df K mg "_law_pick" s_law_pick) (D1 : Fn P w K mg base CX0 "_law_draw" 1 spDraw) : Fn P w K mg base CX0 "_law_pick" 2 spPick := by
  refine fn_plain F sc_law_pick (fun _ _ _ _ _ _ us hl => match us, hl with | [_, _], _ => rfl) (by decide) (by tm_at "g_len") ?_
  intro X f cdv A outer s H E0 L vs Q E hX nd hr h
  subst hX
  obtain ⟨p, c, q, ns, xs, n, m, R, rfl, sb, mq, h63, l0, l1, n0, n1, m0, qq⟩ := h
  refine GSs.sub sb ?_
  show GSs _ (defBody s_law_pick) (bodyD Q) [("_law_pen_here", some (.ref p)), ("_law_some", some (.ref q))] _
  refine gss_cons ?_
  tm_at "g"
  refine ge_call (El := NoX) D1 hr passA ?_
  tm_at "g"
  refine ⟨p, c, ns, n, m, xs.length, R, rfl, Sub.refl, h63, by omega, by omega, n0, n1, m0, fun d n' m' d0 d1 a0 a1 a2 => ?_⟩
  obtain ⟨k, rfl⟩ : ∃ k : Nat, d = (k : Int) := ⟨d.toNat, by omega⟩
  have hk : k < xs.length := by omega
  refine gi_lst (memS (memS mq)) (atI_nat (v := xs[k]) (List.getElem?_eq_getElem hk)) ?_
  tm_at "g"
  exact ⟨_, Sub.refl, qq k _ n' m' (List.getElem?_eq_getElem hk) a0 a1 a2⟩
end
def whole : V → Bool
  | .int _ => true
  | _ => false
theorem kindWhole {L : Lg} {v : V} {T : String} (k : Knd L v T) : ∃ b1 b2, kitB T "int" = some b1 ∧ kitB T "bool" = some b2 ∧ (b1 && !b2) = whole v := by
  cases k with
  | non => exact ⟨false, false, kb_non_int, by decide +kernel, rfl⟩
  | bl => exact ⟨true, true, kb_bool_int, kb_bool_bool, rfl⟩
  | int => exact ⟨true, false, kb_int_int, kb_int_bool, rfl⟩
  | str => exact ⟨false, false, kb_str_int, by decide +kernel, rfl⟩
  | lst m => exact ⟨false, false, kb_list_int, by decide +kernel, rfl⟩
  | tup m => exact ⟨false, false, kb_tuple_int, by decide +kernel, rfl⟩
  | dct m => exact ⟨false, false, kb_dict_int, by decide +kernel, rfl⟩
theorem whole_int {v : V} (h : whole v = true) : ∃ i, v = .int i := by
  cases v with
  | int i => exact ⟨i, rfl⟩
  | _ => cases h
def spIsWhole : SpL := fun vs L Q _ => ∃ v T, vs = [v] ∧ Knd L v T ∧ Q (.bl (whole v)) L
def tells (C : Addr) (n : Str) (v : V) (E : XL) (L : Lg) : Prop := ∀ d, E (.ref C) (some d) ((d, .xd [(n, v)]) :: L)
/-- what a wheel's part must be -/
def okPart (least : Int) : V → Bool
  | .int i => decide (least ≤ i) && decide (i ≤ 1000000000000)
  | _ => false
def spNeedPart (C : Addr) : SpL := fun vs L Q E => ∃ (v : V) (T : String) (least : Int) (part : Str), vs = [v, .int least, .str part] ∧ Knd L v T ∧ (okPart least v = true → Q .non L) ∧ (okPart least v = false → tells C "part" (.str part) E L)
abbrev wO (C dx : Addr) (p b h : V) : HO := .ins C dx [("period", p), ("back", b), ("ahead", h)]
/-- what a wheel's class must have for its fields -/
structure WhA (K : PySem.W.Frag) (C : Addr) : Prop where
  c : L2.Cls K C
  n1 : NoAttr K C "period"
  n2 : NoAttr K C "back"
  n3 : NoAttr K C "ahead"
/-- a wheel's parts are kept, or the first wrong one is told -/
def spWheelInit (K : PySem.W.Frag) (Ce : Addr) : SpL := fun vs L Q E => ∃ (a C dx : Addr) (p b h : V) (Tp Tb Th : String) (M : Lg), vs = [.ref a, p, b, h] ∧ (a, HO.ins C dx []) ∈ L ∧ WhA K C ∧ Knd L p Tp ∧ Knd L b Tb ∧ Knd L h Th ∧ Swap a (wO C dx p b h) L M ∧
  (okPart 2 p = true → okPart 0 b = true → okPart 0 h = true → Q .non M) ∧ (okPart 2 p = false → tells Ce "part" (.str "period") E L) ∧ (okPart 2 p = true → okPart 0 b = false → tells Ce "part" (.str "back") E L) ∧
  (okPart 2 p = true → okPart 0 b = true → okPart 0 h = false → tells Ce "part" (.str "ahead") E L)
section
variable {P : Program} {w : World} {K : PySem.W.Frag} {mg : Str → Option Value} {base : Heap} {C D Ce : Addr}
theorem body_is_whole (B : Bi mg) : BodyOf P w K mg base N_is_whole "is_whole" s_is_whole 0 spIsWhole := by
  intro X f cdv A outer s H E0 L vs Q E hX nd hr h
  subst hX
  obtain ⟨v, T, rfl, k, q⟩ := h
  obtain ⟨b1, b2, h1, h2, h3⟩ := kindWhole k
  show GSs _ (defBody s_is_whole) (bodyD Q) [("value", some v)] L
  refine gss_cons ?_
  tm_at "g"
  refine gc_isK k h1 ?_
  tm_at "g"
  refine ite_b (fun z => ?_) (fun z => ?_)
  · tm_at "g"
    refine gc_isK k h2 ?_
    tm_at "g"
    rw [z] at h3
    rw [← h3] at q
    exact ⟨_, Sub.refl, q⟩
  · rw [z] at h3
    rw [← h3] at q
    exact ⟨_, Sub.refl, q⟩
theorem fn_is_whole (B : Bi mg) (F : Df K mg "is_whole" s_is_whole) : Fn P w K mg base CX0 "is_whole" 1 spIsWhole :=
  fn_plain F sc_is_whole (fun _ _ _ _ _ _ us hl => match us, hl with | [_], _ => rfl) (by decide) (by tm_at "g_len") (body_is_whole B)
theorem fn_need_part (F : Df K mg "need_part" s_need_part) (D1 : Fn P w K mg base CX0 "is_whole" 1 spIsWhole) (T : ErrT P w K mg base "BadWheel" C ["part"]) {u : Value} (hM : mg "MOST" = some u) (rM : RelV (.int 1000000000000) u) : Fn P w K mg base (L2.CX P w) "need_part" 3 (spNeedPart C) := by
  refine fn_raise F sc_need_part (fun _ _ _ _ _ _ us hl => match us, hl with | [_, _, _], _ => rfl) (by decide) (by tm_at "g_len") ?_
  intro X f cdv A outer s H E0 L vs Q E hX nd hr tk h
  subst hX
  obtain ⟨v, T0, least, part, rfl, k, q1, q2⟩ := h
  show GSs _ (defBody s_need_part) (bodyD Q) [("value", some v), ("least", some (.int least)), ("part", some (.str part))] L
  refine gss_cons ?_
  tm_at "g"
  refine ge_call (El := NoX) D1 hr passA ?_
  tm_at "g"
  refine ⟨v, T0, rfl, k, ?_⟩
  cases hw : whole v with
  | true =>
    obtain ⟨i, rfl⟩ := whole_int hw
    tm_at "g"
    refine ite_d (fun z1 => ?_) (fun z1 => ?_)
    · tm_at "g"
      refine gv_con hM rM ?_
      tm_at "g"
      refine ite_n (fun z2 => ?_) (fun z2 => ?_)
      · tm_at "g"
        refine gs_raise tk (gmk_err T.ck hr ?_ (by decide))
        tm_at "g"
        exact ⟨rfl, fun d => ⟨_, Sub.refl, q2 (by show (decide _ && decide _) = _; rw [decide_eq_true z1, decide_eq_false z2]; rfl) d⟩⟩
      · tm_at "g"
        exact ⟨_, Sub.refl, q1 (by show (decide _ && decide _) = _; rw [decide_eq_true z1, decide_eq_true z2]; rfl)⟩
    · tm_at "g"
      refine gs_raise tk (gmk_err T.ck hr ?_ (by decide))
      tm_at "g"
      exact ⟨rfl, fun d => ⟨_, Sub.refl, q2 (by show (decide _ && decide _) = _; rw [decide_eq_false z1]; rfl) d⟩⟩
  | false =>
    tm_at "g"
    refine gs_raise tk (gmk_err T.ck hr ?_ (by decide))
    tm_at "g"
    exact ⟨rfl, fun d => ⟨_, Sub.refl, q2 (by cases v <;> first | rfl | cases hw) d⟩⟩
theorem run_Wheel_initK {args : List Value → Args} (pmV : List V → List V) (pmU : List Value → List Value) (hpm : ∀ vs us, Vals vs us → Vals (pmV vs) (pmU us)) {f : Addr} {fd : FuncData} (F : Fun K "__init__" "Wheel.__init__" s_Wheel_init f fd) (D1 : Fn P w K mg base (L2.CX P w) "need_part" 3 (spNeedPart Ce))
    (hb : ∀ (kV doc pm : Value) (an : Option Addr) (cdv ct : Value) (us : List Value), (pmU us).length = 4 → bindArgs (PySem.W.fnOf "__init__" "Wheel.__init__" (defArgs s_Wheel_init) (defBody s_Wheel_init) (defScope s_Wheel_init) .none kV doc pm an cdv ct) (args us) = pure ((["self", "period", "back", "ahead"] : List Str).zip (pmU us))) : RunG P w K mg base (L2.CX P w) 4 f args (toSp fun vs => spWheelInit K Ce (pmV vs)) := by
  refine run_raise (sp := spWheelInit K Ce) F sc_Wheel_init args pmV pmU hpm hb (by decide) (by tm_at "g_len") ?_
  intro X f cdv A outer s H E0 L vs Q E hX nd hr tk h
  subst hX
  obtain ⟨a, C, dx, p, b, h, Tp, Tb, Th, M, rfl, ma, wa, kp, kb, kh, sw, q, e1, e2, e3⟩ := h
  obtain ⟨lf, rfl, l1, l2⟩ := sw.lens
  show GSs _ (defBody s_Wheel_init) (bodyD Q) [("self", some (.ref a)), ("period", some p), ("back", some b), ("ahead", some h)] L
  refine gss_cons ?_
  tm_at "g"
  refine ge_callX D1 hr tk ?_
  tm_at "g"
  refine ⟨p, Tp, 2, "period", rfl, kp, fun z1 => ?_, fun z d => ⟨_, Sub.refl, e1 z d⟩⟩
  tm_at "g"
  refine ge_callX D1 hr tk ?_
  tm_at "g"
  refine ⟨b, Tb, 0, "back", rfl, kb, fun z2 => ?_, fun z d => ⟨_, Sub.refl, e2 z1 z d⟩⟩
  tm_at "g"
  refine ge_callX D1 hr tk ?_
  tm_at "g"
  refine ⟨h, Th, 0, "ahead", rfl, kh, fun z3 => ?_, fun z d => ⟨_, Sub.refl, e3 z1 z2 z d⟩⟩
  tm_at "g"
  refine ⟨a, C, dx, [], _, rfl, ma, wa.c, wa.n1, (show 0 < 1000 by decide), l1 _, ?_⟩
  tm_at "g"
  refine ⟨a, C, dx, [("period", p)], _, rfl, (l1 _).got, wa.c, wa.n2, (show 1 < 1000 by decide), l2 _ _ rfl, ?_⟩
  tm_at "g"
  refine ⟨a, C, dx, [("period", p), ("back", b)], _, rfl, (l1 _).got, wa.c, wa.n3, (show 2 < 1000 by decide), l2 _ _ rfl, ?_⟩
  tm_at "g"
  exact ⟨_, Sub.refl, q z1 z2 z3⟩
theorem run_Wheel_init {f : Addr} {fd : FuncData} (F : Fun K "__init__" "Wheel.__init__" s_Wheel_init f fd) (D1 : Fn P w K mg base (L2.CX P w) "need_part" 3 (spNeedPart Ce)) : RunG P w K mg base (L2.CX P w) 4 f argsP (toSp (spWheelInit K Ce)) :=
  run_Wheel_initK (args := argsP) id id (fun _ _ r => r) F D1 (fun _ _ _ _ _ _ us hl => match us, hl with | [_, _, _, _], _ => rfl)
end
def spExactInit (K : PySem.W.Frag) (Ce C0 : Addr) : SpL := fun vs L Q E => ∃ (a dx : Addr) (p : V) (Tp : String) (M : Lg), vs = [.ref a, p] ∧ (a, HO.ins C0 dx []) ∈ L ∧ WhA K C0 ∧ Knd L p Tp ∧ Swap a (wO C0 dx p (.int 0) (.int 0)) L M ∧
  (okPart 2 p = true → Q .non M) ∧ (okPart 2 p = false → tells Ce "part" (.str "period") E L)
section
variable {P : Program} {w : World} {K : PySem.W.Frag} {mg : Str → Option Value} {base : Heap} {C D Ce : Addr}
theorem telL {C : Addr} {n : Str} {v : V} {E : XL} {L : Lg} {a : Addr × HO} (h : tells C n v E L) : tells C n v (drpE E) (a :: L) := fun d => ⟨_, Sub.cons Sub.drop, h d⟩
theorem run_Exact_init {f c cc D g C0 : Addr} {fd : FuncData} (F : SupF P K "__init__" "Exact.__init__" s_Exact_init f c cc D fd) (G : RunG P w K mg base (L2.CX P w) 4 g argsP (toSp (spWheelInit K Ce))) (T : SupM K mg C0 D "__init__" g) (args : List Value → Args) (pmV : List V → List V) (pmU : List Value → List Value) (hpm : ∀ vs us, Vals vs us → Vals (pmV vs) (pmU us))
    (hb : ∀ (kV doc pm ct : Value) (an : Option Addr) (us : List Value), (pmU us).length = 2 → bindArgs (PySem.W.fnX "__init__" "Exact.__init__" (defArgs s_Exact_init) (defBody s_Exact_init) (defScope s_Exact_init) [("__class__", cc)] .none kV doc pm an (.ref c) ct) (args us) = pure ((["self", "period"] : List Str).zip (pmU us))) :
    RunG P w K mg base (L2.CX P w) 5 f args (toSp fun vs => spExactInit K Ce C0 (pmV vs)) := by
  refine run_sup (sp := spExactInit K Ce C0) F sc_Exact_init args pmV pmU hpm hb (by tm_at "g_len") (fun vs hl => match vs, hl with | [_, _], _ => rfl) ?_
  intro X A outer s H E0 L vs Q E hX he nd hr h hH hN
  subst hX
  obtain ⟨a, dx, p, Tp, M, rfl, ma, wa, kp, sw, q, e1⟩ := h
  have tk := tk_sup (P := P) (w := w) (K := K) (mg := mg) (base := base) (N := N_Exact_init) (x := "__init__") (q := "Exact.__init__") (st := s_Exact_init) (cc := cc) (c := c) (f := f) (A := A) (outer := outer) (s := s) (H := H) he
  obtain ⟨ar, har, hself⟩ : ∃ ar, (fd.params.posonlyargs ++ fd.params.args).head? = some ar ∧ ar.arg = ("self" : Str) := by
    obtain ⟨_, _, _, _, _, _, _, _, efd, _⟩ := F.ex
    rw [efd]
    exact ⟨_, rfl, rfl⟩
  refine gas_supX (η := ([("self", some (.ref a)), ("period", some p), ("__class__", none)] : En)) (ar := ar) F T rfl rfl rfl har rfl rfl (by rw [hself]; rfl) G hr tk (by rw [hself]; exact .here) ma (fun u => ?_) (by decide) (by decide) rfl rfl rfl rfl rfl hN H hH
  tm_at "g"
  refine ⟨mem0, a, C0, dx, p, .int 0, .int 0, Tp, _, _, _, rfl, memS ma, wa, kp.sub (fun _ => memS), .int, .int, .there sw, fun z1 _ _ => ?_, fun z => telL (e1 z), fun _ z => absurd z (by decide), fun _ _ z => absurd z (by decide)⟩
  tm_at "g"
  exact ⟨_, Sub.drop, q z1⟩
theorem run_Grid_init {f c cc D g C0 : Addr} {fd : FuncData} (F : SupF P K "__init__" "Grid.__init__" s_Grid_init f c cc D fd) (G : RunG P w K mg base (L2.CX P w) 4 g argsP (toSp (spWheelInit K Ce))) (T : SupM K mg C0 D "__init__" g) (args : List Value → Args) (pmV : List V → List V) (pmU : List Value → List Value) (hpm : ∀ vs us, Vals vs us → Vals (pmV vs) (pmU us))
    (hb : ∀ (kV doc pm ct : Value) (an : Option Addr) (us : List Value), (pmU us).length = 2 → bindArgs (PySem.W.fnX "__init__" "Grid.__init__" (defArgs s_Grid_init) (defBody s_Grid_init) (defScope s_Grid_init) [("__class__", cc)] .none kV doc pm an (.ref c) ct) (args us) = pure ((["self", "period"] : List Str).zip (pmU us))) :
    RunG P w K mg base (L2.CX P w) 5 f args (toSp fun vs => spExactInit K Ce C0 (pmV vs)) := by
  refine run_sup (sp := spExactInit K Ce C0) F sc_Grid_init args pmV pmU hpm hb (by tm_at "g_len") (fun vs hl => match vs, hl with | [_, _], _ => rfl) ?_
  intro X A outer s H E0 L vs Q E hX he nd hr h hH hN
  subst hX
  obtain ⟨a, dx, p, Tp, M, rfl, ma, wa, kp, sw, q, e1⟩ := h
  have tk := tk_sup (P := P) (w := w) (K := K) (mg := mg) (base := base) (N := N_Grid_init) (x := "__init__") (q := "Grid.__init__") (st := s_Grid_init) (cc := cc) (c := c) (f := f) (A := A) (outer := outer) (s := s) (H := H) he
  obtain ⟨ar, har, hself⟩ : ∃ ar, (fd.params.posonlyargs ++ fd.params.args).head? = some ar ∧ ar.arg = ("self" : Str) := by
    obtain ⟨_, _, _, _, _, _, _, _, efd, _⟩ := F.ex
    rw [efd]
    exact ⟨_, rfl, rfl⟩
  refine gas_supX (η := ([("self", some (.ref a)), ("period", some p), ("__class__", none)] : En)) (ar := ar) F T rfl rfl rfl har rfl rfl (by rw [hself]; rfl) G hr tk (by rw [hself]; exact .here) ma (fun u => ?_) (by decide) (by decide) rfl rfl rfl rfl rfl hN H hH
  tm_at "g"
  refine ⟨mem0, a, C0, dx, p, .int 0, .int 0, Tp, _, _, _, rfl, memS ma, wa, kp.sub (fun _ => memS), .int, .int, .there sw, fun z1 _ _ => ?_, fun z => telL (e1 z), fun _ z => absurd z (by decide), fun _ _ z => absurd z (by decide)⟩
  tm_at "g"
  exact ⟨_, Sub.drop, q z1⟩
end
section
variable {P : Program} {w : World} {K : PySem.W.Frag} {mg : Str → Option Value} {base : Heap} {C D Ce gT gE gS : Addr}
def spTrusted (K : PySem.W.Frag) : SpL := fun vs L Q _ => ∃ (a C dx : Addr) (fs : List (Str × V)) (u : Value) (t : Bool), vs = [.ref a] ∧ (a, HO.ins C dx fs) ∈ L ∧ L2.Cls K C ∧ Con K C "TRUSTED" (.bl t) u ∧ fs.lookup ("TRUSTED" : Str) = none ∧ Q (.bl t) L
theorem run_Wheel_trusted (B : Bi mg) {f : Addr} {fd : FuncData} (F : Fun K "trusted" "Wheel.trusted" s_Wheel_trusted f fd) : RunG P w K mg base CX0 1 f argsP (toSp (spTrusted K)) := by
  refine run_plain F sc_Wheel_trusted argsP id id (fun _ _ r => r) (fun _ _ _ _ _ _ us hl => match us, hl with | [_], _ => rfl) (by decide) (by tm_at "g_len") ?_
  intro X f cdv A outer s H E0 L vs Q E hX nd hr h
  subst hX
  obtain ⟨a, C, dx, fs, u, t, rfl, m, c, k, l, q⟩ := h
  show GSs _ (defBody s_Wheel_trusted) (bodyD Q) [("self", some (.ref a))] L
  refine gss_cons ?_
  tm_at "g"
  refine gat_con c k m l ?_
  tm_at "g"
  refine gc_boolB ?_
  exact ⟨_, Sub.refl, q⟩
/-- what the top tells of one of the classes of wheels -/
structure WhC (K : PySem.W.Frag) (D gT gE gS C : Addr) (t : Bool) : Prop where
  a : WhA K C
  o : OwnT K C
  kd : PySem.W.kitOne K (.ref C) (.ref D) = some true
  ct : ∃ u, Con K C "TRUSTED" (.bl t) u
  pt : ∃ p, PropOf K C "trusted" p gT
  oe : OwnEq K C gE
  st : PySem.W.findIn K (.ref C) "__str__" = some (some (.ref gS))
  si : PySem.W.isFn K (.ref gS) = true
/-- a wheel's text -/
def wTx (t : Bool) (p b h : Int) : Str := if t then Str.empty ++ "grid " ++ Str.ofString (toString p) else Str.empty ++ "wheel " ++ Str.ofString (toString p) ++ " " ++ Str.ofString (toString b) ++ " " ++ Str.ofString (toString h)
def spWheelStr (K : PySem.W.Frag) (D gT gE gS : Addr) : SpL := fun vs L Q _ => ∃ (a C dx : Addr) (p k h : Int) (t : Bool), vs = [.ref a] ∧ (a, wO C dx (.int p) (.int k) (.int h)) ∈ L ∧ WhC K D gT gE gS C t ∧ (p.natAbs < 2 ^ 400 ∧ k.natAbs < 2 ^ 400 ∧ h.natAbs < 2 ^ 400) ∧ Q (.str (wTx t p k h)) L
theorem big4 {i : Int} (h : i.natAbs < 2 ^ 400) : i.natAbs < 2 ^ 1920 := Nat.lt_of_lt_of_le h (Nat.pow_le_pow_right (by decide) (by decide))
theorem run_Wheel_str {f : Addr} {fd : FuncData} (F : Fun K "__str__" "Wheel.__str__" s_Wheel_str f fd) (RT : RunG P w K mg base CX0 1 gT argsP (toSp (spTrusted K))) : RunG P w K mg base CX0 3 f argsP (toSp (spWheelStr K D gT gE gS)) := by
  refine run_plain F sc_Wheel_str argsP id id (fun _ _ r => r) (fun _ _ _ _ _ _ us hl => match us, hl with | [_], _ => rfl) (by decide) (by tm_at "g_len") ?_
  intro X f cdv A outer s H E0 L vs Q E hX nd hr h
  subst hX
  obtain ⟨a, C, dx, p, k, h, t, rfl, ma, wc, ⟨b1, b2, b3⟩, q⟩ := h
  obtain ⟨c, n1, n2, n3⟩ := wc.a
  obtain ⟨u, ct⟩ := wc.ct
  obtain ⟨pa, pt⟩ := wc.pt
  show GSs _ (defBody s_Wheel_str) (bodyD Q) [("self", some (.ref a))] L
  refine gss_cons ?_
  tm_at "g"
  refine gat_prop (El := NoX) c pt RT hr passA ma ⟨a, C, dx, _, u, t, rfl, ma, c, ct, rfl, ?_⟩
  refine ⟨t, rfl, ite_b (fun y => ?_) (fun y => ?_)⟩
  · subst y
    tm_at "g"
    refine ge_joined (gjs_lit (n := 0) (Nat.le_refl _) (by decide) fun a1 => gjs_int a1 (by decide) ?_)
    tm_at "g"
    exact ⟨big4 b1, fun _ => ⟨_, Sub.refl, q⟩⟩
  · subst y
    tm_at "g"
    refine ge_joined (gjs_lit (n := 0) (Nat.le_refl _) (by decide) fun a1 => gjs_int a1 (by decide) ?_)
    tm_at "g"
    refine ⟨big4 b1, fun a2 => gjs_lit a2 (by decide) fun a3 => gjs_int a3 (by decide) ?_⟩
    tm_at "g"
    refine ⟨big4 b2, fun a2 => gjs_lit a2 (by decide) fun a3 => gjs_int a3 (by decide) ?_⟩
    tm_at "g"
    exact ⟨big4 b3, fun _ => ⟨_, Sub.refl, q⟩⟩
end
section
variable {P : Program} {w : World} {K : PySem.W.Frag} {mg : Str → Option Value} {base : Heap} {C : Addr}
/-- a class of wheels that can be made -/
structure MkF (P : Program) (w : World) (K : PySem.W.Frag) (mg : Str → Option Value) (base : Heap) (x : Str) (C f : Addr) (k : Nat) (sp : SpL) : Prop where
  g : mg x = some (.ref C)
  M : Mk K C f
  R : RunG P w K mg base (L2.CX P w) k f argsP (toSp sp)
theorem okI {l i : Int} (h0 : l ≤ i) (h1 : i ≤ 1000000000000) : okPart l (.int i) = true := by
  show (decide _ && decide _) = true
  rw [decide_eq_true h0, decide_eq_true h1]
  rfl
theorem no_bad {l i : Int} {Z : Prop} (h0 : l ≤ i) (h1 : i ≤ 1000000000000) : okPart l (.int i) = false → Z := fun z => by
  rw [okI h0 h1] at z
  cases z
end
abbrev WhD := Bool × Nat × Nat × Nat
/-- a row as data: name, wheel, price -/
abbrev RwD := Str × WhD × Nat
structure ShPar where
  D : Addr
  gT : Addr
  gE : Addr
  gS : Addr
  CS : Addr
abbrev isLet (c : Nat) : Bool := decide (c ∈ (Str.ofString "abcdefghijklmnopqrstuvwxyz").cps.toList)
def isNameS (z : Str) : Bool := decide (1 ≤ z.length ∧ z.length ≤ 8) && z.cps.toList.all isLet
def nameV : V → Bool
  | .str z => isNameS z
  | _ => false
def okPrice : V → Bool
  | .int i => decide (0 ≤ i) && decide (i ≤ 1000000000000)
  | _ => false
def WhB (w : WhD) : Prop := w.2.1 ≤ 1000000000000 ∧ w.2.2.1 ≤ 1000000000000 ∧ w.2.2.2 ≤ 1000000000000
def SOk (S : List RwD) : Prop := (S.map (·.1)).Nodup ∧ S.length ≤ 8 ∧ ∀ e ∈ S, isNameS e.1 = true ∧ WhB e.2.1 ∧ e.2.2 ≤ 1000000000000
def hasS (S : List RwD) (z : Str) : Bool := S.any fun e => decide (e.1 = z)
def putS (S : List RwD) (r : RwD) : List RwD := if hasS S r.1 = true then S.map (fun e => if e.1 = r.1 then r else e) else S ++ [r]
def fullS (S : List RwD) (z : Str) : Bool := !hasS S z && decide (S.length = 8)
theorem putS_names {S : List RwD} {r : RwD} : (putS S r).map (·.1) = if hasS S r.1 = true then S.map (·.1) else S.map (·.1) ++ [r.1] := by
  unfold putS
  split
  · rw [List.map_map]
    refine List.map_congr_left fun e _ => ?_
    show (if e.1 = r.1 then r else e).1 = e.1
    split
    · rename_i h
      exact h.symm
    · rfl
  · rw [List.map_append, List.map_cons, List.map_nil]
theorem hasS_iff {S : List RwD} {z : Str} : hasS S z = true ↔ z ∈ S.map (·.1) := by
  unfold hasS
  rw [List.any_eq_true, List.mem_map]
  exact ⟨fun ⟨e, h1, h2⟩ => ⟨e, h1, of_decide_eq_true h2⟩, fun ⟨e, h1, h2⟩ => ⟨e, h1, decide_eq_true h2⟩⟩
theorem putS_mem {S : List RwD} {r e : RwD} (h : e ∈ putS S r) : e = r ∨ e ∈ S := by
  unfold putS at h
  split at h
  · obtain ⟨x, hx, rfl⟩ := List.mem_map.mp h
    split
    · exact .inl rfl
    · exact .inr hx
  · rcases List.mem_append.mp h with h | h
    · exact .inr h
    · exact .inl (List.mem_singleton.mp h)
theorem putS_ok {S : List RwD} {r : RwD} (h : SOk S) (hn : isNameS r.1 = true) (hw : WhB r.2.1) (hp : r.2.2 ≤ 1000000000000) (hf : fullS S r.1 = false) : SOk (putS S r) := by
  obtain ⟨h1, h2, h3⟩ := h
  refine ⟨?_, ?_, fun e he => ?_⟩
  · rw [putS_names]
    split
    · exact h1
    · rename_i hh
      refine List.nodup_append.mpr ⟨h1, List.pairwise_singleton _ _, fun x hx y hy e => ?_⟩
      rw [List.mem_singleton.mp hy] at e
      exact hh (hasS_iff.mpr (e ▸ hx))
  · unfold putS
    split
    · rw [List.length_map]
      exact h2
    · rename_i hh
      rw [List.length_append, List.length_singleton]
      have : ¬ S.length = 8 := fun z => by
        unfold fullS at hf
        have h0 : hasS S r.1 = false := by simpa using hh
        rw [h0, z] at hf
        cases hf
      omega
  · rcases putS_mem he with rfl | he
    · exact ⟨hn, hw, hp⟩
    · exact h3 e he
/-- a wheel of the ledger -/
def WhAt (K : PySem.W.Frag) (Y : ShPar) (L : Lg) (v : V) (w : WhD) : Prop := ∃ x C dx, v = .ref x ∧ (x, wO C dx (.int (w.2.1 : Nat)) (.int (w.2.2.1 : Nat)) (.int (w.2.2.2 : Nat))) ∈ L ∧ WhC K Y.D Y.gT Y.gE Y.gS C w.1
theorem whMono {K : PySem.W.Frag} {Y : ShPar} : RepMono (WhAt K Y) := fun _ _ _ _ s ⟨x, C, dx, e, m, k⟩ => ⟨x, C, dx, e, s _ m, k⟩
def RowF (K : PySem.W.Frag) (Y : ShPar) (L : Lg) (kv : Key × V) (e : RwD) : Prop := kv.1 = .inr e.1 ∧ ∃ t wv, kv.2 = .ref t ∧ (t, HO.tup [wv, .int (e.2.2 : Nat)]) ∈ L ∧ WhAt K Y L wv e.2.1
/-- a dict of rows -/
def RowsAt (K : PySem.W.Frag) (Y : ShPar) (L : Lg) (v : V) (S : List RwD) : Prop := ∃ a od kvs, v = .ref a ∧ (a, dO od kvs) ∈ L ∧ Paired (RowF K Y L) kvs S ∧ SOk S
theorem rowF_mono {K : PySem.W.Frag} {Y : ShPar} {L M : Lg} (s : ∀ e ∈ L, e ∈ M) (kv : Key × V) (e : RwD) (h : RowF K Y L kv e) : RowF K Y M kv e := by
  obtain ⟨h1, t, wv, h2, h3, x, C, dx, h4, h5, h6⟩ := h
  exact ⟨h1, t, wv, h2, s _ h3, x, C, dx, h4, s _ h5, h6⟩
theorem rowsMono {K : PySem.W.Frag} {Y : ShPar} : RepMono (RowsAt K Y) := fun L M v S s ⟨a, od, kvs, e, m, p, o⟩ => ⟨a, od, kvs, e, s _ m, Paired.mono (rowF_mono s) p, o⟩
theorem any_rows {K : PySem.W.Frag} {Y : ShPar} {L : Lg} {z : Str} : ∀ {kvs : List (Key × V)} {S : List RwD}, Paired (RowF K Y L) kvs S → (kvs.any fun kv => decide (kv.1 = .inr z)) = hasS S z
  | _, _, .nil => rfl
  | kv :: kvs, e :: S, .cons h t => by
    have ih := any_rows (z := z) t
    unfold hasS at ih ⊢
    rw [List.any_cons, List.any_cons, ih]
    have : decide (kv.1 = (.inr z : Key)) = decide (e.1 = z) := by
      rw [h.1, decide_eq_decide]
      exact ⟨fun q => Sum.inr.inj q, fun q => congrArg Sum.inr q⟩
    rw [this]
theorem put_rows {K : PySem.W.Frag} {Y : ShPar} {L : Lg} {r : RwD} {v : V} (hr : RowF K Y L (.inr r.1, v) r) {kvs : List (Key × V)} {S : List RwD} (h : Paired (RowF K Y L) kvs S) : Paired (RowF K Y L) (putK kvs (.inr r.1) v) (putS S r) := by
  unfold putK putS
  rw [any_rows h]
  split
  · have key : ∀ {kvs : List (Key × V)} {S : List RwD}, Paired (RowF K Y L) kvs S → Paired (RowF K Y L) (kvs.map fun kv => if kv.1 = .inr r.1 then (kv.1, v) else kv) (S.map fun e => if e.1 = r.1 then r else e) := by
      intro kvs S h
      induction h with
      | nil => exact .nil
      | @cons kv e kvs S h t ih =>
        refine .cons ?_ ih
        have i1 : (kv.1 = (.inr r.1 : Key)) ↔ e.1 = r.1 := by
          rw [h.1]
          exact ⟨fun q => Sum.inr.inj q, fun q => congrArg Sum.inr q⟩
        show RowF K Y L (if kv.1 = .inr r.1 then (kv.1, v) else kv) (if e.1 = r.1 then r else e)
        by_cases c : e.1 = r.1
        · rw [if_pos (i1.mpr c), if_pos c, i1.mpr c]
          exact hr
        · rw [if_neg (fun q => c (i1.mp q)), if_neg c]
          exact h
    exact key h
  · exact Paired.snoc h hr
theorem rows_len {K : PySem.W.Frag} {Y : ShPar} {L : Lg} {kvs : List (Key × V)} {S : List RwD} (h : Paired (RowF K Y L) kvs S) : kvs.length = S.length := Paired.length h
theorem rows_val {K : PySem.W.Frag} {Y : ShPar} {L : Lg} {z : Str} {kvs : List (Key × V)} {S : List RwD} (h : Paired (RowF K Y L) kvs S) : (valV kvs (.inr z)).isSome = hasS S z := by
  rw [← valV_any, any_rows h]
def spIsName : SpL := fun vs L Q _ => ∃ v T, vs = [v] ∧ Knd L v T ∧ (∀ z, v = .str z → z.length ≤ 1000000) ∧ Q (.bl (nameV v)) L
section
variable {P : Program} {w : World} {K : PySem.W.Frag} {mg : Str → Option Value} {base : Heap} {Y : ShPar} {Cs Ct : Addr}
theorem fn_is_name (B : Bi mg) (F : Df K mg "is_name" s_is_name) {u u2 : Value} (hF : mg "LETTERS" = some u) (rF : RelV (.str "abcdefghijklmnopqrstuvwxyz") u) (hM : mg "MOST_LETTERS" = some u2) (rM : RelV (.int 8) u2) : Fn P w K mg base CX0 "is_name" 1 spIsName := by
  refine fn_plain F sc_is_name (fun _ _ _ _ _ _ us hl => match us, hl with | [_], _ => rfl) (by decide) (by tm_at "g_len") ?_
  intro X f cdv A outer s H E0 L vs Q E hX nd hr h
  subst hX
  obtain ⟨v, T, rfl, k, hz, q⟩ := h
  show GSs _ (defBody s_is_name) (bodyD Q) [("value", some (v)), ("letter", none)] L
  refine gss_cons ?_
  tm_at "g"
  by_cases hs : ∃ z, v = .str z
  · obtain ⟨z, rfl⟩ := hs
    have hz := hz z rfl
    have zl : z.length ≤ sizeLine := szL (by omega)
    refine gc_isK (b := true) .str (by decide +kernel) ?_
    tm_at "g"
    refine gc_lenS zl ?_
    tm_at "g"
    have e0 : ∀ b, nameV (.str z) = b → isNameS z = b := fun b h => h
    refine ite_d (fun c1 => ?_) (fun c1 => ?_)
    · refine gv_con hM rM ?_
      tm_at "g"
      refine ite_n (fun c2 => ?_) (fun c2 => ?_)
      · tm_at "g"
        refine ⟨_, Sub.refl, ?_⟩
        rw [show nameV (.str z) = false from by show (decide _ && _) = _; rw [decide_eq_false (by omega)]; rfl] at q
        exact q
      · tm_at "g"
        refine ge_lcP (by tm_at "g_put") (gi_str ?_) (show blkC N_is_name (defScope s_is_name) _ [(_, List.idxOf _ N_is_name)] = true by decide +kernel)
        tm_at "g"
        refine pure_str (t := fun _ => true) (g := fun c => .bl (isLet c)) hz (fun c hc D acc s1 H1 C1 cl1 fp1 => ?_) fun D => ?_
        · refine gts_nil ⟨rfl, Sub.refl, fun _ s2 H2 C2 cl2 fp2 => ?_⟩
          tm_at "g"
          refine gv_con hF rF ?_
          refine go_inS ?_
          exact ⟨rfl, Sub.refl⟩
        rw [List.filter_eq_self.mpr fun _ _ => rfl]
        have eb : z.cps.toList.map (fun c => V.bl (isLet c)) = (z.cps.toList.map isLet).map V.bl := by rw [List.map_map]; rfl
        rw [eb]
        tm_at "g"
        refine gc_allB (by rfl) mem0 ?_
        have ea : (z.cps.toList.map isLet).all id = z.cps.toList.all isLet := by rw [List.all_map]; rfl
        rw [ea]
        tm_at "g"
        refine ⟨_, Sub.drop, ?_⟩
        rw [show nameV (.str z) = z.cps.toList.all isLet from by show (decide _ && _) = _; rw [decide_eq_true (by omega), Bool.true_and]] at q
        exact q
    · tm_at "g"
      refine ⟨_, Sub.refl, ?_⟩
      rw [show nameV (.str z) = false from by show (decide _ && _) = _; rw [decide_eq_false (by omega)]; rfl] at q
      exact q
  · have kb : kitB T "str" = some false := by cases k <;> first | exact absurd ⟨_, rfl⟩ hs | decide +kernel
    have nv : nameV v = false := by cases v <;> first | rfl | exact absurd ⟨_, rfl⟩ hs
    refine gc_isK k kb ?_
    tm_at "g"
    rw [nv] at q
    exact ⟨_, Sub.refl, q⟩
end
/-- what with_item makes of a name, a wheel, a price -/
def WithD (K : PySem.W.Frag) (Y : ShPar) (Cs Ct : Addr) (L : Lg) (S : List RwD) (nm wv pv : V) (Q : QV) (E : XL) : Prop :=
  (∃ T, Knd L nm T) ∧ (∀ z, nm = .str z → z.length ≤ 1000000) ∧ (nameV nm = false → telX Cs [("part", .str "name")] E L) ∧
  ∀ z, nm = .str z → isNameS z = true → (∃ Tw, Knd L wv Tw ∧ PySem.W.kitOne K (.type Tw) (.ref Y.D) = some false ∧ telX Cs [("part", .str "wheel")] E L) ∨
    ∃ d, WhAt K Y L wv d ∧ WhB d ∧ (∃ Tp, Knd L pv Tp) ∧ (okPrice pv = false → telX Cs [("part", .str "price")] E L) ∧
      ∀ p : Nat, pv = .int (p : Nat) → p ≤ 1000000000000 → (fullS S z = true → telX Ct [("most", .int 8), ("what", .str "names")] E L) ∧ (fullS S z = false → ∀ q M, Sub L M → RowsAt K Y M q (putS S (z, d, p)) → Q q M)
def spWithItem (K : PySem.W.Frag) (Y : ShPar) (Cs Ct : Addr) : SpL := fun vs L Q E => ∃ (v : V) (it : Addr) (S : List RwD) (nm wv pv : V), vs = [v, nm, .ref it] ∧ RowsAt K Y L v S ∧ (it, HO.tup [wv, pv]) ∈ L ∧ WithD K Y Cs Ct L S nm wv pv Q E
section
variable {P : Program} {w : World} {K : PySem.W.Frag} {mg : Str → Option Value} {base : Heap} {Y : ShPar} {Cs Ct : Addr}
theorem fn_with_item (B : Bi mg) (F : Df K mg "with_item" s_with_item) (D1 : Fn P w K mg base CX0 "is_name" 1 spIsName) (D2 : Fn P w K mg base CX0 "is_whole" 1 spIsWhole) (T1 : ErrT P w K mg base "BadShelf" Cs ["part"]) (T2 : ErrT P w K mg base "TooMany" Ct ["what", "most"]) (gW : mg "Wheel" = some (.ref Y.D))
    {u1 u2 : Value} (hM : mg "MOST_PRICE" = some u1) (rM : RelV (.int 1000000000000) u1) (hN : mg "MOST_NAMES" = some u2) (rN : RelV (.int 8) u2) : Fn P w K mg base (L2N.CX P w) "with_item" 3 (spWithItem K Y Cs Ct) := by
  refine fn_raiseN F sc_with_item (fun _ _ _ _ _ _ us hl => match us, hl with | [_, _, _], _ => rfl) (by decide) (by tm_at "g_len") ?_
  intro X f cdv A outer s H E0 L vs Q E hX nd hr tk h
  subst hX
  obtain ⟨v, it, S, nm, wv, pv, rfl, rw_, mi, ⟨Tn, kn⟩, hz, e1, rest⟩ := h
  obtain ⟨a, od, kvs, rfl, ma, pr, so⟩ := id rw_
  show GSs _ (defBody s_with_item) (bodyD Q) [("rows", some (.ref a)), ("name", some (nm)), ("item", some (.ref it)), ("wheel", none), ("price", none)] L
  refine gss_cons ?_
  tm_at "g"
  refine ge_call (El := NoX) D1 hr passA ?_
  tm_at "g"
  refine ⟨nm, Tn, rfl, kn, hz, ?_⟩
  cases hn : nameV nm with
  | false =>
    tm_at "g"
    refine gs_raiseN tk (gmk_errN T1.ck hr ?_ (by decide))
    tm_at "g"
    exact ⟨rfl, fun d => ⟨_, Sub.refl, e1 hn d _ Sub.refl⟩⟩
  | true =>
    obtain ⟨z, rfl⟩ : ∃ z, nm = .str z := by cases nm <;> first | exact ⟨_, rfl⟩ | cases hn
    tm_at "g"
    refine gc_isK (.tup mi) (b := true) (by decide +kernel) ?_
    tm_at "g"
    rw [show decide (((([wv, pv] : List V).length : Nat) : Int) = 2) = true from rfl]
    tm_at "g"
    refine gv_def gW ?_
    tm_at "g"
    rcases rest z rfl hn with ⟨Tw, kw, kW, e2⟩ | ⟨d, wa, wb, ⟨Tp, kp⟩, e3, e4⟩
    · refine gc_isKO kw kW ?_
      tm_at "g"
      refine gs_raiseN tk (gmk_errN T1.ck hr ?_ (by decide))
      tm_at "g"
      exact ⟨rfl, fun d => ⟨_, Sub.refl, e2 d _ Sub.refl⟩⟩
    · obtain ⟨x, C, dx, rfl, mx, wc⟩ := id wa
      refine gc_isI wc.o mx (.own Y.D) wc.kd ?_
      tm_at "g"
      refine ge_call (El := NoX) D2 hr passA ?_
      tm_at "g"
      refine ⟨pv, Tp, rfl, kp, ?_⟩
      cases hw : whole pv with
      | false =>
        tm_at "g"
        refine gs_raiseN tk (gmk_errN T1.ck hr ?_ (by decide))
        tm_at "g"
        exact ⟨rfl, fun d => ⟨_, Sub.refl, e3 (by cases pv <;> first | rfl | cases hw) d _ Sub.refl⟩⟩
      | true =>
        obtain ⟨i, rfl⟩ := whole_int hw
        tm_at "g"
        refine ite_d (fun z1 => ?_) (fun z1 => ?_)
        · tm_at "g"
          refine gv_con hM rM ?_
          tm_at "g"
          refine ite_n (fun z2 => ?_) (fun z2 => ?_)
          · tm_at "g"
            refine gs_raiseN tk (gmk_errN T1.ck hr ?_ (by decide))
            tm_at "g"
            exact ⟨rfl, fun d => ⟨_, Sub.refl, e3 (by show (decide _ && decide _) = _; rw [decide_eq_true z1, decide_eq_false z2]; rfl) d _ Sub.refl⟩⟩
          · obtain ⟨p, rfl⟩ : ∃ p : Nat, i = (p : Int) := ⟨i.toNat, by omega⟩
            obtain ⟨e5, e6⟩ := e4 p rfl (by omega)
            tm_at "g"
            refine go_notInD (k := .inr z) hr ma ?_
            rw [rows_val pr]
            cases hh : hasS S z with
            | true =>
              have hf : fullS S z = false := by unfold fullS; rw [hh]; rfl
              refine ⟨_, rfl, ?_⟩
              tm_at "g"
              refine ge_dstar ?_
              tm_at "g"
              refine ⟨a, od, kvs, rfl, ma, by rw [rows_len pr, sizeLine_eq]; have := so.2.1; omega, ?_⟩
              tm_at "g"
              refine ⟨.inr z, rfl, ?_⟩
              tm_at "g"
              rename_i tt
              intro q od'
              refine ⟨_, Sub.refl, e6 hf _ _ (Sub.trans Sub.drop Sub.drop) ⟨q, od', _, rfl, mem0, put_rows (r := (z, d, p)) ⟨rfl, tt, _, rfl, memS mem0, whMono _ _ _ _ (fun _ h => memS (memS h)) wa⟩ (Paired.mono (rowF_mono fun _ h => memS (memS h)) pr), putS_ok so hn wb (by show p ≤ _; omega) hf⟩⟩
            | false =>
              refine ⟨_, rfl, ?_⟩
              tm_at "g"
              refine gc_lenD ma ?_
              tm_at "g"
              refine gv_con hN rN ?_
              tm_at "g"
              rw [rows_len pr]
              refine ite_d (fun z3 => ?_) (fun z3 => ?_)
              · have hf : fullS S z = true := by unfold fullS; rw [hh, decide_eq_true (by omega)]; rfl
                tm_at "g"
                refine gs_raiseN tk (gmk_errN T2.ck hr ?_ (by decide))
                tm_at "g"
                refine gv_con hN rN ?_
                tm_at "g"
                exact ⟨rfl, fun d => ⟨_, Sub.refl, e5 hf d _ Sub.refl⟩⟩
              · have hf : fullS S z = false := by unfold fullS; rw [hh, decide_eq_false (by omega)]; rfl
                tm_at "g"
                refine ge_dstar ?_
                tm_at "g"
                refine ⟨a, od, kvs, rfl, ma, by rw [rows_len pr, sizeLine_eq]; have := so.2.1; omega, ?_⟩
                tm_at "g"
                refine ⟨.inr z, rfl, ?_⟩
                tm_at "g"
                rename_i tt
                intro q od'
                refine ⟨_, Sub.refl, e6 hf _ _ (Sub.trans Sub.drop Sub.drop) ⟨q, od', _, rfl, mem0, put_rows (r := (z, d, p)) ⟨rfl, tt, _, rfl, memS mem0, whMono _ _ _ _ (fun _ h => memS (memS h)) wa⟩ (Paired.mono (rowF_mono fun _ h => memS (memS h)) pr), putS_ok so hn wb (by show p ≤ _; omega) hf⟩⟩
        · tm_at "g"
          refine gs_raiseN tk (gmk_errN T1.ck hr ?_ (by decide))
          tm_at "g"
          exact ⟨rfl, fun d => ⟨_, Sub.refl, e3 (by show (decide _ && decide _) = _; rw [decide_eq_false z1]; rfl) d _ Sub.refl⟩⟩
end
theorem WithD.sub {K : PySem.W.Frag} {Y : ShPar} {Cs Ct : Addr} {L L' : Lg} {S : List RwD} {nm wv pv : V} {Q : QV} {E : XL} (h : WithD K Y Cs Ct L S nm wv pv Q E) (s : Sub L L') (m : ∀ e ∈ L, e ∈ L') : WithD K Y Cs Ct L' S nm wv pv Q E := by
  obtain ⟨⟨T, k⟩, hz, e1, r⟩ := h
  refine ⟨⟨T, k.sub m⟩, hz, fun z => (e1 z).sub s, fun z h1 h2 => ?_⟩
  rcases r z h1 h2 with ⟨Tw, kw, kW, e2⟩ | ⟨d, wa, wb, ⟨Tp, kp⟩, e3, e4⟩
  · exact .inl ⟨Tw, kw.sub m, kW, e2.sub s⟩
  · exact .inr ⟨d, whMono _ _ _ _ m wa, wb, ⟨Tp, kp.sub m⟩, fun z => (e3 z).sub s, fun p hp hl => ⟨fun z => ((e4 p hp hl).1 z).sub s, fun z q M sb ra => (e4 p hp hl).2 z q M (Sub.trans s sb) ra⟩⟩
theorem WithD.imp {K : PySem.W.Frag} {Y : ShPar} {Cs Ct : Addr} {L : Lg} {S : List RwD} {nm wv pv : V} {Q Q' : QV} {E E' : XL} (h : WithD K Y Cs Ct L S nm wv pv Q E) (hq : ∀ v M, Q v M → Q' v M) (he : ∀ c d M, E c d M → E' c d M) : WithD K Y Cs Ct L S nm wv pv Q' E' := by
  obtain ⟨k, hz, e1, r⟩ := h
  refine ⟨k, hz, fun z d M s => he _ _ _ (e1 z d M s), fun z h1 h2 => ?_⟩
  rcases r z h1 h2 with ⟨Tw, kw, kW, e2⟩ | ⟨d, wa, wb, kp, e3, e4⟩
  · exact .inl ⟨Tw, kw, kW, fun d M s => he _ _ _ (e2 d M s)⟩
  · exact .inr ⟨d, wa, wb, kp, fun z d M s => he _ _ _ (e3 z d M s), fun p hp hl => ⟨fun z d M s => he _ _ _ ((e4 p hp hl).1 z d M s), fun z q M sb ra => hq _ _ ((e4 p hp hl).2 z q M sb ra)⟩⟩
def spWithRow (K : PySem.W.Frag) (Y : ShPar) (Cs Ct : Addr) : SpL := fun vs L Q E => ∃ (v row : V) (S : List RwD), vs = [v, row] ∧ RowsAt K Y L v S ∧ ((∃ t nm wv pv, row = .ref t ∧ (t, HO.tup [nm, wv, pv]) ∈ L ∧ WithD K Y Cs Ct L S nm wv pv Q E) ∨
  (((∃ T, Knd L row T ∧ kitB T "tuple" = some false) ∨ ∃ t xs, row = .ref t ∧ (t, HO.tup xs) ∈ L ∧ xs.length ≠ 3) ∧ telX Cs [("part", .str "row")] E L))
section
variable {P : Program} {w : World} {K : PySem.W.Frag} {mg : Str → Option Value} {base : Heap} {Y : ShPar} {Cs Ct : Addr}
theorem fn_with_row (B : Bi mg) (F : Df K mg "with_row" s_with_row) (D1 : Fn P w K mg base (L2N.CX P w) "with_item" 3 (spWithItem K Y Cs Ct)) (T1 : ErrT P w K mg base "BadShelf" Cs ["part"]) : Fn P w K mg base (L2N.CX P w) "with_row" 4 (spWithRow K Y Cs Ct) := by
  refine fn_raiseN F sc_with_row (fun _ _ _ _ _ _ us hl => match us, hl with | [_, _], _ => rfl) (by decide) (by tm_at "g_len") ?_
  intro X f cdv A outer s H E0 L vs Q E hX nd hr tk h
  subst hX
  obtain ⟨v, row, S, rfl, ra, h⟩ := h
  show GSs _ (defBody s_with_row) (bodyD Q) [("rows", some (v)), ("row", some (row))] L
  refine gss_cons ?_
  tm_at "g"
  rcases h with ⟨t, nm, wv, pv, rfl, mt, wd⟩ | ⟨hb, e1⟩
  · refine gc_isK (.tup mt) (b := true) (by decide +kernel) ?_
    tm_at "g"
    rw [show decide (((([nm, wv, pv] : List V).length : Nat) : Int) = 3) = true from rfl]
    tm_at "g"
    refine ge_callXN D1 hr tk ?_
    tm_at "g"
    refine ⟨v, _, S, nm, wv, pv, rfl, rowsMono _ _ _ _ (fun _ h => memS h) ra, mem0, (wd.sub Sub.drop (fun _ h => memS h)).imp (fun v M q => ?_) fun c d M e => ⟨_, Sub.refl, e⟩⟩
    tm_at "g"
    exact ⟨_, Sub.refl, q⟩
  · rcases hb with ⟨T, k, kt⟩ | ⟨t, xs, rfl, mt, ne⟩
    · refine gc_isK k kt ?_
      tm_at "g"
      refine gs_raiseN tk (gmk_errN T1.ck hr ?_ (by decide))
      tm_at "g"
      exact ⟨rfl, fun d => ⟨_, Sub.refl, e1 d _ Sub.refl⟩⟩
    · refine gc_isK (.tup mt) (b := true) (by decide +kernel) ?_
      tm_at "g"
      rw [decide_eq_false (by omega)]
      tm_at "g"
      refine gs_raiseN tk (gmk_errN T1.ck hr ?_ (by decide))
      tm_at "g"
      exact ⟨rfl, fun d => ⟨_, Sub.refl, e1 d _ Sub.refl⟩⟩
end
abbrev shO (C dx : Addr) (r n p f : V) : HO := .ins C dx [("own_rows", r), ("own_names", n), ("own_past", p), ("own_future", f)]
theorem shP1 {C dx : Addr} {r n p f y : V} : HO.ins C dx (putF "own_rows" y [("own_rows", r), ("own_names", n), ("own_past", p), ("own_future", f)]) = shO C dx y n p f := by
  rw [show putF "own_rows" y [("own_rows", r), ("own_names", n), ("own_past", p), ("own_future", f)] = ([("own_rows", y), ("own_names", n), ("own_past", p), ("own_future", f)] : List (Str × V)) from rfl]
theorem shP2 {C dx : Addr} {r n p f y : V} : HO.ins C dx (putF "own_names" y [("own_rows", r), ("own_names", n), ("own_past", p), ("own_future", f)]) = shO C dx r y p f := by
  rw [show putF "own_names" y [("own_rows", r), ("own_names", n), ("own_past", p), ("own_future", f)] = ([("own_rows", r), ("own_names", y), ("own_past", p), ("own_future", f)] : List (Str × V)) from rfl]
theorem shP3 {C dx : Addr} {r n p f y : V} : HO.ins C dx (putF "own_past" y [("own_rows", r), ("own_names", n), ("own_past", p), ("own_future", f)]) = shO C dx r n y f := by
  rw [show putF "own_past" y [("own_rows", r), ("own_names", n), ("own_past", p), ("own_future", f)] = ([("own_rows", r), ("own_names", n), ("own_past", y), ("own_future", f)] : List (Str × V)) from rfl]
theorem shP4 {C dx : Addr} {r n p f y : V} : HO.ins C dx (putF "own_future" y [("own_rows", r), ("own_names", n), ("own_past", p), ("own_future", f)]) = shO C dx r n p y := by
  rw [show putF "own_future" y [("own_rows", r), ("own_names", n), ("own_past", p), ("own_future", f)] = ([("own_rows", r), ("own_names", n), ("own_past", p), ("own_future", y)] : List (Str × V)) from rfl]
theorem sh4 {a b c d : Str × V} : [a, b, c, d].length < 1000 := by show 4 < 1000; decide
structure ShC (K : PySem.W.Frag) (C : Addr) : Prop where
  c : L2.Cls K C
  n1 : NoAttr K C "own_rows"
  n2 : NoAttr K C "own_names"
  n3 : NoAttr K C "own_past"
  n4 : NoAttr K C "own_future"
theorem rows_keys {K : PySem.W.Frag} {Y : ShPar} {L : Lg} : ∀ {kvs : List (Key × V)} {S : List RwD}, Paired (RowF K Y L) kvs S → (kvs.map fun kv => kV kv.1) = (S.map (·.1)).map V.str
  | _, _, .nil => rfl
  | kv :: kvs, e :: S, .cons h t => by
    rw [List.map_cons, List.map_cons, List.map_cons, rows_keys t, h.1]
    rfl
def spSettle (K : PySem.W.Frag) (Y : ShPar) : SpL := fun vs L Q _ => ∃ (sh dx : Addr) (rv nv pv fv v : V) (R : Lg) (S : List RwD), vs = [.ref sh, v] ∧ Sub ((sh, shO Y.CS dx rv nv pv fv) :: R) L ∧ ShC K Y.CS ∧ RowsAt K Y R v S ∧
  ∀ nl ys M, ys.Perm (S.map (·.1)) → sortedS ys = true → Sub ((sh, shO Y.CS dx v (.ref nl) pv fv) :: (nl, HO.lst (ys.map V.str)) :: R) M → Q .non M
section
variable {P : Program} {w : World} {K : PySem.W.Frag} {mg : Str → Option Value} {base : Heap} {Y : ShPar} {Cs Ct : Addr}
theorem run_Shelf_settle (B : Bi mg) {f : Addr} {fd : FuncData} (F : Fun K "settle" "Shelf.settle" s_Shelf_settle f fd) : RunG P w K mg base CX0 2 f argsP (toSp (spSettle K Y)) := by
  refine run_plain F sc_Shelf_settle argsP id id (fun _ _ r => r) (fun _ _ _ _ _ _ us hl => match us, hl with | [_, _], _ => rfl) (by decide) (by tm_at "g_len") ?_
  intro X f cdv A outer s H E0 L vs Q E hX nd hr h
  subst hX
  obtain ⟨sh, dx, rv, nv, pv, fv, v, R, S, rfl, sb, sc, ra, q⟩ := h
  obtain ⟨a, od, kvs, rfl, ma, pr, so⟩ := id ra
  refine GSs.sub sb ?_
  show GSs _ (defBody s_Shelf_settle) (bodyD Q) [("self", some (.ref sh)), ("rows", some (.ref a))] _
  refine gss_cons ?_
  tm_at "g"
  refine ⟨sh, _, dx, _, (sh, shO Y.CS dx (.ref a) nv pv fv) :: R, rfl, mem0, sc.c, sc.n1, sh4, by rw [shP1]; exact .here, ?_⟩
  tm_at "g"
  refine gc_listD (by rfl) (memS ma) fun p => ?_
  rw [rows_keys pr]
  tm_at "g"
  refine gc_sortedS mem0 (by rw [List.length_map]; have := so.2.1; omega) fun ys p2 pm st => ?_
  tm_at "g"
  refine ⟨sh, _, dx, _, _, rfl, memS (memS mem0), sc.c, sc.n2, sh4, by rw [shP2]; exact .there (.there .here), ?_⟩
  tm_at "g"
  refine ⟨_, Sub.refl, q p2 ys _ pm st ?_⟩
  refine Sub.trans ?_ (Sub.cons Sub.drop)
  exact Sub.perm (.swap ..)
end
theorem sub_mid {A R : Lg} {e : Addr × HO} : Sub (e :: (A ++ R)) (A ++ e :: R) := Sub.perm List.perm_middle.symm
def spGo (K : PySem.W.Frag) (Y : ShPar) : SpL := fun vs L Q _ => ∃ (sh dx pl : Addr) (rv nv fv v : V) (pz : List V) (R : Lg) (S : List RwD), vs = [.ref sh, v] ∧ Sub ((sh, shO Y.CS dx rv nv (.ref pl) fv) :: R) L ∧ ShC K Y.CS ∧ RowsAt K Y R v S ∧ (pl, HO.lst pz) ∈ R ∧ pz.length ≤ 100000 ∧
  ∀ nl ys p2 f2 M, ys.Perm (S.map (·.1)) → sortedS ys = true → Sub ((sh, shO Y.CS dx v (.ref nl) (.ref p2) (.ref f2)) :: (nl, HO.lst (ys.map V.str)) :: (f2, HO.lst []) :: (p2, HO.lst (pz ++ [rv])) :: R) M → Q .non M
section
variable {P : Program} {w : World} {K : PySem.W.Frag} {mg : Str → Option Value} {base : Heap} {Y : ShPar} {Cs Ct gS : Addr}
theorem run_Shelf_go {f : Addr} {fd : FuncData} (F : Fun K "go" "Shelf.go" s_Shelf_go f fd) (G : RunG P w K mg base CX0 2 gS argsP (toSp (spSettle K Y))) (me : Meth K Y.CS "settle" gS) : RunG P w K mg base CX0 3 f argsP (toSp (spGo K Y)) := by
  refine run_plain F sc_Shelf_go argsP id id (fun _ _ r => r) (fun _ _ _ _ _ _ us hl => match us, hl with | [_, _], _ => rfl) (by decide) (by tm_at "g_len") ?_
  intro X f cdv A outer s H E0 L vs Q E hX nd hr h
  subst hX
  obtain ⟨sh, dx, pl, rv, nv, fv, v, pz, R, S, rfl, sb, sc, ra, mp, lp, q⟩ := h
  refine GSs.sub sb ?_
  show GSs _ (defBody s_Shelf_go) (bodyD Q) [("self", some (.ref sh)), ("rows", some v)] _
  refine gss_cons ?_
  tm_at "g"
  refine gat_fld sc.c sc.n3 mem0 rfl ?_
  refine ⟨pl, pz, rfl, .inr (memS mp), ?_⟩
  tm_at "g"
  refine gat_fld sc.c sc.n1 mem0 rfl ?_
  tm_at "g"
  refine ⟨by rw [List.length_append, sizeLine_eq]; show pz.length + 1 ≤ _; omega, fun p2 => ?_⟩
  tm_at "g"
  refine ⟨sh, _, dx, _, _, rfl, memS mem0, sc.c, sc.n3, sh4, by rw [shP3]; exact .there .here, ?_⟩
  tm_at "g"
  rename_i f2
  refine ⟨sh, _, dx, _, _, rfl, memS (memS mem0), sc.c, sc.n4, sh4, by rw [shP4]; exact .there (.there .here), ?_⟩
  tm_at "g"
  refine ge_meth (El := NoX) G me sc.c hr passA ?_
  tm_at "g"
  refine ⟨sh, dx, _, rfl, memS (memS mem0), rfl, ?_⟩
  tm_at "g"
  refine ⟨sh, dx, rv, nv, _, _, v, _, S, rfl, sub_mid (A := [(f2, _), (p2, _)]), sc, rowsMono _ _ _ _ (fun _ h => memS (memS h)) ra, fun nl ys M pm st s2 => ?_⟩
  tm_at "g"
  exact ⟨_, Sub.refl, q nl ys p2 f2 _ pm st s2⟩
end
def spCan (K : PySem.W.Frag) (Y : ShPar) (future : Bool) : SpL := fun vs L Q _ => ∃ (sh dx pl fl : Addr) (rv nv : V) (pz fz : List V), vs = [.ref sh] ∧ (sh, shO Y.CS dx rv nv (.ref pl) (.ref fl)) ∈ L ∧ ShC K Y.CS ∧ (pl, HO.lst pz) ∈ L ∧ (fl, HO.lst fz) ∈ L ∧ Q (.int (if future then fz.length else pz.length : Nat)) L
section
variable {P : Program} {w : World} {K : PySem.W.Frag} {mg : Str → Option Value} {base : Heap} {Y : ShPar} {Cs Ct gS : Addr}
theorem run_Shelf_can_undo (B : Bi mg) {f : Addr} {fd : FuncData} (F : Fun K "can_undo" "Shelf.can_undo" s_Shelf_can_undo f fd) : RunG P w K mg base CX0 1 f argsP (toSp (spCan K Y false)) := by
  refine run_plain F sc_Shelf_can_undo argsP id id (fun _ _ r => r) (fun _ _ _ _ _ _ us hl => match us, hl with | [_], _ => rfl) (by decide) (by tm_at "g_len") ?_
  intro X f cdv A outer s H E0 L vs Q E hX nd hr h
  subst hX
  obtain ⟨sh, dx, pl, fl, rv, nv, pz, fz, rfl, ms, sc, mp, mf, q⟩ := h
  show GSs _ (defBody s_Shelf_can_undo) (bodyD Q) [("self", some (.ref sh))] _
  refine gss_cons ?_
  tm_at "g"
  refine gat_fld sc.c sc.n3 ms rfl ?_
  tm_at "g"
  exact ⟨_, Sub.refl, q⟩
theorem run_Shelf_can_redo (B : Bi mg) {f : Addr} {fd : FuncData} (F : Fun K "can_redo" "Shelf.can_redo" s_Shelf_can_redo f fd) : RunG P w K mg base CX0 1 f argsP (toSp (spCan K Y true)) := by
  refine run_plain F sc_Shelf_can_redo argsP id id (fun _ _ r => r) (fun _ _ _ _ _ _ us hl => match us, hl with | [_], _ => rfl) (by decide) (by tm_at "g_len") ?_
  intro X f cdv A outer s H E0 L vs Q E hX nd hr h
  subst hX
  obtain ⟨sh, dx, pl, fl, rv, nv, pz, fz, rfl, ms, sc, mp, mf, q⟩ := h
  show GSs _ (defBody s_Shelf_can_redo) (bodyD Q) [("self", some (.ref sh))] _
  refine gss_cons ?_
  tm_at "g"
  refine gat_fld sc.c sc.n4 ms rfl ?_
  tm_at "g"
  exact ⟨_, Sub.refl, q⟩
end
/-- a row that cannot be: of what shape -/
def BadRow (K : PySem.W.Frag) (Y : ShPar) (L : Lg) (v : V) : Prop :=
  (∃ T, Knd L v T ∧ kitB T "tuple" = some false) ∨ (∃ t xs, v = .ref t ∧ (t, HO.tup xs) ∈ L ∧ xs.length ≠ 3) ∨
  ∃ t nm wv pv T, v = .ref t ∧ (t, HO.tup [nm, wv, pv]) ∈ L ∧ Knd L nm T ∧ (∀ z, nm = .str z → z.length ≤ 1000000) ∧
    (nameV nm = true → (∃ Tw, Knd L wv Tw ∧ PySem.W.kitOne K (.type Tw) (.ref Y.D) = some false) ∨ ∃ d, WhAt K Y L wv d ∧ WhB d ∧ (∃ Tp, Knd L pv Tp) ∧ okPrice pv = false)
/-- a row as it is given: one that can be, or none -/
def RowIs (K : PySem.W.Frag) (Y : ShPar) (L : Lg) (v : V) : Option RwD → Prop
  | none => BadRow K Y L v
  | some (z, d, p) => isNameS z = true ∧ WhB d ∧ p ≤ 1000000000000 ∧ ∃ t wv, v = .ref t ∧ (t, HO.tup [.str z, wv, .int (p : Nat)]) ∈ L ∧ WhAt K Y L wv d
theorem rowMono {K : PySem.W.Frag} {Y : ShPar} : RepMono (RowIs K Y) := fun L M v r s h => by
  cases r with
  | none =>
    rcases h with ⟨T, k, e⟩ | ⟨t, xs, e, m, n⟩ | ⟨t, nm, wv, pv, T, e, m, k, hz, r⟩
    · exact .inl ⟨T, k.sub s, e⟩
    · exact .inr (.inl ⟨t, xs, e, s _ m, n⟩)
    · refine .inr (.inr ⟨t, nm, wv, pv, T, e, s _ m, k.sub s, hz, fun q => ?_⟩)
      rcases r q with ⟨Tw, kw, e2⟩ | ⟨d, wa, wb, ⟨Tp, kp⟩, e3⟩
      · exact .inl ⟨Tw, kw.sub s, e2⟩
      · exact .inr ⟨d, whMono _ _ _ _ s wa, wb, ⟨Tp, kp.sub s⟩, e3⟩
  | some r =>
    obtain ⟨z, d, p⟩ := r
    obtain ⟨h1, h2, h3, t, wv, e, m, wa⟩ := h
    exact ⟨h1, h2, h3, t, wv, e, s _ m, whMono _ _ _ _ s wa⟩
/-- one row put on a shelf's rows -/
def stepS (S : List RwD) : Option RwD → Option (List RwD)
  | none => none
  | some e => if fullS S e.1 = true then none else some (putS S e)
/-- rows put one by one: the index of the first one that cannot be, or what stands then -/
def putsS : List (Option RwD) → List RwD → Nat → Nat ⊕ List RwD
  | [], S, _ => .inr S
  | r :: rs, S, i => match stepS S r with
    | none => .inl i
    | some S' => putsS rs S' (i + 1)
theorem okPrice_nat {p : Nat} (h : p ≤ 1000000000000) : okPrice (.int (p : Nat)) = true := by
  show (decide ((0 : Int) ≤ (p : Int)) && decide ((p : Int) ≤ 1000000000000)) = true
  rw [decide_eq_true (by omega), decide_eq_true (by omega)]
  rfl
theorem name_len {z : Str} (h : isNameS z = true) : z.length ≤ 1000000 := by
  unfold isNameS at h
  rw [Bool.and_eq_true, decide_eq_true_eq] at h
  omega
/-- what with_row makes of a row -/
theorem row_with {K : PySem.W.Frag} {Y : ShPar} {Cs Ct : Addr} {L : Lg} {S : List RwD} {v : V} {r : Option RwD} {Q : QV} {E : XL} (so : SOk S) (h : RowIs K Y L v r) (e0 : stepS S r = none → ∀ C fs, (C = Cs ∨ C = Ct) → telX C fs E L) (q0 : ∀ S', stepS S r = some S' → ∀ q M, Sub L M → RowsAt K Y M q S' → Q q M) :
    (∃ t nm wv pv, v = .ref t ∧ (t, HO.tup [nm, wv, pv]) ∈ L ∧ WithD K Y Cs Ct L S nm wv pv Q E) ∨ (((∃ T, Knd L v T ∧ kitB T "tuple" = some false) ∨ ∃ t xs, v = .ref t ∧ (t, HO.tup xs) ∈ L ∧ xs.length ≠ 3) ∧ telX Cs [("part", .str "row")] E L) := by
  cases r with
  | none =>
    have e1 : ∀ fs, telX Cs fs E L := fun fs => e0 rfl Cs fs (.inl rfl)
    rcases h with h | h | ⟨t, nm, wv, pv, T, e, m, k, hz, r⟩
    · exact .inr ⟨.inl h, e1 _⟩
    · exact .inr ⟨.inr h, e1 _⟩
    · refine .inl ⟨t, nm, wv, pv, e, m, ⟨T, k⟩, hz, fun _ => e1 _, fun z ez hn => ?_⟩
      subst ez
      rcases r hn with ⟨Tw, kw, e2⟩ | ⟨d, wa, wb, kp, e3⟩
      · exact .inl ⟨Tw, kw, e2, e1 _⟩
      · refine .inr ⟨d, wa, wb, kp, fun _ => e1 _, fun p hp hl => ?_⟩
        subst hp
        rw [okPrice_nat hl] at e3
        cases e3
  | some e =>
    obtain ⟨z, d, p⟩ := e
    obtain ⟨h1, h2, h3, t, wv, ev, m, wa⟩ := id h
    refine .inl ⟨t, .str z, wv, .int (p : Nat), ev, m, ⟨_, .str⟩, fun y ey => ?_, fun n => ?_, fun y ey hn => .inr ⟨d, wa, h2, ⟨_, .int⟩, fun n => ?_, fun p' hp hl => ?_⟩⟩
    · cases ey
      exact name_len h1
    · rw [show nameV (.str z) = isNameS z from rfl, h1] at n
      cases n
    · rw [okPrice_nat h3] at n
      cases n
    · cases ey
      have ep : p' = p := by
        have := V.int.inj hp
        omega
      subst ep
      refine ⟨fun hf => e0 (by show (if fullS S z = true then none else _) = _; rw [if_pos hf]) Ct _ (.inr rfl), fun hf => q0 _ ?_⟩
      show (if fullS S z = true then none else _) = _
      rw [if_neg (by rw [hf]; exact Bool.false_ne_true)]
def spStock (K : PySem.W.Frag) (Y : ShPar) (Cd : Addr) : SpL := fun vs L Q E => ∃ (sh dx pl tp : Addr) (rv nv fv : V) (tz pz : List V) (R : Lg) (S : List RwD) (rs : List (Option RwD)), vs = [.ref sh, .ref tp] ∧ Sub ((sh, shO Y.CS dx rv nv (.ref pl) fv) :: R) L ∧ ShC K Y.CS ∧ (tp, HO.tup tz) ∈ R ∧
  Reps (RowIs K Y R) tz rs ∧ RowsAt K Y R rv S ∧ (pl, HO.lst pz) ∈ R ∧ pz.length ≤ 100000 ∧ rs.length ≤ 1000 ∧
  (∀ i, putsS rs S 0 = .inl i → telX Cd [("at", .int (i : Nat))] E ((sh, shO Y.CS dx rv nv (.ref pl) fv) :: R)) ∧
  (∀ S', putsS rs S 0 = .inr S' → ∀ v nl ys p2 f2 M N, ys.Perm (S'.map (·.1)) → sortedS ys = true → Sub R N → RowsAt K Y N v S' → Sub ((sh, shO Y.CS dx v (.ref nl) (.ref p2) (.ref f2)) :: (nl, HO.lst (ys.map V.str)) :: (f2, HO.lst []) :: (p2, HO.lst (pz ++ [rv])) :: N) M → Q .non M)
/-- all but one address -/
def awayL (M : Lg) (sh : Addr) : Lg := M.filter fun e => decide (e.1 ≠ sh)
theorem away_mem {M : Lg} {sh x : Addr} {o : HO} (m : (x, o) ∈ M) (n : x ≠ sh) : (x, o) ∈ awayL M sh := List.mem_filter.mpr ⟨m, decide_eq_true n⟩
theorem nodup_eq {M : Lg} (nd : (M.map (·.1)).Nodup) {x : Addr} {o u : HO} (m1 : (x, o) ∈ M) (m2 : (x, u) ∈ M) : o = u := by
  induction M with
  | nil => cases m1
  | cons e M ih =>
    rw [List.map_cons, List.nodup_cons] at nd
    rcases List.mem_cons.mp m1 with z1 | z1 <;> rcases List.mem_cons.mp m2 with z2 | z2
    · have := z1.trans z2.symm
      injection this
    · exfalso
      exact nd.1 (List.mem_map.mpr ⟨_, z2, by rw [← z1]⟩)
    · exfalso
      exact nd.1 (List.mem_map.mpr ⟨_, z1, by rw [← z2]⟩)
    · exact ih nd.2 z1 z2
theorem away_ne {M : Lg} {sh x : Addr} {o u : HO} (nd : (M.map (·.1)).Nodup) (ms : (sh, u) ∈ M) (m : (x, o) ∈ M) (n : o ≠ u) : x ≠ sh := fun z => by
  subst z
  exact n (nodup_eq nd m ms)
theorem away_sub {M : Lg} {sh : Addr} {u : HO} (ms : (sh, u) ∈ M) : Sub ((sh, u) :: awayL M sh) M := ⟨fun nd => by
  refine ⟨List.nodup_cons.mpr ⟨fun m => ?_, nd.sublist (List.Sublist.map _ List.filter_sublist)⟩, fun e he => ?_⟩
  · obtain ⟨e, he, z⟩ := List.mem_map.mp m
    exact of_decide_eq_true (List.mem_filter.mp he).2 z
  · rcases List.mem_cons.mp he with rfl | he
    · exact ms
    · exact (List.mem_filter.mp he).1⟩
theorem sh_ne_wh {C dx C' dx' : Addr} {p b h r n q f : V} : wO C dx p b h ≠ shO C' dx' r n q f := fun z => by
  injection z with _ _ z3
  injection z3 with z4 _
  injection z4 with z5 _
  exact absurd z5 (by decide)
theorem rows_away {K : PySem.W.Frag} {Y : ShPar} {M : Lg} {sh : Addr} {C dx : Addr} {r n q f v : V} {S : List RwD} (nd : (M.map (·.1)).Nodup) (ms : (sh, shO C dx r n q f) ∈ M) (ra : RowsAt K Y M v S) : RowsAt K Y (awayL M sh) v S := by
  obtain ⟨a, od, kvs, rfl, ma, pr, so⟩ := ra
  refine ⟨a, od, kvs, rfl, away_mem ma (away_ne nd ms ma (fun z => nomatch z)), Paired.mono (fun kv e h => ?_) pr, so⟩
  obtain ⟨h1, t, wv, h2, h3, x, C', dx', h4, h5, h6⟩ := h
  exact ⟨h1, t, wv, h2, away_mem h3 (away_ne nd ms h3 (fun z => nomatch z)), x, C', dx', h4, away_mem h5 (away_ne nd ms h5 sh_ne_wh), h6⟩
theorem sub_away {N M : Lg} {sh : Addr} {u : HO} (nd : (M.map (·.1)).Nodup) (s : Sub ((sh, u) :: N) M) : Sub N (awayL M sh) := ⟨fun _ => by
  obtain ⟨h1, h2⟩ := s.to nd
  rw [List.map_cons, List.nodup_cons] at h1
  refine ⟨h1.2, fun e he => List.mem_filter.mpr ⟨h2 e (List.mem_cons_of_mem _ he), decide_eq_true fun z => h1.1 ?_⟩⟩
  rw [← z]
  exact List.mem_map.mpr ⟨e, he, rfl⟩⟩
theorem gssNd {X : Cx} {st : List Stmt} {D : GD} {η : En} {L : Lg} (h : (L.map (·.1)).Nodup → GSs X st D η L) : GSs X st D η L := fun hN H hH => h hH.1 hN H hH
section
variable {P : Program} {w : World} {K : PySem.W.Frag} {mg : Str → Option Value} {base : Heap} {Y : ShPar} {Cs Ct Cd Cr gG : Addr}
theorem body_Shelf_stock (B : Bi mg) (D1 : Fn P w K mg base (L2N.CX P w) "with_row" 4 (spWithRow K Y Cs Ct)) (RG : RunG P w K mg base CX0 3 gG argsP (toSp (spGo K Y))) (me : Meth K Y.CS "go" gG) (T1 : ErrT P w K mg base "BadShelf" Cs ["part"]) (T2 : ErrT P w K mg base "TooMany" Ct ["what", "most"]) (TH : ErrH P w K mg base "BadDeed" Cd ["at"])
    (gR : mg "ReachError" = some (.ref Cr)) (x1 : PySem.W.exmOne K (.ref Cs) (.ref Cr) = some true) (x2 : PySem.W.exmOne K (.ref Ct) (.ref Cr) = some true) : BodyX P w K mg base N_Shelf_stock "Shelf.stock" s_Shelf_stock 5 (spStock K Y Cd) := by
  intro X f cdv A outer s H E0 L vs Q E hX nd hr tk h
  subst hX
  obtain ⟨sh, dx, pl, tp, rv, nv, fv, tz, pz, R, S, rs, rfl, sb, sc, mt, rp, ra, mp, lp, l1, e0, q0⟩ := h
  refine GSs.sub sb ?_
  have lt := rp.len
  have ox1 : ∃ C, (Value.ref Cs) = .ref C ∧ OexC K C := by
    obtain ⟨fI, fd, G, -⟩ := T1.ck.ex
    exact ⟨Cs, rfl, G.T⟩
  have ox2 : ∃ C, (Value.ref Ct) = .ref C ∧ OexC K C := by
    obtain ⟨fI, fd, G, -⟩ := T2.ck.ex
    exact ⟨Ct, rfl, G.T⟩
  show GSs _ (defBody s_Shelf_stock) (bodyD Q) [("self", some (.ref sh)), ("rows", some (.ref tp)), ("state", none), ("at", none), ("row", none), ("why", none)] _
  refine gss_cons ?_
  tm_at "g"
  refine gat_fld sc.c sc.n1 mem0 rfl ?_
  tm_at "g"
  refine gs_for (gi_enumT ?_ B.enumerate)
  tm_at "g"
  refine ⟨fun i θ M => ∃ v Si u1 u2 N, θ = ([("self", some (.ref sh)), ("rows", some (.ref tp)), ("state", some v), ("at", u1), ("row", u2), ("why", none)] : En) ∧ Sub ((sh, shO Y.CS dx rv nv (.ref pl) fv) :: N) M ∧ Sub R N ∧ RowsAt K Y N v Si ∧ putsS rs S 0 = putsS (rs.drop i) Si i,
    ⟨rv, S, none, none, R, rfl, Sub.refl, Sub.refl, ra, rfl⟩, fun i θ M _ nd ⟨_, _, _, _, N, _, sb1, sb2, _⟩ => ?_, ?_, ?_⟩
  · have h1 := sb1.to nd
    exact h1.2 _ (memS ((sb2.to (List.nodup_cons.mp h1.1).2).2 _ mt))
  · rintro i x E1 θ M hi ⟨t, a, b, rfl, rfl, ea, eb⟩ ⟨v, Si, u1, u2, N, rfl, sb1, sb2, rai, er⟩
    cases ea
    replace eb : tz[i]? = some b := eb
    replace hi : i < tz.length := hi
    obtain ⟨r, hr1, ri⟩ : ∃ r, rs[i]? = some r ∧ RowIs K Y R b r := by
      obtain ⟨r, h1, h2⟩ := rp.get eb
      exact ⟨r, h1, h2⟩
    refine GG.nd fun nd0 => ?_
    have nd1 : (((sh, shO Y.CS dx rv nv (.ref pl) fv) :: N).map (·.1)).Nodup := (sb1.to (List.nodup_cons.mp nd0).2).1
    have ndN : (N.map (·.1)).Nodup := (List.nodup_cons.mp nd1).2
    have inN := (sb2.to ndN).2
    refine GG.sub (Sub.cons sb1) ?_
    refine gg_tup mem0 ?_
    tm_at "g"
    refine gs_try_from (x := "ReachError") (c := .ref Cr) (n := "why") ⟨rfl, rfl, .inl gR⟩ tk (fun hd => L2H.passesAt_of rfl hd) (fun X' pn xe hX hp hn' tk' => ?_) (show _ ∈ N_Shelf_stock by decide)
    subst hX
    refine gss_cons ?_
    tm_at "g"
    refine ge_callXN D1 hr tk' ?_
    tm_at "g"
    have so : SOk Si := by
      obtain ⟨_, _, _, _, _, _, so⟩ := rai
      exact so
    have ed : rs.drop i = r :: rs.drop (i + 1) := by
      have hi' : i < rs.length := (List.getElem?_eq_some_iff.mp hr1).1
      rw [List.drop_eq_getElem_cons hi']
      rw [List.getElem?_eq_getElem hi'] at hr1
      rw [Option.some.inj hr1]
    refine ⟨v, b, Si, rfl, rowsMono _ _ _ _ (fun _ h => memS (memS h)) rai, row_with so (rowMono _ _ _ _ (fun e h => memS (memS (inN e h))) ri) (fun hs C fs hC d M s => ⟨?_, ?_, fun X2 a pn hX2 hot => ?_⟩) (fun S' hs q M sm ram => ?_)⟩
    · rcases hC with rfl | rfl
      · exact x1
      · exact x2
    · rcases hC with rfl | rfl
      · exact ox1
      · exact ox2
    · subst hX2
      refine ⟨_, by tm_at "g_pv", gmk_errH TH (L2H.roomH_mark hr.toRoom _) hot ?_ (by decide)⟩
      tm_at "g"
      have ei : putsS rs S 0 = .inl i := by
        rw [er, ed]
        show (match stepS Si r with | none => Sum.inl i | some S' => putsS _ S' (i + 1)) = _
        rw [hs]
      refine ⟨rfl, fun d2 => ⟨_, Sub.refl, e0 i ei d2 _ (Sub.cons ?_)⟩⟩
      exact Sub.trans (Sub.cons sb2) (Sub.trans Sub.drop (Sub.trans Sub.drop s))
    · refine gssNd fun ndM => ?_
      tm_at "g"
      have ms : (sh, shO Y.CS dx rv nv (.ref pl) fv) ∈ M := (sm.to ndM).2 _ (memS mem0)
      have sN : Sub ((sh, shO Y.CS dx rv nv (.ref pl) fv) :: N) M := Sub.trans Sub.drop sm
      refine ⟨q, S', _, _, awayL M sh, rfl, away_sub ms, Sub.trans sb2 (sub_away ndM sN), rows_away ndM ms ram, ?_⟩
      rw [er, ed]
      show (match stepS Si r with | none => Sum.inl i | some S' => putsS _ S' (i + 1)) = _
      rw [hs]
  · rintro θ M ⟨v, Si, u1, u2, N, rfl, sb1, sb2, rai, er⟩
    have ei : putsS rs S 0 = .inr Si := by
      rw [er, List.drop_eq_nil_of_le (by show rs.length ≤ tz.length; omega)]
      rfl
    refine GSs.sub sb1 ?_
    refine gssNd fun nd2 => ?_
    have inN := (sb2.to (List.nodup_cons.mp nd2).2).2
    tm_at "g"
    refine ge_meth (El := NoX) RG me sc.c hr passA ?_
    tm_at "g"
    refine ⟨sh, dx, _, rfl, mem0, rfl, ?_⟩
    tm_at "g"
    refine ⟨sh, dx, pl, rv, nv, fv, v, pz, N, Si, rfl, Sub.refl, sc, rai, inN _ mp, lp, fun nl ys p2 f2 M2 pm st s2 => ?_⟩
    tm_at "g"
    exact ⟨_, Sub.refl, q0 Si ei v nl ys p2 f2 _ N pm st sb2 rai s2⟩
end
def spShelfInit (K : PySem.W.Frag) (Y : ShPar) : SpL := fun vs L Q _ => ∃ (a dx : Addr) (R : Lg), vs = [.ref a] ∧ Sub ((a, HO.ins Y.CS dx []) :: R) L ∧ ShC K Y.CS ∧
  ∀ ra od nl pl fl M, Sub ((a, shO Y.CS dx (.ref ra) (.ref nl) (.ref pl) (.ref fl)) :: (fl, HO.lst []) :: (pl, HO.lst []) :: (nl, HO.lst []) :: (ra, dO od []) :: R) M → Q .non M
def spShelfIter (K : PySem.W.Frag) (Y : ShPar) (n : Nat) : SpL := spIterL n fun a t xs L => ∃ dx rv pv fv, (a, shO Y.CS dx rv (.ref t) pv fv) ∈ L ∧ ShC K Y.CS
def spShelfGet (K : PySem.W.Frag) (Y : ShPar) : SpL := fun vs L Q _ => ∃ (sh dx : Addr) (rv nv pv fv : V) (S : List RwD) (e : RwD), vs = [.ref sh, .str e.1] ∧ (sh, shO Y.CS dx rv nv pv fv) ∈ L ∧ ShC K Y.CS ∧ RowsAt K Y L rv S ∧ e ∈ S ∧ ∀ t wv, (t, HO.tup [wv, .int (e.2.2 : Nat)]) ∈ L → WhAt K Y L wv e.2.1 → Q (.ref t) L
theorem rows_get {K : PySem.W.Frag} {Y : ShPar} {L : Lg} {e : RwD} : ∀ {kvs : List (Key × V)} {S : List RwD}, Paired (RowF K Y L) kvs S → (S.map (·.1)).Nodup → e ∈ S → ∃ t wv, valV kvs (.inr e.1) = some (.ref t) ∧ (t, HO.tup [wv, .int (e.2.2 : Nat)]) ∈ L ∧ WhAt K Y L wv e.2.1
  | _, _, .nil, _, h => by cases h
  | kv :: kvs, x :: S, .cons h t, nd, he => by
    rw [List.map_cons, List.nodup_cons] at nd
    rcases List.mem_cons.mp he with z | he
    · subst z
      obtain ⟨h1, t2, wv, h2, h3, h4⟩ := h
      exact ⟨t2, wv, by rw [valV_pos h1, h2], h3, h4⟩
    · obtain ⟨t2, wv, h2, h3, h4⟩ := rows_get t nd.2 he
      refine ⟨t2, wv, ?_, h3, h4⟩
      rw [valV_neg]
      · exact h2
      · rw [h.1]
        intro z
        have := Sum.inr.inj z
        exact nd.1 (List.mem_map.mpr ⟨e, he, this.symm⟩)
section
variable {P : Program} {w : World} {K : PySem.W.Frag} {mg : Str → Option Value} {base : Heap} {Y : ShPar} {Cs Ct gS : Addr}
theorem run_Shelf_init {f : Addr} {fd : FuncData} (F : Fun K "__init__" "Shelf.__init__" s_Shelf_init f fd) : RunG P w K mg base CX0 1 f argsP (toSp (spShelfInit K Y)) := by
  refine run_plain F sc_Shelf_init argsP id id (fun _ _ r => r) (fun _ _ _ _ _ _ us hl => match us, hl with | [_], _ => rfl) (by decide) (by tm_at "g_len") ?_
  intro X f cdv A outer s H E0 L vs Q E hX nd hr h
  subst hX
  obtain ⟨a, dx, R, rfl, sb, sc, q⟩ := h
  refine GSs.sub sb ?_
  show GSs _ (defBody s_Shelf_init) (bodyD Q) [("self", some (.ref a))] _
  refine gss_cons ?_
  tm_at "g"
  rename_i ra
  refine ⟨a, _, dx, _, (ra, HO.dK []) :: (a, HO.ins Y.CS dx [("own_rows", .ref ra)]) :: R, rfl, memS mem0, sc.c, sc.n1, by show 0 < 1000; decide, .there .here, ?_⟩
  tm_at "g"
  rename_i nl
  refine ⟨a, _, dx, _, (nl, HO.lst []) :: (ra, HO.dK []) :: (a, HO.ins Y.CS dx [("own_rows", .ref ra), ("own_names", .ref nl)]) :: R, rfl, memS (memS mem0), sc.c, sc.n2, by show 1 < 1000; decide, .there (.there .here), ?_⟩
  tm_at "g"
  rename_i pl
  refine ⟨a, _, dx, _, (pl, HO.lst []) :: (nl, HO.lst []) :: (ra, HO.dK []) :: (a, HO.ins Y.CS dx [("own_rows", .ref ra), ("own_names", .ref nl), ("own_past", .ref pl)]) :: R, rfl, memS (memS (memS mem0)), sc.c, sc.n3, by show 2 < 1000; decide, .there (.there (.there .here)), ?_⟩
  tm_at "g"
  rename_i fl
  refine ⟨a, _, dx, _, (fl, HO.lst []) :: (pl, HO.lst []) :: (nl, HO.lst []) :: (ra, HO.dK []) :: (a, shO Y.CS dx (.ref ra) (.ref nl) (.ref pl) (.ref fl)) :: R, rfl, memS (memS (memS (memS mem0))), sc.c, sc.n4, by show 3 < 1000; decide, .there (.there (.there (.there .here))), ?_⟩
  refine gss_lock (a := ra) (kvs := []) (M := fun od => (fl, HO.lst []) :: (pl, HO.lst []) :: (nl, HO.lst []) :: (ra, dO od []) :: (a, shO Y.CS dx (.ref ra) (.ref nl) (.ref pl) (.ref fl)) :: R) (memS (memS (memS mem0))) (fun od => .there (.there (.there .here))) fun od => ?_
  tm_at "g"
  exact ⟨_, Sub.refl, q ra od nl pl fl _ (sub_mid (A := [(fl, _), (pl, _), (nl, _), (ra, _)]))⟩
theorem run_Shelf_iter (B : Bi mg) (n : Nat) {f : Addr} {fd : FuncData} (F : Fun K "__iter__" "Shelf.__iter__" s_Shelf_iter f fd) : RunN n P w K mg base CX0 1 f argsP (toSp (spShelfIter K Y n)) := by
  refine run_plainN F sc_Shelf_iter (fun _ _ _ _ _ _ us hl => match us, hl with | [_], _ => rfl) (by decide) (by tm_at "g_len") ?_
  intro X f cdv A outer s H E0 L vs Q E hX hn nd hr h
  subst hX
  obtain ⟨a, t, xs, rfl, ⟨dx, rv, pv, fv, ms, sc⟩, mt, q⟩ := h
  show GSs _ (defBody s_Shelf_iter) (bodyD Q) [("self", some (.ref a))] L
  refine gss_cons ?_
  tm_at "g"
  refine ge_B B.iter bt_iter ?_
  tm_at "g"
  refine gat_fld (n := ("own_names" : Str)) (v := .ref t) sc.c sc.n2 ms rfl ?_
  tm_at "g"
  refine gc_iterL mt fun it hit => ?_
  exact ⟨_, Sub.refl, q it (Nat.le_trans hn hit)⟩
theorem run_Shelf_getitem (B : Bi mg) {f : Addr} {fd : FuncData} (F : Fun K "__getitem__" "Shelf.__getitem__" s_Shelf_getitem f fd) : RunG P w K mg base CX0 2 f argsP (toSp (spShelfGet K Y)) := by
  refine run_plain F sc_Shelf_getitem argsP id id (fun _ _ r => r) (fun _ _ _ _ _ _ us hl => match us, hl with | [_, _], _ => rfl) (by decide) (by tm_at "g_len") ?_
  intro X f cdv A outer s H E0 L vs Q E hX nd hr h
  subst hX
  obtain ⟨sh, dx, rv, nv, pv, fv, S, e, rfl, ms, sc, ra, he, q⟩ := h
  obtain ⟨a, od, kvs, rfl, ma, pr, so⟩ := id ra
  obtain ⟨t, wv, hv, mt, wa⟩ := rows_get pr so.1 he
  show GSs _ (defBody s_Shelf_getitem) (bodyD Q) [("self", some (.ref sh)), ("name", some (.str e.1))] L
  refine gss_cons ?_
  tm_at "g"
  refine gc_isK (b := true) .str (by decide +kernel) ?_
  tm_at "g"
  refine gat_fld sc.c sc.n1 ms rfl ?_
  refine go_notInD (k := .inr e.1) hr ma ?_
  rw [hv]
  refine ⟨false, rfl, ?_⟩
  tm_at "g"
  refine gat_fld (n := ("own_rows" : Str)) (v := .ref a) sc.c sc.n1 ms rfl ?_
  tm_at "g"
  refine gi_dict (k := .inr e.1) hr ma hv ?_
  tm_at "g"
  exact ⟨_, Sub.refl, q t wv mt wa⟩
end
namespace Tx
open PySem NumText L2 TL
theorem len_cps (z : Str) : z.length = z.cps.toList.length := by simp [Str.length]
end Tx
section
open Tx
def spPickS : SpL := fun vs L Q _ => ∃ (p c : Addr) (z : Str) (ns : List Int) (n m : Int) (R : Lg), vs = [.ref p, .str z] ∧ Sub ((p, penO c n m) :: (c, celO ns) :: R) L ∧ ns.length ≤ 63 ∧ 0 < z.length ∧ z.length < 1000 ∧ 0 ≤ n ∧ n ≤ 100000 ∧ 0 ≤ m ∧
  ∀ (x : Nat) n' m', x ∈ z.cps.toList → 0 ≤ n' → n' ≤ n + 1 → 0 ≤ m' → Q (.str ⟨#[x]⟩) ((p, penO c n' m') :: (c, celO ns) :: R)
section
variable {P : Program} {w : World} {K : PySem.W.Frag} {mg : Str → Option Value} {base : Heap}
theorem fn_law_pickS (B : Bi mg) (F : Df K mg "_law_pick" s_law_pick) (D1 : Fn P w K mg base CX0 "_law_draw" 1 spDraw) : Fn P w K mg base CX0 "_law_pick" 2 spPickS := by
  refine fn_plain F sc_law_pick (fun _ _ _ _ _ _ us hl => match us, hl with | [_, _], _ => rfl) (by decide) (by tm_at "g_len") ?_
  intro X f cdv A outer s H E0 L vs Q E hX nd hr h
  subst hX
  obtain ⟨p, c, z, ns, n, m, R, rfl, sb, h63, l0, l1, n0, n1, m0, qq⟩ := h
  refine GSs.sub sb ?_
  show GSs _ (defBody s_law_pick) (bodyD Q) [("_law_pen_here", some (.ref p)), ("_law_some", some (.str z))] _
  refine gss_cons ?_
  have zl : z.length ≤ sizeLine := szL (by omega)
  tm_at "g"
  refine ge_call (El := NoX) D1 hr passA ?_
  tm_at "g"
  refine gc_lenS zl ?_
  tm_at "g"
  refine ⟨p, c, ns, n, m, z.length, R, rfl, Sub.refl, h63, by omega, by omega, n0, n1, m0, fun d n' m' d0 d1 a0 a1 a2 => ?_⟩
  obtain ⟨k, rfl⟩ : ∃ k : Nat, d = (k : Int) := ⟨d.toNat, by omega⟩
  have hk : k < z.cps.toList.length := by rw [← len_cps]; omega
  refine gi_sx zl (atI_nat (v := z.cps.toList[k]) (List.getElem?_eq_getElem hk)) ?_
  tm_at "g"
  exact ⟨_, Sub.refl, qq _ n' m' (List.getElem_mem hk) a0 a1 a2⟩
def spName : SpL := fun vs L Q _ => ∃ (p c : Addr) (ns : List Int) (n m : Int) (R : Lg), vs = [.ref p] ∧ Sub ((p, penO c n m) :: (c, celO ns) :: R) L ∧ ns.length ≤ 63 ∧ 0 ≤ n ∧ n + 10 ≤ 100000 ∧ 0 ≤ m ∧
  ∀ z n' m', isNameS z = true → 0 ≤ n' → n' ≤ n + 5 → 0 ≤ m' → Q (.str z) ((p, penO c n' m') :: (c, celO ns) :: R)
/-- letters, few of them -/
def LetS (k : Nat) (z : Str) : Prop := z.length = k ∧ z.cps.toList.all isLet = true
theorem LetS.name {k : Nat} {z : Str} (h : LetS k z) (h1 : 1 ≤ k) (h8 : k ≤ 8) : isNameS z = true := by
  unfold isNameS
  rw [decide_eq_true (by rw [h.1]; omega), h.2]
  rfl
theorem LetS.cat {j k : Nat} {x y : Str} (a : LetS j x) (b : LetS k y) : LetS (j + k) (x ++ y) := by
  obtain ⟨a1, a2⟩ := a
  obtain ⟨b1, b2⟩ := b
  have e : (x ++ y).cps.toList = x.cps.toList ++ y.cps.toList := by
    show (x.cps ++ y.cps).toList = _
    simp
  refine ⟨?_, by rw [e, List.all_append, a2, b2]; rfl⟩
  rw [len_cps, e, List.length_append, ← len_cps, ← len_cps, a1, b1]
end
theorem join_let : ∀ {ys : List Str}, (∀ y ∈ ys, LetS 1 y) → LetS ys.length (Str.join (Str.ofString "") ys)
  | [], _ => ⟨rfl, rfl⟩
  | [x], h => h x List.mem_cons_self
  | x :: y :: r, h => by
    have ih := join_let (ys := y :: r) fun z hz => h z (List.mem_cons_of_mem _ hz)
    have e0 : LetS 0 (Str.ofString "") := ⟨rfl, rfl⟩
    have := ((h x List.mem_cons_self).cat e0).cat ih
    show LetS (r.length + 1 + 1) (x ++ Str.ofString "" ++ Str.join (Str.ofString "") (y :: r))
    have e : 1 + 0 + (y :: r).length = r.length + 1 + 1 := by rw [List.length_cons]; omega
    rw [← e]
    exact this
theorem letS_sum : ∀ {ys : List Str}, (∀ y ∈ ys, LetS 1 y) → (ys.map (·.length)).sum = ys.length
  | [], _ => rfl
  | y :: ys, h => by
    rw [List.map_cons, List.sum_cons, letS_sum fun z hz => h z (List.mem_cons_of_mem _ hz), (h y List.mem_cons_self).1, List.length_cons, Nat.add_comm]
def LetRep (_ : Lg) (v : V) (y : Str) : Prop := v = .str y ∧ LetS 1 y
theorem letMono : RepMono LetRep := fun _ _ _ _ _ h => h
theorem let_abc {x : Nat} (h : x ∈ (Str.ofString "abcdefghijklmnopqrstuvwxyz").cps.toList) : LetS 1 ⟨#[x]⟩ := by
  refine ⟨rfl, ?_⟩
  show ([x] : List Nat).all isLet = true
  rw [List.all_cons, List.all_nil, Bool.and_true]
  exact decide_eq_true h
theorem let_reps {L : Lg} : ∀ {zs : List V} {ys : List Str}, Reps (LetRep L) zs ys → zs = ys.map V.str ∧ ∀ y ∈ ys, LetS 1 y
  | _, _, .nil => ⟨rfl, fun _ h => by cases h⟩
  | _, _, .cons h t => by
    obtain ⟨e, a⟩ := let_reps t
    obtain ⟨e1, a1⟩ := h
    refine ⟨by rw [e1, e]; rfl, fun y hy => ?_⟩
    rcases List.mem_cons.mp hy with rfl | hy
    · exact a1
    · exact a y hy
section
variable {P : Program} {w : World} {K : PySem.W.Frag} {mg : Str → Option Value} {base : Heap}
theorem fn_law_name (B : Bi mg) (F : Df K mg "_law_name" s_law_name) (D1 : Fn P w K mg base CX0 "_law_draw" 1 spDraw) (D2 : Fn P w K mg base CX0 "_law_pick" 2 spPick) (D3 : Fn P w K mg base CX0 "_law_pick" 2 spPickS) : Fn P w K mg base CX0 "_law_name" 3 spName := by
  refine fn_plain F sc_law_name (fun _ _ _ _ _ _ us hl => match us, hl with | [_], _ => rfl) (by decide) (by tm_at "g_len") ?_
  intro X f cdv A outer s H E0 L vs Q E hX nd hr h
  subst hX
  obtain ⟨p, c, ns, n, m, R, rfl, sb, h63, n0, n1, m0, q⟩ := h
  refine (fun h => GSs.sub sb h) ?_
  show GSs _ (defBody s_law_name) (bodyD Q) [("_law_pen_here", some (.ref p)), ("_law_word", none), ("_law_lap", none)] _
  refine gssNd fun nd0 => ?_
  have ndR : (R.map (·.1)).Nodup := (List.nodup_cons.mp (List.nodup_cons.mp nd0).2).2
  refine gss_cons ?_
  refine gs_set (by tm_at "g_put") ?_
  refine ge_join ?_
  tm_at "g"
  refine GE.nd ?_
  refine GE.imp (Q := drp fun v M => ∃ (D : Addr) (ys : List Str) (n' m' : Int) (R2 : Lg), v = .ref D ∧ M = (D, HO.lst (ys.map V.str)) :: (p, penO c n' m') :: (c, celO ns) :: R2 ∧ (∀ e ∈ R, e ∈ R2) ∧ (∀ y ∈ ys, LetS 1 y) ∧ 1 ≤ ys.length ∧ ys.length ≤ 3 ∧ 0 ≤ n' ∧ n' ≤ n + 4 ∧ 0 ≤ m') ?_ ?_
  · refine ge_lc1 (by tm_at "g_put") (gi_range1 ?_ B.range) (show blkC N_law_name (defScope s_law_name) _ [(_, List.idxOf _ N_law_name)] = true by decide +kernel)
    tm_at "g"
    tm_at "g_draw"
    intro d n2 m2 d0 d1 a0 a1 a2
    tm_at "g"
    refine ⟨by omega, fun D => ?_⟩
    refine lc_drawsR (Rep := LetRep) (k := 1) letMono (by omega) (by tm_at "g_rot") a0 a2 (by decide) (by omega) (fun i hi zs n3 m3 R' hR b0 b1 b2 s1 H1 C1 cl1 fp1 => ?_) fun zs ys R2 n3 m3 hl up rp b0 b1 b2 => ?_
    · tm_at "g"
      refine ge_call (El := NoX) D3 hr passA ?_
      tm_at "g"
      refine ⟨p, c, _, ns, n3, m3, _, rfl, by tm_at "g_rot", h63, by decide, by decide, b0, by omega, b2, fun x n4 m4 hx c0 c1 c2 => ?_⟩
      intro ndM
      exact ⟨⟨#[x]⟩, R', n4, m4, by first | exact Sub.refl | exact Sub.perm (List.perm_middle (l₁ := [_, _])) | exact Sub.perm (List.perm_middle (l₁ := [_, _])).symm, fun e he => he, ⟨rfl, let_abc hx⟩, c0, c1, c2⟩
    · obtain ⟨rfl, al⟩ := let_reps rp
      exact ⟨D, ys, n3, m3, R2, rfl, rfl, up, al, by omega, by omega, b0, by omega, b2⟩
  · rintro v M' ⟨M, sM, D, ys, n2, m2, R2, rfl, rfl, up, al, y1, y3, a0, a1, a2⟩ nd
    have inM := (sM.to nd).2
    refine ⟨D, ys, rfl, inM _ mem0, ?_, ?_⟩
    · rw [letS_sum al]
      show ys.length + ys.length * 0 ≤ _
      omega
    rw [TL.join_eq]
    have jl := join_let al
    generalize Str.join (Str.ofString "") ys = wd at jl ⊢
    have sR : Sub R R2 := ⟨fun _ => ⟨ndR, up⟩⟩
    refine (fun h => GSs.sub (Sub.trans (Sub.trans (Sub.cons (Sub.cons sR)) Sub.drop) sM) h) ?_
    tm_at "g"
    have wl : wd.length ≤ 3 := by rw [jl.1]; omega
    refine ge_call (El := NoX) D2 hr passA ?_
    tm_at "g"
    refine go_catS (szL (by show wd.length + 1 ≤ _; omega)) ?_
    tm_at "g"
    refine go_catS (szL (by show wd.length + 5 ≤ _; omega)) ?_
    tm_at "g"
    tm_at "g_pk"
    intro k x n4 m4 hk c0 c1 c2
    tm_at "g"
    have ok : ∃ z, x = .str z ∧ isNameS z = true := by
      have mm := List.mem_of_getElem? hk
      simp only [List.mem_cons, List.not_mem_nil, or_false] at mm
      rcases mm with rfl | rfl | rfl | rfl | rfl | rfl | rfl | rfl
      · exact ⟨_, rfl, jl.name y1 (by omega)⟩
      · exact ⟨_, rfl, by decide⟩
      · exact ⟨_, rfl, by decide⟩
      · exact ⟨_, rfl, by decide⟩
      · exact ⟨_, rfl, by decide⟩
      · exact ⟨_, rfl, by decide⟩
      · exact ⟨_, rfl, (jl.cat (k := 1) ⟨rfl, by decide⟩).name (by omega) (by omega)⟩
      · exact ⟨_, rfl, (jl.cat (k := 5) ⟨rfl, by decide⟩).name (by omega) (by omega)⟩
    obtain ⟨z, rfl, hz⟩ := ok
    exact ⟨_, by tm_at "g_end", q z n4 m4 hz c0 (by omega) c2⟩
end
end
def rowT (e : RwD) : Str × Str × Int := (e.1, wTx e.2.1.1 (e.2.1.2.1 : Nat) (e.2.1.2.2.1 : Nat) (e.2.1.2.2.2 : Nat), (e.2.2 : Nat))
def rowAt (S : List RwD) (y : Str) : Str × Str × Int := ((S.find? fun e => decide (e.1 = y)).map rowT).getD (⟨#[]⟩, ⟨#[]⟩, 0)
theorem rowAt_mem {S : List RwD} {y : Str} (h : y ∈ S.map (·.1)) : ∃ e ∈ S, e.1 = y ∧ rowAt S y = rowT e := by
  obtain ⟨e0, h0, rfl⟩ := List.mem_map.mp h
  cases z : S.find? fun e => decide (e.1 = e0.1) with
  | none =>
    have := List.find?_eq_none.mp z e0 h0
    simp at this
  | some e =>
    refine ⟨e, List.mem_of_find?_eq_some z, by simpa using List.find?_some z, ?_⟩
    unfold rowAt
    rw [z]
    rfl
abbrev tsL (ts : List Ts3) : Lg := ts.map fun e => (e.1, tsO e.2)
theorem split_es : ∀ {es : Lg} {T : List (Str × Str × Int)}, es.map (·.2) = T.map tsO → ∃ ts : List Ts3, es = tsL ts ∧ ts.map (·.2) = T
  | [], [], _ => ⟨[], rfl, rfl⟩
  | [], _ :: _, h => by cases h
  | _ :: _, [], h => by cases h
  | e :: es, t :: T, h => by
    obtain ⟨h1, h2⟩ := List.cons.inj h
    obtain ⟨ts, rfl, rfl⟩ := split_es h2
    refine ⟨(e.1, t) :: ts, ?_, rfl⟩
    show e :: tsL ts = (e.1, tsO t) :: tsL ts
    rw [← h1]
theorem refs_ts {ts : List Ts3} : refs (tsL ts) = ts.map fun e => V.ref e.1 := by
  unfold refs tsL
  rw [List.map_map]
  rfl
theorem mem_ts {ts : List Ts3} {e : Ts3} (h : e ∈ ts) : (e.1, tsO e.2) ∈ tsL ts := List.mem_map.mpr ⟨e, h, rfl⟩
/-- a state as a list of triples -/
def StAt (L : Lg) (v : V) (T : List (Str × Str × Int)) : Prop := ∃ (q : Addr) (ts : List Ts3), v = .ref q ∧ (q, HO.lst (ts.map fun e : Ts3 => V.ref e.1)) ∈ L ∧ (∀ e ∈ ts, (e.1, tsO e.2) ∈ L) ∧ ts.map (·.2) = T
theorem st_at {L : Lg} {D : Addr} {ts : List Ts3} : StAt ((D, HO.lst (ts.map fun e => V.ref e.1)) :: (tsL ts ++ L)) (.ref D) (ts.map (·.2)) := ⟨D, ts, rfl, mem0, fun e he => memS (List.mem_append_left _ (mem_ts he)), rfl⟩
/-- what of a shelf is asked -/
def ShIn (K : PySem.W.Frag) (Y : ShPar) (L : Lg) (sh : Addr) (dx : Addr) (rv : V) (nl pl fl : Addr) (S : List RwD) (ys : List Str) : Prop := (sh, shO Y.CS dx rv (.ref nl) (.ref pl) (.ref fl)) ∈ L ∧ ShC K Y.CS ∧ RowsAt K Y L rv S ∧ (nl, HO.lst (ys.map V.str)) ∈ L ∧ ys.Perm (S.map (·.1)) ∧ sortedS ys = true
def spState (K : PySem.W.Frag) (Y : ShPar) : SpL := fun vs L Q _ => ∃ (sh dx nl pl fl : Addr) (rv : V) (S : List RwD) (ys : List Str), vs = [.ref sh] ∧ ShIn K Y L sh dx rv nl pl fl S ys ∧ ∀ (D : Addr) (ts : List Ts3), ts.map (·.2) = ys.map (rowAt S) → Q (.ref D) ((D, HO.lst (ts.map fun e => V.ref e.1)) :: (tsL ts ++ L))
section
variable {P : Program} {w : World} {K : PySem.W.Frag} {mg : Str → Option Value} {base : Heap} {Y : ShPar} {gI gG : Addr}
theorem fn_law_state (B : Bi mg) (F : Df K mg "_law_state" s_law_state) (RI : ∀ n, RunN n P w K mg base CX0 1 gI argsP (toSp (spShelfIter K Y n))) (hi : PySem.W.findIn K (.ref Y.CS) "__iter__" = some (some (.ref gI))) (fi : PySem.W.isFn K (.ref gI) = true)
    (oi : OwnItem K Y.CS gG) (RG : RunG P w K mg base CX0 2 gG argsP (toSp (spShelfGet K Y))) (RS : RunG P w K mg base CX0 3 Y.gS argsP (toSp (spWheelStr K Y.D Y.gT Y.gE Y.gS))) : Fn P w K mg base CX0 "_law_state" 6 (spState K Y) := by
  refine fn_plain F sc_law_state (fun _ _ _ _ _ _ us hl => match us, hl with | [_], _ => rfl) (by decide) (by tm_at "g_len") ?_
  intro X f cdv A outer s H E0 L vs Q E hX nd hr h
  subst hX
  obtain ⟨sh, dx, nl, pl, fl, rv, S, ys, rfl, ⟨ms, sc, ra, mn, pm, st⟩, q⟩ := h
  have so : SOk S := by
    obtain ⟨_, _, _, _, _, _, so⟩ := ra
    exact so
  have ly : ys.length ≤ 8 := by
    have := pm.length_eq
    rw [List.length_map] at this
    have := so.2.1
    omega
  show GSs _ (defBody s_law_state) (bodyD Q) [("_law_shelf", some (.ref sh)), ("_law_name_here", none)] L
  refine gss_cons ?_
  tm_at "g"
  refine ge_lcF (by tm_at "g_put") (gi_ownL RI hr hi fi ?_) (show blkC N_law_state (defScope s_law_state) _ [(_, List.idxOf _ N_law_state)] = true by decide +kernel)
  tm_at "g"
  refine ⟨sh, nl, dx, _, _, rfl, ms, mn, ⟨dx, rv, _, _, ms, sc⟩, ?_⟩
  refine fresh_list (p := fun _ => true) (pl := fun i => tsO (rowAt S (ys.getD i ⟨#[]⟩))) mn (by rw [List.length_map]; omega) (fun i v R hv hR s1 H1 C1 cl1 fp1 => ?_) fun D es he => ?_
  · rw [List.getElem?_map] at hv
    obtain ⟨y, hy, rfl⟩ := Option.map_eq_some_iff.mp hv
    have ey : ys.getD i ⟨#[]⟩ = y := by rw [List.getD_eq_getElem?_getD, hy]; rfl
    rw [ey]
    obtain ⟨e, he, rfl, re⟩ := rowAt_mem (pm.mem_iff.mp (List.mem_of_getElem? hy))
    rw [re]
    have wb := (so.2.2 e he).2.1
    refine gts_nil ⟨rfl, Sub.refl, fun _ s2 H2 C2 cl2 fp2 => ?_⟩
    refine G.St.to ?_
    refine ga_cons ?_
    refine ge_var (by tm_at "g_at") ?_
    refine ga_cons ?_
    refine G.StB.to (by assumption) ⟨rfl, rfl⟩ ?_
    refine ga_cons ?_
    refine ge_ix ?_
    refine ge_ixM (El := NoX) oi RG hr passA ?_
    tm_at "g"
    refine ⟨sh, dx, _, rfl, hR _ ms, ⟨sh, dx, rv, _, _, _, S, e, rfl, hR _ ms, sc, rowsMono _ _ _ _ hR ra, he, fun t wv mt wa => ?_⟩⟩
    tm_at "g"
    obtain ⟨x, C, dw, rfl, mx, wc⟩ := wa
    have sm : ∀ k : Nat, k ≤ 1000000000000 → ((k : Nat) : Int).natAbs < 2 ^ 400 := fun k hk => by
      rw [Int.natAbs_natCast]
      exact Nat.lt_of_lt_of_le (show k < 2 ^ 100 by omega) (Nat.pow_le_pow_right (by decide) (by decide))
    refine gc_strM (El := NoX) wc.st wc.si RS hr passA mx ⟨x, C, dw, _, _, _, e.2.1.1, rfl, mx, wc, ⟨sm _ wb.1, sm _ wb.2.1, sm _ wb.2.2⟩, _, rfl, ?_⟩
    refine ga_cons ?_
    refine ge_ix ?_
    refine ge_ixM (El := NoX) oi RG hr passA ?_
    tm_at "g"
    refine ⟨sh, dx, _, rfl, hR _ ms, ⟨sh, dx, rv, _, _, _, S, e, rfl, hR _ ms, sc, rowsMono _ _ _ _ hR ra, he, fun t wv mt wa => ?_⟩⟩
    tm_at "g"
    exact Sub.refl
  · have ee : es.map (·.2) = (ys.map (rowAt S)).map tsO := by
      rw [he, List.filter_eq_self.mpr fun _ _ => rfl, List.length_map, List.map_map]
      refine List.ext_getElem (by rw [List.length_map, List.length_map, List.length_range]) fun i h1 h2 => ?_
      rw [List.length_map] at h2
      rw [List.getElem_map, List.getElem_map, List.getElem_range, List.getD_eq_getElem?_getD, List.getElem?_eq_getElem h2]
      rfl
    obtain ⟨ts, rfl, ets⟩ := split_es ee
    rw [refs_ts]
    exact ⟨_, Sub.refl, q D ts ets⟩
end
abbrev TxT := Str × Str × Int
def spWith (K : PySem.W.Frag) (Y : ShPar) : SpL := fun vs L Q _ => ∃ (v : V) (t : Addr) (wv : V) (T : List TxT) (z : Str) (d : WhD) (p : Nat), vs = [v, .ref t] ∧ StAt L v T ∧ (t, HO.tup [.str z, wv, .int (p : Nat)]) ∈ L ∧ WhAt K Y L wv d ∧ WhB d ∧ (T.map (·.1)).Nodup ∧ T.length ≤ 1000 ∧
  ∀ (q : Addr) (ts : List Ts3) E T', (q, HO.lst (ts.map fun e => V.ref e.1)) ∈ E → (∀ e ∈ ts, (e.1, tsO e.2) ∈ E ++ L) → ts.map (·.2) = T' → T'.Perm (T.filter (fun e => decide (e.1 ≠ z)) ++ [rowT (z, d, p)]) → T'.Pairwise (fun x y => ltS y.1 x.1 = false) → Q (.ref q) (E ++ L)
section
variable {P : Program} {w : World} {K : PySem.W.Frag} {mg : Str → Option Value} {base : Heap} {Y : ShPar}
theorem fn_law_with (B : Bi mg) (F : Df K mg "_law_with" s_law_with) (RS : RunG P w K mg base CX0 3 Y.gS argsP (toSp (spWheelStr K Y.D Y.gT Y.gE Y.gS))) : Fn P w K mg base CX0 "_law_with" 6 (spWith K Y) := by
  refine fn_plain F sc_law_with (fun _ _ _ _ _ _ us hl => match us, hl with | [_, _], _ => rfl) (by decide) (by tm_at "g_len") ?_
  intro X f cdv A outer s H E0 L vs Q E hX nd hr h
  subst hX
  obtain ⟨v, t, wv, T, z, d, p, rfl, ⟨q0, ts, rfl, mq, mt0, ets⟩, mt, wa, wb, ndT, lT, q⟩ := h
  have lts : ts.length ≤ 1000 := by rw [← ets, List.length_map] at lT; exact lT
  show GSs _ (defBody s_law_with) (bodyD Q) [("_law_state_here", some (.ref q0)), ("_law_row_here", some (.ref t)), ("_law_old", none)] L
  refine gss_cons ?_
  tm_at "g"
  refine ge_lcP (by tm_at "g_put") (gi_list ?_) (show blkC N_law_with (defScope s_law_with) _ [(_, List.idxOf _ N_law_with)] = true by decide +kernel)
  tm_at "g"
  refine pure_rowI (pt := fun i => decide ((ts.getD i (0, ⟨#[]⟩, ⟨#[]⟩, 0)).2.1 ≠ z)) (pg := fun i => .ref (ts.getD i (0, ⟨#[]⟩, ⟨#[]⟩, 0)).1) mq (by rw [List.length_map]; omega) (fun i v hv D acc s1 H1 C1 cl1 fp1 => ?_) fun D => ?_
  · rw [List.getElem?_map] at hv
    obtain ⟨e, he, rfl⟩ := Option.map_eq_some_iff.mp hv
    have ee : ts.getD i (0, ⟨#[]⟩, ⟨#[]⟩, 0) = e := by rw [List.getD_eq_getElem?_getD, he]; rfl
    rw [ee]
    have me := mt0 e (List.mem_of_getElem? he)
    show G.GT _ _ _ _ _
    tm_at "g"
    refine go_neV rfl ?_
    refine ⟨_, rfl, ?_, Sub.refl, fun hb s2 H2 C2 cl2 fp2 => ?_⟩
    · have e1 : decide (V.str e.2.1 = V.str z) = decide (e.2.1 = z) := decide_eq_decide.mpr ⟨fun h => V.str.inj h, fun h => congrArg V.str h⟩
      rw [e1]
      simp
    · tm_at "g"
      exact ⟨rfl, Sub.refl⟩
  · rw [List.length_map, filter_listA (xs := ts) (t := fun e => decide (e.2.1 ≠ z)) (g := fun e => V.ref e.1) fun i e he => by
      have ee : ts.getD i (0, ⟨#[]⟩, ⟨#[]⟩, 0) = e := by rw [List.getD_eq_getElem?_getD, he]; rfl
      exact ⟨by rw [ee], by rw [ee]⟩]
    tm_at "g"
    obtain ⟨x, C, dw, rfl, mx, wc⟩ := id wa
    have sm : ∀ k : Nat, k ≤ 1000000000000 → ((k : Nat) : Int).natAbs < 2 ^ 400 := fun k hk => by
      rw [Int.natAbs_natCast]
      exact Nat.lt_of_lt_of_le (show k < 2 ^ 100 by omega) (Nat.pow_le_pow_right (by decide) (by decide))
    refine gc_strM (El := NoX) wc.st wc.si RS hr passA (memS mx) ⟨x, C, dw, _, _, _, d.1, rfl, memS mx, wc, ⟨sm _ wb.1, sm _ wb.2.1, sm _ wb.2.2⟩, _, rfl, ?_⟩
    tm_at "g"
    rename_i tp D2
    refine go_cat (memS (memS mem0)) mem0 ?_ fun D3 => ?_
    · rw [List.length_map, sizeLine_eq]
      have := List.length_filter_le (fun e : Ts3 => decide (e.2.1 ≠ z)) ts
      show _ + 1 ≤ _
      omega
    tm_at "g"
    have ef : (ts.filter fun e => decide (e.2.1 ≠ z)).map (·.2) = T.filter fun e => decide (e.1 ≠ z) := by
      rw [← ets, List.filter_map]
      rfl
    refine gc_sortedT (ts := (ts.filter fun e => decide (e.2.1 ≠ z)) ++ [(tp, rowT (z, d, p))]) (by rw [List.map_append]; exact mem0) (fun e he => ?_) ?_ fun us q2 pm pw => ?_
    · rcases List.mem_append.mp he with he | he
      · exact memS (memS (memS (memS (mt0 e ((List.mem_filter.mp he).1)))))
      · rw [List.mem_singleton.mp he]
        exact memS (memS mem0)
    · have en : (ts.filter fun e => decide (e.2.1 ≠ z)).map (·.2.1) = ((ts.filter fun e => decide (e.2.1 ≠ z)).map (·.2)).map (·.1) := by rw [List.map_map]; rfl
      rw [List.map_append, en, ef]
      refine List.nodup_append.mpr ⟨ndT.sublist (List.Sublist.map _ List.filter_sublist), List.pairwise_singleton _ _, fun x hx y hy e => ?_⟩
      obtain ⟨w1, hw, rfl⟩ := List.mem_map.mp hx
      have := of_decide_eq_true (List.mem_filter.mp hw).2
      rw [List.mem_singleton.mp hy] at e
      exact this e
    have pT := pm.map (·.2)
    rw [List.map_append, ef] at pT
    have me : ∀ e ∈ us, (e.1, tsO e.2) ∈ (D3, HO.lst (List.map (fun e : Ts3 => V.ref e.1) (List.filter (fun e => decide (e.2.1 ≠ z)) ts) ++ [V.ref tp])) :: (D2, HO.lst [V.ref tp]) :: (tp, HO.tup [.str z, .str (wTx d.1 (d.2.1 : Nat) (d.2.2.1 : Nat) (d.2.2.2 : Nat)), .int (p : Nat)]) :: (D, HO.lst (List.map (fun e : Ts3 => V.ref e.1) (List.filter (fun e => decide (e.2.1 ≠ z)) ts))) :: L := fun e he => by
      rcases List.mem_append.mp (pm.mem_iff.mp he) with he | he
      · exact memS (memS (memS (memS (mt0 e ((List.mem_filter.mp he).1)))))
      · rw [List.mem_singleton.mp he]
        exact memS (memS mem0)
    refine ⟨_, Sub.refl, q q2 us [(q2, _), (D3, _), (D2, _), (tp, _), (D, _)] (us.map (·.2)) mem0 (fun e he => memS (me e he)) rfl pT ?_⟩
    exact List.pairwise_map.mpr pw
end
abbrev leT (x y : TxT) : Prop := ltS y.1 x.1 = false
def IsSt (S : List RwD) (T : List TxT) : Prop := T.Perm (S.map rowT) ∧ T.Pairwise leT
theorem rowT_names {S : List RwD} : (S.map rowT).map (·.1) = S.map (·.1) := by
  rw [List.map_map]
  rfl
theorem IsSt.names {S : List RwD} {T : List TxT} (h : IsSt S T) (so : SOk S) : (T.map (·.1)).Nodup := by
  refine ((h.1.map (·.1)).nodup_iff).mpr ?_
  rw [rowT_names]
  exact so.1
theorem ltS_anti {x y : Str} (h1 : ltS x y = false) (h2 : ltS y x = false) : x = y := by
  have a := List.not_lt.mp (of_decide_eq_false h1)
  have b := List.not_lt.mp (of_decide_eq_false h2)
  have e := List.le_antisymm b a
  obtain ⟨x⟩ := x
  obtain ⟨y⟩ := y
  exact congrArg Str.mk (Array.toList_inj.mp e)
theorem rise_pw : ∀ (r : List Str) (p : Str), risingS p r = true → (p :: r).Pairwise fun x y => ltS y x = false
  | [], p, _ => List.pairwise_singleton _ _
  | x :: r, p, h => by
    have h' : (!ltCps x.cps.toList p.cps.toList && risingS x r) = true := h
    rw [Bool.and_eq_true] at h'
    have ih := rise_pw r x h'.2
    have h1 : ltS x p = false := by
      have z := h'.1
      rw [ltCps_eq] at z
      simpa using z
    refine List.pairwise_cons.mpr ⟨fun y hy => ?_, ih⟩
    rcases List.mem_cons.mp hy with rfl | hy
    · exact h1
    · exact (ltS_swo (fun z : Str => z)).tr p x y h1 ((List.pairwise_cons.mp ih).1 y hy)
theorem sorted_pw : ∀ {ys : List Str}, sortedS ys = true → ys.Pairwise fun x y => ltS y x = false
  | [], _ => .nil
  | x :: r, h => rise_pw r x h
theorem perm_uniq {T T' : List TxT} (p : T.Perm T') (s : T.Pairwise leT) (s' : T'.Pairwise leT) (nd : (T.map (·.1)).Nodup) : T = T' := by
  have an : ∀ a b, a ∈ T → b ∈ T → leT a b → leT b a → a = b := fun a b ha hb h1 h2 => by
    have e := ltS_anti h2 h1
    obtain ⟨i, hi, rfl⟩ := List.mem_iff_getElem.mp ha
    obtain ⟨j, hj, rfl⟩ := List.mem_iff_getElem.mp hb
    have pw := List.pairwise_iff_getElem.mp nd
    by_cases c : i = j
    · subst c
      rfl
    · exfalso
      rcases Nat.lt_or_gt_of_ne c with c | c
      · exact pw i j (by rw [List.length_map]; exact hi) (by rw [List.length_map]; exact hj) c (by rw [List.getElem_map, List.getElem_map]; exact e)
      · exact pw j i (by rw [List.length_map]; exact hj) (by rw [List.length_map]; exact hi) c (by rw [List.getElem_map, List.getElem_map]; exact e.symm)
  exact List.Perm.eq_of_pairwise (le := leT) (fun a b ha hb h1 h2 => an a b ha (p.mem_iff.mpr hb) h1 h2) s s' p
theorem IsSt.uniq {S : List RwD} {T T' : List TxT} (so : SOk S) (h : IsSt S T) (h' : IsSt S T') : T = T' := perm_uniq (h.1.trans h'.1.symm) h.2 h'.2 (h.names so)
theorem st_of {S : List RwD} {ys : List Str} (so : SOk S) (pm : ys.Perm (S.map (·.1))) (st : sortedS ys = true) : IsSt S (ys.map (rowAt S)) := by
  have hr : ∀ e ∈ S, rowAt S e.1 = rowT e := fun e he => by
    obtain ⟨e', he', h1, h2⟩ := rowAt_mem (List.mem_map.mpr ⟨e, he, rfl⟩)
    rw [h2]
    have : e' = e := by
      obtain ⟨i, hi, rfl⟩ := List.mem_iff_getElem.mp he
      obtain ⟨j, hj, rfl⟩ := List.mem_iff_getElem.mp he'
      have pw := List.pairwise_iff_getElem.mp so.1
      by_cases c : i = j
      · subst c
        rfl
      · exfalso
        rcases Nat.lt_or_gt_of_ne c with c | c
        · exact pw i j (by rw [List.length_map]; exact hi) (by rw [List.length_map]; exact hj) c (by rw [List.getElem_map, List.getElem_map]; exact h1.symm)
        · exact pw j i (by rw [List.length_map]; exact hj) (by rw [List.length_map]; exact hi) c (by rw [List.getElem_map, List.getElem_map]; exact h1)
    rw [this]
  refine ⟨?_, ?_⟩
  · have p2 := pm.map (rowAt S)
    rw [List.map_map] at p2
    refine p2.trans (List.Perm.of_eq (List.map_congr_left fun e he => hr e he))
  · refine List.pairwise_map.mpr ((sorted_pw st).imp_of_mem fun {a b} ha hb h => ?_)
    obtain ⟨e, he, ea, h1⟩ := rowAt_mem (pm.mem_iff.mp ha)
    obtain ⟨e', he', eb, h2⟩ := rowAt_mem (pm.mem_iff.mp hb)
    show ltS (rowAt S b).1 (rowAt S a).1 = false
    rw [h1, h2]
    show ltS e'.1 e.1 = false
    rw [ea, eb]
    exact h
theorem no_name {S : List RwD} {z : Str} (h : z ∉ S.map (·.1)) : S.filter (fun e => decide (e.1 ≠ z)) = S ∧ ∀ r : RwD, r.1 = z → S.map (fun e => if e.1 = r.1 then r else e) = S := by
  have key : ∀ e ∈ S, e.1 ≠ z := fun e he q => h (List.mem_map.mpr ⟨e, he, q⟩)
  refine ⟨List.filter_eq_self.mpr fun e he => decide_eq_true (key e he), fun r hr => ?_⟩
  have : S.map (fun e => if e.1 = r.1 then r else e) = S.map id := List.map_congr_left fun e he => if_neg (by rw [hr]; exact key e he)
  rw [this, List.map_id]
theorem put_perm {S : List RwD} {r : RwD} (so : SOk S) : (putS S r).Perm (S.filter (fun e => decide (e.1 ≠ r.1)) ++ [r]) := by
  have nd := so.1
  clear so
  unfold putS
  by_cases hh : hasS S r.1 = true
  · rw [if_pos hh]
    rw [hasS_iff] at hh
    induction S with
    | nil => cases hh
    | cons e S ih =>
      rw [List.map_cons, List.nodup_cons] at nd
      rw [List.map_cons, List.filter_cons]
      by_cases c : e.1 = r.1
      · have nn : r.1 ∉ S.map (·.1) := by rw [← c]; exact nd.1
        obtain ⟨h1, h2⟩ := no_name nn
        rw [if_pos c, if_neg (by simp [c]), h2 r rfl, h1]
        exact (List.perm_append_comm (l₁ := [r]) (l₂ := S))
      · rw [if_neg c, if_pos (decide_eq_true c), List.cons_append]
        refine List.Perm.cons _ (ih nd.2 ?_)
        rw [List.map_cons] at hh
        rcases List.mem_cons.mp hh with z | z
        · exact absurd z.symm c
        · exact z
  · rw [if_neg hh]
    have nn : r.1 ∉ S.map (·.1) := fun z => hh (hasS_iff.mpr z)
    rw [(no_name nn).1]
theorem IsSt.put {S : List RwD} {T T' : List TxT} {z : Str} {d : WhD} {p : Nat} (so : SOk S) (h : IsSt S T) (pm : T'.Perm (T.filter (fun e => decide (e.1 ≠ z)) ++ [rowT (z, d, p)])) (pw : T'.Pairwise leT) : IsSt (putS S (z, d, p)) T' := by
  refine ⟨pm.trans ?_, pw⟩
  have p1 := (put_perm (r := (z, d, p)) so).map rowT
  refine List.Perm.trans ?_ p1.symm
  rw [List.map_append, List.map_cons, List.map_nil]
  refine List.Perm.append_right _ ?_
  have p2 := h.1.filter fun e => decide (e.1 ≠ z)
  rw [List.filter_map] at p2
  exact p2
def trD (t : TxT) : PyData := .tuple [.str t.1, .str t.2.1, .int t.2.2]
def sD (T : List TxT) : PyData := .list (T.map trD)
theorem dls_of {L : Lg} : ∀ {vs : List V} {ds : List PyData}, Paired (fun v d => Dl L v d) vs ds → Dls L vs ds
  | _, _, .nil => dls_nil
  | _, _, .cons a t => dls_cons a (dls_of t)
theorem dl_st {L : Lg} {v : V} {T : List TxT} (h : StAt L v T) : Dl L v (sD T) := by
  obtain ⟨q, ts, rfl, mq, mt, rfl⟩ := h
  refine dl_lst mq (dls_of ?_)
  clear mq
  induction ts with
  | nil => exact .nil
  | cons e ts ih =>
    refine .cons ?_ (ih fun e he => mt e (List.mem_cons_of_mem _ he))
    exact dl_tup (mt e List.mem_cons_self) (dls_cons dl_str (dls_cons dl_str (dls_cons dl_int dls_nil)))
theorem depth_tr : ∀ T : List TxT, PyData.depthAll (T.map trD) ≤ 1
  | [] => by simp [PyData.depthAll]
  | t :: T => by
    have e := depth_tr T
    simp [PyData.depthAll, PyData.depth, trD]
    omega
theorem ok_ch (c : Char) : c.toNat < 1114112 := by
  have h := c.valid
  show c.val.toNat < _
  rcases h with h | ⟨_, h⟩
  · exact Nat.lt_trans h (by decide)
  · exact h
theorem ok_of (s : String) : PyData.strOk (Str.ofString s) = true := by
  rw [Str.ofString_eq_toList]
  unfold PyData.strOk
  rw [Array.all_eq_true']
  intro x hx
  have hx' : x ∈ s.toList.map Char.toNat := by simpa using hx
  obtain ⟨c, _, rfl⟩ := List.mem_map.mp hx'
  exact decide_eq_true (ok_ch c)
theorem ok_cat {x y : Str} (a : PyData.strOk x = true) (b : PyData.strOk y = true) : PyData.strOk (x ++ y) = true := by
  show (x.cps ++ y.cps).all _ = true
  rw [Array.all_append]
  show (PyData.strOk x && PyData.strOk y) = true
  rw [a, b]
  rfl
theorem ok_wTx {t : Bool} {p b h : Int} : PyData.strOk (wTx t p b h) = true := by
  unfold wTx
  have e0 : PyData.strOk Str.empty = true := by first | rfl | decide +kernel | simp [PyData.strOk, Str.empty]
  split
  · exact ok_cat (ok_cat e0 (ok_of _)) (ok_of _)
  · exact ok_cat (ok_cat (ok_cat (ok_cat (ok_cat (ok_cat e0 (ok_of _)) (ok_of _)) (ok_of _)) (ok_of _)) (ok_of _)) (ok_of _)
theorem ok_name {z : Str} (h : isNameS z = true) : PyData.strOk z = true := by
  unfold isNameS at h
  rw [Bool.and_eq_true] at h
  unfold PyData.strOk
  rw [Array.all_eq_true']
  intro x hx
  have m := List.all_eq_true.mp h.2 x (by simpa using hx)
  have m2 := of_decide_eq_true m
  refine decide_eq_true ?_
  have : ∀ c ∈ (Str.ofString "abcdefghijklmnopqrstuvwxyz").cps.toList, c < 1114112 := by decide
  exact this x m2
def TOk (T : List TxT) : Prop := ∀ t ∈ T, PyData.strOk t.1 = true ∧ PyData.strOk t.2.1 = true
theorem IsSt.ok {S : List RwD} {T : List TxT} (so : SOk S) (h : IsSt S T) : TOk T := fun t ht => by
  obtain ⟨e, he, rfl⟩ := List.mem_map.mp (h.1.mem_iff.mp ht)
  exact ⟨ok_name (so.2.2 e he).1, ok_wTx⟩
theorem lay_tr : ∀ T : List TxT, TOk T → PyData.canLayAll0 (T.map trD) = true
  | [], _ => by simp [PyData.canLayAll0]
  | t :: T, h => by
    have e := lay_tr T fun u hu => h u (List.mem_cons_of_mem _ hu)
    have o := h t List.mem_cons_self
    simp [PyData.canLayAll0, PyData.canLay0, trD, e, o.1, o.2]
theorem shaped_st {T : List TxT} (h : TOk T) : SeqAt.shaped (sD T) = true := by
  have a := depth_tr T
  have b := lay_tr T h
  simp [SeqAt.shaped, PyData.canLay0, PyData.depth, sD, b]
  omega
theorem eqv_tr {t u : TxT} : PyData.eqv (trD t) (trD u) = decide (t = u) := by
  obtain ⟨a, b, c⟩ := t
  obtain ⟨a', b', c'⟩ := u
  have e : ∀ (x y : Str), (x == y) = decide (x = y) := fun x y => by
    by_cases h : x = y
    · subst h
      simp
    · rw [decide_eq_false h]
      simpa using h
  have e2 : ∀ (x y : Int), (x == y) = decide (x = y) := fun x y => by
    by_cases h : x = y
    · subst h
      simp
    · rw [decide_eq_false h]
      simpa using h
  simp only [trD, PyData.eqv, PyData.eqvAll, e, e2, Prod.mk.injEq, Bool.decide_and, Bool.and_true]
theorem eqv_trs : ∀ T U : List TxT, PyData.eqvAll (T.map trD) (U.map trD) = decide (T = U)
  | [], [] => by simp [PyData.eqvAll]
  | [], m :: r => by simp [PyData.eqvAll]
  | n :: r, [] => by simp [PyData.eqvAll]
  | n :: r, m :: q => by
    have e := eqv_trs r q
    simp only [List.map_cons, PyData.eqvAll, eqv_tr, e]
    by_cases h : n = m <;> by_cases k : r = q <;> simp [h, k]
theorem eqv_st {T U : List TxT} : PyData.eqv (sD T) (sD U) = decide (T = U) := by
  rw [← eqv_trs]
  simp [PyData.eqv, sD]
def spUndoX (K : PySem.W.Frag) (Y : ShPar) (Cn : Addr) : SpL := fun vs L Q E => ∃ (sh dx pl fl : Addr) (rv nv : V) (pz fz : List V) (R : Lg), vs = [.ref sh] ∧ Sub ((sh, shO Y.CS dx rv nv (.ref pl) (.ref fl)) :: R) L ∧ ShC K Y.CS ∧ (pl, HO.lst pz) ∈ R ∧ (fl, HO.lst fz) ∈ R ∧ pz.length ≤ 100000 ∧ fz.length ≤ 100000 ∧
  ((pz = [] ∧ ∀ M, Sub ((sh, shO Y.CS dx rv nv (.ref pl) (.ref fl)) :: R) M → E (.ref Cn) none M) ∨ ∃ pz' v S, pz = pz' ++ [v] ∧ RowsAt K Y R v S ∧
    ∀ nl ys p2 f2 M, ys.Perm (S.map (·.1)) → sortedS ys = true → Sub ((sh, shO Y.CS dx v (.ref nl) (.ref p2) (.ref f2)) :: (nl, HO.lst (ys.map V.str)) :: (p2, HO.lst pz') :: (f2, HO.lst (fz ++ [rv])) :: R) M → Q .non M)
def spRedoX (K : PySem.W.Frag) (Y : ShPar) (Cn : Addr) : SpL := fun vs L Q E => ∃ (sh dx pl fl : Addr) (rv nv : V) (pz fz : List V) (R : Lg), vs = [.ref sh] ∧ Sub ((sh, shO Y.CS dx rv nv (.ref pl) (.ref fl)) :: R) L ∧ ShC K Y.CS ∧ (pl, HO.lst pz) ∈ R ∧ (fl, HO.lst fz) ∈ R ∧ pz.length ≤ 100000 ∧ fz.length ≤ 100000 ∧
  ((fz = [] ∧ ∀ M, Sub ((sh, shO Y.CS dx rv nv (.ref pl) (.ref fl)) :: R) M → E (.ref Cn) none M) ∨ ∃ fz' v S, fz = fz' ++ [v] ∧ RowsAt K Y R v S ∧
    ∀ nl ys p2 f2 M, ys.Perm (S.map (·.1)) → sortedS ys = true → Sub ((sh, shO Y.CS dx v (.ref nl) (.ref p2) (.ref f2)) :: (nl, HO.lst (ys.map V.str)) :: (p2, HO.lst (pz ++ [rv])) :: (f2, HO.lst fz') :: R) M → Q .non M)
def delS (S : List RwD) (z : Str) : List RwD := S.filter fun e => decide (e.1 ≠ z)
def spNeedName (K : PySem.W.Frag) (Y : ShPar) (Cm : Addr) : SpL := fun vs L Q E => ∃ (sh dx : Addr) (rv nv pv fv : V) (S : List RwD) (z : Str), vs = [.ref sh, .str z] ∧ (sh, shO Y.CS dx rv nv pv fv) ∈ L ∧ ShC K Y.CS ∧ RowsAt K Y L rv S ∧ (hasS S z = false → telX Cm [("name", .str z)] E L) ∧ (hasS S z = true → Q .non L)
def spDrop (K : PySem.W.Frag) (Y : ShPar) (Cm : Addr) : SpL := fun vs L Q E => ∃ (sh dx pl : Addr) (rv nv fv : V) (pz : List V) (R : Lg) (S : List RwD) (z : Str), vs = [.ref sh, .str z] ∧ Sub ((sh, shO Y.CS dx rv nv (.ref pl) fv) :: R) L ∧ ShC K Y.CS ∧ RowsAt K Y R rv S ∧ (pl, HO.lst pz) ∈ R ∧ pz.length ≤ 100000 ∧
  (hasS S z = false → telX Cm [("name", .str z)] E ((sh, shO Y.CS dx rv nv (.ref pl) fv) :: R)) ∧
  (hasS S z = true → ∀ v nl ys p2 f2 M N, ys.Perm ((delS S z).map (·.1)) → sortedS ys = true → Sub R N → RowsAt K Y N v (delS S z) → Sub ((sh, shO Y.CS dx v (.ref nl) (.ref p2) (.ref f2)) :: (nl, HO.lst (ys.map V.str)) :: (f2, HO.lst []) :: (p2, HO.lst (pz ++ [rv])) :: N) M → Q .non M)
theorem delS_ok {S : List RwD} {z : Str} (h : SOk S) : SOk (delS S z) := ⟨h.1.sublist (List.Sublist.map _ List.filter_sublist), Nat.le_trans (List.length_filter_le _ _) h.2.1, fun e he => h.2.2 e (List.mem_filter.mp he).1⟩
theorem flt_rows {K : PySem.W.Frag} {Y : ShPar} {L : Lg} {z : Str} : ∀ {kvs : List (Key × V)} {S : List RwD}, Paired (RowF K Y L) kvs S → Paired (RowF K Y L) (kvs.filter fun kv => decide (kv.1 ≠ .inr z)) (delS S z)
  | _, _, .nil => .nil
  | kv :: kvs, e :: S, .cons h t => by
    have ih := flt_rows (z := z) t
    have i1 : decide (kv.1 ≠ (.inr z : Key)) = decide (e.1 ≠ z) := by
      rw [h.1, decide_eq_decide]
      exact ⟨fun q c => q (congrArg _ c), fun q c => q (Sum.inr.inj c)⟩
    unfold delS at ih ⊢
    rw [List.filter_cons, List.filter_cons, i1]
    split
    · exact .cons h ih
    · exact ih
theorem keys_nd {K : PySem.W.Frag} {Y : ShPar} {L : Lg} : ∀ {kvs : List (Key × V)} {S : List RwD}, Paired (RowF K Y L) kvs S → kvs.map (·.1) = S.map fun e => (.inr e.1 : Key)
  | _, _, .nil => rfl
  | kv :: kvs, e :: S, .cons h t => by
    rw [List.map_cons, List.map_cons, keys_nd t, h.1]
section
variable {P : Program} {w : World} {K : PySem.W.Frag} {mg : Str → Option Value} {base : Heap} {Y : ShPar} {Cn Cm Cs Ct gS gG gN : Addr}
theorem run_Shelf_undoX (B : Bi mg) {f : Addr} {fd : FuncData} (F : Fun K "undo" "Shelf.undo" s_Shelf_undo f fd) (G : RunG P w K mg base CX0 2 gS argsP (toSp (spSettle K Y))) (me : Meth K Y.CS "settle" gS) (T : ErrB K mg "Nothing" Cn) : RunG P w K mg base (L2.CX P w) 3 f argsP (toSp (spUndoX K Y Cn)) := by
  refine run_raise F sc_Shelf_undo argsP id id (fun _ _ r => r) (fun _ _ _ _ _ _ us hl => match us, hl with | [_], _ => rfl) (by decide) (by tm_at "g_len") ?_
  intro X f cdv A outer s H E0 L vs Q E hX nd hr tk h
  subst hX
  obtain ⟨sh, dx, pl, fl, rv, nv, pz, fz, R, rfl, sb, sc, mp, mf, lp, lf, q⟩ := h
  refine GSs.sub sb ?_
  show GSs _ (defBody s_Shelf_undo) (bodyD Q) [("self", some (.ref sh)), ("rows", none)] _
  refine gss_cons ?_
  tm_at "g"
  refine gat_fld sc.c sc.n3 mem0 rfl ?_
  tm_at "g"
  rcases q with ⟨rfl, e0⟩ | ⟨pz, v, S, rfl, ra, q⟩
  · rw [if_pos (show decide (((([] : List V).length : Nat) : Int) = 0) = true from rfl)]
    refine gss_cons ?_
    exact gs_raise tk (gmk_err0 T ⟨_, Sub.refl, e0 _ Sub.refl⟩)
  rw [decide_eq_false (by rw [List.length_append]; show ¬ ((pz.length + 1 : Nat) : Int) = 0; omega)]
  tm_at "g"
  refine gat_fld sc.c sc.n4 mem0 rfl ?_
  tm_at "g"
  refine ⟨fl, fz, rfl, .inr (memS mf), ?_⟩
  tm_at "g"
  refine gat_fld sc.c sc.n1 mem0 rfl ?_
  tm_at "g"
  refine ⟨by rw [List.length_append, sizeLine_eq]; show fz.length + 1 ≤ _; omega, fun f2 => ?_⟩
  tm_at "g"
  refine ⟨sh, _, dx, _, _, rfl, memS mem0, sc.c, sc.n4, sh4, by rw [shP4]; exact .there .here, ?_⟩
  tm_at "g"
  refine gat_fld sc.c sc.n3 (memS mem0) rfl ?_
  tm_at "g"
  refine gi_lst (by exact memS (memS mp)) (atI_last _ _) ?_
  tm_at "g"
  refine gat_fld sc.c sc.n3 (memS mem0) rfl ?_
  tm_at "g"
  refine ⟨pl, pz ++ [v], rfl, ?_⟩
  show GE _ _ _ _ _
  tm_at "g"
  refine ⟨fun H hH => sql hH (by exact memS (memS mp)), fun p2 => ?_⟩
  rw [cut_front]
  tm_at "g"
  refine ⟨sh, _, dx, _, _, rfl, memS (memS mem0), sc.c, sc.n3, sh4, by rw [shP3]; exact .there (.there .here), ?_⟩
  tm_at "g"
  refine ge_meth (El := NoX) G me sc.c hr passA ?_
  tm_at "g"
  refine ⟨sh, dx, _, rfl, memS (memS mem0), rfl, ?_⟩
  tm_at "g"
  refine ⟨sh, dx, rv, nv, _, _, v, _, S, rfl, sub_mid (A := [(p2, _), (f2, _)]), sc, rowsMono _ _ _ _ (fun _ h => memS (memS h)) ra, fun nl ys M pm st s2 => ?_⟩
  tm_at "g"
  exact ⟨_, Sub.refl, q nl ys p2 f2 _ pm st s2⟩
theorem run_Shelf_redoX (B : Bi mg) {f : Addr} {fd : FuncData} (F : Fun K "redo" "Shelf.redo" s_Shelf_redo f fd) (G : RunG P w K mg base CX0 2 gS argsP (toSp (spSettle K Y))) (me : Meth K Y.CS "settle" gS) (T : ErrB K mg "Nothing" Cn) : RunG P w K mg base (L2.CX P w) 3 f argsP (toSp (spRedoX K Y Cn)) := by
  refine run_raise F sc_Shelf_redo argsP id id (fun _ _ r => r) (fun _ _ _ _ _ _ us hl => match us, hl with | [_], _ => rfl) (by decide) (by tm_at "g_len") ?_
  intro X f cdv A outer s H E0 L vs Q E hX nd hr tk h
  subst hX
  obtain ⟨sh, dx, pl, fl, rv, nv, pz, fz, R, rfl, sb, sc, mp, mf, lp, lf, q⟩ := h
  refine GSs.sub sb ?_
  show GSs _ (defBody s_Shelf_redo) (bodyD Q) [("self", some (.ref sh)), ("rows", none)] _
  refine gss_cons ?_
  tm_at "g"
  refine gat_fld sc.c sc.n4 mem0 rfl ?_
  tm_at "g"
  rcases q with ⟨rfl, e0⟩ | ⟨fz, v, S, rfl, ra, q⟩
  · rw [if_pos (show decide (((([] : List V).length : Nat) : Int) = 0) = true from rfl)]
    refine gss_cons ?_
    exact gs_raise tk (gmk_err0 T ⟨_, Sub.refl, e0 _ Sub.refl⟩)
  rw [decide_eq_false (by rw [List.length_append]; show ¬ ((fz.length + 1 : Nat) : Int) = 0; omega)]
  tm_at "g"
  refine gat_fld sc.c sc.n3 mem0 rfl ?_
  tm_at "g"
  refine ⟨pl, pz, rfl, .inr (memS mp), ?_⟩
  tm_at "g"
  refine gat_fld sc.c sc.n1 mem0 rfl ?_
  tm_at "g"
  refine ⟨by rw [List.length_append, sizeLine_eq]; show pz.length + 1 ≤ _; omega, fun p2 => ?_⟩
  tm_at "g"
  refine ⟨sh, _, dx, _, _, rfl, memS mem0, sc.c, sc.n3, sh4, by rw [shP3]; exact .there .here, ?_⟩
  tm_at "g"
  refine gat_fld sc.c sc.n4 (memS mem0) rfl ?_
  tm_at "g"
  refine gi_lst (by exact memS (memS mf)) (atI_last _ _) ?_
  tm_at "g"
  refine gat_fld sc.c sc.n4 (memS mem0) rfl ?_
  tm_at "g"
  refine ⟨fl, fz ++ [v], rfl, ?_⟩
  show GE _ _ _ _ _
  tm_at "g"
  refine ⟨fun H hH => sql hH (by exact memS (memS mf)), fun f2 => ?_⟩
  rw [cut_front]
  tm_at "g"
  refine ⟨sh, _, dx, _, _, rfl, memS (memS mem0), sc.c, sc.n4, sh4, by rw [shP4]; exact .there (.there .here), ?_⟩
  tm_at "g"
  refine ge_meth (El := NoX) G me sc.c hr passA ?_
  tm_at "g"
  refine ⟨sh, dx, _, rfl, memS (memS mem0), rfl, ?_⟩
  tm_at "g"
  refine ⟨sh, dx, rv, nv, _, _, v, _, S, rfl, sub_mid (A := [(f2, _), (p2, _)]), sc, rowsMono _ _ _ _ (fun _ h => memS (memS h)) ra, fun nl ys M pm st s2 => ?_⟩
  tm_at "g"
  refine ⟨_, Sub.refl, q nl ys p2 f2 _ pm st (Sub.trans ?_ s2)⟩
  exact Sub.cons (Sub.cons (Sub.perm (.swap ..)))
theorem run_Shelf_need_name (B : Bi mg) {f : Addr} {fd : FuncData} (F : Fun K "need_name" "Shelf.need_name" s_Shelf_need_name f fd) (T : ErrT P w K mg base "NoName" Cm ["name"]) : RunG P w K mg base (L2.CX P w) 3 f argsP (toSp (spNeedName K Y Cm)) := by
  refine run_raise F sc_Shelf_need_name argsP id id (fun _ _ r => r) (fun _ _ _ _ _ _ us hl => match us, hl with | [_, _], _ => rfl) (by decide) (by tm_at "g_len") ?_
  intro X f cdv A outer s H E0 L vs Q E hX nd hr tk h
  subst hX
  obtain ⟨sh, dx, rv, nv, pv, fv, S, z, rfl, ms, sc, ra, e0, q⟩ := h
  obtain ⟨a, od, kvs, rfl, ma, pr, so⟩ := id ra
  show GSs _ (defBody s_Shelf_need_name) (bodyD Q) [("self", some (.ref sh)), ("value", some (.str z))] L
  refine gss_cons ?_
  tm_at "g"
  refine gc_isK (b := true) .str (by decide +kernel) ?_
  tm_at "g"
  refine gat_fld sc.c sc.n1 ms rfl ?_
  refine go_notInD (k := .inr z) hr ma ?_
  rw [rows_val pr]
  cases hh : hasS S z with
  | false =>
    refine ⟨true, rfl, ?_⟩
    tm_at "g"
    refine gs_raise tk (gmk_err T.ck hr ?_ (by decide))
    tm_at "g"
    exact ⟨rfl, fun d => ⟨_, Sub.refl, e0 hh d _ Sub.refl⟩⟩
  | true =>
    refine ⟨false, rfl, ?_⟩
    tm_at "g"
    exact ⟨_, Sub.refl, q hh⟩
theorem run_Shelf_drop (B : Bi mg) {f : Addr} {fd : FuncData} (F : Fun K "drop" "Shelf.drop" s_Shelf_drop f fd) (RN : RunG P w K mg base (L2.CX P w) 3 gN argsP (toSp (spNeedName K Y Cm))) (mn : Meth K Y.CS "need_name" gN) (RG : RunG P w K mg base CX0 3 gG argsP (toSp (spGo K Y))) (mg' : Meth K Y.CS "go" gG) : RunG P w K mg base (L2.CX P w) 5 f argsP (toSp (spDrop K Y Cm)) := by
  refine run_raise F sc_Shelf_drop argsP id id (fun _ _ r => r) (fun _ _ _ _ _ _ us hl => match us, hl with | [_, _], _ => rfl) (by decide) (by tm_at "g_len") ?_
  intro X f cdv A outer s H E0 L vs Q E hX nd hr tk h
  subst hX
  obtain ⟨sh, dx, pl, rv, nv, fv, pz, R, S, z, rfl, sb, sc, ra, mp, lp, e0, q⟩ := h
  refine GSs.sub sb ?_
  show GSs _ (defBody s_Shelf_drop) (bodyD Q) [("self", some (.ref sh)), ("name", some (.str z)), ("key", none), ("row", none)] _
  refine gss_cons ?_
  tm_at "g"
  refine ge_meth (El := fun c d L' => drpE E c d L') RN mn sc.c hr (passTk tk) ?_
  tm_at "g"
  refine ⟨sh, dx, _, rfl, mem0, rfl, ?_⟩
  tm_at "g"
  refine ⟨sh, dx, rv, nv, _, fv, S, z, rfl, mem0, sc, rowsMono _ _ _ _ (fun _ h => memS h) ra, fun hh d M s => ⟨_, Sub.refl, e0 hh d M s⟩, fun hh => ?_⟩
  obtain ⟨a, od, kvs, rfl, ma, pr, so⟩ := id ra
  refine gss_cons ?_
  tm_at "g"
  refine ge_meth (El := NoX) RG mg' sc.c hr passA ?_
  tm_at "g"
  refine ⟨sh, dx, _, rfl, mem0, rfl, ?_⟩
  refine ga_cons ?_
  refine GE.lock ?_
  refine ge_dcItems (t := fun kv => decide (kv.1 ≠ (.inr z : Key))) (kvs := kvs) (by tm_at "g_put") (fun _ => by tm_at "g_put") (fun _ _ => by tm_at "g_at") (fun _ _ => by tm_at "g_at") ?_ (by decide) (show blkC N_Shelf_drop (defScope s_Shelf_drop) _ [(_, List.idxOf _ N_Shelf_drop), (_, List.idxOf _ N_Shelf_drop)] = true by decide +kernel)
  tm_at "g"
  refine gat_fld (n := ("own_rows" : Str)) (v := .ref a) sc.c sc.n1 mem0 rfl ?_
  refine ⟨a, od, rfl, memS ma, ?_, ?_, ?_, ?_⟩
  · rw [keys_nd pr]
    exact List.pairwise_map.mpr ((List.pairwise_map.mp so.1).imp fun h z => h (Sum.inr.inj z))
  · rw [rows_len pr]
    have := so.2.1
    omega
  · intro kv hkv M hM s1 H1 C1 cl1 fp1
    obtain ⟨y, ey⟩ : ∃ y : Str, kv.1 = .inr y := by
      have : kv.1 ∈ kvs.map (·.1) := List.mem_map.mpr ⟨kv, hkv, rfl⟩
      rw [keys_nd pr] at this
      obtain ⟨e, _, h⟩ := List.mem_map.mp this
      exact ⟨e.1, h.symm⟩
    rw [ey]
    show G.GT _ _ _ _ _
    tm_at "g"
    refine go_neV rfl ?_
    refine ⟨_, rfl, ?_, rfl⟩
    have e1 : decide (kV (.inr y : Key) = V.str z) = decide (y = z) := decide_eq_decide.mpr ⟨fun h => V.str.inj h, fun h => congrArg V.str h⟩
    have e2 : decide ((.inr y : Key) ≠ .inr z) = decide (y ≠ z) := decide_eq_decide.mpr ⟨fun h c => h (congrArg _ c), fun h c => h (Sum.inr.inj c)⟩
    rw [e1, e2]
    simp
  · intro D
    refine ⟨D, _, _, rfl, rfl, fun od2 => ?_⟩
    tm_at "g"
    have ra2 : RowsAt K Y ((D, dO od2 (kvs.filter fun kv => decide (kv.1 ≠ (.inr z : Key)))) :: R) (.ref D) (delS S z) := ⟨D, od2, _, rfl, mem0, Paired.mono (rowF_mono fun _ h => memS h) (flt_rows pr), delS_ok so⟩
    refine ⟨sh, dx, pl, .ref a, nv, fv, .ref D, pz, _, delS S z, rfl, Sub.perm (.swap ..), sc, ra2, memS mp, lp, fun nl ys p2 f2 M pm st s2 => ?_⟩
    tm_at "g"
    exact ⟨_, Sub.refl, q hh (.ref D) nl ys p2 f2 _ _ pm st Sub.drop ra2 s2⟩
end
def spTwin (K : PySem.W.Frag) (Y : ShPar) : SpL := fun vs L Q _ => ∃ (sh dx : Addr) (rv nv pv fv : V) (S : List RwD), vs = [.ref sh] ∧ (sh, shO Y.CS dx rv nv pv fv) ∈ L ∧ ShC K Y.CS ∧ RowsAt K Y L rv S ∧
  ∀ t dt nl pl fl ys M, ys.Perm (S.map (·.1)) → sortedS ys = true → Sub ((t, shO Y.CS dt rv (.ref nl) (.ref pl) (.ref fl)) :: (nl, HO.lst (ys.map V.str)) :: (fl, HO.lst []) :: (pl, HO.lst []) :: L) M → Q (.ref t) M
def spSetItem (K : PySem.W.Frag) (Y : ShPar) : SpL := fun vs L Q _ => ∃ (sh dx pl it : Addr) (rv nv fv wv : V) (pz : List V) (R : Lg) (S : List RwD) (z : Str) (d : WhD) (p : Nat), vs = [.ref sh, .str z, .ref it] ∧ Sub ((sh, shO Y.CS dx rv nv (.ref pl) fv) :: R) L ∧ ShC K Y.CS ∧ RowsAt K Y R rv S ∧ (pl, HO.lst pz) ∈ R ∧ pz.length ≤ 100000 ∧
  (it, HO.tup [wv, .int (p : Nat)]) ∈ R ∧ isNameS z = true ∧ WhAt K Y R wv d ∧ WhB d ∧ p ≤ 1000000000000 ∧ fullS S z = false ∧
  ∀ v nl ys p2 f2 M N, ys.Perm ((putS S (z, d, p)).map (·.1)) → sortedS ys = true → Sub R N → RowsAt K Y N v (putS S (z, d, p)) → Sub ((sh, shO Y.CS dx v (.ref nl) (.ref p2) (.ref f2)) :: (nl, HO.lst (ys.map V.str)) :: (f2, HO.lst []) :: (p2, HO.lst (pz ++ [rv])) :: N) M → Q .non M
section
variable {P : Program} {w : World} {K : PySem.W.Frag} {mg : Str → Option Value} {base : Heap} {Y : ShPar} {Cs Ct gS gG fI : Addr}
theorem run_Shelf_twin (B : Bi mg) {f : Addr} {fd : FuncData} (F : Fun K "twin" "Shelf.twin" s_Shelf_twin f fd) (gSh : mg "Shelf" = some (.ref Y.CS)) (M0 : Mk K Y.CS fI) (RI : RunG P w K mg base CX0 1 fI argsP (toSp (spShelfInit K Y))) (G : RunG P w K mg base CX0 2 gS argsP (toSp (spSettle K Y))) (me : Meth K Y.CS "settle" gS) : RunG P w K mg base CX0 4 f argsP (toSp (spTwin K Y)) := by
  refine run_plain F sc_Shelf_twin argsP id id (fun _ _ r => r) (fun _ _ _ _ _ _ us hl => match us, hl with | [_], _ => rfl) (by decide) (by tm_at "g_len") ?_
  intro X f cdv A outer s H E0 L vs Q E hX nd hr h
  subst hX
  obtain ⟨sh, dx, rv, nv, pv, fv, S, rfl, ms, sc, ra, q⟩ := h
  show GSs _ (defBody s_Shelf_twin) (bodyD Q) [("self", some (.ref sh)), ("found", none)] L
  refine gss_cons ?_
  tm_at "g"
  refine ge_callF0 gSh M0.kp (fun _ => gf_make (El := NoX) M0 RI (fun _ _ => rfl) hr passA) ?_
  tm_at "g"
  intro t dt
  refine ⟨t, dt, (dt, HO.own t) :: L, rfl, Sub.refl, sc, fun r0 od nl pl fl M1 s1 => ⟨rfl, ?_⟩⟩
  refine GSs.sub s1 ?_
  clear s1
  tm_at "g"
  refine ge_meth (El := NoX) G me sc.c hr passA ?_
  tm_at "g"
  refine ⟨t, dt, _, rfl, mem0, rfl, ?_⟩
  tm_at "g"
  refine gat_fld (n := ("own_rows" : Str)) (v := rv) sc.c sc.n1 (memS (memS (memS (memS (memS (memS ms)))))) rfl ?_
  tm_at "g"
  refine ⟨t, dt, .ref r0, .ref nl, .ref pl, .ref fl, rv, _, S, rfl, Sub.refl, sc, rowsMono _ _ _ _ (fun _ h => memS (memS (memS (memS (memS h))))) ra, fun n2 ys M pm st s2 => ?_⟩
  refine gss_cons ?_
  tm_at "g"
  refine ⟨_, Sub.refl, q t dt n2 pl fl ys _ pm st (Sub.trans ?_ s2)⟩
  exact Sub.cons (Sub.cons (Sub.cons (Sub.cons (Sub.trans Sub.drop (Sub.trans Sub.drop Sub.drop)))))
theorem run_Shelf_setitem (B : Bi mg) {f : Addr} {fd : FuncData} (F : Fun K "__setitem__" "Shelf.__setitem__" s_Shelf_setitem f fd) (D1 : Fn P w K mg base (L2N.CX P w) "with_item" 3 (spWithItem K Y Cs Ct)) (RG : RunG P w K mg base CX0 3 gG argsP (toSp (spGo K Y))) (me : Meth K Y.CS "go" gG) : RunG P w K mg base CX0 5 f argsP (toSp (spSetItem K Y)) := by
  refine run_plain F sc_Shelf_setitem argsP id id (fun _ _ r => r) (fun _ _ _ _ _ _ us hl => match us, hl with | [_, _, _], _ => rfl) (by decide) (by tm_at "g_len") ?_
  intro X f cdv A outer s H E0 L vs Q E hX nd hr h
  subst hX
  obtain ⟨sh, dx, pl, it, rv, nv, fv, wv, pz, R, S, z, d, p, rfl, sb, sc, ra, mp, lp, mi, nz, wa, wb, hp, hf, q⟩ := h
  refine GSs.sub sb ?_
  show GSs _ (defBody s_Shelf_setitem) (bodyD Q) [("self", some (.ref sh)), ("name", some (.str z)), ("item", some (.ref it))] _
  refine gss_cons ?_
  tm_at "g"
  refine ge_meth (El := NoX) RG me sc.c hr passA ?_
  tm_at "g"
  refine ⟨sh, dx, _, rfl, mem0, rfl, ?_⟩
  tm_at "g"
  refine GE.nd ?_
  refine ge_call (El := NoX) (fnN_fn D1) hr passN ?_
  tm_at "g"
  refine gat_fld (n := ("own_rows" : Str)) (v := rv) sc.c sc.n1 mem0 rfl ?_
  tm_at "g"
  refine ⟨rv, it, S, .str z, wv, .int (p : Nat), rfl, rowsMono _ _ _ _ (fun _ h => memS h) ra, memS mi, ⟨_, .str⟩, fun y e => ?_, fun e => ?_, fun y e _ => ?_⟩
  · cases e
    exact name_len nz
  · exact absurd (nz.symm.trans e) (by simp)
  · cases e
    refine .inr ⟨d, whMono _ _ _ _ (fun _ h => memS h) wa, wb, ⟨_, .int⟩, fun e => ?_, fun p' ep hp' => ?_⟩
    · exact absurd ((okPrice_nat hp).symm.trans e) (by simp)
    · obtain rfl : p = p' := by
        have := V.int.inj ep
        omega
      refine ⟨fun e => absurd (hf.symm.trans e) (by simp), fun _ v M sm ram => ?_⟩
      intro ndM
      have ms := (sm.to ndM).2 _ mem0
      have sR := sub_away ndM sm
      have ndA : ((awayL M sh).map (·.1)).Nodup := (List.nodup_cons.mp ((away_sub ms).to ndM).1).2
      tm_at "g"
      refine ⟨sh, dx, pl, rv, nv, fv, v, pz, awayL M sh, _, rfl, away_sub ms, sc, rows_away ndM ms ram, (sR.to ndA).2 _ mp, lp, fun nl ys p2 f2 M2 pm st s2 => ?_⟩
      tm_at "g"
      exact ⟨_, Sub.refl, q v nl ys p2 f2 _ _ pm st sR (rows_away ndM ms ram) s2⟩
end
/-- the classes of wheels of which rows are made -/
structure WhM (P : Program) (w : World) (K : PySem.W.Frag) (mg : Str → Option Value) (base : Heap) (Y : ShPar) (G0 fW fG Ce : Addr) : Prop where
  m0 : MkF P w K mg base "Wheel" Y.D fW 4 (spWheelInit K Ce)
  m4 : MkF P w K mg base "Grid" G0 fG 5 (spExactInit K Ce G0)
  w0 : WhC K Y.D Y.gT Y.gE Y.gS Y.D false
  w4 : WhC K Y.D Y.gT Y.gE Y.gS G0 true
theorem sub_front2 {a b c : Addr × HO} {R : Lg} : Sub (b :: c :: a :: R) (a :: b :: c :: R) := Sub.perm (List.perm_middle (l₁ := [b, c]))
def spRow (K : PySem.W.Frag) (Y : ShPar) : SpL := fun vs L Q _ => ∃ (p c qn : Addr) (zs : List Str) (ns : List Int) (n m : Int) (R : Lg), vs = [.ref p, .ref qn] ∧ Sub ((p, penO c n m) :: (c, celO ns) :: R) L ∧ (qn, HO.lst (zs.map V.str)) ∈ R ∧ (∀ z ∈ zs, isNameS z = true) ∧ 0 < zs.length ∧ zs.length < 1000 ∧ ns.length ≤ 63 ∧ 0 ≤ n ∧ n + 8 ≤ 100000 ∧ 0 ≤ m ∧
  ∀ v z d k n' m' E M, z ∈ zs → Sub ((p, penO c n' m') :: (c, celO ns) :: (E ++ R)) M → RowIs K Y E v (some (z, d, k)) → 0 ≤ n' → n' ≤ n + 8 → 0 ≤ m' → Q v M
section
variable {P : Program} {w : World} {K : PySem.W.Frag} {mg : Str → Option Value} {base : Heap} {Y : ShPar} {G0 fW fG Ce : Addr}
theorem fn_law_row (B : Bi mg) (F : Df K mg "_law_row" s_law_row) (D1 : Fn P w K mg base CX0 "_law_draw" 1 spDraw) (D2 : Fn P w K mg base CX0 "_law_pick" 2 spPick) (W : WhM P w K mg base Y G0 fW fG Ce) : Fn P w K mg base CX0 "_law_row" 7 (spRow K Y) := by
  refine fn_plain F sc_law_row (fun _ _ _ _ _ _ us hl => match us, hl with | [_, _], _ => rfl) (by decide) (by tm_at "g_len") ?_
  intro X f cdv A outer s H E0 L vs Q E hX nd hr h
  subst hX
  obtain ⟨p, c, qn, zs, ns, n, m, R, rfl, sb, mn, nz, z0, z1, h63, n0, n1, m0, q⟩ := h
  refine (fun h => GSs.sub sb h) ?_
  show GSs _ (defBody s_law_row) (bodyD Q) [("_law_pen_here", some (.ref p)), ("_law_names", some (.ref qn)), ("_law_wheel", none)] _
  refine gss_cons ?_
  refine gs_set (by tm_at "g_put") ?_
  refine ge_callF W.m0.g W.m0.M.kp (fun _ => gf_make (El := NoX) W.m0.M W.m0.R (fun _ _ => rfl) hr passN) ?_
  tm_at "g"
  tm_at "g_draw"
  intro d1 n2 m2 d10 d11 a0 a1 a2
  obtain ⟨d1, rfl⟩ : ∃ j : Nat, d1 = j := ⟨d1.toNat, by omega⟩
  tm_at "g"
  tm_at "g_draw"
  intro d2 n3 m3 d20 d21 b0 b1 b2
  obtain ⟨d2, rfl⟩ : ∃ j : Nat, d2 = j := ⟨d2.toNat, by omega⟩
  tm_at "g"
  tm_at "g_draw"
  intro d3 n4 m4 d30 d31 c0 c1 c2
  obtain ⟨d3, rfl⟩ : ∃ j : Nat, d3 = j := ⟨d3.toNat, by omega⟩
  tm_at "g"
  intro x dx
  refine ⟨x, Y.D, dx, _, _, _, _, _, _, _, rfl, mem0, W.w0.a, .int, .int, .int, .here, fun _ _ _ => ⟨rfl, ?_⟩, no_bad (by omega) (by omega), fun _ => no_bad (by omega) (by omega), fun _ _ => no_bad (by omega) (by omega)⟩
  refine (fun h => GSs.sub (show Sub ((p, penO c n4 m4) :: (c, celO ns) :: (x, wO Y.D dx (.int (2 + (d1 : Int))) (.int (d2 : Int)) (.int (d3 : Int))) :: (dx, HO.own x) :: R) _ from by tm_at "g_rot") h) ?_
  tm_at "g"
  refine ge_call (El := NoX) D2 hr passA ?_
  tm_at "g"
  refine ge_callF W.m4.g W.m4.M.kp (fun _ => gf_make (El := NoX) W.m4.M W.m4.R (fun _ _ => rfl) hr passN) ?_
  tm_at "g"
  tm_at "g_draw"
  intro d5 n5 m5 d50 d51 e0 e1 e2
  obtain ⟨d5, rfl⟩ : ∃ j : Nat, d5 = j := ⟨d5.toNat, by omega⟩
  tm_at "g"
  intro x2 dx2
  refine ⟨x2, dx2, _, _, _, rfl, mem0, W.w4.a, .int, .here, fun _ => ⟨rfl, ?_⟩, no_bad (by omega) (by omega)⟩
  tm_at "g"
  tm_at "g_pk"
  intro k1 xw n6 m6 hk f0 f1 f2
  have hw : ∀ M : Lg, (x, wO Y.D dx (.int (2 + (d1 : Int))) (.int (d2 : Int)) (.int (d3 : Int))) ∈ M → (x2, wO G0 dx2 (.int (2 + (d5 : Int))) (.int 0) (.int 0)) ∈ M → ∃ d, WhAt K Y M xw d ∧ WhB d := fun M g1 g2 => by
    match k1, hk with
    | 0, hk =>
      cases hk
      exact ⟨(false, 2 + d1, d2, d3), ⟨x, Y.D, dx, rfl, g1, W.w0⟩, by dsimp only; omega, by dsimp only; omega, by dsimp only; omega⟩
    | 1, hk =>
      cases hk
      exact ⟨(true, 2 + d5, 0, 0), ⟨x2, G0, dx2, rfl, g2, W.w4⟩, by dsimp only; omega, Nat.zero_le _, Nat.zero_le _⟩
  clear hk
  tm_at "g"
  refine ge_call (El := NoX) D2 hr passA ?_
  tm_at "g"
  tm_at "g_pk"
  intro k2 zv n7 m7 hk g0 g1 g2
  obtain ⟨z, hz, rfl⟩ : ∃ z ∈ zs, zv = .str z := by
    have := List.mem_of_getElem? hk
    obtain ⟨z, hz, e⟩ := List.mem_map.mp this
    exact ⟨z, hz, e.symm⟩
  tm_at "g"
  refine ge_call (El := NoX) D1 hr passA ?_
  tm_at "g"
  refine go_powL (i := 10) (j := 12) (r := 1000000000000) ⟨by decide, by decide, by decide⟩ (by decide) ?_
  tm_at "g"
  refine ⟨p, c, ns, n7, m7, _, _, rfl, Sub.refl, h63, by decide, by decide, by omega, by omega, by omega, fun d8 n8 m8 d80 d81 h0 h1 h2 => ?_⟩
  obtain ⟨pr, rfl⟩ : ∃ j : Nat, d8 = j := ⟨d8.toNat, by omega⟩
  have hp : pr ≤ 1000000000000 := by omega
  tm_at "g"
  rename_i l1 t
  let E : Lg := [(t, HO.tup [.str z, xw, .int (pr : Nat)]), (l1, HO.lst [.ref x, .ref x2]), (x2, wO G0 dx2 (.int (2 + (d5 : Int))) (.int 0) (.int 0)), (dx2, HO.own x2), (x, wO Y.D dx (.int (2 + (d1 : Int))) (.int (d2 : Int)) (.int (d3 : Int))), (dx, HO.own x)]
  obtain ⟨d, wa, wb⟩ := hw E (by show _ ∈ _ :: _ :: _ :: _ :: _ :: _ :: []; simp) (by show _ ∈ _ :: _ :: _ :: _ :: _ :: _ :: []; simp)
  refine ⟨_, Sub.refl, q (.ref t) z d pr n8 m8 E _ hz ?_ ⟨nz z hz, wb, hp, t, xw, rfl, mem0, wa⟩ h0 (by omega) h2⟩
  exact sub_front2
end
theorem rows_awayU {K : PySem.W.Frag} {Y : ShPar} {M : Lg} {x0 : Addr} {u : HO} {v : V} {S : List RwD} (nd : (M.map (·.1)).Nodup) (ms : (x0, u) ∈ M) (n1 : ∀ od kvs, dO od kvs ≠ u) (n2 : ∀ xs, HO.tup xs ≠ u) (n3 : ∀ C dx p b h, wO C dx p b h ≠ u) (ra : RowsAt K Y M v S) : RowsAt K Y (awayL M x0) v S := by
  obtain ⟨a, od, kvs, rfl, ma, pr, so⟩ := ra
  refine ⟨a, od, kvs, rfl, away_mem ma (away_ne nd ms ma (n1 _ _)), Paired.mono (fun kv e h => ?_) pr, so⟩
  obtain ⟨h1, t, wv, h2, h3, x, C', dx', h4, h5, h6⟩ := h
  exact ⟨h1, t, wv, h2, away_mem h3 (away_ne nd ms h3 (n2 _)), x, C', dx', h4, away_mem h5 (away_ne nd ms h5 (n3 _ _ _ _ _)), h6⟩
theorem rows_cel {K : PySem.W.Frag} {Y : ShPar} {M : Lg} {c : Addr} {ns : List Int} {v : V} {S : List RwD} (nd : (M.map (·.1)).Nodup) (ms : (c, celO ns) ∈ M) (ra : RowsAt K Y M v S) : RowsAt K Y (awayL M c) v S :=
  rows_awayU nd ms (fun _ _ z => nomatch z) (fun _ z => nomatch z) (fun _ _ _ _ _ z => nomatch z) ra
theorem rows_pen {K : PySem.W.Frag} {Y : ShPar} {M : Lg} {p c : Addr} {n m : Int} {v : V} {S : List RwD} (nd : (M.map (·.1)).Nodup) (ms : (p, penO c n m) ∈ M) (ra : RowsAt K Y M v S) : RowsAt K Y (awayL M p) v S :=
  rows_awayU nd ms (fun _ _ z => nomatch z) (fun _ z => nomatch z) (fun _ _ _ _ _ z => nomatch z) ra
theorem sub_penN {p c : Addr} {n m : Int} {ns : List Int} {R N : Lg} (nd : (N.map (·.1)).Nodup) (s : Sub ((p, penO c n m) :: (c, celO ns) :: R) N) : (p, penO c n m) ∈ N ∧ (c, celO ns) ∈ awayL N p ∧ Sub ((p, penO c n m) :: (c, celO ns) :: awayL (awayL N p) c) N ∧ ((awayL N p).map (·.1)).Nodup ∧ ∀ e ∈ R, e ∈ awayL (awayL N p) c := by
  obtain ⟨nd2, i2⟩ := s.to nd
  rw [List.map_cons, List.map_cons, List.nodup_cons, List.nodup_cons] at nd2
  have mp := i2 _ List.mem_cons_self
  have pc : c ≠ p := fun e => nd2.1 (e ▸ List.mem_cons_self)
  have mc : (c, celO ns) ∈ awayL N p := away_mem (i2 _ (List.mem_cons_of_mem _ List.mem_cons_self)) pc
  refine ⟨mp, mc, (Sub.cons (away_sub mc)).trans (away_sub mp), nd.sublist (List.Sublist.map _ List.filter_sublist), fun e he => ?_⟩
  have h1 := List.mem_map_of_mem (f := fun e : Addr × HO => e.1) he
  exact away_mem (away_mem (i2 _ (List.mem_cons_of_mem _ (List.mem_cons_of_mem _ he))) fun z => nd2.1 (z ▸ List.mem_cons_of_mem _ h1)) fun z => nd2.2.1 (z ▸ h1)
/-- vs: the rows of each state, Hs: what these are, k: where it stands -/
structure ShV (K : PySem.W.Frag) (Y : ShPar) (R : Lg) (rv : V) (nl pl fl : Addr) (vs : List V) (Hs : List (List RwD)) (k : Nat) : Prop where
  rv : vs[k]? = some rv
  rows : Reps (RowsAt K Y R) vs Hs
  nm : ∃ S ys, Hs[k]? = some S ∧ (nl, HO.lst (ys.map V.str)) ∈ R ∧ ys.Perm (S.map (·.1)) ∧ sortedS ys = true
  mp : (pl, HO.lst (vs.take k)) ∈ R
  mf : (fl, HO.lst (vs.drop (k + 1)).reverse) ∈ R
theorem ShV.imp {K : PySem.W.Frag} {Y : ShPar} {R R' : Lg} {rv : V} {nl pl fl : Addr} {vs : List V} {Hs : List (List RwD)} {k : Nat} (h : ShV K Y R rv nl pl fl vs Hs k) (s : ∀ e ∈ R, e ∈ R') : ShV K Y R' rv nl pl fl vs Hs k := by
  obtain ⟨h1, h2, ⟨S, ys, h3, h4, h5⟩, h6, h7⟩ := h
  exact ⟨h1, h2.imp fun v a h => rowsMono _ _ _ _ s h, ⟨S, ys, h3, s _ h4, h5⟩, s _ h6, s _ h7⟩
theorem ShV.lt {K : PySem.W.Frag} {Y : ShPar} {R : Lg} {rv : V} {nl pl fl : Addr} {vs : List V} {Hs : List (List RwD)} {k : Nat} (h : ShV K Y R rv nl pl fl vs Hs k) : k < vs.length := (List.getElem?_eq_some_iff.mp h.rv).1
theorem ShV.row {K : PySem.W.Frag} {Y : ShPar} {R : Lg} {rv : V} {nl pl fl : Addr} {vs : List V} {Hs : List (List RwD)} {k : Nat} (h : ShV K Y R rv nl pl fl vs Hs k) : ∃ S, Hs[k]? = some S ∧ RowsAt K Y R rv S := h.rows.get h.rv
theorem reps_take {α : Type} {r : V → α → Prop} : ∀ {vs : List V} {as : List α} (n : Nat), Reps r vs as → Reps r (vs.take n) (as.take n)
  | _, _, 0, _ => .nil
  | _, _, _ + 1, .nil => .nil
  | _, _, n + 1, .cons h t => .cons h (reps_take n t)
theorem reps_snoc {α : Type} {r : V → α → Prop} {v : V} {a : α} : ∀ {vs : List V} {as : List α}, Reps r vs as → r v a → Reps r (vs ++ [v]) (as ++ [a])
  | _, _, .nil, h => .cons h .nil
  | _, _, .cons x t, h => .cons x (reps_snoc t h)
theorem reps_at {α : Type} {r : V → α → Prop} {a : α} : ∀ {vs : List V} {as : List α} {i : Nat}, Reps r vs as → as[i]? = some a → ∃ v, vs[i]? = some v ∧ r v a
  | _, _, _, .nil, h => by simp at h
  | v :: _, _, 0, .cons x t, h => by
    cases h
    exact ⟨v, rfl, x⟩
  | _ :: _, _, i + 1, .cons x t, h => reps_at (i := i) t h
section
variable {K : PySem.W.Frag} {Y : ShPar} {R R' : Lg} {rv : V} {nl pl fl : Addr} {vs : List V} {Hs : List (List RwD)} {k : Nat}
theorem take_at {v : V} (h : vs[k]? = some v) : vs.take (k + 1) = vs.take k ++ [v] := by
  rw [List.take_add_one, h]
  rfl
theorem drop_at {v : V} (h : vs[k]? = some v) : (vs.drop k).reverse = (vs.drop (k + 1)).reverse ++ [v] := by
  obtain ⟨hk, e⟩ := List.getElem?_eq_some_iff.mp h
  rw [List.drop_eq_getElem_cons hk, List.reverse_cons, e]
/-- a deed: what could be done again is gone -/
theorem ShV.deed {v : V} {S : List RwD} {nl' pl' fl' : Addr} {ys : List Str} (h : ShV K Y R rv nl pl fl vs Hs k) (s : ∀ e ∈ R, e ∈ R') (ra : RowsAt K Y R' v S) (mn : (nl', HO.lst (ys.map V.str)) ∈ R') (pm : ys.Perm (S.map (·.1))) (st : sortedS ys = true) (mp : (pl', HO.lst (vs.take k ++ [rv])) ∈ R') (mf : (fl', HO.lst []) ∈ R') : ShV K Y R' v nl' pl' fl' (vs.take (k + 1) ++ [v]) (Hs.take (k + 1) ++ [S]) (k + 1) := by
  have hk := h.lt
  have l1 : (vs.take (k + 1)).length = k + 1 := by rw [List.length_take]; omega
  have l2 : (Hs.take (k + 1)).length = k + 1 := by rw [List.length_take, ← h.rows.len]; omega
  refine ⟨by rw [List.getElem?_append_right (by omega), l1, Nat.sub_self]; rfl, reps_snoc (reps_take _ (h.rows.imp fun v a h => rowsMono _ _ _ _ s h)) ra, ⟨S, ys, by rw [List.getElem?_append_right (by omega), l2, Nat.sub_self]; rfl, mn, pm, st⟩, ?_, ?_⟩
  · rw [List.take_append_of_le_length (by omega), List.take_of_length_le (by omega), take_at h.rv]
    exact mp
  · rw [List.drop_of_length_le (by rw [List.length_append, l1]; exact Nat.le_refl _)]
    exact mf
end
/-- few names: no shelf of them is full -/
theorem sub_len : ∀ {l m : List Str}, l.Nodup → (∀ x ∈ l, x ∈ m) → l.length ≤ m.length
  | [], _, _, _ => Nat.zero_le _
  | a :: l, m, nd, h => by
    rw [List.nodup_cons] at nd
    have ha := h a List.mem_cons_self
    have ih := sub_len (l := l) (m := m.erase a) nd.2 fun x hx => (List.mem_erase_of_ne (fun (e : x = a) => nd.1 (by rw [← e]; exact hx))).mpr (h x (List.mem_cons_of_mem _ hx))
    rw [List.length_erase_of_mem ha] at ih
    have := List.length_pos_of_mem ha
    rw [List.length_cons]
    omega
def InPool (zs : List Str) (S : List RwD) : Prop := ∀ e ∈ S, e.1 ∈ zs
theorem pool_full {zs : List Str} {S : List RwD} {z : Str} (so : SOk S) (h : InPool zs S) (hl : zs.length ≤ 7) : fullS S z = false := by
  have := sub_len (m := zs) so.1 fun x hx => by
    obtain ⟨e, he, rfl⟩ := List.mem_map.mp hx
    exact h e he
  rw [List.length_map] at this
  unfold fullS
  rw [decide_eq_false (by omega), Bool.and_false]
theorem pool_put {zs : List Str} {S : List RwD} {r : RwD} (h : InPool zs S) (hr : r.1 ∈ zs) : InPool zs (putS S r) := fun e he => by
  rcases putS_mem he with rfl | he
  · exact hr
  · exact h e he
theorem pool_del {zs : List Str} {S : List RwD} {z : Str} (h : InPool zs S) : InPool zs (delS S z) := fun e he => h e (List.mem_filter.mp he).1
theorem IsSt.del {S : List RwD} {T : List TxT} {z : Str} (h : IsSt S T) : IsSt (delS S z) (T.filter fun e => decide (e.1 ≠ z)) := by
  refine ⟨?_, h.2.sublist List.filter_sublist⟩
  have p2 := h.1.filter fun e => decide (e.1 ≠ z)
  rw [List.filter_map] at p2
  exact p2
def StS (L : Lg) (v : V) (S : List RwD) : Prop := ∃ T, StAt L v T ∧ IsSt S T
theorem stMono {L L' : Lg} {v : V} {S : List RwD} (s : ∀ e ∈ L, e ∈ L') (h : StS L v S) : StS L' v S := by
  obtain ⟨T, ⟨q, ts, rfl, h2, h3, h4⟩, h5⟩ := h
  exact ⟨T, ⟨q, ts, rfl, s _ h2, fun e he => s _ (h3 e he), h4⟩, h5⟩
/-- a deed is done: the pen and its cell ahead, the shelf with its history -/
theorem deed_out {K : PySem.W.Frag} {Y : ShPar} {R R3 N M : Lg} {rv v : V} {nl pl fl nl' p2 f2 sh dx p c : Addr} {us : List V} {Hs : List (List RwD)} {S : List RwD} {ys : List Str} {k : Nat} {n m : Int} {ns : List Int} (nd : (M.map (·.1)).Nodup) (sv : ShV K Y R rv nl pl fl us Hs k) (iR : ∀ e ∈ R, e ∈ R3) (pm : ys.Perm (S.map (·.1))) (st : sortedS ys = true)
    (sN : Sub ((p, penO c n m) :: (c, celO ns) :: R3) N) (raN : RowsAt K Y N v S) (sM : Sub ((sh, shO Y.CS dx v (.ref nl') (.ref p2) (.ref f2)) :: (nl', HO.lst (ys.map V.str)) :: (f2, HO.lst []) :: (p2, HO.lst (us.take k ++ [rv])) :: N) M) :
    ∃ R', Sub ((p, penO c n m) :: (c, celO ns) :: (sh, shO Y.CS dx v (.ref nl') (.ref p2) (.ref f2)) :: R') M ∧ (∀ e ∈ R3, e ∈ R') ∧ ShV K Y R' v nl' p2 f2 (us.take (k + 1) ++ [v]) (Hs.take (k + 1) ++ [S]) (k + 1) := by
  have nd1 := (sM.to nd).1
  simp only [List.map_cons, List.nodup_cons] at nd1
  obtain ⟨mp1, mc1, s3, ndp, inR⟩ := sub_penN nd1.2.2.2.2 sN
  have ra1 := rows_cel ndp mc1 (rows_pen nd1.2.2.2.2 mp1 raN)
  refine ⟨(nl', HO.lst (ys.map V.str)) :: (f2, HO.lst []) :: (p2, HO.lst (us.take k ++ [rv])) :: awayL (awayL N p) c, ?_, fun e he => memS (memS (memS (inR e he))), ?_⟩
  · exact Sub.trans (Sub.perm (List.perm_append_comm (l₁ := [(p, penO c n m), (c, celO ns)]) (l₂ := [(sh, shO Y.CS dx v (.ref nl') (.ref p2) (.ref f2)), (nl', HO.lst (ys.map V.str)), (f2, HO.lst []), (p2, HO.lst (us.take k ++ [rv]))]) |>.append_right _)) (Sub.trans (Sub.cons (Sub.cons (Sub.cons (Sub.cons s3)))) sM)
  · exact sv.deed (fun e he => memS (memS (memS (inR _ (iR e he))))) (rowsMono _ _ _ _ (fun _ h => memS (memS (memS h))) ra1) mem0 pm st (memS (memS mem0)) (memS mem0)
section
variable {K : PySem.W.Frag} {Y : ShPar} {M : Lg} {sl a : Addr} {ws w' : List V} {xs : List V}
theorem sl_mem {x : Addr} {o : HO} (nd : (M.map (·.1)).Nodup) (ms : (sl, HO.lst ws) ∈ M) (m : (x, o) ∈ M) (n : o ≠ HO.lst ws) : (x, o) ∈ awayL M sl := away_mem m (away_ne nd ms m n)
theorem sl_rows {v : V} {S : List RwD} (nd : (M.map (·.1)).Nodup) (ms : (sl, HO.lst ws) ∈ M) (ra : RowsAt K Y M v S) : RowsAt K Y (awayL M sl) v S := rows_awayU nd ms (fun _ _ z => nomatch z) (fun _ z => nomatch z) (fun _ _ _ _ _ z => nomatch z) ra
theorem sl_vals {zs : List V} (nd : (M.map (·.1)).Nodup) (ew : ws = .ref a :: w') (ma : (a, HO.lst xs) ∈ M) (h : ∀ x ∈ zs, ∃ S, RowsAt K Y M x S) : HO.lst zs ≠ HO.lst ws := fun z => by
  injection z with z
  subst z
  subst ew
  obtain ⟨S, b, od, kvs, e, mb, _⟩ := h _ List.mem_cons_self
  cases e
  have := nodup_eq nd mb ma
  cases this
theorem reps_mem {α : Type} {r : V → α → Prop} : ∀ {vs : List V} {as : List α}, Reps r vs as → ∀ x ∈ vs, ∃ a ∈ as, r x a
  | _, _, .nil, x, h => by cases h
  | _, _, .cons h t, x, hx => by
    rcases List.mem_cons.mp hx with rfl | hx
    · exact ⟨_, List.mem_cons_self, h⟩
    · obtain ⟨a, ha, r⟩ := reps_mem t x hx
      exact ⟨a, List.mem_cons_of_mem _ ha, r⟩
theorem sl_shv {rv : V} {nl pl fl : Addr} {vs : List V} {Hs : List (List RwD)} {k : Nat} (nd : (M.map (·.1)).Nodup) (ms : (sl, HO.lst ws) ∈ M) (ew : ws = .ref a :: w') (ma : (a, HO.lst xs) ∈ M) (h : ShV K Y M rv nl pl fl vs Hs k) : ShV K Y (awayL M sl) rv nl pl fl vs Hs k := by
  obtain ⟨h1, h2, ⟨S, ys, h3, h4, h5⟩, h6, h7⟩ := h
  have hr : ∀ x ∈ vs, ∃ S, RowsAt K Y M x S := fun x hx => by
    obtain ⟨S, _, r⟩ := reps_mem h2 x hx
    exact ⟨S, r⟩
  refine ⟨h1, h2.imp fun v a h => sl_rows nd ms h, ⟨S, ys, h3, sl_mem nd ms h4 fun z => ?_, h5⟩, sl_mem nd ms h6 (sl_vals nd ew ma fun x hx => hr x (List.mem_of_mem_take hx)), sl_mem nd ms h7 (sl_vals nd ew ma fun x hx => hr x (List.mem_of_mem_drop (List.mem_reverse.mp hx)))⟩
  injection z with z
  rw [ew] at z
  cases ys with
  | nil => cases z
  | cons y ys =>
    rw [List.map_cons] at z
    cases z
theorem sl_sts {v : V} {S : List RwD} (nd : (M.map (·.1)).Nodup) (ms : (sl, HO.lst ws) ∈ M) (ew : ws = .ref a :: w') (ma : (a, HO.lst xs) ∈ M) (h : StS M v S) : StS (awayL M sl) v S := by
  obtain ⟨T, ⟨q, ts, rfl, h2, h3, h4⟩, h5⟩ := h
  refine ⟨T, ⟨q, ts, rfl, sl_mem nd ms h2 fun z => ?_, fun e he => sl_mem nd ms (h3 e he) (fun z => nomatch z), h4⟩, h5⟩
  injection z with z
  rw [ew] at z
  cases ts with
  | nil => cases z
  | cons t ts =>
    rw [List.map_cons] at z
    have e := (List.cons.inj z).1
    have m := h3 t List.mem_cons_self
    have e2 : t.1 = a := by injection e
    rw [e2] at m
    have := nodup_eq nd m ma
    cases this
end
abbrev spStockS (K : PySem.W.Frag) (Y : ShPar) (Cd : Addr) : SpL := fun vs L Q E => ∃ ws rest, vs = ws ++ rest ∧ ws.length = (["self"] : List Str).length ∧ rest.length ≤ sizeLine ∧ ∀ p, spStock K Y Cd (ws ++ [.ref p]) ((p, .tup rest) :: L) Q E
def exD (p : Nat) : WhD := (false, p, 0, 0)
theorem stock_ofS {K : PySem.W.Frag} {Y : ShPar} {Cd sh dx pl : Addr} {rv nv fv : V} {zs pz : List V} {L R : Lg} {S : List RwD} {rs : List (Option RwD)} {Q : QV} {E : XL} (sb : Sub ((sh, shO Y.CS dx rv nv (.ref pl) fv) :: R) L) (sc : ShC K Y.CS)
    (rp : Reps (RowIs K Y R) zs rs) (ra : RowsAt K Y R rv S) (mp : (pl, HO.lst pz) ∈ R) (lp : pz.length ≤ 100000) (lr : rs.length ≤ 5) (e0 : ∀ i, putsS rs S 0 = .inl i → telX Cd [("at", .int (i : Nat))] E ((sh, shO Y.CS dx rv nv (.ref pl) fv) :: R))
    (q0 : ∀ S', putsS rs S 0 = .inr S' → ∀ v nl ys p2 f2 M N, ys.Perm (S'.map (·.1)) → sortedS ys = true → Sub R N → RowsAt K Y N v S' → Sub ((sh, shO Y.CS dx v (.ref nl) (.ref p2) (.ref f2)) :: (nl, HO.lst (ys.map V.str)) :: (f2, HO.lst []) :: (p2, HO.lst (pz ++ [rv])) :: N) M → Q .non M) :
    spStockS K Y Cd (.ref sh :: zs) L Q E := by
  have lz := rp.len
  refine ⟨[.ref sh], zs, rfl, rfl, by rw [sizeLine_eq]; omega, fun p => ⟨sh, dx, pl, p, rv, nv, fv, zs, pz, (p, HO.tup zs) :: R, S, rs, rfl, Sub.trans (Sub.perm (.swap ..)) (Sub.cons sb), sc, mem0, rp.imp (fun v a h => rowMono _ _ _ _ (fun _ h => memS h) h), rowsMono _ _ _ _ (fun _ h => memS h) ra, memS mp, lp, by omega, fun i hi => (e0 i hi).sub (Sub.cons Sub.drop), fun S' hS v nl ys p2 f2 M N pm st sN raN sM => q0 S' hS v nl ys p2 f2 M N pm st (Sub.trans Sub.drop sN) raN sM⟩⟩
theorem ga_sub {X : Cx} {es : List Expr} {η : En} {L M : Lg} {Q : List V → Lg → Prop} (s : Sub M L) (h : GA X es η M Q) : GA X es η L Q := fun hN H hH => h hN H (s H hH)
theorem sub_mid3 {p c s : Addr × HO} {E R : Lg} : Sub (p :: c :: s :: (E ++ R)) (E ++ p :: c :: s :: R) := Sub.perm ((List.perm_append_comm (l₁ := [p, c, s]) (l₂ := E)).append_right R |>.trans (by simp))
theorem sub_app {B : Lg} : ∀ {A : Lg}, Sub B (A ++ B)
  | [] => Sub.refl
  | _ :: _ => sub_app.trans Sub.drop
def spDeed (K : PySem.W.Frag) (Y : ShPar) : SpL := fun vs L Q _ => ∃ (p c sh dx nl pl fl qn : Addr) (rv : V) (us : List V) (Hs : List (List RwD)) (k : Nat) (zs : List Str) (ns : List Int) (n m : Int) (R : Lg), vs = [.ref p, .ref sh, .ref qn] ∧ Sub ((p, penO c n m) :: (c, celO ns) :: (sh, shO Y.CS dx rv (.ref nl) (.ref pl) (.ref fl)) :: R) L ∧
  ShV K Y R rv nl pl fl us Hs k ∧ us.length ≤ 1000 ∧ (qn, HO.lst (zs.map V.str)) ∈ R ∧ (∀ z ∈ zs, isNameS z = true) ∧ 0 < zs.length ∧ zs.length ≤ 7 ∧ (∀ S ∈ Hs, InPool zs S) ∧ ns.length ≤ 63 ∧ 0 ≤ n ∧ n + 30 ≤ 100000 ∧ 0 ≤ m ∧
  (∀ n' m' R' M, Sub ((p, penO c n' m') :: (c, celO ns) :: (sh, shO Y.CS dx rv (.ref nl) (.ref pl) (.ref fl)) :: R') M → (∀ e ∈ R, e ∈ R') → 0 ≤ n' → n' ≤ n + 20 → 0 ≤ m' → Q .non M) ∧
  ∀ q S' v' nl' pl' fl' n' m' R' M, Sub ((p, penO c n' m') :: (c, celO ns) :: (sh, shO Y.CS dx v' (.ref nl') (.ref pl') (.ref fl')) :: R') M → (∀ e ∈ R, e ∈ R') → StS R' (.ref q) S' → InPool zs S' → ShV K Y R' v' nl' pl' fl' (us.take (k + 1) ++ [v']) (Hs.take (k + 1) ++ [S']) (k + 1) → 0 ≤ n' → n' ≤ n + 20 → 0 ≤ m' → Q (.ref q) M
theorem StAt.imp {L L' : Lg} {v : V} {T : List TxT} (h : StAt L v T) (s : ∀ e ∈ L, e ∈ L') : StAt L' v T := by
  obtain ⟨q, ts, rfl, mq, mt, et⟩ := h
  exact ⟨q, ts, rfl, s _ mq, fun e he => s _ (mt e he), et⟩
theorem ts_past {x p c sh C dx : Addr} {t : TxT} {n m : Int} {ns : List Int} {v1 v2 v3 v4 : V} {E R : Lg} (h : (x, tsO t) ∈ E ++ (p, penO c n m) :: (c, celO ns) :: (sh, shO C dx v1 v2 v3 v4) :: R) : (x, tsO t) ∈ E ++ R := by
  rcases List.mem_append.mp h with h | h
  · exact List.mem_append_left _ h
  · rcases List.mem_cons.mp h with z | h
    · exact absurd (congrArg Prod.snd z) (fun z => nomatch z)
    · rcases List.mem_cons.mp h with z | h
      · exact absurd (congrArg Prod.snd z) (fun z => nomatch z)
      · rcases List.mem_cons.mp h with z | h
        · exact absurd (congrArg Prod.snd z) (fun z => nomatch z)
        · exact List.mem_append_right _ h
theorem puts_two {S : List RwD} {a b : RwD} (h1 : fullS S a.1 = false) (h2 : fullS (putS S a) b.1 = false) : putsS [some a, some b] S 0 = .inr (putS (putS S a) b) := by simp [putsS, stepS, h1, h2]
theorem puts_bad {S : List RwD} {a b : RwD} (h1 : fullS S a.1 = false) (h2 : fullS (putS S a) b.1 = false) : putsS [some a, some b, none] S 0 = .inl 2 := by simp [putsS, stepS, h1, h2]
/-- what the law's own functions and the shelf's methods promise -/
structure LwD (P : Program) (w : World) (K : PySem.W.Frag) (mg : Str → Option Value) (base : Heap) (Y : ShPar) (Cd Cm Cn CE Ce fE gK gD gS gU gR gV gW : Addr) : Prop where
  sc : ShC K Y.CS
  draw : Fn P w K mg base CX0 "_law_draw" 1 spDraw
  row : Fn P w K mg base CX0 "_law_row" 7 (spRow K Y)
  state : Fn P w K mg base CX0 "_law_state" 6 (spState K Y)
  with_ : Fn P w K mg base CX0 "_law_with" 6 (spWith K Y)
  e : MkF P w K mg base "Exact" CE fE 5 (spExactInit K Ce CE)
  we : WhC K Y.D Y.gT Y.gE Y.gS CE false
  rK : RunG P w K mg base (L2.CX P w) 6 gK argsP (toSp (spStockS K Y Cd))
  mK : Meth K Y.CS "stock" gK
  rD : RunG P w K mg base (L2.CX P w) 5 gD argsP (toSp (spDrop K Y Cm))
  mD : Meth K Y.CS "drop" gD
  rS : RunG P w K mg base CX0 5 gS argsP (toSp (spSetItem K Y))
  oS : OwnSet K Y.CS gS
  rU : RunG P w K mg base (L2.CX P w) 3 gU argsP (toSp (spUndoX K Y Cn))
  mU : Meth K Y.CS "undo" gU
  rR : RunG P w K mg base (L2.CX P w) 3 gR argsP (toSp (spRedoX K Y Cn))
  mR : Meth K Y.CS "redo" gR
  pV : ∃ p, PropOf K Y.CS "can_undo" p gV
  pW : ∃ p, PropOf K Y.CS "can_redo" p gW
  rV : RunG P w K mg base CX0 1 gV argsP (toSp (spCan K Y false))
  rW : RunG P w K mg base CX0 1 gW argsP (toSp (spCan K Y true))
/-- the errors that are caught -/
structure ErD (K : PySem.W.Frag) (mg : Str → Option Value) (Cd Cm Cn Cr : Addr) : Prop where
  gD : mg "BadDeed" = some (.ref Cd)
  xD : PySem.W.exmOne K (.ref Cd) (.ref Cd) = some true
  eD : ErV K Cd
  nD : PySem.W.findIn K (.ref Cd) "at" = some none
  gM : mg "NoName" = some (.ref Cm)
  xM : PySem.W.exmOne K (.ref Cm) (.ref Cm) = some true
  eM : ErV K Cm
  nM : PySem.W.findIn K (.ref Cm) "name" = some none
  gN : mg "Nothing" = some (.ref Cn)
  xN : PySem.W.exmOne K (.ref Cn) (.ref Cn) = some true
  eN : ErV K Cn
  gR : mg "ReachError" = some (.ref Cr)
  rr : PySem.W.kitOne K (.ref Cn) (.ref Cr) = some true
section
variable {P : Program} {w : World} {K : PySem.W.Frag} {mg : Str → Option Value} {base : Heap} {Y : ShPar} {Cd Cm Cn Cr CE Ce fE gK gD gS gU gR gV gW : Addr}
theorem fn_law_deed (B : Bi mg) (F : Df K mg "_law_deed" s_law_deed) (W : LwD P w K mg base Y Cd Cm Cn CE Ce fE gK gD gS gU gR gV gW) (Er : ErD K mg Cd Cm Cn Cr) : Fn P w K mg base CX0 "_law_deed" 8 (spDeed K Y) := by
  refine fn_plain F sc_law_deed (fun _ _ _ _ _ _ us hl => match us, hl with | [_, _, _], _ => rfl) (by decide) (by tm_at "g_len") ?_
  intro X f cdv A outer s H E0 L vs Q E hX nd hr h
  subst hX
  obtain ⟨p, c, sh, dx, nl, pl, fl, qn, rv, us, Hs, k, zs, ns, n, m, R, rfl, sb, sv, lu, mq, nz, z0, z7, pool, h63, n0, n1, m0, q0, q1⟩ := h
  refine (fun h => GSs.sub sb h) ?_
  obtain ⟨S, hS, ra⟩ := sv.row
  obtain ⟨S2, ys, hS2, mn, pm, st⟩ := sv.nm
  cases hS.symm.trans hS2
  have so : SOk S := by
    obtain ⟨_, _, _, _, _, _, so⟩ := ra
    exact so
  have pS : InPool zs S := pool S (List.mem_of_getElem? hS)
  show GSs _ (defBody s_law_deed) (bodyD Q) [("_law_pen_here", some (.ref p)), ("_law_shelf", some (.ref sh)), ("_law_names", some (.ref qn)), ("_law_state_here", none), ("_law_way", none), ("_law_first", none), ("_law_last", none), ("e", none), ("_law_row_here", none)] _
  refine gss_cons ?_
  tm_at "g"
  refine ge_call (El := NoX) W.state hr passA ?_
  tm_at "g"
  refine ⟨sh, dx, nl, pl, fl, rv, S, ys, rfl, ⟨memS (memS mem0), W.sc, rowsMono _ _ _ _ (fun _ h => memS (memS (memS h))) ra, memS (memS (memS mn)), pm, st⟩, fun D1 ts ets => ?_⟩
  have sT := st_of so pm st
  rw [← ets] at sT
  have sg : StS ((D1, HO.lst (ts.map fun e : Ts3 => V.ref e.1)) :: tsL ts ++ R) (.ref D1) S := ⟨_, ⟨D1, ts, rfl, mem0, fun e he => List.mem_append_left _ (memS (mem_ts he)), rfl⟩, sT⟩
  refine ga_sub (sub_mid3 (E := (D1, HO.lst (ts.map fun e : Ts3 => V.ref e.1)) :: tsL ts)) ?_
  have iR : ∀ e ∈ R, e ∈ (D1, HO.lst (ts.map fun e : Ts3 => V.ref e.1)) :: tsL ts ++ R := fun e he => List.mem_append_right _ he
  generalize (D1, HO.lst (ts.map fun e : Ts3 => V.ref e.1)) :: tsL ts ++ R = R1 at sg iR ⊢
  clear sT ets
  tm_at "g"
  refine ge_call (El := NoX) W.draw hr passA ?_
  tm_at "g"
  refine ⟨p, c, ns, n, m, 6, _, rfl, Sub.refl, h63, by decide, by decide, n0, by omega, m0, fun d n2 m2 d0 d1 a0 a1 a2 => ?_⟩
  tm_at "g"
  refine ge_call (El := NoX) W.row hr passA ?_
  tm_at "g"
  refine ⟨p, c, qn, zs, ns, n2, m2, _, rfl, Sub.refl, memS (iR _ mq), nz, z0, by omega, h63, a0, by omega, a2, fun v1 z1 d1' k1 n3 m3 E2 M2 hz1 sM2 ri1 b0 b1 b2 => ?_⟩
  refine ga_sub (Sub.trans (show Sub ((p, penO c n3 m3) :: (c, celO ns) :: (sh, shO Y.CS dx rv (.ref nl) (.ref pl) (.ref fl)) :: (E2 ++ R1)) _ from Sub.cons (Sub.cons sub_mid)) sM2) ?_
  replace ri1 := rowMono _ (E2 ++ R1) _ _ (fun e he => List.mem_append_left _ he) ri1
  replace sg := stMono (L' := E2 ++ R1) (fun e he => List.mem_append_right _ he) sg
  replace iR : ∀ e ∈ R, e ∈ E2 ++ R1 := fun e he => List.mem_append_right _ (iR e he)
  generalize E2 ++ R1 = R2 at ri1 sg iR ⊢
  clear sM2
  tm_at "g"
  refine ge_call (El := NoX) W.row hr passA ?_
  tm_at "g"
  refine ⟨p, c, qn, zs, ns, n3, m3, _, rfl, Sub.refl, memS (iR _ mq), nz, z0, by omega, h63, b0, by omega, b2, fun v2 z2 d2' k2 n4 m4 E3 M3 hz2 sM3 ri2 c0 c1 c2 => ?_⟩
  refine ga_sub (Sub.trans (show Sub ((p, penO c n4 m4) :: (c, celO ns) :: (sh, shO Y.CS dx rv (.ref nl) (.ref pl) (.ref fl)) :: (E3 ++ R2)) _ from Sub.cons (Sub.cons sub_mid)) sM3) ?_
  replace ri2 := rowMono _ (E3 ++ R2) _ _ (fun e he => List.mem_append_left _ he) ri2
  replace ri1 := rowMono _ (E3 ++ R2) _ _ (fun e he => List.mem_append_right _ he) ri1
  replace sg := stMono (L' := E3 ++ R2) (fun e he => List.mem_append_right _ he) sg
  replace iR : ∀ e ∈ R, e ∈ E3 ++ R2 := fun e he => List.mem_append_right _ (iR e he)
  generalize E3 ++ R2 = R3 at ri1 ri2 sg iR ⊢
  clear sM3
  tm_at "g"
  obtain ⟨nz1, wb1, hp1, t1, w1, rfl, mt1, wa1⟩ := id ri1
  obtain ⟨nz2, wb2, hp2, t2, w2, rfl, mt2, wa2⟩ := id ri2
  have sT := sg
  obtain ⟨T, stT, sT⟩ := sT
  have sub_sh : ∀ {a b e : Addr × HO} {Z : Lg}, Sub (e :: a :: b :: Z) (a :: b :: e :: Z) := fun {a b e Z} => Sub.perm (List.perm_middle (l₁ := [a, b]) (l₂ := Z)).symm
  have sub_sh' : ∀ {a b e : Addr × HO} {R : Lg}, Sub (a :: b :: e :: R) (e :: a :: b :: R) := fun {a b e R} => Sub.perm (List.perm_middle (l₁ := [a, b]) (l₂ := R))
  have iP : ∀ {n m : Int}, ∀ e ∈ R3, e ∈ (p, penO c n m) :: (c, celO ns) :: R3 := fun e he => memS (memS he)
  have hf1 : fullS S z1 = false := pool_full so pS z7
  have p1 : InPool zs (putS S (z1, d1', k1)) := pool_put pS hz1
  have so2 : SOk (putS S (z1, d1', k1)) := putS_ok so nz1 wb1 hp1 hf1
  have hf2 : fullS (putS S (z1, d1', k1)) z2 = false := pool_full so2 p1 z7
  have lenT : ∀ {S0 : List RwD} {T0 : List TxT}, IsSt S0 T0 → T0.length = S0.length := fun h => by
    have := h.1.length_eq
    rw [List.length_map] at this
    exact this
  have lk : (us.take k).length ≤ 100000 := by rw [List.length_take]; omega
  refine ite_d (fun hw => ?_) (fun hw => ?_)
  · refine (fun h => GSs.sub Sub.drop h) ?_
    refine gss_cons ?_
    refine gs_try_as (x := "NoName") (c := .ref Cm) ⟨rfl, rfl, .inl Er.gM⟩ (Wout := fun _ _ _ _ => False) tk0 ?_ (show _ ∈ N_law_deed by decide)
    intro X' pn xe hX hp nd' tk
    subst hX
    refine gss_cons ?_
    tm_at "g"
    refine ge_methX W.rD W.mD W.sc.c hr tk ?_
    tm_at "g"
    refine ⟨sh, dx, _, rfl, memS (memS mem0), rfl, ?_⟩
    tm_at "g"
    refine ⟨sh, dx, pl, rv, .ref nl, .ref fl, us.take k, (p, penO c n4 m4) :: (c, celO ns) :: R3, S, z1, rfl, sub_sh, W.sc, rowsMono _ _ _ _ (fun _ h => memS (memS (iR _ h))) ra, memS (memS (iR _ sv.mp)), lk, fun hh => ?_, fun hh v nl' ys' p2 f2 M N pm' st' sN raN sM => ?_⟩
    · intro d M sb
      refine ⟨true, Er.xM, fun _ a => ⟨_, by tm_at "g_pv", GSs.sub (Sub.cons sb) ?_⟩, fun z => nomatch z⟩
      refine gss_cons ?_
      tm_at "g"
      refine gat_exc Er.eM Er.nM mem0 (memS mem0) rfl ?_
      tm_at "g"
      refine go_eqV rfl ?_
      rw [decide_eq_true rfl]
      tm_at "g"
      exact ⟨_, Sub.refl, q0 n4 m4 R3 _ (Sub.trans (sub_sh' (R := R3)) (Sub.trans Sub.drop Sub.drop)) iR c0 (by omega) c2⟩
    · refine gssNd fun ndM => ?_
      obtain ⟨R4, s4, i4, sv4⟩ := deed_out ndM sv iR pm' st' sN raN sM
      refine (fun h => GSs.sub s4 h) ?_
      replace stT : StAt R4 (.ref D1) T := by
        obtain ⟨q', ts', e1, e2, e3, e4⟩ := stT
        exact ⟨q', ts', e1, i4 _ e2, fun e he => i4 _ (e3 e he), e4⟩
      replace mt1 := i4 _ mt1
      refine gss_nil ?_
      show GSs _ _ _ _ _
      obtain ⟨q', ts', e1, mq', mt', et'⟩ := stT
      cases e1
      have lts : ts'.length ≤ 8 := by
        have := sT.1.length_eq
        rw [← et', List.length_map, List.length_map] at this
        have := so.2.1
        omega
      refine gss_cons ?_
      tm_at "g"
      refine ge_lcP (by tm_at "g_put") (gi_list ?_) (show blkC N_law_deed (defScope s_law_deed) _ [(_, List.idxOf _ N_law_deed)] = true by decide +kernel)
      tm_at "g"
      refine pure_rowI (pt := fun i => decide ((ts'.getD i (0, ⟨#[]⟩, ⟨#[]⟩, 0)).2.1 ≠ z1)) (pg := fun i => .ref (ts'.getD i (0, ⟨#[]⟩, ⟨#[]⟩, 0)).1) (memS (memS (memS mq'))) (by rw [List.length_map]; omega) (fun i v hv D acc s1 H1 C1 cl1 fp1 => ?_) fun D => ?_
      · rw [List.getElem?_map] at hv
        obtain ⟨e, he, rfl⟩ := Option.map_eq_some_iff.mp hv
        have ee : ts'.getD i (0, ⟨#[]⟩, ⟨#[]⟩, 0) = e := by rw [List.getD_eq_getElem?_getD, he]; rfl
        rw [ee]
        have me := mt' e (List.mem_of_getElem? he)
        show G.GT _ _ _ _ _
        tm_at "g"
        refine go_neV rfl ?_
        refine ⟨_, rfl, ?_, Sub.refl, fun hb s2 H2 C2 cl2 fp2 => ?_⟩
        · have e1 : decide (V.str e.2.1 = V.str z1) = decide (e.2.1 = z1) := decide_eq_decide.mpr ⟨fun h => V.str.inj h, fun h => congrArg V.str h⟩
          rw [e1]
          simp
        · tm_at "g"
          exact ⟨rfl, Sub.refl⟩
      · rw [List.length_map, filter_listA (xs := ts') (t := fun e => decide (e.2.1 ≠ z1)) (g := fun e => V.ref e.1) fun i e he => by
          have ee : ts'.getD i (0, ⟨#[]⟩, ⟨#[]⟩, 0) = e := by rw [List.getD_eq_getElem?_getD, he]; rfl
          exact ⟨by rw [ee], by rw [ee]⟩]
        have ef : (ts'.filter fun e => decide (e.2.1 ≠ z1)).map (·.2) = T.filter fun e => decide (e.1 ≠ z1) := by
          rw [← et', List.filter_map]
          rfl
        tm_at "g"
        refine ⟨_, Sub.refl, q1 D (delS S z1) v nl' p2 f2 n4 m4 ((D, HO.lst ((ts'.filter fun e => decide (e.2.1 ≠ z1)).map fun e => V.ref e.1)) :: R4) _ (sub_mid3 (E := [(D, _)])) (fun e he => memS (i4 _ (iR e he))) ⟨_, ⟨D, _, rfl, mem0, fun e he => memS (mt' e (List.mem_filter.mp he).1), ef⟩, sT.del⟩ (pool_del pS) (sv4.imp fun e he => memS he) c0 (by omega) c2⟩
  refine (fun h => GSs.sub Sub.drop h) ?_
  tm_at "g"
  refine ite_d (fun hw1 => ?_) (fun hw1 => ?_)
  · refine gss_cons ?_
    tm_at "g"
    refine ge_meth (El := NoX) W.rK W.mK W.sc.c hr passN ?_
    tm_at "g"
    refine ⟨sh, dx, _, rfl, memS (memS mem0), rfl, ?_⟩
    tm_at "g"
    refine stock_ofS (S := S) (rs := [some (z1, d1', k1), some (z2, d2', k2)]) (pz := us.take k) (R := (p, penO c n4 m4) :: (c, celO ns) :: R3) sub_sh W.sc (.cons (rowMono _ _ _ _ iP ri1) (.cons (rowMono _ _ _ _ iP ri2) .nil)) (rowsMono _ _ _ _ (fun _ h => iP _ (iR _ h)) ra) (iP _ (iR _ sv.mp)) lk (by show 2 ≤ 5; decide) (fun i hi => ?_) (fun S' hS' v nl' ys' p2 f2 M N pm' st' sN raN sM => ?_)
    · rw [puts_two hf1 hf2] at hi
      cases hi
    · rw [puts_two hf1 hf2] at hS'
      obtain rfl := Sum.inr.inj hS'
      refine gssNd fun ndM => ?_
      obtain ⟨R4, s4, i4, sv4⟩ := deed_out ndM sv iR pm' st' sN raN sM
      refine (fun h => GSs.sub s4 h) ?_
      replace stT : StAt R4 (.ref D1) T := stT.imp i4
      tm_at "g"
      refine ge_call (El := NoX) W.with_ hr passA ?_
      tm_at "g"
      refine ge_call (El := NoX) W.with_ hr passA ?_
      tm_at "g"
      refine ⟨.ref D1, t1, w1, T, z1, d1', k1, rfl, stT.imp fun e he => memS (memS (memS he)), memS (memS (memS (i4 _ mt1))), whMono _ _ _ _ (fun e he => memS (memS (memS (i4 _ he)))) wa1, wb1, sT.names so, by have := lenT sT; have := so.2.1; omega, fun q2 ts2 E2 T' mq2 mt2' et2 pm2 pw2 => ?_⟩
      have sT2 := sT.put so pm2 pw2
      tm_at "g"
      refine ⟨.ref q2, t2, w2, T', z2, d2', k2, rfl, ⟨q2, ts2, rfl, List.mem_append_left _ mq2, mt2', et2⟩, List.mem_append_right _ (memS (memS (memS (i4 _ mt2)))), whMono _ _ _ _ (fun e he => List.mem_append_right _ (memS (memS (memS (i4 _ he))))) wa2, wb2, sT2.names so2, by have := lenT sT2; have := so2.2.1; omega, fun q3 ts3 E3 T3 mq3 mt3 et3 pm3 pw3 => ?_⟩
      have sT3 := sT2.put so2 pm3 pw3
      tm_at "g"
      refine ⟨_, ?_, q1 q3 _ v nl' p2 f2 n4 m4 (E3 ++ (E2 ++ R4)) _ Sub.refl (fun e he => List.mem_append_right _ (List.mem_append_right _ (i4 _ (iR e he)))) ⟨T3, ⟨q3, ts3, rfl, List.mem_append_left _ mq3, fun e he => ?_, et3⟩, sT3⟩ (pool_put (pool_put pS hz1) hz2) (sv4.imp fun e he => List.mem_append_right _ (List.mem_append_right _ he)) c0 (by omega) c2⟩
      · exact Sub.trans sub_mid3 (Sub.append sub_mid3)
      · rcases List.mem_append.mp (mt3 e he) with h | h
        · exact List.mem_append_left _ h
        · exact List.mem_append_right _ (ts_past h)
  tm_at "g"
  refine ite_d (fun hw2 => ?_) (fun hw2 => ?_)
  · refine gss_cons ?_
    refine gs_try_as (x := "BadDeed") (c := .ref Cd) ⟨rfl, rfl, .inl Er.gD⟩ (Wout := fun _ _ _ _ => False) tk0 ?_ (show _ ∈ N_law_deed by decide)
    intro X' pn xe hX hp nd' tk
    subst hX
    refine gss_cons ?_
    tm_at "g"
    refine ge_methX W.rK W.mK W.sc.c hr tk ?_
    tm_at "g"
    refine ⟨sh, dx, _, rfl, memS (memS mem0), rfl, ?_⟩
    tm_at "g"
    refine ge_callF W.e.g W.e.M.kp (fun _ => gf_make (El := NoX) W.e.M W.e.R (fun _ _ => rfl) hr passN) ?_
    tm_at "g"
    intro x1 dx1
    refine ⟨x1, dx1, _, _, _, rfl, mem0, W.we.a, .int, .here, fun _ => ⟨rfl, ?_⟩, no_bad (by decide) (by decide)⟩
    tm_at "g"
    rename_i tx
    have hf1' : fullS S z2 = false := pool_full so pS z7
    have hf2' : fullS (putS S (z2, d2', k2)) z1 = false := pool_full (putS_ok so nz2 wb2 hp2 hf1') (pool_put pS hz2) z7
    refine stock_ofS (S := S) (rs := [some (z2, d2', k2), some (z1, d1', k1), none]) (pz := us.take k) (R := (tx, HO.tup [.str "", .ref x1, .int 0]) :: (x1, wO CE dx1 (.int 7) (.int 0) (.int 0)) :: (dx1, HO.own x1) :: (p, penO c n4 m4) :: (c, celO ns) :: R3) (Sub.perm (List.perm_middle (l₁ := [(_, _), (_, _), (_, _), (_, _), (_, _)]) (l₂ := R3)).symm) W.sc (.cons (rowMono _ _ _ _ (fun _ h => memS (memS (memS (iP _ h)))) ri2) (.cons (rowMono _ _ _ _ (fun _ h => memS (memS (memS (iP _ h)))) ri1) (.cons (.inr (.inr ⟨tx, .str "", .ref x1, .int 0, _, rfl, mem0, .str, fun z e => by cases e; decide, fun h => absurd h (by decide)⟩)) .nil))) (rowsMono _ _ _ _ (fun _ h => memS (memS (memS (iP _ (iR _ h))))) ra) (memS (memS (memS (iP _ (iR _ sv.mp))))) lk (by show 3 ≤ 5; decide) (fun i hi => ?_) (fun S' hS' => by rw [puts_bad hf1' hf2'] at hS'; cases hS')
    rw [puts_bad hf1' hf2'] at hi
    obtain rfl := Sum.inl.inj hi
    intro d M sb
    refine ⟨true, Er.xD, fun _ a => ⟨_, by tm_at "g_pv", GSs.sub (Sub.cons sb) ?_⟩, fun z => nomatch z⟩
    refine gss_cons ?_
    tm_at "g"
    refine gat_exc Er.eD Er.nD mem0 (memS mem0) rfl ?_
    tm_at "g"
    rw [if_pos (show decide (((2 : Nat) : Int) = 2) = true from rfl)]
    tm_at "g"
    exact ⟨_, Sub.refl, q0 n4 m4 R3 _ (Sub.trans (sub_sh' (R := R3)) (Sub.trans (Sub.cons (Sub.trans Sub.drop (Sub.trans Sub.drop Sub.drop))) (Sub.trans Sub.drop Sub.drop))) iR c0 (by omega) c2⟩
  tm_at "g"
  refine ite_d (fun hw3 => ?_) (fun hw3 => ?_)
  · refine gss_cons ?_
    tm_at "g"
    refine ge_meth0 (El := NoX) W.rK W.mK W.sc.c hr passN ?_
    tm_at "g"
    refine ⟨sh, dx, _, rfl, memS (memS mem0), rfl, ?_⟩
    refine stock_ofS (S := S) (rs := []) (zs := []) (pz := us.take k) (R := (p, penO c n4 m4) :: (c, celO ns) :: R3) sub_sh W.sc .nil (rowsMono _ _ _ _ (fun _ h => iP _ (iR _ h)) ra) (iP _ (iR _ sv.mp)) lk (by show 0 ≤ 5; decide) (fun i hi => by cases hi) (fun S' hS' v nl' ys' p2 f2 M N pm' st' sN raN sM => ?_)
    obtain rfl : S = S' := Sum.inr.inj hS'
    refine gssNd fun ndM => ?_
    obtain ⟨R4, s4, i4, sv4⟩ := deed_out ndM sv iR pm' st' sN raN sM
    refine (fun h => GSs.sub s4 h) ?_
    tm_at "g"
    exact ⟨_, Sub.refl, q1 D1 S v nl' p2 f2 n4 m4 R4 _ Sub.refl (fun e he => i4 _ (iR e he)) (stMono i4 sg) pS sv4 c0 (by omega) c2⟩
  tm_at "g"
  rename_i it
  refine gst_own (El := NoX) W.oS W.rS hr passA (memS (memS (memS mem0))) ?_
  refine ⟨sh, dx, pl, it, rv, .ref nl, .ref fl, w1, us.take k, (it, HO.tup [w1, .int (k1 : Nat)]) :: (p, penO c n4 m4) :: (c, celO ns) :: R3, S, z1, d1', k1, rfl, Sub.perm (List.perm_middle (l₁ := [(_, _), (_, _), (_, _)]) (l₂ := R3)).symm, W.sc, rowsMono _ _ _ _ (fun _ h => memS (iP _ (iR _ h))) ra, memS (iP _ (iR _ sv.mp)), lk, mem0, nz1, whMono _ _ _ _ (fun _ h => memS (iP _ h)) wa1, wb1, hp1, hf1, fun v nl' ys' p2 f2 M N pm' st' sN raN sM => ?_⟩
  refine gssNd fun ndM => ?_
  obtain ⟨R4, s4, i4, sv4⟩ := deed_out ndM sv iR pm' st' (Sub.trans Sub.drop sN) raN sM
  refine (fun h => GSs.sub s4 h) ?_
  replace stT : StAt R4 (.ref D1) T := stT.imp i4
  tm_at "g"
  refine ge_call (El := NoX) W.with_ hr passA ?_
  tm_at "g"
  refine ⟨.ref D1, t1, w1, T, z1, d1', k1, rfl, stT.imp fun e he => memS (memS (memS he)), memS (memS (memS (i4 _ mt1))), whMono _ _ _ _ (fun e he => memS (memS (memS (i4 _ he)))) wa1, wb1, sT.names so, by have := lenT sT; have := so.2.1; omega, fun q2 ts2 E2 T' mq2 mt2' et2 pm2 pw2 => ?_⟩
  have sT2 := sT.put so pm2 pw2
  tm_at "g"
  exact ⟨_, sub_mid3, q1 q2 _ v nl' p2 f2 n4 m4 (E2 ++ R4) _ Sub.refl (fun e he => List.mem_append_right _ (i4 _ (iR e he))) ⟨T', ⟨q2, ts2, rfl, List.mem_append_left _ mq2, fun e he => ts_past (mt2' e he), et2⟩, sT2⟩ p1 (sv4.imp fun e he => List.mem_append_right _ he) c0 (by omega) c2⟩
end
def goneU (u : Bool) (k l : Nat) : Prop := (u = true ∧ k = 0) ∨ (u = false ∧ k + 1 = l)
def goesU (u : Bool) (k l k' : Nat) : Prop := (u = true ∧ k = k' + 1) ∨ (u = false ∧ k' = k + 1 ∧ k' < l)
def wayS (u : Bool) : Str := if u = true then "undo" else "redo"
def spStep (K : PySem.W.Frag) (Y : ShPar) : SpL := fun vs L Q _ => ∃ (sh dx nl pl fl : Addr) (rv : V) (u : Bool) (us : List V) (Hs : List (List RwD)) (k : Nat) (R : Lg), vs = [.ref sh, .str (wayS u)] ∧ Sub ((sh, shO Y.CS dx rv (.ref nl) (.ref pl) (.ref fl)) :: R) L ∧
  ShV K Y R rv nl pl fl us Hs k ∧ us.length ≤ 1000 ∧ (goneU u k us.length → ∀ M, Sub ((sh, shO Y.CS dx rv (.ref nl) (.ref pl) (.ref fl)) :: R) M → Q (.bl false) M) ∧
  ∀ k', goesU u k us.length k' → ∀ rv' nl' pl' fl' ys S M, us[k']? = some rv' → Hs[k']? = some S → ys.Perm (S.map (·.1)) → sortedS ys = true → Sub ((sh, shO Y.CS dx rv' (.ref nl') (.ref pl') (.ref fl')) :: (nl', HO.lst (ys.map V.str)) :: (pl', HO.lst (us.take k')) :: (fl', HO.lst (us.drop (k' + 1)).reverse) :: R) M → Q (.bl true) M
theorem ShV.step {K : PySem.W.Frag} {Y : ShPar} {R : Lg} {rv rv' : V} {nl pl fl nl' pl' fl' : Addr} {us : List V} {Hs : List (List RwD)} {k k' : Nat} {S : List RwD} {ys : List Str} (h : ShV K Y R rv nl pl fl us Hs k) (hv : us[k']? = some rv') (hS : Hs[k']? = some S) (pm : ys.Perm (S.map (·.1))) (st : sortedS ys = true) :
    ShV K Y ((nl', HO.lst (ys.map V.str)) :: (pl', HO.lst (us.take k')) :: (fl', HO.lst (us.drop (k' + 1)).reverse) :: R) rv' nl' pl' fl' us Hs k' :=
  ⟨hv, h.rows.imp fun v a h => rowsMono _ _ _ _ (fun _ h => memS (memS (memS h))) h, ⟨S, ys, hS, mem0, pm, st⟩, memS mem0, memS (memS mem0)⟩
section
variable {P : Program} {w : World} {K : PySem.W.Frag} {mg : Str → Option Value} {base : Heap} {Y : ShPar} {Cd Cm Cn Cr CE Ce fE gK gD gS gU gR gV gW : Addr}
theorem fn_law_step (B : Bi mg) (F : Df K mg "_law_step" s_law_step) (W : LwD P w K mg base Y Cd Cm Cn CE Ce fE gK gD gS gU gR gV gW) (Er : ErD K mg Cd Cm Cn Cr) : Fn P w K mg base CX0 "_law_step" 5 (spStep K Y) := by
  refine fn_plain F sc_law_step (fun _ _ _ _ _ _ us hl => match us, hl with | [_, _], _ => rfl) (by decide) (by tm_at "g_len") ?_
  intro X f cdv A outer s H E0 L vs Q E hX nd hr h
  subst hX
  obtain ⟨sh, dx, nl, pl, fl, rv, u, us, Hs, k, R, rfl, sb, sv, lu, q0, q1⟩ := h
  refine (fun h => GSs.sub sb h) ?_
  have hk := sv.lt
  have lt : (us.take k).length ≤ 100000 := by rw [List.length_take]; omega
  have ld : (us.drop (k + 1)).reverse.length ≤ 100000 := by rw [List.length_reverse, List.length_drop]; omega
  show GSs _ (defBody s_law_step) (bodyD Q) [("_law_shelf", some (.ref sh)), ("_law_way", some (.str (wayS u))), ("_law_told", none), ("e", none)] _
  refine gss_cons ?_
  refine gs_try_as (x := "Nothing") (c := .ref Cn) ⟨rfl, rfl, .inl Er.gN⟩ (Wout := fun _ _ _ _ => False) tk0 ?_ (show _ ∈ N_law_step by decide)
  intro X' pn xe hX hp nd' tk
  subst hX
  refine gss_cons ?_
  cases u with
  | true =>
    have ew : wayS true = "undo" := rfl
    rw [ew]
    tm_at "g"
    refine go_eqV rfl ?_
    rw [decide_eq_true rfl]
    tm_at "g"
    refine ge_methX0 W.rU W.mU W.sc.c hr tk ?_
    tm_at "g"
    refine ⟨sh, dx, _, rfl, mem0, rfl, sh, dx, pl, fl, rv, .ref nl, us.take k, (us.drop (k + 1)).reverse, R, rfl, Sub.refl, W.sc, sv.mp, sv.mf, lt, ld, ?_⟩
    cases k with
    | zero =>
      refine .inl ⟨rfl, fun M sb => ?_⟩
      refine ⟨true, Er.xN, fun _ a => ⟨_, by tm_at "g_pv", GSs.sub (Sub.cons sb) ?_⟩, fun z => nomatch z⟩
      refine gss_cons ?_
      tm_at "g"
      refine gv_def Er.gR ?_
      tm_at "g"
      refine gc_isE0 Er.eN mem0 (.own Cr) Er.rr ?_
      tm_at "g"
      exact ⟨_, Sub.drop, q0 (.inl ⟨rfl, rfl⟩) _ Sub.refl⟩
    | succ k =>
      obtain ⟨v, hv⟩ : ∃ v, us[k]? = some v := ⟨us[k], List.getElem?_eq_getElem (by omega)⟩
      obtain ⟨S, hS, ra⟩ := sv.rows.get hv
      refine .inr ⟨us.take k, v, S, take_at hv, ra, fun nl' ys p2 f2 M pm st s2 => ?_⟩
      refine gss_nil ?_
      show GSs _ _ _ _ _
      refine (fun h => GSs.sub s2 h) ?_
      refine gss_cons ?_
      tm_at "g"
      exact ⟨_, Sub.refl, q1 k (.inl ⟨rfl, rfl⟩) v nl' p2 f2 ys S _ hv hS pm st (by rw [drop_at sv.rv]; exact Sub.refl)⟩
  | false =>
    have ew : wayS false = "redo" := rfl
    rw [ew]
    tm_at "g"
    refine go_eqV rfl ?_
    rw [decide_eq_false (by decide)]
    tm_at "g"
    refine ge_methX0 W.rR W.mR W.sc.c hr tk ?_
    tm_at "g"
    refine ⟨sh, dx, _, rfl, mem0, rfl, sh, dx, pl, fl, rv, .ref nl, us.take k, (us.drop (k + 1)).reverse, R, rfl, Sub.refl, W.sc, sv.mp, sv.mf, lt, ld, ?_⟩
    by_cases e : k + 1 = us.length
    · refine .inl ⟨by rw [e, List.drop_length]; rfl, fun M sb => ?_⟩
      refine ⟨true, Er.xN, fun _ a => ⟨_, by tm_at "g_pv", GSs.sub (Sub.cons sb) ?_⟩, fun z => nomatch z⟩
      refine gss_cons ?_
      tm_at "g"
      refine gv_def Er.gR ?_
      tm_at "g"
      refine gc_isE0 Er.eN mem0 (.own Cr) Er.rr ?_
      tm_at "g"
      exact ⟨_, Sub.drop, q0 (.inr ⟨rfl, e⟩) _ Sub.refl⟩
    · obtain ⟨v, hv⟩ : ∃ v, us[k + 1]? = some v := ⟨us[k + 1], List.getElem?_eq_getElem (by omega)⟩
      obtain ⟨S, hS, ra⟩ := sv.rows.get hv
      refine .inr ⟨(us.drop (k + 1 + 1)).reverse, v, S, drop_at hv, ra, fun nl' ys p2 f2 M pm st s2 => ?_⟩
      refine gss_nil ?_
      show GSs _ _ _ _ _
      refine (fun h => GSs.sub s2 h) ?_
      refine gss_cons ?_
      tm_at "g"
      exact ⟨_, Sub.refl, q1 (k + 1) (.inr ⟨rfl, rfl, by omega⟩) v nl' p2 f2 ys S _ hv hS pm st (by rw [take_at sv.rv]; exact Sub.refl)⟩
end
def spStands (K : PySem.W.Frag) (Y : ShPar) : SpL := fun vs L Q _ => ∃ (sh dx nl pl fl sl : Addr) (rv : V) (us ws : List V) (Hs : List (List RwD)) (k : Nat), vs = [.ref sh, .ref sl, .int (k : Nat)] ∧ (sh, shO Y.CS dx rv (.ref nl) (.ref pl) (.ref fl)) ∈ L ∧ ShV K Y L rv nl pl fl us Hs k ∧ us.length ≤ 1000 ∧ (sl, HO.lst ws) ∈ L ∧ Reps (StS L) ws Hs ∧ ∀ M, Sub L M → Q (.bl true) M
def pairD (a b : Int) : PyData := .tuple [.int a, .int b]
theorem dl_pair {L : Lg} {t : Addr} {a b : Int} (m : (t, HO.tup [.int a, .int b]) ∈ L) : Dl L (.ref t) (pairD a b) := dl_tup m (dls_cons dl_int (dls_cons dl_int dls_nil))
theorem sm_nat {i : Nat} (h : i ≤ 1000000) : ((i : Nat) : Int).natAbs < 2 ^ 1920 := by
  rw [Int.natAbs_natCast]
  exact Nat.lt_of_lt_of_le (show i < 2 ^ 100 by omega) (Nat.pow_le_pow_right (by decide) (by decide))
theorem sh_pair {a b : Nat} (ha : a ≤ 1000000) (hb : b ≤ 1000000) : Sh (pairD a b) (1921 * 2 + 2 * 2 + 3) 1 := sh_tuple (k := 0) (fun x hx => by
  simp only [List.mem_cons, List.not_mem_nil, or_false] at hx
  rcases hx with rfl | rfl
  · exact sh_int (sm_nat ha)
  · exact sh_int (sm_nat hb)) (Nat.le_refl 2)
section
variable {P : Program} {w : World} {K : PySem.W.Frag} {mg : Str → Option Value} {base : Heap} {Y : ShPar} {Cd Cm Cn Cr CE Ce fE gK gD gS gU gR gV gW : Addr}
theorem fn_law_stands (B : Bi mg) (F : Df K mg "_law_stands" s_law_stands) (W : LwD P w K mg base Y Cd Cm Cn CE Ce fE gK gD gS gU gR gV gW) : Fn P w K mg base CX0 "_law_stands" 7 (spStands K Y) := by
  refine fn_plain F sc_law_stands (fun _ _ _ _ _ _ us hl => match us, hl with | [_, _, _], _ => rfl) (by decide) (by tm_at "g_len") ?_
  intro X f cdv A outer s H E0 L vs Q E hX nd hr h
  subst hX
  obtain ⟨sh, dx, nl, pl, fl, sl, rv, us, ws, Hs, k, rfl, ms, sv, lu, ml, rp, q⟩ := h
  obtain ⟨ppv, pv⟩ := W.pV
  obtain ⟨ppw, pw⟩ := W.pW
  have hk := sv.lt
  obtain ⟨S, hS, ra⟩ := sv.row
  obtain ⟨S2, ys, hS2, mn, pm, st⟩ := sv.nm
  cases hS.symm.trans hS2
  have so : SOk S := by
    obtain ⟨_, _, _, _, _, _, so⟩ := ra
    exact so
  obtain ⟨wv, hw, T, stT, sT⟩ := reps_at rp hS
  have lw : ws.length = us.length := by rw [rp.len, ← sv.rows.len]
  show GSs _ (defBody s_law_stands) (bodyD Q) [("_law_shelf", some (.ref sh)), ("_law_states", some (.ref sl)), ("_law_at", some (.int (k : Nat))), ("_law_counts", none)] _
  refine gss_cons ?_
  tm_at "g"
  refine gat_prop (El := NoX) W.sc.c pv W.rV hr passA ms ⟨sh, dx, pl, fl, rv, .ref nl, us.take k, (us.drop (k + 1)).reverse, rfl, ms, W.sc, sv.mp, sv.mf, ?_⟩
  rw [if_neg Bool.false_ne_true]
  tm_at "g"
  refine gat_prop (El := NoX) W.sc.c pw W.rW hr passA ms ⟨sh, dx, pl, fl, rv, .ref nl, us.take k, (us.drop (k + 1)).reverse, rfl, ms, W.sc, sv.mp, sv.mf, ?_⟩
  rw [if_pos rfl]
  tm_at "g"
  refine ge_call (El := NoX) W.state hr passA ?_
  tm_at "g"
  rename_i ct
  refine ⟨sh, dx, nl, pl, fl, rv, S, ys, rfl, ⟨memS ms, W.sc, rowsMono _ _ _ _ (fun _ h => memS h) ra, memS mn, pm, st⟩, fun D ts ets => ?_⟩
  have sT2 := st_of so pm st
  rw [← ets] at sT2
  have eT := IsSt.uniq so sT2 sT
  have iL : ∀ e ∈ L, e ∈ (D, HO.lst (ts.map fun e : Ts3 => V.ref e.1)) :: (tsL ts ++ (ct, HO.tup [.int (us.take k).length, .int (us.drop (k + 1)).reverse.length]) :: L) := fun e he => memS (List.mem_append_right _ (memS he))
  tm_at "g"
  refine gi_lst (iL _ ml) (atI_nat hw) ?_
  refine go_eqD hr.toRoom (dl_st (T := ts.map (·.2)) st_at) (dl_st (stT.imp iL)) (shaped_st (sT2.ok so)) (shaped_st (sT.ok so)) ?_
  rw [eqv_st, decide_eq_true eT]
  tm_at "g"
  have l1 : (us.take k).length = k := by rw [List.length_take]; omega
  have l2 : (us.drop (k + 1)).reverse.length = us.length - 1 - k := by rw [List.length_reverse, List.length_drop]; omega
  rw [l1, l2] at *
  refine gb_reprS B hr ?_
  tm_at "g"
  refine ⟨pairD k (us.length - 1 - k : Nat), _, _, rd_dl (dl_pair (memS (List.mem_append_right _ mem0))) (by rfl), sh_pair (by omega) (by omega), by decide, szL (by decide), ?_⟩
  tm_at "g"
  refine gb_reprS B hr ?_
  tm_at "g"
  rename_i t2
  have e2 : ((ws.length : Nat) : Int) - 1 - (k : Int) = ((us.length - 1 - k : Nat) : Int) := by omega
  rw [e2]
  refine ⟨pairD k (us.length - 1 - k : Nat), _, _, rd_dl (dl_pair mem0) (by rfl), sh_pair (by omega) (by omega), by decide, szL (by decide), ?_⟩
  refine go_eqV rfl ?_
  rw [decide_eq_true rfl]
  exact ⟨_, Sub.refl, q _ (Sub.trans Sub.drop (Sub.trans sub_app (Sub.trans Sub.drop Sub.drop)))⟩
end
def spLed (K : PySem.W.Frag) (Y : ShPar) : SpL := fun vs L Q _ => ∃ (p c sh dx nl pl fl qn sl : Addr) (rv : V) (us ws : List V) (Hs : List (List RwD)) (k : Nat) (zs : List Str) (ns : List Int) (n m : Int) (R : Lg), vs = [.ref p, .ref sh, .ref qn, .ref sl, .int (k : Nat)] ∧
  Sub ((p, penO c n m) :: (c, celO ns) :: (sh, shO Y.CS dx rv (.ref nl) (.ref pl) (.ref fl)) :: (sl, HO.lst ws) :: R) L ∧ ShV K Y R rv nl pl fl us Hs k ∧ us.length ≤ 500 ∧ Reps (StS R) ws Hs ∧ (qn, HO.lst (zs.map V.str)) ∈ R ∧ (∀ z ∈ zs, isNameS z = true) ∧ 0 < zs.length ∧ zs.length ≤ 7 ∧ (∀ S ∈ Hs, InPool zs S) ∧ ns.length ≤ 63 ∧ 0 ≤ n ∧ n + 500 ≤ 100000 ∧ 0 ≤ m ∧
  ∀ rv' nl' pl' fl' us' ws' Hs' (k' : Nat) n' m' R' M, Sub ((p, penO c n' m') :: (c, celO ns) :: (sh, shO Y.CS dx rv' (.ref nl') (.ref pl') (.ref fl')) :: (sl, HO.lst ws') :: R') M → (∀ e ∈ R, e ∈ R') → ShV K Y R' rv' nl' pl' fl' us' Hs' k' → us'.length ≤ us.length + 20 → Reps (StS R') ws' Hs' → (∀ S ∈ Hs', InPool zs S) → Hs'[0]? = Hs[0]? → 0 ≤ n' → n' ≤ n + 450 → 0 ≤ m' → Q (.int (k' : Nat)) M
section
variable {P : Program} {w : World} {K : PySem.W.Frag} {mg : Str → Option Value} {base : Heap} {Y : ShPar} {Cd Cm Cn Cr CE Ce fE gK gD gS gU gR gV gW : Addr}
theorem fn_law_led (B : Bi mg) (F : Df K mg "_law_led" s_law_led) (D1 : Fn P w K mg base CX0 "_law_draw" 1 spDraw) (A1 : Fn P w K mg base CX0 "_law_deed" 8 (spDeed K Y)) (A2 : Fn P w K mg base CX0 "_law_step" 5 (spStep K Y)) (A3 : Fn P w K mg base CX0 "_law_stands" 7 (spStands K Y)) : Fn P w K mg base CX0 "_law_led" 9 (spLed K Y) := by
  refine fn_plain F sc_law_led (fun _ _ _ _ _ _ us hl => match us, hl with | [_, _, _, _, _], _ => rfl) (by decide) (by tm_at "g_len") ?_
  intro X f cdv A outer s H E0 L vs Q E hX nd hr h
  subst hX
  obtain ⟨p, c, sh, dx, nl, pl, fl, qn, sl, rv, us, ws, Hs, k, zs, ns, n, m, R, rfl, sb, sv, lu, rp, mq, nz, z0, z7, pool, h63, n0, n1, m0, q⟩ := h
  refine (fun h => GSs.sub sb h) ?_
  show GSs _ (defBody s_law_led) (bodyD Q) [("_law_pen_here", some (.ref p)), ("_law_shelf", some (.ref sh)), ("_law_names", some (.ref qn)), ("_law_states", some (.ref sl)), ("_law_at", some (.int (k : Nat))), ("_law_lap", none), ("_law_way", none), ("_law_step_here", none), ("_law_end", none), ("_law_state_here", none)] _
  refine gss_cons ?_
  refine gs_for (gi_range1 ?_ B.range)
  tm_at "g"
  tm_at "g_draw"
  intro d n2 m2 d0 d1 a0 a1 a2
  tm_at "g"
  refine ⟨by omega, fun i θ N => ∃ u1 u2 u3 u4 u5 rv nl pl fl us2 ws2 Hs2 k n3 m3 R3, θ = ([("_law_pen_here", some (.ref p)), ("_law_shelf", some (.ref sh)), ("_law_names", some (.ref qn)), ("_law_states", some (.ref sl)), ("_law_at", some (.int (k : Nat))), ("_law_lap", u1), ("_law_way", u2), ("_law_step_here", u3), ("_law_end", u4), ("_law_state_here", u5)] : En) ∧ Sub ((p, penO c n3 m3) :: (c, celO ns) :: (sh, shO Y.CS dx rv (.ref nl) (.ref pl) (.ref fl)) :: (sl, HO.lst ws2) :: R3) N ∧ (∀ e ∈ R, e ∈ R3) ∧ ShV K Y R3 rv nl pl fl us2 Hs2 k ∧ us2.length ≤ us.length + i ∧ Reps (StS R3) ws2 Hs2 ∧ (∀ S ∈ Hs2, InPool zs S) ∧ Hs2[0]? = Hs[0]? ∧ 0 ≤ n3 ∧ n3 ≤ n2 + 25 * (i : Int) ∧ 0 ≤ m3, ⟨none, none, none, none, none, rv, nl, pl, fl, us, ws, Hs, k, n2, m2, R, rfl, by tm_at "g_rot", fun _ h => h, sv, Nat.le_refl _, rp, pool, rfl, a0, by omega, a2⟩, fun _ _ _ _ _ _ => True.intro, ?_, ?_⟩
  · rintro i x E1 θ N hi ⟨rfl, rfl⟩ ⟨u1, u2, u3, u4, u5, rv, nl, pl, fl, us2, ws2, Hs2, k, n3, m3, R3, rfl, sb3, i3, sv3, lu3, rp3, pool3, hd3, b0, b1, b2⟩
    dsimp only [List.nil_append] at hi ⊢
    replace hi : i < (3 + d).toNat := hi
    have hk := sv3.lt
    have lw : ws2.length = us2.length := by rw [rp3.len, ← sv3.rows.len]
    refine gg_name (by tm_at "g_pv") ?_
    refine (fun h => GSs.sub sb3 h) ?_
    refine gssNd fun nd3 => ?_
    have nd4 := (List.nodup_cons.mp (List.nodup_cons.mp (List.nodup_cons.mp nd3).2).2).2
    tm_at "g"
    tm_at "g_draw"
    intro w0 n4 m4 w00 w01 c0 c1 c2
    rcases (by omega : w0 = 0 ∨ w0 = 1 ∨ 2 ≤ w0) with rfl | rfl | hw
    · tm_at "g"
      refine ite_d (fun _ => ?_) (fun hw => absurd (show (0 : Int) < 2 by decide) hw)
      tm_at "g"
      refine ite_d (fun _ => ?_) (fun hw => absurd rfl hw)
      tm_at "g"
      refine ge_call (El := NoX) A2 hr passA ?_
      tm_at "g"
      rename_i tp
      refine ⟨sh, dx, nl, pl, fl, rv, true, us2, Hs2, k, (tp, HO.tup [.str "undo", .int 0]) :: (p, penO c n4 m4) :: (c, celO ns) :: (sl, HO.lst ws2) :: R3, rfl, Sub.perm (List.perm_middle (l₁ := [(_, _), (_, _), (_, _)])).symm, sv3.imp (fun e he => memS (memS (memS (memS he)))), by omega, fun hg M sM => ?_, fun k' hg rv' nl' pl' fl' ys S M hv hS pm st sM => ?_⟩
      · refine (fun h => GE.sub (Sub.trans (show Sub ((p, penO c n4 m4) :: (c, celO ns) :: (sh, shO Y.CS dx rv (.ref nl) (.ref pl) (.ref fl)) :: (sl, HO.lst ws2) :: R3) _ from Sub.trans (Sub.perm (List.perm_middle (l₁ := [(_, _), (_, _)]))) (Sub.cons Sub.drop)) sM) h) ?_
        have hk0 : k = 0 := by
          rcases hg with ⟨_, h⟩ | ⟨h, _⟩
          · exact h
          · cases h
        tm_at "g"
        refine go_neV rfl ?_
        refine ⟨false, by simp; omega, ?_⟩
        tm_at "g"
        refine ite_d (fun _ => ?_) (fun h => absurd (by omega) h)
        tm_at "g"
        rw [show ((k : Nat) : Int) + 0 = (k : Int) from by omega]
        refine ge_call (El := NoX) A3 hr passA ?_
        tm_at "g"
        refine ⟨sh, dx, nl, pl, fl, sl, rv, us2, ws2, Hs2, k, rfl, memS (memS mem0), sv3.imp (fun e he => memS (memS (memS (memS he)))), by omega, memS (memS (memS mem0)), rp3.imp (fun v a h => stMono (fun e he => memS (memS (memS (memS he)))) h), fun M' sM' => ?_⟩
        tm_at "g"
        exact ⟨_, _, _, _, _, rv, nl, pl, fl, us2, ws2, Hs2, k, n4, m4, R3, rfl, sM', i3, sv3, by omega, rp3, pool3, hd3, c0, by omega, c2⟩
      · have hk1 : k = k' + 1 := by
          rcases hg with ⟨_, h⟩ | ⟨h, _⟩
          · exact h
          · cases h
        have sv4 := sv3.step (nl' := nl') (pl' := pl') (fl' := fl') hv hS pm st
        have iX : ∀ e ∈ R3, e ∈ (nl', HO.lst (ys.map V.str)) :: (pl', HO.lst (us2.take k')) :: (fl', HO.lst (us2.drop (k' + 1)).reverse) :: R3 := fun e he => memS (memS (memS he))
        have s5 : Sub ((p, penO c n4 m4) :: (c, celO ns) :: (sh, shO Y.CS dx rv' (.ref nl') (.ref pl') (.ref fl')) :: (sl, HO.lst ws2) :: (nl', HO.lst (ys.map V.str)) :: (pl', HO.lst (us2.take k')) :: (fl', HO.lst (us2.drop (k' + 1)).reverse) :: R3) M := Sub.trans (Sub.trans (Sub.perm (by
          refine (List.perm_middle (l₁ := [(p, penO c n4 m4), (c, celO ns)])).trans (.cons _ ?_)
          exact List.perm_append_comm (l₁ := [(p, penO c n4 m4), (c, celO ns), (sl, HO.lst ws2)]) (l₂ := [(nl', HO.lst (ys.map V.str)), (pl', HO.lst (us2.take k')), (fl', HO.lst (us2.drop (k' + 1)).reverse)]) |>.append_right R3)) (Sub.cons (Sub.cons (Sub.cons (Sub.cons Sub.drop))))) sM
        generalize (nl', HO.lst (ys.map V.str)) :: (pl', HO.lst (us2.take k')) :: (fl', HO.lst (us2.drop (k' + 1)).reverse) :: R3 = R4 at sv4 iX s5
        refine (fun h => GE.sub s5 h) ?_
        clear sM s5
        tm_at "g"
        refine go_neV rfl ?_
        refine ⟨false, by simp; omega, ?_⟩
        tm_at "g"
        refine ite_d (fun h => absurd h (by omega)) (fun _ => ?_)
        tm_at "g"
        refine ite_d (fun _ => ?_) (fun h => absurd rfl h)
        tm_at "g"
        rw [show ((k : Nat) : Int) + -1 = (k' : Int) from by omega]
        refine ge_call (El := NoX) A3 hr passA ?_
        tm_at "g"
        refine ⟨sh, dx, nl', pl', fl', sl, rv', us2, ws2, Hs2, k', rfl, memS (memS mem0), sv4.imp (fun e he => memS (memS (memS (memS he)))), by omega, memS (memS (memS mem0)), rp3.imp (fun v a h => stMono (fun e he => memS (memS (memS (memS (iX _ he))))) h), fun M' sM' => ?_⟩
        tm_at "g"
        exact ⟨_, _, _, _, _, rv', nl', pl', fl', us2, ws2, Hs2, k', n4, m4, R4, rfl, sM', fun e he => iX _ (i3 e he), sv4, by omega, rp3.imp (fun v a h => stMono iX h), pool3, hd3, c0, by omega, c2⟩
    · tm_at "g"
      refine ite_d (fun _ => ?_) (fun hw => absurd (show (1 : Int) < 2 by decide) hw)
      tm_at "g"
      refine ite_d (fun hw => absurd hw (by decide)) (fun _ => ?_)
      tm_at "g"
      refine ge_call (El := NoX) A2 hr passA ?_
      tm_at "g"
      rename_i tp
      refine ⟨sh, dx, nl, pl, fl, rv, false, us2, Hs2, k, (tp, HO.tup [.str "redo", .int (((ws2.length : Nat) : Int) - 1)]) :: (p, penO c n4 m4) :: (c, celO ns) :: (sl, HO.lst ws2) :: R3, rfl, Sub.perm (List.perm_middle (l₁ := [(_, _), (_, _), (_, _)])).symm, sv3.imp (fun e he => memS (memS (memS (memS he)))), by omega, fun hg M sM => ?_, fun k' hg rv' nl' pl' fl' ys S M hv hS pm st sM => ?_⟩
      · refine (fun h => GE.sub (Sub.trans (show Sub ((p, penO c n4 m4) :: (c, celO ns) :: (sh, shO Y.CS dx rv (.ref nl) (.ref pl) (.ref fl)) :: (sl, HO.lst ws2) :: R3) _ from Sub.trans (Sub.perm (List.perm_middle (l₁ := [(_, _), (_, _)]))) (Sub.cons Sub.drop)) sM) h) ?_
        have hk0 : k + 1 = us2.length := by
          rcases hg with ⟨h, _⟩ | ⟨_, h⟩
          · cases h
          · exact h
        tm_at "g"
        refine go_neV rfl ?_
        refine ⟨false, by simp; omega, ?_⟩
        tm_at "g"
        refine ite_d (fun _ => ?_) (fun h => absurd (by omega) h)
        tm_at "g"
        rw [show ((k : Nat) : Int) + 0 = (k : Int) from by omega]
        refine ge_call (El := NoX) A3 hr passA ?_
        tm_at "g"
        refine ⟨sh, dx, nl, pl, fl, sl, rv, us2, ws2, Hs2, k, rfl, memS (memS mem0), sv3.imp (fun e he => memS (memS (memS (memS he)))), by omega, memS (memS (memS mem0)), rp3.imp (fun v a h => stMono (fun e he => memS (memS (memS (memS he)))) h), fun M' sM' => ?_⟩
        tm_at "g"
        exact ⟨_, _, _, _, _, rv, nl, pl, fl, us2, ws2, Hs2, k, n4, m4, R3, rfl, sM', i3, sv3, by omega, rp3, pool3, hd3, c0, by omega, c2⟩
      · have hk1 : k' = k + 1 ∧ k' < us2.length := by
          rcases hg with ⟨h, _⟩ | ⟨_, h⟩
          · cases h
          · exact h
        have sv4 := sv3.step (nl' := nl') (pl' := pl') (fl' := fl') hv hS pm st
        have iX : ∀ e ∈ R3, e ∈ (nl', HO.lst (ys.map V.str)) :: (pl', HO.lst (us2.take k')) :: (fl', HO.lst (us2.drop (k' + 1)).reverse) :: R3 := fun e he => memS (memS (memS he))
        have s5 : Sub ((p, penO c n4 m4) :: (c, celO ns) :: (sh, shO Y.CS dx rv' (.ref nl') (.ref pl') (.ref fl')) :: (sl, HO.lst ws2) :: (nl', HO.lst (ys.map V.str)) :: (pl', HO.lst (us2.take k')) :: (fl', HO.lst (us2.drop (k' + 1)).reverse) :: R3) M := Sub.trans (Sub.trans (Sub.perm (by
          refine (List.perm_middle (l₁ := [(p, penO c n4 m4), (c, celO ns)])).trans (.cons _ ?_)
          exact List.perm_append_comm (l₁ := [(p, penO c n4 m4), (c, celO ns), (sl, HO.lst ws2)]) (l₂ := [(nl', HO.lst (ys.map V.str)), (pl', HO.lst (us2.take k')), (fl', HO.lst (us2.drop (k' + 1)).reverse)]) |>.append_right R3)) (Sub.cons (Sub.cons (Sub.cons (Sub.cons Sub.drop))))) sM
        generalize (nl', HO.lst (ys.map V.str)) :: (pl', HO.lst (us2.take k')) :: (fl', HO.lst (us2.drop (k' + 1)).reverse) :: R3 = R4 at sv4 iX s5
        refine (fun h => GE.sub s5 h) ?_
        clear sM s5
        tm_at "g"
        refine go_neV rfl ?_
        refine ⟨false, by simp; omega, ?_⟩
        tm_at "g"
        refine ite_d (fun h => absurd h (by omega)) (fun _ => ?_)
        tm_at "g"
        refine ite_d (fun h => absurd h (by decide)) (fun _ => ?_)
        tm_at "g"
        rw [show ((k : Nat) : Int) + 1 = (k' : Int) from by omega]
        refine ge_call (El := NoX) A3 hr passA ?_
        tm_at "g"
        refine ⟨sh, dx, nl', pl', fl', sl, rv', us2, ws2, Hs2, k', rfl, memS (memS mem0), sv4.imp (fun e he => memS (memS (memS (memS he)))), by omega, memS (memS (memS mem0)), rp3.imp (fun v a h => stMono (fun e he => memS (memS (memS (memS (iX _ he))))) h), fun M' sM' => ?_⟩
        tm_at "g"
        exact ⟨_, _, _, _, _, rv', nl', pl', fl', us2, ws2, Hs2, k', n4, m4, R4, rfl, sM', fun e he => iX _ (i3 e he), sv4, by omega, rp3.imp (fun v a h => stMono iX h), pool3, hd3, c0, by omega, c2⟩
    · tm_at "g"
      refine ite_d (fun h => absurd h (by omega)) (fun _ => ?_)
      tm_at "g"
      refine ge_call (El := NoX) A1 hr passA ?_
      tm_at "g"
      refine ⟨p, c, sh, dx, nl, pl, fl, qn, rv, us2, Hs2, k, zs, ns, n4, m4, (sl, HO.lst ws2) :: R3, rfl, Sub.refl, sv3.imp (fun _ h => memS h), by omega, memS (i3 _ mq), nz, z0, z7, pool3, h63, c0, by omega, c2, fun n5 m5 R4 M s4 i4 e0 e1 e2 => ?_, fun q2 S' v' nl' pl' fl' n5 m5 R4 M s4 i4 sg pS' sv4 e0 e1 e2 => ?_⟩
      · have s5 : Sub ((p, penO c n5 m5) :: (c, celO ns) :: (sh, shO Y.CS dx rv (.ref nl) (.ref pl) (.ref fl)) :: (sl, HO.lst ws2) :: R3) M := Sub.trans (Sub.cons (Sub.cons (Sub.cons ⟨fun _ => ⟨nd4, i4⟩⟩))) s4
        refine (fun h => GSs.sub s5 h) ?_
        clear s4 s5
        tm_at "g"
        refine ge_call (El := NoX) A3 hr passA ?_
        tm_at "g"
        refine ⟨sh, dx, nl, pl, fl, sl, rv, us2, ws2, Hs2, k, rfl, memS (memS mem0), sv3.imp (fun e he => memS (memS (memS (memS he)))), by omega, memS (memS (memS mem0)), rp3.imp (fun v a h => stMono (fun e he => memS (memS (memS (memS he)))) h), fun M' sM' => ?_⟩
        tm_at "g"
        exact ⟨_, _, _, _, _, rv, nl, pl, fl, us2, ws2, Hs2, k, n5, m5, R3, rfl, sM', i3, sv3, by omega, rp3, pool3, hd3, e0, by omega, e2⟩
      · refine gssNd fun ndM => ?_
        have ndR4 := (List.nodup_cons.mp (List.nodup_cons.mp (List.nodup_cons.mp (s4.to ndM).1).2).2).2
        have ms4 := i4 _ mem0
        obtain ⟨v0, hv0⟩ : ∃ v, ws2[0]? = some v := ⟨ws2[0], List.getElem?_eq_getElem (by omega)⟩
        obtain ⟨S0, _, T0, ⟨a0', ts0, rfl, ma0, _, _⟩, _⟩ := rp3.get hv0
        have ew : ws2 = .ref a0' :: ws2.tail := by
          cases ws2 with
          | nil => cases hv0
          | cons x r =>
            cases hv0
            rfl
        have sv5 := sl_shv ndR4 ms4 ew (i4 _ (memS ma0)) sv4
        have sg5 := sl_sts ndR4 ms4 ew (i4 _ (memS ma0)) sg
        have i5 : ∀ e ∈ R3, e ∈ awayL R4 sl := fun e he => away_mem (i4 _ (memS he)) fun z => (List.nodup_cons.mp nd4).1 (List.mem_map.mpr ⟨e, he, z⟩)
        have s5 : Sub ((p, penO c n5 m5) :: (c, celO ns) :: (sh, shO Y.CS dx v' (.ref nl') (.ref pl') (.ref fl')) :: (sl, HO.lst ws2) :: awayL R4 sl) M := Sub.trans (Sub.cons (Sub.cons (Sub.cons (away_sub ms4)))) s4
        generalize awayL R4 sl = R5 at sv5 sg5 i5 s5
        refine (fun h => GSs.sub s5 h) ?_
        clear s4 s5 sv4 sg
        tm_at "g"
        rename_i b
        refine gg_tail ?_
        tm_at "g"
        refine ⟨sl, b, ws2, [.ref q2], k + 1, (b, HO.lst [.ref q2]) :: (p, penO c n5 m5) :: (c, celO ns) :: (sh, shO Y.CS dx v' (.ref nl') (.ref pl') (.ref fl')) :: (sl, HO.lst (ws2.take (k + 1) ++ [.ref q2])) :: R5, rfl, rfl, rfl, memS (memS (memS (memS mem0))), mem0, fun ndb z => ?_, by omega, by rw [sizeLine_eq]; show ws2.length + 1 ≤ _; omega, .there (.there (.there (.there .here))), ?_⟩
        · refine (List.nodup_cons.mp ndb).1 ?_
          rw [← z]
          exact List.mem_map.mpr ⟨_, memS (memS (memS mem0)), rfl⟩
        have rp5 : Reps (StS R5) (ws2.take (k + 1) ++ [.ref q2]) (Hs2.take (k + 1) ++ [S']) := reps_snoc (reps_take _ (rp3.imp fun v a h => stMono i5 h)) sg5
        have hd5 : (Hs2.take (k + 1) ++ [S'])[0]? = Hs[0]? := by
          rw [← hd3]
          cases Hs2 with
          | nil => exact absurd rp3.len (by show ¬ ws2.length = 0; omega)
          | cons a r => rfl
        have pool5 : ∀ S ∈ Hs2.take (k + 1) ++ [S'], InPool zs S := fun S hS => by
          rcases List.mem_append.mp hS with h | h
          · exact pool3 S (List.mem_of_mem_take h)
          · rw [List.mem_singleton.mp h]
            exact pS'
        have lu5 : (us2.take (k + 1) ++ [v']).length = k + 1 + 1 := by rw [List.length_append, List.length_take]; show min (k + 1) us2.length + 1 = _; omega
        refine (fun h => GSs.sub Sub.drop h) ?_
        tm_at "g"
        rw [show ((k : Nat) : Int) + 1 = ((k + 1 : Nat) : Int) from rfl]
        refine ge_call (El := NoX) A3 hr passA ?_
        tm_at "g"
        refine ⟨sh, dx, nl', pl', fl', sl, v', _, _, _, k + 1, rfl, memS (memS mem0), sv5.imp (fun e he => memS (memS (memS (memS he)))), by omega, memS (memS (memS mem0)), rp5.imp (fun v a h => stMono (fun e he => memS (memS (memS (memS he)))) h), fun M' sM' => ?_⟩
        tm_at "g"
        exact ⟨_, _, _, _, _, v', nl', pl', fl', _, _, _, k + 1, n5, m5, R5, rfl, sM', fun e he => i5 _ (i3 e he), sv5, by omega, rp5, pool5, hd5, e0, by omega, e2⟩
  · rintro θ N ⟨u1, u2, u3, u4, u5, rv', nl', pl', fl', us2, ws2, Hs2, k', n3, m3, R3, rfl, sb3, i3, sv3, lu3, rp3, pool3, hd3, b0, b1, b2⟩
    replace lu3 : us2.length ≤ us.length + (3 + d).toNat := lu3
    replace b1 : n3 ≤ n2 + 25 * (((3 + d).toNat : Nat) : Int) := b1
    tm_at "g"
    exact ⟨_, Sub.refl, q rv' nl' pl' fl' us2 ws2 Hs2 k' n3 m3 R3 _ sb3 i3 sv3 (by omega) rp3 pool3 hd3 b0 (by omega) b2⟩
end
inductive Path (l : Nat) : Nat → List (Bool × Nat) → Nat → Prop
  | nil {k : Nat} : Path l k [] k
  | cons {k k' e : Nat} {u : Bool} {W : List (Bool × Nat)} : goesU u k l k' → Path l k' W e → Path l k ((u, k') :: W) e
theorem Path.app {l : Nat} {a b c : Nat} {W W' : List (Bool × Nat)} (h : Path l a W b) (h' : Path l b W' c) : Path l a (W ++ W') c := by
  induction h with
  | nil => exact h'
  | cons g _ ih => exact .cons g (ih h')
theorem path_down {l s : Nat} : ∀ n : Nat, Path l (s + n) ((List.range n).map fun t => (true, s + n - 1 - t)) s
  | 0 => .nil
  | n + 1 => by
    have ih := path_down (l := l) (s := s) n
    rw [List.range_succ_eq_map, List.map_cons, List.map_map]
    have e1 : s + (n + 1) - 1 - 0 = s + n := by omega
    have e2 : (List.range n).map ((fun t => (true, s + (n + 1) - 1 - t)) ∘ Nat.succ) = (List.range n).map fun t => (true, s + n - 1 - t) := List.map_congr_left fun t _ => by
      show (true, s + (n + 1) - 1 - (t + 1)) = (true, s + n - 1 - t)
      rw [show s + (n + 1) - 1 - (t + 1) = s + n - 1 - t from by omega]
    rw [e1, e2]
    exact Path.cons (.inl ⟨rfl, by omega⟩) ih
theorem path_up {l s : Nat} : ∀ n : Nat, s + n < l → Path l s ((List.range n).map fun t => (false, s + 1 + t)) (s + n)
  | 0, _ => .nil
  | n + 1, h => by
    rw [List.range_succ, List.map_append, List.map_cons, List.map_nil]
    refine (path_up n (by omega)).app (.cons (.inr ⟨rfl, by omega, by omega⟩) ?_)
    rw [show s + 1 + n = s + (n + 1) from by omega]
    exact .nil
theorem rg_down {a : Int} {n : Nat} (h0 : -1 ≤ a) (h1 : a < 1000000) (hn : n ≤ 100000) (hb : -1 ≤ a - (n : Int)) : RgC a (a - n) (-1) n := by
  have sz : Builtin.Range.rangeSize a (a - n) (-1) = n := by
    unfold Builtin.Range.rangeSize
    rw [if_neg (by decide)]
    split
    · rw [show (-(-1 : Int)) = 1 from rfl, Int.ediv_one]
      omega
    · omega
  have fit : ∀ z : Int, -2000000 ≤ z → z < 2000000 → Builtin.Range.rangeFitsLong z = true := fun z h1 h2 => by
    unfold Builtin.Range.rangeFitsLong
    simp
    omega
  refine ⟨by decide, by decide, ?_, sz⟩
  unfold Builtin.Range.small
  rw [sz, fit a (by omega) (by omega), fit (a - n) (by omega) (by omega), fit (-1) (by decide) (by decide), fit (n : Int) (by omega) (by omega), if_neg (by decide), fit (a - n + (-1 + 1)) (by omega) (by omega)]
  simp
theorem goes_uniq {u : Bool} {k l a b : Nat} : goesU u k l a → goesU u k l b → a = b := by
  rintro (⟨rfl, h⟩ | ⟨rfl, h, _⟩) (⟨h1, h2⟩ | ⟨h1, h2, _⟩)
  · omega
  · cases h1
  · cases h1
  · omega
theorem goes_not {u : Bool} {k l a : Nat} : goesU u k l a → ¬ goneU u k l := by
  rintro (⟨rfl, h⟩ | ⟨rfl, h, _⟩) (⟨h1, h2⟩ | ⟨h1, h2⟩)
  · omega
  · cases h1
  · cases h1
  · omega
def WayAt (L : Lg) (v : V) (e : Bool × Nat) : Prop := ∃ a, v = .ref a ∧ (a, HO.tup [.str (wayS e.1), .int (e.2 : Nat)]) ∈ L
theorem wayMono {L L' : Lg} {v : V} {e : Bool × Nat} (s : ∀ x ∈ L, x ∈ L') (h : WayAt L v e) : WayAt L' v e := by
  obtain ⟨a, e1, m⟩ := h
  exact ⟨a, e1, s _ m⟩
theorem reps_es {g : Nat → Bool × Nat} : ∀ {es : Lg} {l : List Nat}, es.map (·.2) = l.map (fun t => HO.tup [.str (wayS (g t).1), .int ((g t).2 : Nat)]) → Reps (WayAt es) (refs es) (l.map g)
  | [], [], _ => .nil
  | [], _ :: _, h => by cases h
  | _ :: _, [], h => by cases h
  | e :: es, t :: l, h => by
    obtain ⟨h1, h2⟩ := List.cons.inj h
    refine .cons ⟨e.1, rfl, ?_⟩ ((reps_es h2).imp fun v a h => wayMono (fun _ h => memS h) h)
    have h1' : e.2 = HO.tup [.str (wayS (g t).1), .int ((g t).2 : Nat)] := h1
    rw [← h1']
    exact mem0
theorem reps_app {α : Type} {r : V → α → Prop} : ∀ {vs ws : List V} {as bs : List α}, Reps r vs as → Reps r ws bs → Reps r (vs ++ ws) (as ++ bs)
  | _, _, _, _, .nil, h => h
  | _, _, _, _, .cons x t, h => .cons x (reps_app t h)
theorem path_drop {l k e i : Nat} {u : Bool} {k' : Nat} {W : List (Bool × Nat)} (hi : W[i]? = some (u, k')) (h : Path l k (W.drop i) e) : goesU u k l k' ∧ Path l k' (W.drop (i + 1)) e := by
  obtain ⟨hl, ew⟩ := List.getElem?_eq_some_iff.mp hi
  rw [List.drop_eq_getElem_cons hl, ew] at h
  cases h with
  | cons g p => exact ⟨g, p⟩
def spWalked (K : PySem.W.Frag) (Y : ShPar) : SpL := fun vs L Q _ => ∃ (sh dx nl pl fl sl : Addr) (rv : V) (us ws : List V) (Hs : List (List RwD)) (k : Nat) (F R : Lg), vs = [.ref sh, .ref sl, .int (k : Nat)] ∧ Sub ((sh, shO Y.CS dx rv (.ref nl) (.ref pl) (.ref fl)) :: (F ++ R)) L ∧ ShV K Y R rv nl pl fl us Hs k ∧ us.length ≤ 600 ∧ (sl, HO.lst ws) ∈ F ++ R ∧ Reps (StS R) ws Hs ∧
  ∀ rv' nl' pl' fl' E M, Sub ((sh, shO Y.CS dx rv' (.ref nl') (.ref pl') (.ref fl')) :: (E ++ (F ++ R))) M → ShV K Y (E ++ R) rv' nl' pl' fl' us Hs k → Q (.bl true) M
section
variable {P : Program} {w : World} {K : PySem.W.Frag} {mg : Str → Option Value} {base : Heap} {Y : ShPar}
theorem fn_law_walked (B : Bi mg) (F0 : Df K mg "_law_walked" s_law_walked) (A2 : Fn P w K mg base CX0 "_law_step" 5 (spStep K Y)) (A3 : Fn P w K mg base CX0 "_law_stands" 7 (spStands K Y)) : Fn P w K mg base CX0 "_law_walked" 8 (spWalked K Y) := by
  refine fn_plain F0 sc_law_walked (fun _ _ _ _ _ _ us hl => match us, hl with | [_, _, _], _ => rfl) (by decide) (by tm_at "g_len") ?_
  intro X f cdv A outer s H E0 L vs Q E hX nd hr h
  subst hX
  obtain ⟨sh, dx, nl, pl, fl, sl, rv, us, ws, Hs, k, F, R, rfl, sb, sv, lu, ml, rp, q⟩ := h
  refine (fun h => GSs.sub sb h) ?_
  have inF : ∀ {E : Lg}, ∀ e ∈ E ++ R, e ∈ E ++ (F ++ R) := fun e he => by
    rcases List.mem_append.mp he with h | h
    · exact List.mem_append_left _ h
    · exact List.mem_append_right _ (List.mem_append_right _ h)
  have hk := sv.lt
  have lw : ws.length = us.length := by rw [rp.len, ← sv.rows.len]
  show GSs _ (defBody s_law_walked) (bodyD Q) [("_law_shelf", some (.ref sh)), ("_law_states", some (.ref sl)), ("_law_at", some (.int (k : Nat))), ("_law_end", none), ("_law_ways", none), ("_law_way", none), ("_law_place", none), ("_law_k", none)] _
  refine gss_cons ?_
  tm_at "g"
  refine ge_lcF (by tm_at "g_put") (gi_range3 ?_ B.range) (show blkC N_law_walked (defScope s_law_walked) _ [(_, List.idxOf _ N_law_walked)] = true by decide +kernel)
  tm_at "g"
  refine ⟨(k : Int) - 1, -1, -1, k, rfl, ?_, ?_⟩
  · have := rg_down (a := (k : Int) - 1) (n := k) (by omega) (by omega) (by omega) (by omega)
    rw [show (k : Int) - 1 - (k : Int) = -1 from by omega] at this
    exact this
  refine fresh_fn (p := fun _ => true) (pl := fun t => HO.tup [.str (wayS true), .int ((0 + k - 1 - t : Nat) : Int)]) (by omega) (fun t R1 ht hR s1 H1 C1 cl1 fp1 => ?_) fun D1 es1 he1 => ?_
  · refine gts_nil ⟨rfl, Sub.refl, fun _ s2 H2 C2 cl2 fp2 => ?_⟩
    tm_at "g"
    rw [show (k : Int) - 1 + (t : Int) * -1 = ((0 + k - 1 - t : Nat) : Int) from by omega]
    exact Sub.refl
  rw [List.filter_eq_self.mpr fun _ _ => rfl] at he1
  have r1 := reps_es (g := fun t => (true, 0 + k - 1 - t)) he1
  tm_at "g"
  refine ge_lcF (by tm_at "g_put") (gi_range2 ?_ B.range) (show blkC N_law_walked (defScope s_law_walked) _ [(_, List.idxOf _ N_law_walked)] = true by decide +kernel)
  tm_at "g"
  refine ⟨by omega, ?_⟩
  have en : (((ws.length : Nat) : Int) - 1 + 1 - 1).toNat = us.length - 1 := by omega
  rw [en]
  refine fresh_fn (p := fun _ => true) (pl := fun t => HO.tup [.str (wayS false), .int ((0 + 1 + t : Nat) : Int)]) (by omega) (fun t R1 ht hR s1 H1 C1 cl1 fp1 => ?_) fun D2 es2 he2 => ?_
  · refine gts_nil ⟨rfl, Sub.refl, fun _ s2 H2 C2 cl2 fp2 => ?_⟩
    tm_at "g"
    rw [show (1 : Int) + (t : Int) = ((0 + 1 + t : Nat) : Int) from by omega]
    exact Sub.refl
  rw [List.filter_eq_self.mpr fun _ _ => rfl] at he2
  have r2 := reps_es (g := fun t => (false, 0 + 1 + t)) he2
  have l1 : (refs es1).length = k := by rw [r1.len, List.length_map, List.length_range]
  have l2 : (refs es2).length = us.length - 1 := by rw [r2.len, List.length_map, List.length_range]
  refine go_cat (memS (List.mem_append_right _ mem0)) mem0 (by rw [l1, l2, sizeLine_eq]; omega) fun D3 => ?_
  tm_at "g"
  refine ge_lcF (by tm_at "g_put") (gi_range3 ?_ B.range) (show blkC N_law_walked (defScope s_law_walked) _ [(_, List.idxOf _ N_law_walked)] = true by decide +kernel)
  tm_at "g"
  refine ⟨((ws.length : Nat) : Int) - 1 - 1, (k : Int) - 1, -1, us.length - 1 - k, rfl, ?_, ?_⟩
  · have := rg_down (a := ((ws.length : Nat) : Int) - 1 - 1) (n := us.length - 1 - k) (by omega) (by omega) (by omega) (by omega)
    rw [show ((ws.length : Nat) : Int) - 1 - 1 - ((us.length - 1 - k : Nat) : Int) = (k : Int) - 1 from by omega] at this
    exact this
  refine fresh_fn (p := fun _ => true) (pl := fun t => HO.tup [.str (wayS true), .int ((k + (us.length - 1 - k) - 1 - t : Nat) : Int)]) (by omega) (fun t R1 ht hR s1 H1 C1 cl1 fp1 => ?_) fun D4 es4 he4 => ?_
  · refine gts_nil ⟨rfl, Sub.refl, fun _ s2 H2 C2 cl2 fp2 => ?_⟩
    tm_at "g"
    rw [show ((ws.length : Nat) : Int) - 1 - 1 + (t : Int) * -1 = ((k + (us.length - 1 - k) - 1 - t : Nat) : Int) from by omega]
    exact Sub.refl
  rw [List.filter_eq_self.mpr fun _ _ => rfl] at he4
  have r4 := reps_es (g := fun t => (true, k + (us.length - 1 - k) - 1 - t)) he4
  have l4 : (refs es4).length = us.length - 1 - k := by rw [r4.len, List.length_map, List.length_range]
  refine go_cat (memS (List.mem_append_right _ mem0)) mem0 (by rw [List.length_append, l1, l2, l4, sizeLine_eq]; omega) fun D5 => ?_
  tm_at "g"
  obtain ⟨W0, hW0⟩ : ∃ W0 : List (Bool × Nat), W0 = (List.range k).map (fun t => (true, 0 + k - 1 - t)) ++ (List.range (us.length - 1)).map (fun t => (false, 0 + 1 + t)) ++ (List.range (us.length - 1 - k)).map (fun t => (true, k + (us.length - 1 - k) - 1 - t)) := ⟨_, rfl⟩
  have pW : Path us.length k W0 k := by
    rw [hW0]
    refine Path.app (b := us.length - 1) (Path.app (b := 0) ?_ ?_) ?_
    · have := path_down (l := us.length) (s := 0) k
      rw [Nat.zero_add] at this
      rw [Nat.zero_add]
      exact this
    · have := path_up (l := us.length) (s := 0) (us.length - 1) (by omega)
      rw [Nat.zero_add (us.length - 1)] at this
      exact this
    · have := path_down (l := us.length) (s := k) (us.length - 1 - k)
      rw [show k + (us.length - 1 - k) = us.length - 1 from by omega] at this ⊢
      exact this
  obtain ⟨EE, hEE⟩ : ∃ EE : Lg, EE = (D5, HO.lst (refs es1 ++ refs es2 ++ refs es4)) :: (D4, HO.lst (refs es4)) :: (es4 ++ (D3, HO.lst (refs es1 ++ refs es2)) :: (D2, HO.lst (refs es2)) :: (es2 ++ (D1, HO.lst (refs es1)) :: es1)) := ⟨_, rfl⟩
  have rW : Reps (WayAt EE) (refs es1 ++ refs es2 ++ refs es4) W0 := by
    rw [hW0, hEE]
    refine reps_app (reps_app (r1.imp fun v a h => wayMono (fun e he => ?_) h) (r2.imp fun v a h => wayMono (fun e he => ?_) h)) (r4.imp fun v a h => wayMono (fun e he => ?_) h)
    · exact memS (memS (List.mem_append_right _ (memS (memS (List.mem_append_right _ (memS he))))))
    · exact memS (memS (List.mem_append_right _ (memS (memS (List.mem_append_left _ he)))))
    · exact memS (memS (List.mem_append_left _ he))
  have m5 : (D5, HO.lst (refs es1 ++ refs es2 ++ refs es4)) ∈ EE := by
    rw [hEE]
    exact mem0
  obtain ⟨wy, hwy⟩ : ∃ wy, wy = refs es1 ++ refs es2 ++ refs es4 := ⟨_, rfl⟩
  rw [← hwy] at rW m5
  have s0 : Sub ((sh, shO Y.CS dx rv (.ref nl) (.ref pl) (.ref fl)) :: (EE ++ (F ++ R))) ((D5, HO.lst (refs es1 ++ refs es2 ++ refs es4)) :: (D4, HO.lst (refs es4)) :: (es4 ++ (D3, HO.lst (refs es1 ++ refs es2)) :: (D2, HO.lst (refs es2)) :: (es2 ++ (D1, HO.lst (refs es1)) :: (es1 ++ (sh, shO Y.CS dx rv (.ref nl) (.ref pl) (.ref fl)) :: (F ++ R))))) := by
    have e : (D5, HO.lst (refs es1 ++ refs es2 ++ refs es4)) :: (D4, HO.lst (refs es4)) :: (es4 ++ (D3, HO.lst (refs es1 ++ refs es2)) :: (D2, HO.lst (refs es2)) :: (es2 ++ (D1, HO.lst (refs es1)) :: (es1 ++ (sh, shO Y.CS dx rv (.ref nl) (.ref pl) (.ref fl)) :: (F ++ R)))) = EE ++ (sh, shO Y.CS dx rv (.ref nl) (.ref pl) (.ref fl)) :: (F ++ R) := by
      rw [hEE]
      simp only [List.cons_append, List.append_assoc]
    rw [e]
    exact Sub.perm List.perm_middle.symm
  refine (fun h => GS.sub s0 h) ?_
  clear s0 hEE hwy hW0 r1 r2 r4 he1 he2 he4
  refine gs_for (gi_list ?_)
  tm_at "g"
  refine ⟨D5, wy, rfl, memS (List.mem_append_left _ m5), ?_⟩
  refine ⟨fun i θ N => ∃ (u1 u2 u3 : Option V) (E' : Lg) (rv : V) (nl pl fl : Addr) (kc : Nat), θ = ([("_law_shelf", some (.ref sh)), ("_law_states", some (.ref sl)), ("_law_at", some (.int (k : Nat))), ("_law_end", some (.int ((ws.length : Nat) - 1 : Int))), ("_law_ways", some (.ref D5)), ("_law_way", u1), ("_law_place", u2), ("_law_k", u3)] : En) ∧ Sub ((sh, shO Y.CS dx rv (.ref nl) (.ref pl) (.ref fl)) :: (E' ++ (F ++ R))) N ∧ (∀ e ∈ EE, e ∈ E') ∧ ShV K Y (E' ++ R) rv nl pl fl us Hs kc ∧ Path us.length kc (W0.drop i) k, ⟨none, none, none, EE, rv, nl, pl, fl, k, rfl, Sub.refl, fun _ h => h, sv.imp fun _ h => List.mem_append_right _ h, pW⟩, ?_, ?_, ?_⟩
  · rintro i θ N hi nd2 ⟨u1, u2, u3, E', rv', nl', pl', fl', kc, -, sb1, iE, -⟩
    exact (sb1.to nd2).2 _ (memS (List.mem_append_left _ (iE _ m5)))
  · rintro i x E1 θ N hi ⟨hx, rfl⟩ ⟨u1, u2, u3, E', rv', nl', pl', fl', kc, rfl, sb1, iE, sv1, pt⟩
    replace hx : wy[i]? = some x := hx
    obtain ⟨⟨u, k'⟩, hW, a, rfl, ma⟩ := rW.get hx
    obtain ⟨gU, pt2⟩ := path_drop hW pt
    refine GG.sub sb1 ?_
    refine gg_tup (memS (List.mem_append_left _ (iE _ ma))) ?_
    tm_at "g"
    refine ge_call (El := NoX) A2 hr passA ?_
    tm_at "g"
    refine ⟨sh, dx, nl', pl', fl', rv', u, us, Hs, kc, E' ++ (F ++ R), rfl, Sub.refl, sv1.imp inF, by omega, fun hg => absurd hg (goes_not gU), fun k2 hg rv2 nl2 pl2 fl2 ys S M hv hS pm st sM => ?_⟩
    obtain rfl := goes_uniq gU hg
    obtain ⟨E2, hE2⟩ : ∃ E2 : Lg, E2 = (nl2, HO.lst (ys.map V.str)) :: (pl2, HO.lst (us.take k')) :: (fl2, HO.lst (us.drop (k' + 1)).reverse) :: E' := ⟨_, rfl⟩
    have sv2 : ShV K Y (E2 ++ R) rv2 nl2 pl2 fl2 us Hs k' := by
      rw [hE2]
      exact sv1.step hv hS pm st
    have s2 : Sub ((sh, shO Y.CS dx rv2 (.ref nl2) (.ref pl2) (.ref fl2)) :: (E2 ++ (F ++ R))) M := by
      rw [hE2]
      exact sM
    have iE2 : ∀ e ∈ EE, e ∈ E2 := fun e he => by
      rw [hE2]
      exact memS (memS (memS (iE _ he)))
    clear hE2 sM
    tm_at "g"
    refine GE.sub s2 ?_
    refine ge_call (El := NoX) A3 hr passA ?_
    tm_at "g"
    refine ⟨sh, dx, nl2, pl2, fl2, sl, rv2, us, ws, Hs, k', rfl, mem0, sv2.imp fun _ h => memS (inF _ h), by omega, memS (List.mem_append_right _ ml), rp.imp fun v a h => stMono (fun e he => memS (List.mem_append_right _ (List.mem_append_right _ he))) h, fun M2 sM2 => ?_⟩
    tm_at "g"
    refine ite_d (fun hz => ?_) (fun hz => ?_)
    · tm_at "g"
      refine GE.sub sM2 ?_
      refine ge_call (El := NoX) A2 hr passA ?_
      tm_at "g"
      refine ⟨sh, dx, nl2, pl2, fl2, rv2, true, us, Hs, k', E2 ++ (F ++ R), rfl, Sub.refl, sv2.imp inF, by omega, fun hg M3 sM3 => ?_, fun k3 hg => absurd (.inl ⟨rfl, by omega⟩) (goes_not hg)⟩
      tm_at "g"
      refine ite_d (fun hy => ?_) (fun hy => ?_)
      · tm_at "g"
        refine GE.sub sM3 ?_
        refine ge_call (El := NoX) A2 hr passA ?_
        tm_at "g"
        refine ⟨sh, dx, nl2, pl2, fl2, rv2, false, us, Hs, k', E2 ++ (F ++ R), rfl, Sub.refl, sv2.imp inF, by omega, fun hg M4 sM4 => ?_, fun k3 hg => absurd (.inr ⟨rfl, by omega⟩) (goes_not hg)⟩
        tm_at "g"
        exact ⟨_, _, _, E2, rv2, nl2, pl2, fl2, k', rfl, sM4, iE2, sv2, pt2⟩
      · tm_at "g"
        exact ⟨_, _, _, E2, rv2, nl2, pl2, fl2, k', rfl, sM3, iE2, sv2, pt2⟩
    · tm_at "g"
      refine ite_d (fun hy => ?_) (fun hy => ?_)
      · tm_at "g"
        refine GE.sub sM2 ?_
        refine ge_call (El := NoX) A2 hr passA ?_
        tm_at "g"
        refine ⟨sh, dx, nl2, pl2, fl2, rv2, false, us, Hs, k', E2 ++ (F ++ R), rfl, Sub.refl, sv2.imp inF, by omega, fun hg M4 sM4 => ?_, fun k3 hg => absurd (.inr ⟨rfl, by omega⟩) (goes_not hg)⟩
        tm_at "g"
        exact ⟨_, _, _, E2, rv2, nl2, pl2, fl2, k', rfl, sM4, iE2, sv2, pt2⟩
      · tm_at "g"
        exact ⟨_, _, _, E2, rv2, nl2, pl2, fl2, k', rfl, sM2, iE2, sv2, pt2⟩
  · rintro θ N ⟨u1, u2, u3, E', rv', nl', pl', fl', kc, rfl, sb1, iE, sv1, pt⟩
    have ek : kc = k := by
      rw [List.drop_eq_nil_of_le (by show W0.length ≤ wy.length; rw [rW.len]; exact Nat.le_refl _)] at pt
      cases pt
      rfl
    subst ek
    tm_at "g"
    exact ⟨_, Sub.refl, q rv' nl' pl' fl' E' _ sb1 sv1⟩
end
theorem putS_has {S : List RwD} {r : RwD} : hasS (putS S r) r.1 = true := by
  rw [hasS_iff, putS_names]
  split
  · rename_i h
    exact hasS_iff.mp h
  · exact List.mem_append_right _ (List.mem_singleton.mpr rfl)
theorem putS_in {S : List RwD} {r : RwD} : r ∈ putS S r := by
  unfold putS
  split
  · rename_i h
    obtain ⟨e, he, h1⟩ := List.mem_map.mp (hasS_iff.mp h)
    exact List.mem_map.mpr ⟨e, he, by rw [if_pos h1]⟩
  · exact List.mem_append_right _ (List.mem_singleton.mpr rfl)
theorem putS_twice {S : List RwD} {r : RwD} : putS (putS S r) r = putS S r := by
  have h := putS_has (S := S) (r := r)
  have e : putS (putS S r) r = (putS S r).map (fun e => if e.1 = r.1 then r else e) := by
    show (if hasS (putS S r) r.1 = true then _ else _) = _
    rw [if_pos h]
  rw [e]
  unfold putS
  split
  · rw [List.map_map]
    refine List.map_congr_left fun e _ => ?_
    show (if (if e.1 = r.1 then r else e).1 = r.1 then r else (if e.1 = r.1 then r else e)) = _
    by_cases h : e.1 = r.1
    · rw [if_pos h, if_pos rfl]
    · rw [if_neg h, if_neg h]
  · rename_i hn
    have e2 : S.map (fun e => if e.1 = r.1 then r else e) = S := by
      refine (List.map_congr_left fun e he => ?_).trans (List.map_id _)
      show _ = e
      rw [if_neg fun (z : e.1 = r.1) => hn (hasS_iff.mpr (List.mem_map.mpr ⟨e, he, z⟩))]
    rw [List.map_append, e2, List.map_cons, List.map_nil, if_pos rfl]
def spSame (K : PySem.W.Frag) (Y : ShPar) : SpL := fun vs L Q _ => ∃ (sh dx nl pl fl : Addr) (rv : V) (us : List V) (Hs : List (List RwD)) (k : Nat) (zs : List Str) (R : Lg), vs = [.ref sh] ∧ Sub ((sh, shO Y.CS dx rv (.ref nl) (.ref pl) (.ref fl)) :: R) L ∧ ShV K Y R rv nl pl fl us Hs k ∧ us.length ≤ 600 ∧ zs.length ≤ 7 ∧ (∀ S ∈ Hs, InPool zs S) ∧
  ∀ o M, Sub ((sh, o) :: R) M → Q (.bl true) M
section
variable {P : Program} {w : World} {K : PySem.W.Frag} {mg : Str → Option Value} {base : Heap} {Y : ShPar} {Cd Cm Cn Cr CE Ce fE gK gD gS gU gR gV gW gG : Addr}
theorem fn_law_same_right (B : Bi mg) (F : Df K mg "_law_same_right" s_law_same_right) (W : LwD P w K mg base Y Cd Cm Cn CE Ce fE gK gD gS gU gR gV gW) (oi : OwnItem K Y.CS gG) (RG : RunG P w K mg base CX0 2 gG argsP (toSp (spShelfGet K Y))) : Fn P w K mg base CX0 "_law_same_right" 8 (spSame K Y) := by
  refine fn_plain F sc_law_same_right (fun _ _ _ _ _ _ us hl => match us, hl with | [_], _ => rfl) (by decide) (by tm_at "g_len") ?_
  intro X f cdv A outer s H E0 L vs Q E hX nd hr h
  subst hX
  obtain ⟨sh, dx, nl, pl, fl, rv, us, Hs, k, zs, R, rfl, sb, sv, lu, z7, pool, q⟩ := h
  refine (fun h => GSs.sub sb h) ?_
  obtain ⟨ppv, pv⟩ := W.pV
  obtain ⟨ppw, pw⟩ := W.pW
  have hk := sv.lt
  obtain ⟨S, hS, ra⟩ := sv.row
  have so : SOk S := by
    obtain ⟨_, _, _, _, _, _, so⟩ := ra
    exact so
  have pS : InPool zs S := pool S (List.mem_of_getElem? hS)
  have lk : (us.take k).length = k := by rw [List.length_take]; omega
  have hf : fullS S "same" = false := pool_full so pS z7
  have so1 : SOk (putS S ("same", exD 9, 5)) := putS_ok so (by decide) ⟨by decide, by decide, by decide⟩ (by decide) hf
  have hf1 : fullS (putS S ("same", exD 9, 5)) "same" = false := by
    unfold fullS
    rw [putS_has (S := S) (r := ("same", exD 9, 5))]
    rfl
  show GSs _ (defBody s_law_same_right) (bodyD Q) [("_law_shelf", some (.ref sh)), ("_law_state_here", none), ("_law_many", none)] _
  refine gss_cons ?_
  tm_at "g"
  refine ge_callF W.e.g W.e.M.kp (fun _ => gf_make (El := NoX) W.e.M W.e.R (fun _ _ => rfl) hr passN) ?_
  tm_at "g"
  intro x1 dx1
  refine ⟨x1, dx1, _, _, _, rfl, mem0, W.we.a, .int, .here, fun _ => ⟨rfl, ?_⟩, no_bad (by decide) (by decide)⟩
  tm_at "g"
  rename_i it
  refine gst_own (El := NoX) W.oS W.rS hr passA (memS (memS (memS mem0))) ?_
  refine ⟨sh, dx, pl, it, rv, .ref nl, .ref fl, .ref x1, us.take k, (it, HO.tup [.ref x1, .int 5]) :: (x1, wO CE dx1 (.int 9) (.int 0) (.int 0)) :: (dx1, HO.own x1) :: R, S, "same", exD 9, 5, rfl, Sub.perm (List.perm_middle (l₁ := [(_, _), (_, _), (_, _)]) (l₂ := R)).symm, W.sc, rowsMono _ _ _ _ (fun _ h => memS (memS (memS h))) ra, memS (memS (memS sv.mp)), by omega, mem0, by decide, ⟨x1, CE, dx1, rfl, memS mem0, W.we⟩, ⟨by decide, by decide, by decide⟩, by decide, hf, fun v1 nl1 ys1 p1 f1 M1 N1 pm1 st1 sN1 ra1 s1 => ?_⟩
  replace sN1 : Sub R N1 := Sub.trans (Sub.trans Sub.drop (Sub.trans Sub.drop Sub.drop)) sN1
  obtain ⟨z1, hz1⟩ : ∃ z1, z1 = us.take k ++ [rv] := ⟨_, rfl⟩
  have l1 : z1.length = k + 1 := by rw [hz1, List.length_append, lk]; rfl
  rw [← hz1] at s1
  have ra1' := rowsMono _ ((nl1, HO.lst (ys1.map V.str)) :: (f1, HO.lst []) :: (p1, HO.lst z1) :: N1) _ _ (fun _ h => memS (memS (memS h))) ra1
  have mn1 : (nl1, HO.lst (ys1.map V.str)) ∈ (nl1, HO.lst (ys1.map V.str)) :: (f1, HO.lst []) :: (p1, HO.lst z1) :: N1 := mem0
  have mf1 : (f1, HO.lst []) ∈ (nl1, HO.lst (ys1.map V.str)) :: (f1, HO.lst []) :: (p1, HO.lst z1) :: N1 := memS mem0
  have mp1 : (p1, HO.lst z1) ∈ (nl1, HO.lst (ys1.map V.str)) :: (f1, HO.lst []) :: (p1, HO.lst z1) :: N1 := memS (memS mem0)
  have sR1 : Sub R ((nl1, HO.lst (ys1.map V.str)) :: (f1, HO.lst []) :: (p1, HO.lst z1) :: N1) := Sub.trans sN1 (Sub.trans Sub.drop (Sub.trans Sub.drop Sub.drop))
  refine (fun h => GSs.sub s1 h) ?_
  generalize (nl1, HO.lst (ys1.map V.str)) :: (f1, HO.lst []) :: (p1, HO.lst z1) :: N1 = R1 at ra1' mn1 mf1 mp1 sR1 ⊢
  generalize hS1 : putS S ("same", exD 9, 5) = S1 at *
  clear s1 ra1 sN1 hz1
  refine gss_cons ?_
  tm_at "g"
  refine ge_call (El := NoX) W.state hr passA ?_
  tm_at "g"
  refine ⟨sh, dx, nl1, p1, f1, v1, S1, ys1, rfl, ⟨mem0, W.sc, rowsMono _ _ _ _ (fun _ h => memS h) ra1', memS mn1, pm1, st1⟩, fun D1 ts1 ets1 => ?_⟩
  have sT1 := st_of so1 pm1 st1
  rw [← ets1] at sT1
  refine ga_sub (sub_mid (A := (D1, HO.lst (ts1.map fun e : Ts3 => V.ref e.1)) :: tsL ts1)) ?_
  have stD : StAt ((D1, HO.lst (ts1.map fun e : Ts3 => V.ref e.1)) :: tsL ts1 ++ R1) (.ref D1) (ts1.map (·.2)) := ⟨D1, ts1, rfl, mem0, fun e he => List.mem_append_left _ (memS (mem_ts he)), rfl⟩
  have iR1 : ∀ e ∈ R1, e ∈ (D1, HO.lst (ts1.map fun e : Ts3 => V.ref e.1)) :: tsL ts1 ++ R1 := fun e he => List.mem_append_right _ he
  have sR2 : Sub R ((D1, HO.lst (ts1.map fun e : Ts3 => V.ref e.1)) :: tsL ts1 ++ R1) := Sub.trans sR1 (sub_app (A := (D1, HO.lst (ts1.map fun e : Ts3 => V.ref e.1)) :: tsL ts1))
  generalize (D1, HO.lst (ts1.map fun e : Ts3 => V.ref e.1)) :: tsL ts1 ++ R1 = R2 at stD iR1 sR2 ⊢
  have ra2 := rowsMono _ _ _ _ iR1 ra1'
  have mp2 := iR1 _ mp1
  have mf2 := iR1 _ mf1
  clear sR1 mp1 mf1 ra1' iR1
  tm_at "g"
  refine gat_prop (El := NoX) W.sc.c pv W.rV hr passA mem0 ⟨sh, dx, p1, f1, v1, .ref nl1, z1, [], rfl, mem0, W.sc, memS mp2, memS mf2, ?_⟩
  rw [if_neg Bool.false_ne_true, l1]
  refine ga_nil ⟨_, _, rfl, ?_⟩
  refine gss_cons ?_
  refine gs_asg ?_
  refine ge_ixM (El := NoX) oi RG hr passA ?_
  tm_at "g"
  refine ⟨sh, dx, _, rfl, mem0, ⟨sh, dx, v1, _, _, _, S1, ("same", exD 9, 5), rfl, mem0, W.sc, rowsMono _ _ _ _ (fun _ h => memS h) ra2, hS1 ▸ putS_in, fun t wv mt wa => ?_⟩⟩
  replace mt : (t, HO.tup [wv, .int (5 : Nat)]) ∈ R2 := by
    rcases List.mem_cons.mp mt with z | z
    · exact absurd (congrArg Prod.snd z) (fun z => nomatch z)
    · exact z
  have wa' : WhAt K Y R2 wv (exD 9) := by
    obtain ⟨x, C, dw, rfl, mx, wc⟩ := wa
    refine ⟨x, C, dw, rfl, ?_, wc⟩
    rcases List.mem_cons.mp mx with z | z
    · exact absurd (congrArg Prod.snd z) sh_ne_wh
    · exact z
  tm_at "g"
  refine gst_own (El := NoX) W.oS W.rS hr passA mem0 ?_
  refine ⟨sh, dx, p1, t, v1, .ref nl1, .ref f1, wv, z1, R2, S1, "same", exD 9, 5, rfl, Sub.refl, W.sc, ra2, mp2, by omega, mt, by decide, wa', ⟨by decide, by decide, by decide⟩, by decide, hf1, fun v2 nl2 ys2 p2 f2 M2 N2 pm2 st2 sN2 raN2 s2 => ?_⟩
  have e2 : putS S1 ("same", exD 9, 5) = S1 := by
    rw [← hS1]
    exact putS_twice
  rw [e2] at pm2 raN2
  obtain ⟨z2, hz2⟩ : ∃ z2, z2 = z1 ++ [v1] := ⟨_, rfl⟩
  have l2 : z2.length = k + 1 + 1 := by rw [hz2, List.length_append, l1]; rfl
  rw [← hz2] at s2
  have sR3 : Sub R2 ((nl2, HO.lst (ys2.map V.str)) :: (f2, HO.lst []) :: (p2, HO.lst z2) :: N2) := Sub.trans sN2 (Sub.trans Sub.drop (Sub.trans Sub.drop Sub.drop))
  refine gssNd fun ndM => ?_
  have nd3 := (List.nodup_cons.mp (s2.to ndM).1).2
  have i3 := (sR3.to nd3).2
  have sR3' : Sub R ((nl2, HO.lst (ys2.map V.str)) :: (f2, HO.lst []) :: (p2, HO.lst z2) :: N2) := Sub.trans sR2 sR3
  have ra3 : RowsAt K Y ((nl2, HO.lst (ys2.map V.str)) :: (f2, HO.lst []) :: (p2, HO.lst z2) :: N2) v2 S1 := rowsMono _ _ _ _ (fun _ h => memS (memS (memS h))) raN2
  have ra3' : RowsAt K Y ((nl2, HO.lst (ys2.map V.str)) :: (f2, HO.lst []) :: (p2, HO.lst z2) :: N2) v1 S1 := rowsMono _ _ _ _ i3 ra2
  have mn3 : (nl2, HO.lst (ys2.map V.str)) ∈ (nl2, HO.lst (ys2.map V.str)) :: (f2, HO.lst []) :: (p2, HO.lst z2) :: N2 := mem0
  have mf3 : (f2, HO.lst []) ∈ (nl2, HO.lst (ys2.map V.str)) :: (f2, HO.lst []) :: (p2, HO.lst z2) :: N2 := memS mem0
  have mp3 : (p2, HO.lst z2) ∈ (nl2, HO.lst (ys2.map V.str)) :: (f2, HO.lst []) :: (p2, HO.lst z2) :: N2 := memS (memS mem0)
  have stD3 := stD.imp i3
  refine (fun h => GSs.sub s2 h) ?_
  generalize (nl2, HO.lst (ys2.map V.str)) :: (f2, HO.lst []) :: (p2, HO.lst z2) :: N2 = R3 at sR3' ra3 ra3' mn3 mf3 mp3 stD3 ⊢
  clear i3 nd3 ndM sR3 s2 raN2 sN2 stD mt wa wa' mp2 mf2 ra2 sR2
  tm_at "g"
  refine ge_call (El := NoX) W.state hr passA ?_
  tm_at "g"
  refine ⟨sh, dx, nl2, p2, f2, v2, S1, ys2, rfl, ⟨mem0, W.sc, rowsMono _ _ _ _ (fun _ h => memS h) ra3, memS mn3, pm2, st2⟩, fun D2 ts2 ets2 => ?_⟩
  have sT2 := st_of so1 pm2 st2
  rw [← ets2] at sT2
  have eT : ts2.map (·.2) = ts1.map (·.2) := IsSt.uniq so1 sT2 sT1
  tm_at "g"
  refine go_neD hr.toRoom (dl_st (T := ts2.map (·.2)) st_at) (dl_st (T := ts1.map (·.2)) (stD3.imp fun e he => memS (List.mem_append_right _ (memS he)))) (shaped_st (sT2.ok so1)) (shaped_st (sT1.ok so1)) ?_
  rw [eqv_st, decide_eq_true eT]
  refine ⟨false, rfl, ?_⟩
  tm_at "g"
  refine gat_prop (El := NoX) W.sc.c pv W.rV hr passA (memS (List.mem_append_right _ mem0)) ⟨sh, dx, p2, f2, v2, .ref nl2, z2, [], rfl, memS (List.mem_append_right _ mem0), W.sc, memS (List.mem_append_right _ (memS mp3)), memS (List.mem_append_right _ (memS mf3)), ?_⟩
  rw [if_neg Bool.false_ne_true, l2]
  tm_at "g"
  rw [decide_eq_true (by omega)]
  tm_at "g"
  refine gat_prop (El := NoX) W.sc.c pw W.rW hr passA (memS (List.mem_append_right _ mem0)) ⟨sh, dx, p2, f2, v2, .ref nl2, z2, [], rfl, memS (List.mem_append_right _ mem0), W.sc, memS (List.mem_append_right _ (memS mp3)), memS (List.mem_append_right _ (memS mf3)), ?_⟩
  rw [if_pos rfl]
  tm_at "g"
  refine (fun h => GSs.sub (Sub.trans sub_app Sub.drop) h) ?_
  tm_at "g"
  refine ge_meth0 (El := NoX) W.rU W.mU W.sc.c hr passN ?_
  tm_at "g"
  refine ⟨sh, dx, _, rfl, mem0, rfl, sh, dx, p2, f2, v2, .ref nl2, z2, [], R3, rfl, Sub.refl, W.sc, mp3, mf3, by omega, by decide, .inr ⟨z1, v1, S1, hz2, ra3', fun nl3 ys3 p3 f3 M3 pm3 st3 s3 => ?_⟩⟩
  tm_at "g"
  refine GE.sub s3 ?_
  refine ge_call (El := NoX) W.state hr passA ?_
  tm_at "g"
  refine ⟨sh, dx, nl3, p3, f3, v1, S1, ys3, rfl, ⟨mem0, W.sc, rowsMono _ _ _ _ (fun _ h => memS (memS (memS (memS h)))) ra3', memS mem0, pm3, st3⟩, fun D3 ts3 ets3 => ?_⟩
  have sT3 := st_of so1 pm3 st3
  rw [← ets3] at sT3
  have eT3 : ts3.map (·.2) = ts1.map (·.2) := IsSt.uniq so1 sT3 sT1
  tm_at "g"
  refine go_eqD hr.toRoom (dl_st (T := ts3.map (·.2)) st_at) (dl_st (T := ts1.map (·.2)) (stD3.imp fun e he => memS (List.mem_append_right _ (memS (memS (memS (memS he))))))) (shaped_st (sT3.ok so1)) (shaped_st (sT1.ok so1)) ?_
  rw [eqv_st, decide_eq_true eT3]
  tm_at "g"
  refine gat_prop (El := NoX) W.sc.c pv W.rV hr passA (memS (List.mem_append_right _ mem0)) ⟨sh, dx, p3, f3, v1, .ref nl3, z1, [] ++ [v2], rfl, memS (List.mem_append_right _ mem0), W.sc, memS (List.mem_append_right _ (memS (memS mem0))), memS (List.mem_append_right _ (memS (memS (memS mem0)))), ?_⟩
  rw [if_neg Bool.false_ne_true, l1]
  tm_at "g"
  rw [decide_eq_true rfl]
  tm_at "g"
  refine gat_prop (El := NoX) W.sc.c pw W.rW hr passA (memS (List.mem_append_right _ mem0)) ⟨sh, dx, p3, f3, v1, .ref nl3, z1, [] ++ [v2], rfl, memS (List.mem_append_right _ mem0), W.sc, memS (List.mem_append_right _ (memS (memS mem0))), memS (List.mem_append_right _ (memS (memS (memS mem0)))), ?_⟩
  rw [if_pos rfl]
  tm_at "g"
  exact ⟨_, Sub.refl, q _ _ (Sub.trans (Sub.cons (Sub.trans sR3' (Sub.trans Sub.drop (Sub.trans Sub.drop Sub.drop)))) (Sub.trans sub_app Sub.drop))⟩
end
section
variable {K : PySem.W.Frag} {Y : ShPar} {M : Lg} {sh C dx : Addr} {r n p f : V}
theorem sh_shv {rv : V} {nl pl fl : Addr} {vs : List V} {Hs : List (List RwD)} {k : Nat} (nd : (M.map (·.1)).Nodup) (ms : (sh, shO C dx r n p f) ∈ M) (h : ShV K Y M rv nl pl fl vs Hs k) : ShV K Y (awayL M sh) rv nl pl fl vs Hs k := by
  obtain ⟨h1, h2, ⟨S, ys, h3, h4, h5⟩, h6, h7⟩ := h
  exact ⟨h1, h2.imp fun v a h => rows_away nd ms h, ⟨S, ys, h3, away_mem h4 (away_ne nd ms h4 (fun z => nomatch z)), h5⟩, away_mem h6 (away_ne nd ms h6 (fun z => nomatch z)), away_mem h7 (away_ne nd ms h7 (fun z => nomatch z))⟩
theorem sh_sts {v : V} {S : List RwD} (nd : (M.map (·.1)).Nodup) (ms : (sh, shO C dx r n p f) ∈ M) (h : StS M v S) : StS (awayL M sh) v S := by
  obtain ⟨T, ⟨q, ts, rfl, h2, h3, h4⟩, h5⟩ := h
  exact ⟨T, ⟨q, ts, rfl, away_mem h2 (away_ne nd ms h2 (fun z => nomatch z)), fun e he => away_mem (h3 e he) (away_ne nd ms (h3 e he) (fun z => nomatch z)), h4⟩, h5⟩
end
theorem sub_front {p c s l : Addr × HO} {R : Lg} : Sub (s :: p :: c :: l :: R) (p :: c :: s :: l :: R) := Sub.perm (List.perm_middle (l₁ := [p, c])).symm
theorem sub_back {p c s l : Addr × HO} {E R : Lg} : Sub (p :: c :: s :: l :: (E ++ R)) (s :: (E ++ ([p, c, l] ++ R))) := Sub.perm (by
  refine (List.perm_middle (l₁ := [p, c])).trans (.cons s ?_)
  have := (List.perm_append_comm (l₁ := [p, c, l]) (l₂ := E)).append_right R
  rw [List.append_assoc E] at this
  exact this)
theorem sub_midL {P A R : Lg} : Sub (P ++ (A ++ R)) (A ++ (P ++ R)) := Sub.perm (by
  rw [← List.append_assoc, ← List.append_assoc]
  exact List.perm_append_comm.append_right R)
theorem sub_own {p c t o x s : Addr × HO} {R : Lg} : Sub (p :: c :: t :: o :: x :: s :: R) (o :: p :: c :: x :: s :: t :: R) := Sub.perm ((List.perm_middle (l₁ := [p, c, t])).trans (.cons _ (.cons _ (.cons _ (List.perm_middle (l₁ := [x, s])).symm))))
theorem geNd {X : Cx} {e : Expr} {η : En} {L : Lg} {Q : QV} (h : (L.map (·.1)).Nodup → GE X e η L Q) : GE X e η L Q := fun hN H hH => h hH.1 hN H hH
theorem gix_sub {X : Cx} {x y : V} {L M : Lg} {Q : QV} (s : Sub M L) (h : GIx X x y M Q) : GIx X x y L Q := fun value slice pins s0 σ H v u hH => h value slice pins s0 σ H v u (s H hH)
theorem sub_two {p c t o x s : Addr × HO} {R : Lg} : Sub (p :: c :: x :: s :: t :: o :: R) (p :: c :: t :: o :: x :: s :: R) := Sub.perm (.cons _ (.cons _ (List.perm_append_comm (l₁ := [x, s]) (l₂ := [t, o]) |>.append_right R)))
def NmRep (_ : Lg) (v : V) (y : Str) : Prop := v = .str y ∧ isNameS y = true
theorem nmMono : RepMono NmRep := fun _ _ _ _ _ h => h
theorem nm_reps {L : Lg} : ∀ {zs : List V} {ys : List Str}, Reps (NmRep L) zs ys → zs = ys.map V.str ∧ ∀ y ∈ ys, isNameS y = true
  | _, _, .nil => ⟨rfl, fun _ h => by cases h⟩
  | _, _, .cons h t => by
    obtain ⟨e, a⟩ := nm_reps t
    obtain ⟨e1, a1⟩ := h
    refine ⟨by rw [e1, e]; rfl, fun y hy => ?_⟩
    rcases List.mem_cons.mp hy with rfl | hy
    · exact a1
    · exact a y hy
structure LwM (P : Program) (w : World) (K : PySem.W.Frag) (mg : Str → Option Value) (base : Heap) (Y : ShPar) (fI gT : Addr) : Prop where
  sc : ShC K Y.CS
  gS : mg "Shelf" = some (.ref Y.CS)
  mS : Mk K Y.CS fI
  rS : RunG P w K mg base CX0 1 fI argsP (toSp (spShelfInit K Y))
  rT : RunG P w K mg base CX0 4 gT argsP (toSp (spTwin K Y))
  mT : Meth K Y.CS "twin" gT
  name : Fn P w K mg base CX0 "_law_name" 3 spName
  state : Fn P w K mg base CX0 "_law_state" 6 (spState K Y)
  led : Fn P w K mg base CX0 "_law_led" 9 (spLed K Y)
  walked : Fn P w K mg base CX0 "_law_walked" 8 (spWalked K Y)
  stands : Fn P w K mg base CX0 "_law_stands" 7 (spStands K Y)
  same : Fn P w K mg base CX0 "_law_same_right" 8 (spSame K Y)
section
variable {P : Program} {w : World} {K : PySem.W.Frag} {mg : Str → Option Value} {base : Heap} {Y : ShPar} {fI gT : Addr}
theorem law_body (B : Bi mg) (A0 : Fn P w K mg base CX0 "_law_pen" 1 (fun vs L Q _ => ∃ (a : Addr) (ns : List Int), vs = [.ref a] ∧ InL K L a (ns.map V.int) ∧ ∀ p c ms, ms.length ≤ 63 → Q (.ref p) ((p, penO c 0 0) :: (c, celO ms) :: L)))
    (M0 : LwM P w K mg base Y fI gT) : BodyOf P w K mg base N_law "law" s_law 10 (spLaw K (tabsL [])) := by
  intro X f cdv A outer s H E0 L vs Q E hX nd hr h
  subst hX
  obtain ⟨a, ns, M, rfl, rfl, hi, -, q⟩ := h
  show GSs _ (defBody s_law) (bodyD Q) [("_law_script", some (.ref a)), ("_law_pen_here", none), ("_law_lap", none), ("_law_shelf", none), ("_law_names", none), ("_law_states", none), ("_law_at", none), ("_law_twin", none), ("_law_own", none), ("_law_state_here", none), ("_law_place", none), ("_law_turn", none)] _
  refine gss_cons ?_
  tm_at "g"
  refine ge_call (El := NoX) A0 hr passA ?_
  tm_at "g"
  refine ⟨a, ns, rfl, hi, fun p c ms h63 => ?_⟩
  tm_at "g"
  refine gs_for (gi_range1 ?_ B.range)
  tm_at "g"
  refine ⟨by decide, fun i θ N => ∃ u1 u2 u3 u4 u5 u6 u7 u8 u9 u0 n m R, θ = ([("_law_script", some (.ref a)), ("_law_pen_here", some (.ref p)), ("_law_lap", u1), ("_law_shelf", u2), ("_law_names", u3), ("_law_states", u4), ("_law_at", u5), ("_law_twin", u6), ("_law_own", u7), ("_law_state_here", u8), ("_law_place", u9), ("_law_turn", u0)] : En) ∧ Sub ((p, penO c n m) :: (c, celO ms) :: R) N ∧ 0 ≤ n ∧ n ≤ 1500 * (i : Int) ∧ 0 ≤ m, ⟨none, none, none, none, none, none, none, none, none, none, 0, 0, _, rfl, Sub.refl, by decide, by decide, by decide⟩, fun _ _ _ _ _ _ => True.intro, ?_, ?_⟩
  · rintro i x E1 θ N hi ⟨rfl, rfl⟩ ⟨u1, u2, u3, u4, u5, u6, u7, u8, u9, u0, n, m, R, rfl, sb, n0, n1, m0⟩
    dsimp only [List.nil_append] at hi ⊢
    have hi3 : i < 3 := hi
    refine gg_name (by tm_at "g_pv") ?_
    refine GSs.sub sb ?_
    tm_at "g"
    refine ge_callF0 M0.gS M0.mS.kp (fun _ => gf_make (El := NoX) M0.mS M0.rS (fun _ _ => rfl) hr passA) ?_
    tm_at "g"
    intro x dx
    refine ⟨x, dx, (dx, HO.own x) :: (p, penO c n m) :: (c, celO ms) :: R, rfl, Sub.refl, M0.sc, fun ra od nl pl fl M1 s1 => ⟨rfl, ?_⟩⟩
    show GA _ _ _ _ _
    refine ga_sub (Sub.trans (show Sub ((p, penO c n m) :: (c, celO ms) :: (x, shO Y.CS dx (.ref ra) (.ref nl) (.ref pl) (.ref fl)) :: (fl, HO.lst []) :: (pl, HO.lst []) :: (nl, HO.lst []) :: (ra, dO od []) :: (dx, HO.own x) :: R) _ from by tm_at "g_rot") s1) ?_
    clear s1
    tm_at "g"
    refine GE.nd ?_
    refine GE.imp (Q := drp fun v M => ∃ (D : Addr) (ys : List Str) (n' m' : Int) (R2 : Lg), v = .ref D ∧ M = (D, HO.lst (ys.map V.str)) :: (p, penO c n' m') :: (c, celO ms) :: R2 ∧ (∀ e ∈ (x, shO Y.CS dx (.ref ra) (.ref nl) (.ref pl) (.ref fl)) :: (fl, HO.lst []) :: (pl, HO.lst []) :: (nl, HO.lst []) :: (ra, dO od []) :: (dx, HO.own x) :: R, e ∈ R2) ∧ (∀ y ∈ ys, isNameS y = true) ∧ ys.length = 7 ∧ 0 ≤ n' ∧ n' ≤ n + 70 ∧ 0 ≤ m') ?_ ?_
    · refine ge_lc1 (by tm_at "g_put") (gi_range1 ?_ B.range) (show blkC N_law (defScope s_law) _ [(_, List.idxOf _ N_law)] = true by decide +kernel)
      tm_at "g"
      refine ⟨by decide, fun D => ?_⟩
      refine lc_drawsR (Rep := NmRep) (k := 10) nmMono (by omega) (by tm_at "g_rot") n0 m0 (by decide) (by omega) (fun i hi zs n3 m3 R' hR b0 b1 b2 s1 H1 C1 cl1 fp1 => ?_) fun zs ys R2 n3 m3 hl up rp b0 b1 b2 => ?_
      · tm_at "g"
        refine ge_call (El := NoX) M0.name hr passA ?_
        tm_at "g"
        refine ⟨p, c, _, n3, m3, _, rfl, by tm_at "g_rot", h63, b0, by omega, b2, fun z n4 m4 hz c0 c1 c2 => ?_⟩
        intro ndM
        exact ⟨z, R', n4, m4, by first | exact Sub.refl | exact Sub.perm (List.perm_middle (l₁ := [_, _])) | exact Sub.perm (List.perm_middle (l₁ := [_, _])).symm, fun e he => he, ⟨rfl, hz⟩, c0, by omega, c2⟩
      · obtain ⟨rfl, al⟩ := nm_reps rp
        exact ⟨D, ys, n3, m3, R2, rfl, rfl, up, al, by omega, b0, by omega, b2⟩
    · rintro v M' ⟨M1, sM, D, ys, n2, m2, R2, rfl, rfl, up, al, l7, a0, a1, a2⟩ nd1
      have ndR2 : (R2.map (·.1)).Nodup := (List.nodup_cons.mp (List.nodup_cons.mp (List.nodup_cons.mp (sM.to nd1).1).2).2).2
      have ms2 := up _ mem0
      have aw : ∀ {y : Addr} {o : HO}, (y, o) ∈ R2 → o ≠ shO Y.CS dx (.ref ra) (.ref nl) (.ref pl) (.ref fl) → (y, o) ∈ (D, HO.lst (ys.map V.str)) :: awayL R2 x := fun my ne => memS (away_mem my (away_ne ndR2 ms2 my ne))
      refine ga_sub (Sub.trans (show Sub ((p, penO c n2 m2) :: (c, celO ms) :: (x, shO Y.CS dx (.ref ra) (.ref nl) (.ref pl) (.ref fl)) :: (D, HO.lst (ys.map V.str)) :: awayL R2 x) ((D, HO.lst (ys.map V.str)) :: (p, penO c n2 m2) :: (c, celO ms) :: (x, shO Y.CS dx (.ref ra) (.ref nl) (.ref pl) (.ref fl)) :: awayL R2 x) from Sub.perm (List.perm_middle (l₁ := [_, _, _]))) (Sub.trans (Sub.cons (Sub.cons (Sub.cons (away_sub ms2)))) sM)) ?_
      have sv : ShV K Y ((D, HO.lst (ys.map V.str)) :: awayL R2 x) (.ref ra) nl pl fl [.ref ra] [[]] 0 := ⟨rfl, .cons ⟨ra, od, [], rfl, aw (up _ (by tm_at "g_mem")) (fun z => nomatch z), .nil, List.nodup_nil, by decide, fun _ h => nomatch h⟩ .nil, ⟨[], [], rfl, aw (up _ (memS (memS (memS mem0)))) (fun z => nomatch z), List.Perm.refl _, rfl⟩, aw (up _ (memS (memS mem0))) (fun z => nomatch z), aw (up _ (memS mem0)) (fun z => nomatch z)⟩
      have mq : (D, HO.lst (ys.map V.str)) ∈ (D, HO.lst (ys.map V.str)) :: awayL R2 x := mem0
      generalize (D, HO.lst (ys.map V.str)) :: awayL R2 x = R3 at sv mq ⊢
      clear aw ms2 ndR2 sM up nd1
      tm_at "g"
      rename_i e0 sl
      refine ge_call (El := NoX) M0.led hr passA ?_
      tm_at "g"
      refine ⟨p, c, x, dx, nl, pl, fl, D, sl, .ref ra, [.ref ra], [.ref e0], [[]], 0, ys, ms, n2, m2, (e0, HO.lst []) :: R3, rfl, Sub.perm (List.perm_append_comm (l₁ := [(_, _), (_, _), (_, _)]) (l₂ := [(_, _), (_, _)]) |>.append_right R3), sv.imp fun _ h => memS h, by show 1 ≤ 500; decide, .cons ⟨[], ⟨e0, [], rfl, mem0, fun _ h => (nomatch h), rfl⟩, List.Perm.refl _, .nil⟩ .nil, memS mq, al, by omega, by omega, fun S hS => (by rw [List.mem_singleton.mp hS]; exact fun _ h => (nomatch h)), h63, a0, by omega, a2, fun rv1 nl1 pl1 fl1 us1 ws1 Hs1 k1 n3 m3 R4 M s4 i4 sv4 lu4 rp4 pool4 hd4 b0 b1 b2 => ?_⟩
      tm_at "g"
      have mq4 := i4 _ (memS mq)
      refine GE.sub (Sub.trans sub_front s4) ?_
      clear s4 i4 sv mq
      refine ge_call (El := NoX) M0.walked hr passA ?_
      tm_at "g"
      refine ⟨x, dx, nl1, pl1, fl1, sl, rv1, us1, ws1, Hs1, k1, [(p, penO c n3 m3), (c, celO ms), (sl, HO.lst ws1)], R4, rfl, Sub.refl, sv4, by replace lu4 : us1.length ≤ 21 := lu4; omega, memS (memS mem0), rp4, fun rv2 nl2 pl2 fl2 E2 M2 s5 sv5 => ?_⟩
      replace lu4 : us1.length ≤ 21 := lu4
      tm_at "g"
      replace s5 := Sub.trans sub_back s5
      have rp5 : Reps (StS (E2 ++ R4)) ws1 Hs1 := rp4.imp fun v a h => stMono (fun e he => List.mem_append_right _ he) h
      have mq5 : (D, HO.lst (ys.map V.str)) ∈ E2 ++ R4 := List.mem_append_right _ mq4
      generalize E2 ++ R4 = R5 at s5 sv5 rp5 mq5
      clear sv4 rp4 mq4
      refine GE.sub s5 ?_
      clear s5
      obtain ⟨S, hS, ra5⟩ := sv5.row
      obtain ⟨S2, ys2, hS2, mn5, pm5, st5⟩ := sv5.nm
      cases hS.symm.trans hS2
      have so : SOk S := by
        obtain ⟨_, _, _, _, _, _, so⟩ := ra5
        exact so
      have pS : InPool ys S := pool4 S (List.mem_of_getElem? hS)
      refine ge_meth0 (El := NoX) M0.rT M0.mT M0.sc.c hr passA ?_
      tm_at "g"
      refine ⟨x, dx, _, rfl, memS (memS mem0), rfl, x, dx, rv2, _, _, _, S, rfl, memS (memS mem0), M0.sc, rowsMono _ _ _ _ (fun _ h => memS (memS (memS (memS h)))) ra5, fun t dt nlt plt flt yst M3 pmt stt s6 => ?_⟩
      show GA _ _ _ _ _
      refine ga_sub (Sub.trans (show Sub ((p, penO c n3 m3) :: (c, celO ms) :: (x, shO Y.CS dx rv2 (.ref nl2) (.ref pl2) (.ref fl2)) :: (sl, HO.lst ws1) :: (t, shO Y.CS dt rv2 (.ref nlt) (.ref plt) (.ref flt)) :: (nlt, HO.lst (yst.map V.str)) :: (flt, HO.lst []) :: (plt, HO.lst []) :: R5) _ from Sub.perm (List.perm_append_comm (l₁ := [(_, _), (_, _), (_, _), (_, _)]) (l₂ := [(_, _), (_, _), (_, _), (_, _)]) |>.append_right R5)) s6) ?_
      have svt : ShV K Y ((nlt, HO.lst (yst.map V.str)) :: (flt, HO.lst []) :: (plt, HO.lst []) :: R5) rv2 nlt plt flt [rv2] [S] 0 := ⟨rfl, .cons (rowsMono _ _ _ _ (fun _ h => memS (memS (memS h))) ra5) .nil, ⟨S, yst, rfl, mem0, pmt, stt⟩, memS (memS mem0), memS mem0⟩
      replace sv5 := sv5.imp (R' := (nlt, HO.lst (yst.map V.str)) :: (flt, HO.lst []) :: (plt, HO.lst []) :: R5) (fun _ h => memS (memS (memS h)))
      replace rp5 : Reps (StS ((nlt, HO.lst (yst.map V.str)) :: (flt, HO.lst []) :: (plt, HO.lst []) :: R5)) ws1 Hs1 := rp5.imp fun v a h => stMono (fun _ h => memS (memS (memS h))) h
      replace mq5 : (D, HO.lst (ys.map V.str)) ∈ (nlt, HO.lst (yst.map V.str)) :: (flt, HO.lst []) :: (plt, HO.lst []) :: R5 := memS (memS (memS mq5))
      replace mn5 : (nl2, HO.lst (ys2.map V.str)) ∈ (nlt, HO.lst (yst.map V.str)) :: (flt, HO.lst []) :: (plt, HO.lst []) :: R5 := memS (memS (memS mn5))
      replace ra5 := rowsMono _ ((nlt, HO.lst (yst.map V.str)) :: (flt, HO.lst []) :: (plt, HO.lst []) :: R5) _ _ (fun _ h => memS (memS (memS h))) ra5
      generalize (nlt, HO.lst (yst.map V.str)) :: (flt, HO.lst []) :: (plt, HO.lst []) :: R5 = G0 at svt sv5 rp5 mq5 mn5 ra5 ⊢
      clear s6
      tm_at "g"
      refine ge_call (El := NoX) M0.state hr passA ?_
      tm_at "g"
      refine ⟨x, dx, nl2, pl2, fl2, rv2, S, ys2, rfl, ⟨memS (memS mem0), M0.sc, rowsMono _ _ _ _ (fun _ h => memS (memS (memS (memS (memS h))))) ra5, memS (memS (memS (memS (memS mn5)))), pm5, st5⟩, fun D1 ts1 ets1 => ?_⟩
      have sT1 := st_of so pm5 st5
      rw [← ets1] at sT1
      refine ga_sub (show Sub ((p, penO c n3 m3) :: (c, celO ms) :: (x, shO Y.CS dx rv2 (.ref nl2) (.ref pl2) (.ref fl2)) :: (sl, HO.lst ws1) :: (t, shO Y.CS dt rv2 (.ref nlt) (.ref plt) (.ref flt)) :: ((D1, HO.lst (ts1.map fun e : Ts3 => V.ref e.1)) :: tsL ts1 ++ G0)) _ from sub_midL (P := [(_, _), (_, _), (_, _), (_, _), (_, _)]) (A := (D1, HO.lst (ts1.map fun e : Ts3 => V.ref e.1)) :: tsL ts1)) ?_
      have iG : ∀ e ∈ G0, e ∈ (D1, HO.lst (ts1.map fun e : Ts3 => V.ref e.1)) :: tsL ts1 ++ G0 := fun e he => List.mem_append_right _ he
      have rpt : Reps (StS ((D1, HO.lst (ts1.map fun e : Ts3 => V.ref e.1)) :: tsL ts1 ++ G0)) [.ref D1] [S] := .cons ⟨_, ⟨D1, ts1, rfl, mem0, fun e he => List.mem_append_left _ (memS (mem_ts he)), rfl⟩, sT1⟩ .nil
      replace svt := svt.imp iG
      replace sv5 := sv5.imp iG
      replace rp5 := rp5.imp fun v a h => stMono iG h
      replace mq5 := iG _ mq5
      replace mn5 := iG _ mn5
      replace ra5 := rowsMono _ _ _ _ iG ra5
      generalize (D1, HO.lst (ts1.map fun e : Ts3 => V.ref e.1)) :: tsL ts1 ++ G0 = G1 at rpt svt sv5 rp5 mq5 mn5 ra5 ⊢
      clear iG sT1 ets1
      tm_at "g"
      rename_i ow
      refine ge_call (El := NoX) M0.state hr passA ?_
      tm_at "g"
      refine ⟨x, dx, nl2, pl2, fl2, rv2, S, ys2, rfl, ⟨memS (memS (memS mem0)), M0.sc, rowsMono _ _ _ _ (fun _ h => memS (memS (memS (memS (memS (memS h)))))) ra5, memS (memS (memS (memS (memS (memS mn5))))), pm5, st5⟩, fun D2 ts2 ets2 => ?_⟩
      have sT2 := st_of so pm5 st5
      rw [← ets2] at sT2
      refine ga_sub (show Sub ((ow, HO.lst [V.ref D1]) :: (p, penO c n3 m3) :: (c, celO ms) :: (x, shO Y.CS dx rv2 (.ref nl2) (.ref pl2) (.ref fl2)) :: (sl, HO.lst ws1) :: (t, shO Y.CS dt rv2 (.ref nlt) (.ref plt) (.ref flt)) :: ((D2, HO.lst (ts2.map fun e : Ts3 => V.ref e.1)) :: tsL ts2 ++ G1)) _ from sub_midL (P := [(_, _), (_, _), (_, _), (_, _), (_, _), (_, _)]) (A := (D2, HO.lst (ts2.map fun e : Ts3 => V.ref e.1)) :: tsL ts2)) ?_
      have iG : ∀ e ∈ G1, e ∈ (D2, HO.lst (ts2.map fun e : Ts3 => V.ref e.1)) :: tsL ts2 ++ G1 := fun e he => List.mem_append_right _ he
      have stD : StAt ((D2, HO.lst (ts2.map fun e : Ts3 => V.ref e.1)) :: tsL ts2 ++ G1) (.ref D2) (ts2.map (·.2)) := ⟨D2, ts2, rfl, mem0, fun e he => List.mem_append_left _ (memS (mem_ts he)), rfl⟩
      replace svt := svt.imp iG
      replace sv5 := sv5.imp iG
      replace rp5 := rp5.imp fun v a h => stMono iG h
      replace rpt := rpt.imp fun v a h => stMono iG h
      replace mq5 := iG _ mq5
      generalize (D2, HO.lst (ts2.map fun e : Ts3 => V.ref e.1)) :: tsL ts2 ++ G1 = G2 at stD rpt svt sv5 rp5 mq5 ⊢
      clear iG mn5 ra5
      generalize ts2.map (·.2) = T2 at stD sT2 ets2
      tm_at "g"
      refine GE.sub sub_own ?_
      refine ge_call (El := NoX) M0.led hr passA ?_
      tm_at "g"
      refine ⟨p, c, t, dt, nlt, plt, flt, D, ow, rv2, [rv2], [.ref D1], [S], 0, ys, ms, n3, m3, (x, shO Y.CS dx rv2 (.ref nl2) (.ref pl2) (.ref fl2)) :: (sl, HO.lst ws1) :: G2, rfl, Sub.refl, svt.imp fun _ h => memS (memS h), by show 1 ≤ 500; decide, rpt.imp fun v a h => stMono (fun _ h => memS (memS h)) h, memS (memS mq5), al, by omega, by omega, fun S' hS => (by rw [List.mem_singleton.mp hS]; exact pS), h63, b0, by omega, b2, fun rv3 nl3 pl3 fl3 us3 ws3 Hs3 k3 n4 m4 R6 M s7 i7 sv6 lu6 rp6 pool6 hd6 c0 c1 c2 => ?_⟩
      replace lu6 : us3.length ≤ 21 := lu6
      replace hd6 : Hs3[0]? = some S := hd6
      tm_at "g"
      refine GE.sub s7 ?_
      have m7x := i7 _ mem0
      have m7s := i7 _ (memS mem0)
      replace sv5 := sv5.imp fun e he => i7 e (memS (memS he))
      replace rp5 := rp5.imp fun v a h => stMono (fun e he => i7 e (memS (memS he))) h
      replace mq5 := i7 _ (memS (memS mq5))
      have sd : StS R6 (.ref D2) S := stMono (fun e he => i7 e (memS (memS he))) ⟨T2, stD, sT2⟩
      clear s7 i7 stD sT2 ets2 rpt svt
      refine ge_call (El := NoX) M0.stands hr passA ?_
      tm_at "g"
      refine ⟨x, dx, nl2, pl2, fl2, sl, rv2, us1, ws1, Hs1, k1, rfl, memS (memS (memS (memS m7x))), sv5.imp fun _ h => memS (memS (memS (memS h))), by omega, memS (memS (memS (memS m7s))), rp5.imp fun v a h => stMono (fun _ h => memS (memS (memS (memS h)))) h, fun M2 s8 => ?_⟩
      tm_at "g"
      refine GE.sub (Sub.trans sub_front s8) ?_
      clear s8
      refine ge_call (El := NoX) M0.walked hr passA ?_
      tm_at "g"
      refine ⟨t, dt, nl3, pl3, fl3, ow, rv3, us3, ws3, Hs3, k3, [(p, penO c n4 m4), (c, celO ms), (ow, HO.lst ws3)], R6, rfl, Sub.refl, sv6, by omega, memS (memS mem0), rp6, fun rv4 nl4 pl4 fl4 E4 M4 s9 sv7 => ?_⟩
      tm_at "g"
      replace s9 := Sub.trans sub_back s9
      have iG : ∀ e ∈ R6, e ∈ E4 ++ R6 := fun e he => List.mem_append_right _ he
      replace sv5 := sv5.imp iG
      replace rp5 := rp5.imp fun v a h => stMono iG h
      replace rp6 := rp6.imp fun v a h => stMono iG h
      replace mq5 := iG _ mq5
      replace m7x := iG _ m7x
      replace m7s := iG _ m7s
      replace sd := stMono iG sd
      generalize E4 ++ R6 = R7 at s9 sv7 sv5 rp5 rp6 mq5 m7x m7s sd
      clear iG sv6
      refine GE.sub s9 ?_
      clear s9
      refine geNd fun nd7 => ?_
      replace nd7 : (R7.map (·.1)).Nodup := (List.nodup_cons.mp (List.nodup_cons.mp (List.nodup_cons.mp (List.nodup_cons.mp nd7).2).2).2).2
      have nd8 : ((awayL R7 x).map (·.1)).Nodup := nd7.sublist (List.Sublist.map _ List.filter_sublist)
      have m8s : (sl, HO.lst ws1) ∈ awayL R7 x := away_mem m7s (away_ne nd7 m7x m7s (fun z => nomatch z))
      have l0 : 0 < ws1.length := by
        have := sv5.lt
        have e1 := sv5.rows.len
        have e2 := rp5.len
        omega
      replace rp5 := rp5.imp fun v a h => sh_sts nd7 m7x h
      replace rp6 := rp6.imp fun v a h => sh_sts nd7 m7x h
      obtain ⟨v0, hv0⟩ : ∃ v, ws1[0]? = some v := ⟨ws1[0], List.getElem?_eq_getElem l0⟩
      obtain ⟨S0, _, T0, ⟨a0', ts0, rfl, ma0, _, _⟩, _⟩ := rp5.get hv0
      have ew : ws1 = .ref a0' :: ws1.tail := by
        cases ws1 with
        | nil => cases hv0
        | cons x r =>
          cases hv0
          rfl
      replace rp5 := rp5.imp fun v a h => sl_sts nd8 m8s ew ma0 h
      replace rp6 := rp6.imp fun v a h => sl_sts nd8 m8s ew ma0 h
      replace sd := sl_sts nd8 m8s ew ma0 (sh_sts nd7 m7x sd)
      replace sv5 := sl_shv nd8 m8s ew ma0 (sh_shv nd7 m7x sv5)
      replace sv7 := sl_shv nd8 m8s ew ma0 (sh_shv nd7 m7x sv7)
      replace mq5 : (D, HO.lst (ys.map V.str)) ∈ awayL (awayL R7 x) sl := by
        have mq := away_mem mq5 (away_ne nd7 m7x mq5 (fun z => nomatch z))
        refine away_mem mq (away_ne nd8 m8s mq fun z => ?_)
        injection z with z
        rw [ew] at z
        cases ys with
        | nil => cases l7
        | cons y ys => cases (List.cons.inj z).1
      have s10 : Sub ((p, penO c n4 m4) :: (c, celO ms) :: (x, shO Y.CS dx rv2 (.ref nl2) (.ref pl2) (.ref fl2)) :: (sl, HO.lst ws1) :: (t, shO Y.CS dt rv4 (.ref nl4) (.ref pl4) (.ref fl4)) :: (ow, HO.lst ws3) :: awayL (awayL R7 x) sl) ((p, penO c n4 m4) :: (c, celO ms) :: (t, shO Y.CS dt rv4 (.ref nl4) (.ref pl4) (.ref fl4)) :: (ow, HO.lst ws3) :: R7) := Sub.trans sub_two (Sub.cons (Sub.cons (Sub.cons (Sub.cons (Sub.trans (Sub.cons (away_sub m8s)) (away_sub m7x))))))
      generalize awayL (awayL R7 x) sl = R8 at rp5 rp6 sd sv5 sv7 mq5 s10
      refine GE.sub s10 ?_
      clear s10 nd7 nd8 m8s m7x m7s ma0
      refine ge_call (El := NoX) M0.led hr passA ?_
      tm_at "g"
      refine ⟨p, c, x, dx, nl2, pl2, fl2, D, sl, rv2, us1, ws1, Hs1, k1, ys, ms, n4, m4, (t, shO Y.CS dt rv4 (.ref nl4) (.ref pl4) (.ref fl4)) :: (ow, HO.lst ws3) :: R8, rfl, Sub.refl, sv5.imp fun _ h => memS (memS h), by omega, rp5.imp fun v a h => stMono (fun _ h => memS (memS h)) h, memS (memS mq5), al, by omega, by omega, pool4, h63, c0, by omega, c2, fun rv5 nl5 pl5 fl5 us5 ws5 Hs5 k5 n5 m5 R9 M s11 i11 sv9 lu9 rp9 pool9 _ d0 d1 d2 => ?_⟩
      tm_at "g"
      have iR : ∀ e ∈ R8, e ∈ R9 := fun e he => i11 e (memS (memS he))
      have m9t := i11 _ mem0
      have m9o := i11 _ (memS mem0)
      replace sv7 := sv7.imp iR
      replace rp6 := rp6.imp fun v a h => stMono iR h
      replace sd := stMono iR sd
      refine GE.sub (Sub.trans sub_front s11) ?_
      clear s11 i11 iR rp5 sv5 mq5
      refine ge_call (El := NoX) M0.walked hr passA ?_
      tm_at "g"
      refine ⟨x, dx, nl5, pl5, fl5, sl, rv5, us5, ws5, Hs5, k5, [(p, penO c n5 m5), (c, celO ms), (sl, HO.lst ws5)], R9, rfl, Sub.refl, sv9, by omega, memS (memS mem0), rp9, fun rv6 nl6 pl6 fl6 E6 M6 s12 sv10 => ?_⟩
      tm_at "g"
      replace s12 := Sub.trans sub_back s12
      have iR : ∀ e ∈ R9, e ∈ E6 ++ R9 := fun e he => List.mem_append_right _ he
      replace sv7 := sv7.imp iR
      replace rp6 := rp6.imp fun v a h => stMono iR h
      replace sd := stMono iR sd
      replace m9t := iR _ m9t
      replace m9o := iR _ m9o
      generalize E6 ++ R9 = R10 at s12 sv7 sv10 rp6 sd m9t m9o
      refine GE.sub s12 ?_
      clear s12 iR sv9 rp9
      refine ge_call (El := NoX) M0.stands hr passA ?_
      tm_at "g"
      refine ⟨t, dt, nl4, pl4, fl4, ow, rv4, us3, ws3, Hs3, k3, rfl, memS (memS (memS (memS m9t))), sv7.imp fun _ h => memS (memS (memS (memS h))), by omega, memS (memS (memS (memS m9o))), rp6.imp fun v a h => stMono (fun _ h => memS (memS (memS (memS h)))) h, fun M7 s13 => ?_⟩
      tm_at "g"
      refine gix_sub (Sub.trans sub_front s13) ?_
      clear s13
      obtain ⟨wo, hwo, T3, stW, sT3⟩ := reps_at rp6 hd6
      obtain ⟨T2, stD, sT2⟩ := sd
      have eT : T3 = T2 := IsSt.uniq so sT3 sT2
      refine gi_lst (memS (memS (memS (memS m9o)))) (atI_nat hwo) ?_
      tm_at "g"
      refine go_neD hr.toRoom (dl_st (stW.imp fun _ h => memS (memS (memS (memS h))))) (dl_st (stD.imp fun _ h => memS (memS (memS (memS h))))) (shaped_st (sT3.ok so)) (shaped_st (sT2.ok so)) ?_
      rw [eqv_st, decide_eq_true eT]
      refine ⟨false, rfl, ?_⟩
      tm_at "g"
      refine ge_call (El := NoX) M0.same hr passA ?_
      tm_at "g"
      refine ⟨x, dx, nl6, pl6, fl6, rv6, us5, Hs5, k5, ys, (p, penO c n5 m5) :: (c, celO ms) :: (sl, HO.lst ws5) :: R10, rfl, Sub.refl, sv10.imp fun _ h => memS (memS (memS h)), by omega, by omega, pool9, fun o M8 s14 => ?_⟩
      tm_at "g"
      exact ⟨_, _, _, _, _, _, _, _, _, _, n5, m5, _, rfl, Sub.trans (show Sub ((p, penO c n5 m5) :: (c, celO ms) :: (x, o) :: (sl, HO.lst ws5) :: R10) _ from (Sub.perm (List.perm_middle (l₁ := [_, _])))) s14, d0, by show n5 ≤ 1500 * ((i + 1 : Nat) : Int); omega, d2⟩
  · rintro θ N ⟨u1, u2, u3, u4, u5, u6, u7, u8, u9, u0, n, m, R, rfl, sb, -, -, -⟩
    tm_at "g"
    exact ⟨_, Sub.refl, q _⟩
end
theorem all_mk {l : PySem.W.OpenLaw} {q : Program} {w : World} {K : PySem.W.Frag} {h : Heap} {mg : Str → Option Value} {fa : Addr} {f0 f1 f2 f3 f4 f5 f6 f7 f8 f9 f10 f11 f12 f13 f14 f15 f16 f17 f18 : Addr} (X : K.In h) (G : h.Ns mainGlobals mg) (hfa : mg "law" = some (.ref fa))
    {od0 an0 od1 an1 od2 an2 od3 an3 od4 an4 od5 an5 od6 an6 od7 an7 od8 an8 od9 an9 od10 an10 od11 an11 od12 an12 od13 an13 od14 an14 od15 an15 od16 an16 od17 an17 od18 an18 : Option Addr} {sl0 sl1 sl2 sl3 sl4 sl5 sl6 sl7 sl8 sl9 sl10 sl11 sl12 sl13 sl14 sl15 sl16 sl17 sl18 : Array (Option Value)} {oc0 kV0 dc0 pm0 cd0 ct0 oc1 kV1 dc1 pm1 cd1 ct1 oc2 kV2 dc2 pm2 cd2 ct2 oc3 kV3 dc3 pm3 cd3 ct3 oc4 kV4 dc4 pm4 cd4 ct4 oc5 kV5 dc5 pm5 cd5 ct5 oc6 kV6 dc6 pm6 cd6 ct6 oc7 kV7 dc7 pm7 cd7 ct7 oc8 kV8 dc8 pm8 cd8 ct8 oc9 kV9 dc9 pm9 cd9 ct9 oc10 kV10 dc10 pm10 cd10 ct10 oc11 kV11 dc11 pm11 cd11 ct11 oc12 kV12 dc12 pm12 cd12 ct12 oc13 kV13 dc13 pm13 cd13 ct13 oc14 kV14 dc14 pm14 cd14 ct14 oc15 kV15 dc15 pm15 cd15 ct15 oc16 kV16 dc16 pm16 cd16 ct16 oc17 kV17 dc17 pm17 cd17 ct17 oc18 kV18 dc18 pm18 cd18 ct18 : Value}
    (a0 : PySem.W.nsIn K mainGlobals "is_whole" = some (some (.ref f0))) (l0 : K.lookup f0 = some ⟨oc0, od0, .func (PySem.W.fnOf "is_whole" "is_whole" (defArgs s_is_whole) (defBody s_is_whole) (defScope s_is_whole) .none kV0 dc0 pm0 an0 cd0 ct0), sl0⟩) (c0 : PySem.W.codeIn K cd0 "is_whole" = true) (k0 : PySem.W.keepIn K (.ref f0) = true)
    (a1 : PySem.W.nsIn K mainGlobals "is_name" = some (some (.ref f1))) (l1 : K.lookup f1 = some ⟨oc1, od1, .func (PySem.W.fnOf "is_name" "is_name" (defArgs s_is_name) (defBody s_is_name) (defScope s_is_name) .none kV1 dc1 pm1 an1 cd1 ct1), sl1⟩) (c1 : PySem.W.codeIn K cd1 "is_name" = true) (k1 : PySem.W.keepIn K (.ref f1) = true)
    (a2 : PySem.W.nsIn K mainGlobals "need_part" = some (some (.ref f2))) (l2 : K.lookup f2 = some ⟨oc2, od2, .func (PySem.W.fnOf "need_part" "need_part" (defArgs s_need_part) (defBody s_need_part) (defScope s_need_part) .none kV2 dc2 pm2 an2 cd2 ct2), sl2⟩) (c2 : PySem.W.codeIn K cd2 "need_part" = true) (k2 : PySem.W.keepIn K (.ref f2) = true)
    (a3 : PySem.W.nsIn K mainGlobals "with_item" = some (some (.ref f3))) (l3 : K.lookup f3 = some ⟨oc3, od3, .func (PySem.W.fnOf "with_item" "with_item" (defArgs s_with_item) (defBody s_with_item) (defScope s_with_item) .none kV3 dc3 pm3 an3 cd3 ct3), sl3⟩) (c3 : PySem.W.codeIn K cd3 "with_item" = true) (k3 : PySem.W.keepIn K (.ref f3) = true)
    (a4 : PySem.W.nsIn K mainGlobals "with_row" = some (some (.ref f4))) (l4 : K.lookup f4 = some ⟨oc4, od4, .func (PySem.W.fnOf "with_row" "with_row" (defArgs s_with_row) (defBody s_with_row) (defScope s_with_row) .none kV4 dc4 pm4 an4 cd4 ct4), sl4⟩) (c4 : PySem.W.codeIn K cd4 "with_row" = true) (k4 : PySem.W.keepIn K (.ref f4) = true)
    (a5 : PySem.W.nsIn K mainGlobals "_law_pen" = some (some (.ref f5))) (l5 : K.lookup f5 = some ⟨oc5, od5, .func (PySem.W.fnOf "_law_pen" "_law_pen" (defArgs s_law_pen) (defBody s_law_pen) (defScope s_law_pen) .none kV5 dc5 pm5 an5 cd5 ct5), sl5⟩) (c5 : PySem.W.codeIn K cd5 "_law_pen" = true) (k5 : PySem.W.keepIn K (.ref f5) = true)
    (a6 : PySem.W.nsIn K mainGlobals "_law_draw" = some (some (.ref f6))) (l6 : K.lookup f6 = some ⟨oc6, od6, .func (PySem.W.fnOf "_law_draw" "_law_draw" (defArgs s_law_draw) (defBody s_law_draw) (defScope s_law_draw) .none kV6 dc6 pm6 an6 cd6 ct6), sl6⟩) (c6 : PySem.W.codeIn K cd6 "_law_draw" = true) (k6 : PySem.W.keepIn K (.ref f6) = true)
    (a7 : PySem.W.nsIn K mainGlobals "_law_pick" = some (some (.ref f7))) (l7 : K.lookup f7 = some ⟨oc7, od7, .func (PySem.W.fnOf "_law_pick" "_law_pick" (defArgs s_law_pick) (defBody s_law_pick) (defScope s_law_pick) .none kV7 dc7 pm7 an7 cd7 ct7), sl7⟩) (c7 : PySem.W.codeIn K cd7 "_law_pick" = true) (k7 : PySem.W.keepIn K (.ref f7) = true)
    (a8 : PySem.W.nsIn K mainGlobals "_law_name" = some (some (.ref f8))) (l8 : K.lookup f8 = some ⟨oc8, od8, .func (PySem.W.fnOf "_law_name" "_law_name" (defArgs s_law_name) (defBody s_law_name) (defScope s_law_name) .none kV8 dc8 pm8 an8 cd8 ct8), sl8⟩) (c8 : PySem.W.codeIn K cd8 "_law_name" = true) (k8 : PySem.W.keepIn K (.ref f8) = true)
    (a9 : PySem.W.nsIn K mainGlobals "_law_state" = some (some (.ref f9))) (l9 : K.lookup f9 = some ⟨oc9, od9, .func (PySem.W.fnOf "_law_state" "_law_state" (defArgs s_law_state) (defBody s_law_state) (defScope s_law_state) .none kV9 dc9 pm9 an9 cd9 ct9), sl9⟩) (c9 : PySem.W.codeIn K cd9 "_law_state" = true) (k9 : PySem.W.keepIn K (.ref f9) = true)
    (a10 : PySem.W.nsIn K mainGlobals "_law_with" = some (some (.ref f10))) (l10 : K.lookup f10 = some ⟨oc10, od10, .func (PySem.W.fnOf "_law_with" "_law_with" (defArgs s_law_with) (defBody s_law_with) (defScope s_law_with) .none kV10 dc10 pm10 an10 cd10 ct10), sl10⟩) (c10 : PySem.W.codeIn K cd10 "_law_with" = true) (k10 : PySem.W.keepIn K (.ref f10) = true)
    (a11 : PySem.W.nsIn K mainGlobals "_law_row" = some (some (.ref f11))) (l11 : K.lookup f11 = some ⟨oc11, od11, .func (PySem.W.fnOf "_law_row" "_law_row" (defArgs s_law_row) (defBody s_law_row) (defScope s_law_row) .none kV11 dc11 pm11 an11 cd11 ct11), sl11⟩) (c11 : PySem.W.codeIn K cd11 "_law_row" = true) (k11 : PySem.W.keepIn K (.ref f11) = true)
    (a12 : PySem.W.nsIn K mainGlobals "_law_deed" = some (some (.ref f12))) (l12 : K.lookup f12 = some ⟨oc12, od12, .func (PySem.W.fnOf "_law_deed" "_law_deed" (defArgs s_law_deed) (defBody s_law_deed) (defScope s_law_deed) .none kV12 dc12 pm12 an12 cd12 ct12), sl12⟩) (c12 : PySem.W.codeIn K cd12 "_law_deed" = true) (k12 : PySem.W.keepIn K (.ref f12) = true)
    (a13 : PySem.W.nsIn K mainGlobals "_law_step" = some (some (.ref f13))) (l13 : K.lookup f13 = some ⟨oc13, od13, .func (PySem.W.fnOf "_law_step" "_law_step" (defArgs s_law_step) (defBody s_law_step) (defScope s_law_step) .none kV13 dc13 pm13 an13 cd13 ct13), sl13⟩) (c13 : PySem.W.codeIn K cd13 "_law_step" = true) (k13 : PySem.W.keepIn K (.ref f13) = true)
    (a14 : PySem.W.nsIn K mainGlobals "_law_stands" = some (some (.ref f14))) (l14 : K.lookup f14 = some ⟨oc14, od14, .func (PySem.W.fnOf "_law_stands" "_law_stands" (defArgs s_law_stands) (defBody s_law_stands) (defScope s_law_stands) .none kV14 dc14 pm14 an14 cd14 ct14), sl14⟩) (c14 : PySem.W.codeIn K cd14 "_law_stands" = true) (k14 : PySem.W.keepIn K (.ref f14) = true)
    (a15 : PySem.W.nsIn K mainGlobals "_law_led" = some (some (.ref f15))) (l15 : K.lookup f15 = some ⟨oc15, od15, .func (PySem.W.fnOf "_law_led" "_law_led" (defArgs s_law_led) (defBody s_law_led) (defScope s_law_led) .none kV15 dc15 pm15 an15 cd15 ct15), sl15⟩) (c15 : PySem.W.codeIn K cd15 "_law_led" = true) (k15 : PySem.W.keepIn K (.ref f15) = true)
    (a16 : PySem.W.nsIn K mainGlobals "_law_walked" = some (some (.ref f16))) (l16 : K.lookup f16 = some ⟨oc16, od16, .func (PySem.W.fnOf "_law_walked" "_law_walked" (defArgs s_law_walked) (defBody s_law_walked) (defScope s_law_walked) .none kV16 dc16 pm16 an16 cd16 ct16), sl16⟩) (c16 : PySem.W.codeIn K cd16 "_law_walked" = true) (k16 : PySem.W.keepIn K (.ref f16) = true)
    (a17 : PySem.W.nsIn K mainGlobals "_law_same_right" = some (some (.ref f17))) (l17 : K.lookup f17 = some ⟨oc17, od17, .func (PySem.W.fnOf "_law_same_right" "_law_same_right" (defArgs s_law_same_right) (defBody s_law_same_right) (defScope s_law_same_right) .none kV17 dc17 pm17 an17 cd17 ct17), sl17⟩) (c17 : PySem.W.codeIn K cd17 "_law_same_right" = true) (k17 : PySem.W.keepIn K (.ref f17) = true)
    (a18 : PySem.W.nsIn K mainGlobals "law" = some (some (.ref f18))) (l18 : K.lookup f18 = some ⟨oc18, od18, .func (PySem.W.fnOf "law" "law" (defArgs s_law) (defBody s_law) (defScope s_law) .none kV18 dc18 pm18 an18 cd18 ct18), sl18⟩) (c18 : PySem.W.codeIn K cd18 "law" = true) (k18 : PySem.W.keepIn K (.ref f18) = true)
    (z0 : PySem.W.nsIn K mainGlobals "len" = some none) (z1 : PySem.W.nsIn K mainGlobals "int" = some none) (z2 : PySem.W.nsIn K mainGlobals "abs" = some none) (z3 : PySem.W.nsIn K mainGlobals "min" = some none) (z4 : PySem.W.nsIn K mainGlobals "max" = some none) (z5 : PySem.W.nsIn K mainGlobals "range" = some none) (z6 : PySem.W.nsIn K mainGlobals "isinstance" = some none) (z7 : PySem.W.nsIn K mainGlobals "list" = some none) (z8 : PySem.W.nsIn K mainGlobals "tuple" = some none) (z9 : PySem.W.nsIn K mainGlobals "bool" = some none) (z10 : PySem.W.nsIn K mainGlobals "str" = some none) (z11 : PySem.W.nsIn K mainGlobals "repr" = some none) (z12 : PySem.W.nsIn K mainGlobals "sum" = some none) (z13 : PySem.W.nsIn K mainGlobals "sorted" = some none) (z14 : PySem.W.nsIn K mainGlobals "any" = some none) (z15 : PySem.W.nsIn K mainGlobals "all" = some none) (z16 : PySem.W.nsIn K mainGlobals "enumerate" = some none) (z17 : PySem.W.nsIn K mainGlobals "zip" = some none) (z18 : PySem.W.nsIn K mainGlobals "ValueError" = some none) (z19 : PySem.W.nsIn K mainGlobals "LookupError" = some none) (z20 : PySem.W.nsIn K mainGlobals "reversed" = some none) (z21 : PySem.W.nsIn K mainGlobals "set" = some none) (z22 : PySem.W.nsIn K mainGlobals "dict" = some none) (z23 : PySem.W.nsIn K mainGlobals "iter" = some none) (z24 : PySem.W.nsIn K mainGlobals "next" = some none) (z25 : PySem.W.nsIn K mainGlobals "type" = some none) (zs : PySem.W.nsIn K mainGlobals "super" = some none) (op : PySem.W.nsIn K cStatics "thirdparty.any" = some none)
    (g1 : PySem.W.specialIn K (.builtin "object.__class__") "__get__" = some (some (.builtin "getset_descriptor.__get__"))) (g2 : PySem.W.takesIn K (.builtin "object.__class__") = some true) (g3 : (l.prog.main.scope.names.lookup ("super" : Str)).isSome = false)
    {C_0 fI_0 c_0 cc_0 N_0 : Addr} {nm_0 qn_0 fl_0 : Str} {bs_0 bm_0 sub_0 : List Value} {sn_0 : List Str} {ab_0 : Bool} {col_0 : Option Bool} {k0_0 k1_0 k2_0 k3_0 k5_0 : Option Value} {oc_0 kV_0 doc_0 pm_0 ct_0 cl_0 ccl_0 : Value} {dd_0 od_0 an_0 cld_0 cdd_0 : Option Addr} {osl_0 csl_0 ccs_0 : Array (Option Value)} {vs_0 : Array Value} {tf_0 : Tok} {cd_0 : ClassData}
    (E_0 : ErrFacts l.prog K "BadNumber" "BadNumber.__init__" s_BadNumber_init C_0 fI_0 c_0 cc_0 nm_0 qn_0 N_0 bs_0 bm_0 sn_0 sub_0 ab_0 col_0 dd_0 k0_0 k1_0 k2_0 k3_0 k5_0 oc_0 kV_0 doc_0 pm_0 ct_0 cl_0 ccl_0 od_0 an_0 cld_0 cdd_0 osl_0 csl_0 ccs_0 vs_0 fl_0 tf_0 cd_0)
    (e0_0 : PySem.W.findIn K (.ref C_0) "value" = some none)
    {C_1 fI_1 c_1 cc_1 N_1 : Addr} {nm_1 qn_1 fl_1 : Str} {bs_1 bm_1 sub_1 : List Value} {sn_1 : List Str} {ab_1 : Bool} {col_1 : Option Bool} {k0_1 k1_1 k2_1 k3_1 k5_1 : Option Value} {oc_1 kV_1 doc_1 pm_1 ct_1 cl_1 ccl_1 : Value} {dd_1 od_1 an_1 cld_1 cdd_1 : Option Addr} {osl_1 csl_1 ccs_1 : Array (Option Value)} {vs_1 : Array Value} {tf_1 : Tok} {cd_1 : ClassData}
    (E_1 : ErrFacts l.prog K "BadWheel" "BadWheel.__init__" s_BadWheel_init C_1 fI_1 c_1 cc_1 nm_1 qn_1 N_1 bs_1 bm_1 sn_1 sub_1 ab_1 col_1 dd_1 k0_1 k1_1 k2_1 k3_1 k5_1 oc_1 kV_1 doc_1 pm_1 ct_1 cl_1 ccl_1 od_1 an_1 cld_1 cdd_1 osl_1 csl_1 ccs_1 vs_1 fl_1 tf_1 cd_1)
    (e1_0 : PySem.W.findIn K (.ref C_1) "part" = some none)
    {C_2 fI_2 c_2 cc_2 N_2 : Addr} {nm_2 qn_2 fl_2 : Str} {bs_2 bm_2 sub_2 : List Value} {sn_2 : List Str} {ab_2 : Bool} {col_2 : Option Bool} {k0_2 k1_2 k2_2 k3_2 k5_2 : Option Value} {oc_2 kV_2 doc_2 pm_2 ct_2 cl_2 ccl_2 : Value} {dd_2 od_2 an_2 cld_2 cdd_2 : Option Addr} {osl_2 csl_2 ccs_2 : Array (Option Value)} {vs_2 : Array Value} {tf_2 : Tok} {cd_2 : ClassData}
    (E_2 : ErrFacts l.prog K "BadValue" "BadValue.__init__" s_BadValue_init C_2 fI_2 c_2 cc_2 nm_2 qn_2 N_2 bs_2 bm_2 sn_2 sub_2 ab_2 col_2 dd_2 k0_2 k1_2 k2_2 k3_2 k5_2 oc_2 kV_2 doc_2 pm_2 ct_2 cl_2 ccl_2 od_2 an_2 cld_2 cdd_2 osl_2 csl_2 ccs_2 vs_2 fl_2 tf_2 cd_2)
    (e2_0 : PySem.W.findIn K (.ref C_2) "value" = some none)
    {C_3 fI_3 c_3 cc_3 N_3 : Addr} {nm_3 qn_3 fl_3 : Str} {bs_3 bm_3 sub_3 : List Value} {sn_3 : List Str} {ab_3 : Bool} {col_3 : Option Bool} {k0_3 k1_3 k2_3 k3_3 k5_3 : Option Value} {oc_3 kV_3 doc_3 pm_3 ct_3 cl_3 ccl_3 : Value} {dd_3 od_3 an_3 cld_3 cdd_3 : Option Addr} {osl_3 csl_3 ccs_3 : Array (Option Value)} {vs_3 : Array Value} {tf_3 : Tok} {cd_3 : ClassData}
    (E_3 : ErrFacts l.prog K "BadShelf" "BadShelf.__init__" s_BadShelf_init C_3 fI_3 c_3 cc_3 nm_3 qn_3 N_3 bs_3 bm_3 sn_3 sub_3 ab_3 col_3 dd_3 k0_3 k1_3 k2_3 k3_3 k5_3 oc_3 kV_3 doc_3 pm_3 ct_3 cl_3 ccl_3 od_3 an_3 cld_3 cdd_3 osl_3 csl_3 ccs_3 vs_3 fl_3 tf_3 cd_3)
    (e3_0 : PySem.W.findIn K (.ref C_3) "part" = some none)
    {C_4 fI_4 c_4 cc_4 N_4 : Addr} {nm_4 qn_4 fl_4 : Str} {bs_4 bm_4 sub_4 : List Value} {sn_4 : List Str} {ab_4 : Bool} {col_4 : Option Bool} {k0_4 k1_4 k2_4 k3_4 k5_4 : Option Value} {oc_4 kV_4 doc_4 pm_4 ct_4 cl_4 ccl_4 : Value} {dd_4 od_4 an_4 cld_4 cdd_4 : Option Addr} {osl_4 csl_4 ccs_4 : Array (Option Value)} {vs_4 : Array Value} {tf_4 : Tok} {cd_4 : ClassData}
    (E_4 : ErrFacts l.prog K "BadDeed" "BadDeed.__init__" s_BadDeed_init C_4 fI_4 c_4 cc_4 nm_4 qn_4 N_4 bs_4 bm_4 sn_4 sub_4 ab_4 col_4 dd_4 k0_4 k1_4 k2_4 k3_4 k5_4 oc_4 kV_4 doc_4 pm_4 ct_4 cl_4 ccl_4 od_4 an_4 cld_4 cdd_4 osl_4 csl_4 ccs_4 vs_4 fl_4 tf_4 cd_4)
    (e4_0 : PySem.W.findIn K (.ref C_4) "at" = some none)
    {C_5 fI_5 c_5 cc_5 N_5 : Addr} {nm_5 qn_5 fl_5 : Str} {bs_5 bm_5 sub_5 : List Value} {sn_5 : List Str} {ab_5 : Bool} {col_5 : Option Bool} {k0_5 k1_5 k2_5 k3_5 k5_5 : Option Value} {oc_5 kV_5 doc_5 pm_5 ct_5 cl_5 ccl_5 : Value} {dd_5 od_5 an_5 cld_5 cdd_5 : Option Addr} {osl_5 csl_5 ccs_5 : Array (Option Value)} {vs_5 : Array Value} {tf_5 : Tok} {cd_5 : ClassData}
    (E_5 : ErrFacts l.prog K "BadText" "BadText.__init__" s_BadText_init C_5 fI_5 c_5 cc_5 nm_5 qn_5 N_5 bs_5 bm_5 sn_5 sub_5 ab_5 col_5 dd_5 k0_5 k1_5 k2_5 k3_5 k5_5 oc_5 kV_5 doc_5 pm_5 ct_5 cl_5 ccl_5 od_5 an_5 cld_5 cdd_5 osl_5 csl_5 ccs_5 vs_5 fl_5 tf_5 cd_5)
    (e5_0 : PySem.W.findIn K (.ref C_5) "line" = some none)
    (e5_1 : PySem.W.findIn K (.ref C_5) "word" = some none)
    {C_6 fI_6 c_6 cc_6 N_6 : Addr} {nm_6 qn_6 fl_6 : Str} {bs_6 bm_6 sub_6 : List Value} {sn_6 : List Str} {ab_6 : Bool} {col_6 : Option Bool} {k0_6 k1_6 k2_6 k3_6 k5_6 : Option Value} {oc_6 kV_6 doc_6 pm_6 ct_6 cl_6 ccl_6 : Value} {dd_6 od_6 an_6 cld_6 cdd_6 : Option Addr} {osl_6 csl_6 ccs_6 : Array (Option Value)} {vs_6 : Array Value} {tf_6 : Tok} {cd_6 : ClassData}
    (E_6 : ErrFacts l.prog K "NoName" "NoName.__init__" s_NoName_init C_6 fI_6 c_6 cc_6 nm_6 qn_6 N_6 bs_6 bm_6 sn_6 sub_6 ab_6 col_6 dd_6 k0_6 k1_6 k2_6 k3_6 k5_6 oc_6 kV_6 doc_6 pm_6 ct_6 cl_6 ccl_6 od_6 an_6 cld_6 cdd_6 osl_6 csl_6 ccs_6 vs_6 fl_6 tf_6 cd_6)
    (e6_0 : PySem.W.findIn K (.ref C_6) "name" = some none)
    {C_7 fI_7 c_7 cc_7 N_7 : Addr} {nm_7 qn_7 fl_7 : Str} {bs_7 bm_7 sub_7 : List Value} {sn_7 : List Str} {ab_7 : Bool} {col_7 : Option Bool} {k0_7 k1_7 k2_7 k3_7 k5_7 : Option Value} {oc_7 kV_7 doc_7 pm_7 ct_7 cl_7 ccl_7 : Value} {dd_7 od_7 an_7 cld_7 cdd_7 : Option Addr} {osl_7 csl_7 ccs_7 : Array (Option Value)} {vs_7 : Array Value} {tf_7 : Tok} {cd_7 : ClassData}
    (E_7 : ErrFacts l.prog K "TooMany" "TooMany.__init__" s_TooMany_init C_7 fI_7 c_7 cc_7 nm_7 qn_7 N_7 bs_7 bm_7 sn_7 sub_7 ab_7 col_7 dd_7 k0_7 k1_7 k2_7 k3_7 k5_7 oc_7 kV_7 doc_7 pm_7 ct_7 cl_7 ccl_7 od_7 an_7 cld_7 cdd_7 osl_7 csl_7 ccs_7 vs_7 fl_7 tf_7 cd_7)
    (e7_0 : PySem.W.findIn K (.ref C_7) "what" = some none)
    (e7_1 : PySem.W.findIn K (.ref C_7) "most" = some none)
    {D_0 : Addr} (d0 : PySem.W.nsIn K mainGlobals "ReachError" = some (some (.ref D_0)))
    {D_1 : Addr} (d1 : PySem.W.nsIn K mainGlobals "Nothing" = some (some (.ref D_1)))
    {O_Wheel : Addr} (oa_Wheel : PySem.W.nsIn K mainGlobals "Wheel" = some (some (.ref O_Wheel)))
    (ob_Wheel : PySem.W.plainGet K O_Wheel Str.empty = true)
    (oc_Wheel : PySem.W.hasDictIn K O_Wheel = true)
    (od_Wheel : PySem.W.plainOver K O_Wheel = true)
    (oe_Wheel : PySem.W.findIn K (.ref O_Wheel) "__setattr__" = some (some (.builtin "object.__setattr__")))
    (of_Wheel : PySem.W.keepIn K (.ref O_Wheel) = true)
    (og_Wheel : PySem.W.plainGet K O_Wheel "__class__" = true)
    (oh_Wheel : PySem.W.findIn K (.ref O_Wheel) "__class__" = some (some (.builtin "object.__class__")))
    (oi_Wheel : PySem.W.mroIn K O_Wheel (.type "object") = some true)
    {O_Exact : Addr} (oa_Exact : PySem.W.nsIn K mainGlobals "Exact" = some (some (.ref O_Exact)))
    (ob_Exact : PySem.W.plainGet K O_Exact Str.empty = true)
    (oc_Exact : PySem.W.hasDictIn K O_Exact = true)
    (od_Exact : PySem.W.plainOver K O_Exact = true)
    (oe_Exact : PySem.W.findIn K (.ref O_Exact) "__setattr__" = some (some (.builtin "object.__setattr__")))
    (of_Exact : PySem.W.keepIn K (.ref O_Exact) = true)
    (og_Exact : PySem.W.plainGet K O_Exact "__class__" = true)
    (oh_Exact : PySem.W.findIn K (.ref O_Exact) "__class__" = some (some (.builtin "object.__class__")))
    (oi_Exact : PySem.W.mroIn K O_Exact (.type "object") = some true)
    {O_Grid : Addr} (oa_Grid : PySem.W.nsIn K mainGlobals "Grid" = some (some (.ref O_Grid)))
    (ob_Grid : PySem.W.plainGet K O_Grid Str.empty = true)
    (oc_Grid : PySem.W.hasDictIn K O_Grid = true)
    (od_Grid : PySem.W.plainOver K O_Grid = true)
    (oe_Grid : PySem.W.findIn K (.ref O_Grid) "__setattr__" = some (some (.builtin "object.__setattr__")))
    (of_Grid : PySem.W.keepIn K (.ref O_Grid) = true)
    (og_Grid : PySem.W.plainGet K O_Grid "__class__" = true)
    (oh_Grid : PySem.W.findIn K (.ref O_Grid) "__class__" = some (some (.builtin "object.__class__")))
    (oi_Grid : PySem.W.mroIn K O_Grid (.type "object") = some true)
    {O_Shelf : Addr} (oa_Shelf : PySem.W.nsIn K mainGlobals "Shelf" = some (some (.ref O_Shelf)))
    (ob_Shelf : PySem.W.plainGet K O_Shelf Str.empty = true)
    (oc_Shelf : PySem.W.hasDictIn K O_Shelf = true)
    (od_Shelf : PySem.W.plainOver K O_Shelf = true)
    (oe_Shelf : PySem.W.findIn K (.ref O_Shelf) "__setattr__" = some (some (.builtin "object.__setattr__")))
    (of_Shelf : PySem.W.keepIn K (.ref O_Shelf) = true)
    (og_Shelf : PySem.W.plainGet K O_Shelf "__class__" = true)
    (oh_Shelf : PySem.W.findIn K (.ref O_Shelf) "__class__" = some (some (.builtin "object.__class__")))
    (oi_Shelf : PySem.W.mroIn K O_Shelf (.type "object") = some true)
    {m_Wheel_init : Addr} (ma_Wheel_init : PySem.W.findIn K (.ref O_Wheel) "__init__" = some (some (.ref m_Wheel_init)))
    {voc_Wheel_init vkV_Wheel_init vdc_Wheel_init vpm_Wheel_init vcd_Wheel_init vct_Wheel_init : Value} {vod_Wheel_init van_Wheel_init : Option Addr} {vsl_Wheel_init : Array (Option Value)} (ml_Wheel_init : K.lookup m_Wheel_init = some ⟨voc_Wheel_init, vod_Wheel_init, .func (PySem.W.fnOf "__init__" "Wheel.__init__" (defArgs s_Wheel_init) (defBody s_Wheel_init) (defScope s_Wheel_init) .none vkV_Wheel_init vdc_Wheel_init vpm_Wheel_init van_Wheel_init vcd_Wheel_init vct_Wheel_init), vsl_Wheel_init⟩)
    (mc_Wheel_init : PySem.W.codeIn K vcd_Wheel_init "Wheel.__init__" = true)
    (mk_Wheel_init : PySem.W.keepIn K (.ref m_Wheel_init) = true)
    (mi_Wheel_init : PySem.W.isFn K (.ref m_Wheel_init) = true)
    {m_Wheel_eq : Addr} (ma_Wheel_eq : PySem.W.findIn K (.ref O_Wheel) "__eq__" = some (some (.ref m_Wheel_eq)))
    {voc_Wheel_eq vkV_Wheel_eq vdc_Wheel_eq vpm_Wheel_eq vcd_Wheel_eq vct_Wheel_eq : Value} {vod_Wheel_eq van_Wheel_eq : Option Addr} {vsl_Wheel_eq : Array (Option Value)} (ml_Wheel_eq : K.lookup m_Wheel_eq = some ⟨voc_Wheel_eq, vod_Wheel_eq, .func (PySem.W.fnOf "__eq__" "Wheel.__eq__" (defArgs s_Wheel_eq) (defBody s_Wheel_eq) (defScope s_Wheel_eq) .none vkV_Wheel_eq vdc_Wheel_eq vpm_Wheel_eq van_Wheel_eq vcd_Wheel_eq vct_Wheel_eq), vsl_Wheel_eq⟩)
    (mc_Wheel_eq : PySem.W.codeIn K vcd_Wheel_eq "Wheel.__eq__" = true)
    (mk_Wheel_eq : PySem.W.keepIn K (.ref m_Wheel_eq) = true)
    (mi_Wheel_eq : PySem.W.isFn K (.ref m_Wheel_eq) = true)
    {m_Wheel_str : Addr} (ma_Wheel_str : PySem.W.findIn K (.ref O_Wheel) "__str__" = some (some (.ref m_Wheel_str)))
    {voc_Wheel_str vkV_Wheel_str vdc_Wheel_str vpm_Wheel_str vcd_Wheel_str vct_Wheel_str : Value} {vod_Wheel_str van_Wheel_str : Option Addr} {vsl_Wheel_str : Array (Option Value)} (ml_Wheel_str : K.lookup m_Wheel_str = some ⟨voc_Wheel_str, vod_Wheel_str, .func (PySem.W.fnOf "__str__" "Wheel.__str__" (defArgs s_Wheel_str) (defBody s_Wheel_str) (defScope s_Wheel_str) .none vkV_Wheel_str vdc_Wheel_str vpm_Wheel_str van_Wheel_str vcd_Wheel_str vct_Wheel_str), vsl_Wheel_str⟩)
    (mc_Wheel_str : PySem.W.codeIn K vcd_Wheel_str "Wheel.__str__" = true)
    (mk_Wheel_str : PySem.W.keepIn K (.ref m_Wheel_str) = true)
    (mi_Wheel_str : PySem.W.isFn K (.ref m_Wheel_str) = true)
    {mq_Wheel_trusted : Addr} (ma_Wheel_trusted : PySem.W.findIn K (.ref O_Wheel) "trusted" = some (some (.ref mq_Wheel_trusted)))
    {m_Wheel_trusted : Addr} {mr_Wheel_trusted : List Value} (mb_Wheel_trusted : PySem.W.recIn K mq_Wheel_trusted "property" = some (.ref m_Wheel_trusted :: mr_Wheel_trusted))
    {voc_Wheel_trusted vkV_Wheel_trusted vdc_Wheel_trusted vpm_Wheel_trusted vcd_Wheel_trusted vct_Wheel_trusted : Value} {vod_Wheel_trusted van_Wheel_trusted : Option Addr} {vsl_Wheel_trusted : Array (Option Value)} (ml_Wheel_trusted : K.lookup m_Wheel_trusted = some ⟨voc_Wheel_trusted, vod_Wheel_trusted, .func (PySem.W.fnOf "trusted" "Wheel.trusted" (defArgs s_Wheel_trusted) (defBody s_Wheel_trusted) (defScope s_Wheel_trusted) .none vkV_Wheel_trusted vdc_Wheel_trusted vpm_Wheel_trusted van_Wheel_trusted vcd_Wheel_trusted vct_Wheel_trusted), vsl_Wheel_trusted⟩)
    (mc_Wheel_trusted : PySem.W.codeIn K vcd_Wheel_trusted "Wheel.trusted" = true)
    (mk_Wheel_trusted : PySem.W.keepIn K (.ref m_Wheel_trusted) = true)
    (mi_Wheel_trusted : PySem.W.isFn K (.ref m_Wheel_trusted) = true)
    {m_Exact_init : Addr} (ma_Exact_init : PySem.W.findIn K (.ref O_Exact) "__init__" = some (some (.ref m_Exact_init)))
    {voc_Exact_init vkV_Exact_init vdc_Exact_init vpm_Exact_init vct_Exact_init : Value} {vod_Exact_init van_Exact_init : Option Addr} {vsl_Exact_init : Array (Option Value)} {vc_Exact_init vcc_Exact_init : Addr} (ml_Exact_init : K.lookup m_Exact_init = some ⟨voc_Exact_init, vod_Exact_init, .func (PySem.W.fnX "__init__" "Exact.__init__" (defArgs s_Exact_init) (defBody s_Exact_init) (defScope s_Exact_init) [("__class__", vcc_Exact_init)] .none vkV_Exact_init vdc_Exact_init vpm_Exact_init van_Exact_init (.ref vc_Exact_init) vct_Exact_init), vsl_Exact_init⟩)
    (mc_Exact_init : PySem.W.codeIn K (.ref vc_Exact_init) "Exact.__init__" = true)
    (mk_Exact_init : PySem.W.keepIn K (.ref m_Exact_init) = true)
    (mi_Exact_init : PySem.W.isFn K (.ref m_Exact_init) = true)
    {vcl_Exact_init : Value} {vcld_Exact_init : Option Addr} {vcsl_Exact_init : Array (Option Value)} (mx_Exact_init : K.lookup vcc_Exact_init = some ⟨vcl_Exact_init, vcld_Exact_init, .cell (some (.ref O_Exact)), vcsl_Exact_init⟩)
    {vccl_Exact_init : Value} {vcdd_Exact_init : Option Addr} {vvs_Exact_init : Array Value} {vccs_Exact_init : Array (Option Value)} (my_Exact_init : K.lookup vc_Exact_init = some ⟨vccl_Exact_init, vcdd_Exact_init, .fields vvs_Exact_init, vccs_Exact_init⟩)
    {vfl_Exact_init : Str} {vtf_Exact_init : Tok} (mz_Exact_init : vvs_Exact_init[2]? = some (.str vfl_Exact_init vtf_Exact_init))
    (mf_Exact_init : (l.prog.main.file == vfl_Exact_init) = true)
    {vcd_Exact_init : ClassData} (mg_Exact_init : PySem.W.clsIn K O_Exact = some vcd_Exact_init)
    {m_Grid_init : Addr} (ma_Grid_init : PySem.W.findIn K (.ref O_Grid) "__init__" = some (some (.ref m_Grid_init)))
    {voc_Grid_init vkV_Grid_init vdc_Grid_init vpm_Grid_init vct_Grid_init : Value} {vod_Grid_init van_Grid_init : Option Addr} {vsl_Grid_init : Array (Option Value)} {vc_Grid_init vcc_Grid_init : Addr} (ml_Grid_init : K.lookup m_Grid_init = some ⟨voc_Grid_init, vod_Grid_init, .func (PySem.W.fnX "__init__" "Grid.__init__" (defArgs s_Grid_init) (defBody s_Grid_init) (defScope s_Grid_init) [("__class__", vcc_Grid_init)] .none vkV_Grid_init vdc_Grid_init vpm_Grid_init van_Grid_init (.ref vc_Grid_init) vct_Grid_init), vsl_Grid_init⟩)
    (mc_Grid_init : PySem.W.codeIn K (.ref vc_Grid_init) "Grid.__init__" = true)
    (mk_Grid_init : PySem.W.keepIn K (.ref m_Grid_init) = true)
    (mi_Grid_init : PySem.W.isFn K (.ref m_Grid_init) = true)
    {vcl_Grid_init : Value} {vcld_Grid_init : Option Addr} {vcsl_Grid_init : Array (Option Value)} (mx_Grid_init : K.lookup vcc_Grid_init = some ⟨vcl_Grid_init, vcld_Grid_init, .cell (some (.ref O_Grid)), vcsl_Grid_init⟩)
    {vccl_Grid_init : Value} {vcdd_Grid_init : Option Addr} {vvs_Grid_init : Array Value} {vccs_Grid_init : Array (Option Value)} (my_Grid_init : K.lookup vc_Grid_init = some ⟨vccl_Grid_init, vcdd_Grid_init, .fields vvs_Grid_init, vccs_Grid_init⟩)
    {vfl_Grid_init : Str} {vtf_Grid_init : Tok} (mz_Grid_init : vvs_Grid_init[2]? = some (.str vfl_Grid_init vtf_Grid_init))
    (mf_Grid_init : (l.prog.main.file == vfl_Grid_init) = true)
    {vcd_Grid_init : ClassData} (mg_Grid_init : PySem.W.clsIn K O_Grid = some vcd_Grid_init)
    (ka_Wheel : PySem.W.makesIn K O_Wheel = true)
    (kb_Wheel : PySem.W.findIn K (.ref O_Wheel) "__init__" = some (some (.ref m_Wheel_init)))
    (ka_Exact : PySem.W.makesIn K O_Exact = true)
    (kb_Exact : PySem.W.findIn K (.ref O_Exact) "__init__" = some (some (.ref m_Exact_init)))
    (ka_Grid : PySem.W.makesIn K O_Grid = true)
    (kb_Grid : PySem.W.findIn K (.ref O_Grid) "__init__" = some (some (.ref m_Grid_init)))
    (sa_Exact_Exact_init : PySem.W.ks_superIn K O_Exact O_Exact "__init__" = some (some (.ref m_Wheel_init)))
    (sb_Exact_Exact_init : PySem.W.typeIn K (.ref m_Wheel_init) = some (.type "function"))
    (sc_Exact_Exact_init : PySem.W.fnIn K m_Wheel_init = true)
    {vsd_Exact_Exact_init : ClassData} (sd_Exact_Exact_init : PySem.W.clsIn K O_Exact = some vsd_Exact_Exact_init)
    (se_Exact_Exact_init : PySem.W.mroIn K O_Exact (.ref O_Exact) = some true)
    (sa_Grid_Grid_init : PySem.W.ks_superIn K O_Grid O_Grid "__init__" = some (some (.ref m_Wheel_init)))
    (sb_Grid_Grid_init : PySem.W.typeIn K (.ref m_Wheel_init) = some (.type "function"))
    (sc_Grid_Grid_init : PySem.W.fnIn K m_Wheel_init = true)
    {vsd_Grid_Grid_init : ClassData} (sd_Grid_Grid_init : PySem.W.clsIn K O_Grid = some vsd_Grid_Grid_init)
    (se_Grid_Grid_init : PySem.W.mroIn K O_Grid (.ref O_Grid) = some true)
    (qa_Wheel : PySem.W.findIn K (.ref O_Wheel) "__eq__" = some (some (.ref m_Wheel_eq)))
    (qb_Wheel : PySem.W.findIn K (.ref O_Wheel) "__ne__" = some (some (.builtin "object.__ne__")))
    (no_Wheel_period : PySem.W.findIn K (.ref O_Wheel) "period" = some none)
    (no_Wheel_back : PySem.W.findIn K (.ref O_Wheel) "back" = some none)
    (no_Wheel_ahead : PySem.W.findIn K (.ref O_Wheel) "ahead" = some none)
    {u_Wheel_TRUSTED : Value} (ca_Wheel_TRUSTED : PySem.W.findIn K (.ref O_Wheel) "TRUSTED" = some (some u_Wheel_TRUSTED))
    (cb_Wheel_TRUSTED : RelV (.bl false) u_Wheel_TRUSTED)
    (cc_Wheel_TRUSTED : PySem.W.specialIn K u_Wheel_TRUSTED "__get__" = some none)
    {pp_Wheel_trusted : Addr} (pa_Wheel_trusted : PySem.W.findIn K (.ref O_Wheel) "trusted" = some (some (.ref pp_Wheel_trusted)))
    (pb_Wheel_trusted : PySem.W.specialIn K (.ref pp_Wheel_trusted) "__get__" = some (some (.builtin "property.__get__")))
    (pc_Wheel_trusted : PySem.W.takesIn K (.ref pp_Wheel_trusted) = some true)
    {pr_Wheel_trusted : List Value} (pd_Wheel_trusted : PySem.W.recIn K pp_Wheel_trusted "property" = some (.ref m_Wheel_trusted :: pr_Wheel_trusted))
    (qa_Exact : PySem.W.findIn K (.ref O_Exact) "__eq__" = some (some (.ref m_Wheel_eq)))
    (qb_Exact : PySem.W.findIn K (.ref O_Exact) "__ne__" = some (some (.builtin "object.__ne__")))
    (no_Exact_period : PySem.W.findIn K (.ref O_Exact) "period" = some none)
    (no_Exact_back : PySem.W.findIn K (.ref O_Exact) "back" = some none)
    (no_Exact_ahead : PySem.W.findIn K (.ref O_Exact) "ahead" = some none)
    {u_Exact_TRUSTED : Value} (ca_Exact_TRUSTED : PySem.W.findIn K (.ref O_Exact) "TRUSTED" = some (some u_Exact_TRUSTED))
    (cb_Exact_TRUSTED : RelV (.bl false) u_Exact_TRUSTED)
    (cc_Exact_TRUSTED : PySem.W.specialIn K u_Exact_TRUSTED "__get__" = some none)
    {pp_Exact_trusted : Addr} (pa_Exact_trusted : PySem.W.findIn K (.ref O_Exact) "trusted" = some (some (.ref pp_Exact_trusted)))
    (pb_Exact_trusted : PySem.W.specialIn K (.ref pp_Exact_trusted) "__get__" = some (some (.builtin "property.__get__")))
    (pc_Exact_trusted : PySem.W.takesIn K (.ref pp_Exact_trusted) = some true)
    {pr_Exact_trusted : List Value} (pd_Exact_trusted : PySem.W.recIn K pp_Exact_trusted "property" = some (.ref m_Wheel_trusted :: pr_Exact_trusted))
    (qa_Grid : PySem.W.findIn K (.ref O_Grid) "__eq__" = some (some (.ref m_Wheel_eq)))
    (qb_Grid : PySem.W.findIn K (.ref O_Grid) "__ne__" = some (some (.builtin "object.__ne__")))
    (no_Grid_period : PySem.W.findIn K (.ref O_Grid) "period" = some none)
    (no_Grid_back : PySem.W.findIn K (.ref O_Grid) "back" = some none)
    (no_Grid_ahead : PySem.W.findIn K (.ref O_Grid) "ahead" = some none)
    {u_Grid_TRUSTED : Value} (ca_Grid_TRUSTED : PySem.W.findIn K (.ref O_Grid) "TRUSTED" = some (some u_Grid_TRUSTED))
    (cb_Grid_TRUSTED : RelV (.bl true) u_Grid_TRUSTED)
    (cc_Grid_TRUSTED : PySem.W.specialIn K u_Grid_TRUSTED "__get__" = some none)
    {pp_Grid_trusted : Addr} (pa_Grid_trusted : PySem.W.findIn K (.ref O_Grid) "trusted" = some (some (.ref pp_Grid_trusted)))
    (pb_Grid_trusted : PySem.W.specialIn K (.ref pp_Grid_trusted) "__get__" = some (some (.builtin "property.__get__")))
    (pc_Grid_trusted : PySem.W.takesIn K (.ref pp_Grid_trusted) = some true)
    {pr_Grid_trusted : List Value} (pd_Grid_trusted : PySem.W.recIn K pp_Grid_trusted "property" = some (.ref m_Wheel_trusted :: pr_Grid_trusted))
    {m_Shelf_init : Addr} (ma_Shelf_init : PySem.W.findIn K (.ref O_Shelf) "__init__" = some (some (.ref m_Shelf_init)))
    {voc_Shelf_init vkV_Shelf_init vdc_Shelf_init vpm_Shelf_init vcd_Shelf_init vct_Shelf_init : Value} {vod_Shelf_init van_Shelf_init : Option Addr} {vsl_Shelf_init : Array (Option Value)} (ml_Shelf_init : K.lookup m_Shelf_init = some ⟨voc_Shelf_init, vod_Shelf_init, .func (PySem.W.fnOf "__init__" "Shelf.__init__" (defArgs s_Shelf_init) (defBody s_Shelf_init) (defScope s_Shelf_init) .none vkV_Shelf_init vdc_Shelf_init vpm_Shelf_init van_Shelf_init vcd_Shelf_init vct_Shelf_init), vsl_Shelf_init⟩)
    (mc_Shelf_init : PySem.W.codeIn K vcd_Shelf_init "Shelf.__init__" = true)
    (mk_Shelf_init : PySem.W.keepIn K (.ref m_Shelf_init) = true)
    (mi_Shelf_init : PySem.W.isFn K (.ref m_Shelf_init) = true)
    {m_Shelf_settle : Addr} (ma_Shelf_settle : PySem.W.findIn K (.ref O_Shelf) "settle" = some (some (.ref m_Shelf_settle)))
    {voc_Shelf_settle vkV_Shelf_settle vdc_Shelf_settle vpm_Shelf_settle vcd_Shelf_settle vct_Shelf_settle : Value} {vod_Shelf_settle van_Shelf_settle : Option Addr} {vsl_Shelf_settle : Array (Option Value)} (ml_Shelf_settle : K.lookup m_Shelf_settle = some ⟨voc_Shelf_settle, vod_Shelf_settle, .func (PySem.W.fnOf "settle" "Shelf.settle" (defArgs s_Shelf_settle) (defBody s_Shelf_settle) (defScope s_Shelf_settle) .none vkV_Shelf_settle vdc_Shelf_settle vpm_Shelf_settle van_Shelf_settle vcd_Shelf_settle vct_Shelf_settle), vsl_Shelf_settle⟩)
    (mc_Shelf_settle : PySem.W.codeIn K vcd_Shelf_settle "Shelf.settle" = true)
    (mk_Shelf_settle : PySem.W.keepIn K (.ref m_Shelf_settle) = true)
    (mi_Shelf_settle : PySem.W.isFn K (.ref m_Shelf_settle) = true)
    {m_Shelf_go : Addr} (ma_Shelf_go : PySem.W.findIn K (.ref O_Shelf) "go" = some (some (.ref m_Shelf_go)))
    {voc_Shelf_go vkV_Shelf_go vdc_Shelf_go vpm_Shelf_go vcd_Shelf_go vct_Shelf_go : Value} {vod_Shelf_go van_Shelf_go : Option Addr} {vsl_Shelf_go : Array (Option Value)} (ml_Shelf_go : K.lookup m_Shelf_go = some ⟨voc_Shelf_go, vod_Shelf_go, .func (PySem.W.fnOf "go" "Shelf.go" (defArgs s_Shelf_go) (defBody s_Shelf_go) (defScope s_Shelf_go) .none vkV_Shelf_go vdc_Shelf_go vpm_Shelf_go van_Shelf_go vcd_Shelf_go vct_Shelf_go), vsl_Shelf_go⟩)
    (mc_Shelf_go : PySem.W.codeIn K vcd_Shelf_go "Shelf.go" = true)
    (mk_Shelf_go : PySem.W.keepIn K (.ref m_Shelf_go) = true)
    (mi_Shelf_go : PySem.W.isFn K (.ref m_Shelf_go) = true)
    {m_Shelf_need_name : Addr} (ma_Shelf_need_name : PySem.W.findIn K (.ref O_Shelf) "need_name" = some (some (.ref m_Shelf_need_name)))
    {voc_Shelf_need_name vkV_Shelf_need_name vdc_Shelf_need_name vpm_Shelf_need_name vcd_Shelf_need_name vct_Shelf_need_name : Value} {vod_Shelf_need_name van_Shelf_need_name : Option Addr} {vsl_Shelf_need_name : Array (Option Value)} (ml_Shelf_need_name : K.lookup m_Shelf_need_name = some ⟨voc_Shelf_need_name, vod_Shelf_need_name, .func (PySem.W.fnOf "need_name" "Shelf.need_name" (defArgs s_Shelf_need_name) (defBody s_Shelf_need_name) (defScope s_Shelf_need_name) .none vkV_Shelf_need_name vdc_Shelf_need_name vpm_Shelf_need_name van_Shelf_need_name vcd_Shelf_need_name vct_Shelf_need_name), vsl_Shelf_need_name⟩)
    (mc_Shelf_need_name : PySem.W.codeIn K vcd_Shelf_need_name "Shelf.need_name" = true)
    (mk_Shelf_need_name : PySem.W.keepIn K (.ref m_Shelf_need_name) = true)
    (mi_Shelf_need_name : PySem.W.isFn K (.ref m_Shelf_need_name) = true)
    {m_Shelf_drop : Addr} (ma_Shelf_drop : PySem.W.findIn K (.ref O_Shelf) "drop" = some (some (.ref m_Shelf_drop)))
    {voc_Shelf_drop vkV_Shelf_drop vdc_Shelf_drop vpm_Shelf_drop vcd_Shelf_drop vct_Shelf_drop : Value} {vod_Shelf_drop van_Shelf_drop : Option Addr} {vsl_Shelf_drop : Array (Option Value)} (ml_Shelf_drop : K.lookup m_Shelf_drop = some ⟨voc_Shelf_drop, vod_Shelf_drop, .func (PySem.W.fnOf "drop" "Shelf.drop" (defArgs s_Shelf_drop) (defBody s_Shelf_drop) (defScope s_Shelf_drop) .none vkV_Shelf_drop vdc_Shelf_drop vpm_Shelf_drop van_Shelf_drop vcd_Shelf_drop vct_Shelf_drop), vsl_Shelf_drop⟩)
    (mc_Shelf_drop : PySem.W.codeIn K vcd_Shelf_drop "Shelf.drop" = true)
    (mk_Shelf_drop : PySem.W.keepIn K (.ref m_Shelf_drop) = true)
    (mi_Shelf_drop : PySem.W.isFn K (.ref m_Shelf_drop) = true)
    {m_Shelf_stock : Addr} (ma_Shelf_stock : PySem.W.findIn K (.ref O_Shelf) "stock" = some (some (.ref m_Shelf_stock)))
    {voc_Shelf_stock vkV_Shelf_stock vdc_Shelf_stock vpm_Shelf_stock vcd_Shelf_stock vct_Shelf_stock : Value} {vod_Shelf_stock van_Shelf_stock : Option Addr} {vsl_Shelf_stock : Array (Option Value)} (ml_Shelf_stock : K.lookup m_Shelf_stock = some ⟨voc_Shelf_stock, vod_Shelf_stock, .func (PySem.W.fnOf "stock" "Shelf.stock" (defArgs s_Shelf_stock) (defBody s_Shelf_stock) (defScope s_Shelf_stock) .none vkV_Shelf_stock vdc_Shelf_stock vpm_Shelf_stock van_Shelf_stock vcd_Shelf_stock vct_Shelf_stock), vsl_Shelf_stock⟩)
    (mc_Shelf_stock : PySem.W.codeIn K vcd_Shelf_stock "Shelf.stock" = true)
    (mk_Shelf_stock : PySem.W.keepIn K (.ref m_Shelf_stock) = true)
    (mi_Shelf_stock : PySem.W.isFn K (.ref m_Shelf_stock) = true)
    {m_Shelf_undo : Addr} (ma_Shelf_undo : PySem.W.findIn K (.ref O_Shelf) "undo" = some (some (.ref m_Shelf_undo)))
    {voc_Shelf_undo vkV_Shelf_undo vdc_Shelf_undo vpm_Shelf_undo vcd_Shelf_undo vct_Shelf_undo : Value} {vod_Shelf_undo van_Shelf_undo : Option Addr} {vsl_Shelf_undo : Array (Option Value)} (ml_Shelf_undo : K.lookup m_Shelf_undo = some ⟨voc_Shelf_undo, vod_Shelf_undo, .func (PySem.W.fnOf "undo" "Shelf.undo" (defArgs s_Shelf_undo) (defBody s_Shelf_undo) (defScope s_Shelf_undo) .none vkV_Shelf_undo vdc_Shelf_undo vpm_Shelf_undo van_Shelf_undo vcd_Shelf_undo vct_Shelf_undo), vsl_Shelf_undo⟩)
    (mc_Shelf_undo : PySem.W.codeIn K vcd_Shelf_undo "Shelf.undo" = true)
    (mk_Shelf_undo : PySem.W.keepIn K (.ref m_Shelf_undo) = true)
    (mi_Shelf_undo : PySem.W.isFn K (.ref m_Shelf_undo) = true)
    {m_Shelf_redo : Addr} (ma_Shelf_redo : PySem.W.findIn K (.ref O_Shelf) "redo" = some (some (.ref m_Shelf_redo)))
    {voc_Shelf_redo vkV_Shelf_redo vdc_Shelf_redo vpm_Shelf_redo vcd_Shelf_redo vct_Shelf_redo : Value} {vod_Shelf_redo van_Shelf_redo : Option Addr} {vsl_Shelf_redo : Array (Option Value)} (ml_Shelf_redo : K.lookup m_Shelf_redo = some ⟨voc_Shelf_redo, vod_Shelf_redo, .func (PySem.W.fnOf "redo" "Shelf.redo" (defArgs s_Shelf_redo) (defBody s_Shelf_redo) (defScope s_Shelf_redo) .none vkV_Shelf_redo vdc_Shelf_redo vpm_Shelf_redo van_Shelf_redo vcd_Shelf_redo vct_Shelf_redo), vsl_Shelf_redo⟩)
    (mc_Shelf_redo : PySem.W.codeIn K vcd_Shelf_redo "Shelf.redo" = true)
    (mk_Shelf_redo : PySem.W.keepIn K (.ref m_Shelf_redo) = true)
    (mi_Shelf_redo : PySem.W.isFn K (.ref m_Shelf_redo) = true)
    {m_Shelf_twin : Addr} (ma_Shelf_twin : PySem.W.findIn K (.ref O_Shelf) "twin" = some (some (.ref m_Shelf_twin)))
    {voc_Shelf_twin vkV_Shelf_twin vdc_Shelf_twin vpm_Shelf_twin vcd_Shelf_twin vct_Shelf_twin : Value} {vod_Shelf_twin van_Shelf_twin : Option Addr} {vsl_Shelf_twin : Array (Option Value)} (ml_Shelf_twin : K.lookup m_Shelf_twin = some ⟨voc_Shelf_twin, vod_Shelf_twin, .func (PySem.W.fnOf "twin" "Shelf.twin" (defArgs s_Shelf_twin) (defBody s_Shelf_twin) (defScope s_Shelf_twin) .none vkV_Shelf_twin vdc_Shelf_twin vpm_Shelf_twin van_Shelf_twin vcd_Shelf_twin vct_Shelf_twin), vsl_Shelf_twin⟩)
    (mc_Shelf_twin : PySem.W.codeIn K vcd_Shelf_twin "Shelf.twin" = true)
    (mk_Shelf_twin : PySem.W.keepIn K (.ref m_Shelf_twin) = true)
    (mi_Shelf_twin : PySem.W.isFn K (.ref m_Shelf_twin) = true)
    {m_Shelf_len : Addr} (ma_Shelf_len : PySem.W.findIn K (.ref O_Shelf) "__len__" = some (some (.ref m_Shelf_len)))
    {voc_Shelf_len vkV_Shelf_len vdc_Shelf_len vpm_Shelf_len vcd_Shelf_len vct_Shelf_len : Value} {vod_Shelf_len van_Shelf_len : Option Addr} {vsl_Shelf_len : Array (Option Value)} (ml_Shelf_len : K.lookup m_Shelf_len = some ⟨voc_Shelf_len, vod_Shelf_len, .func (PySem.W.fnOf "__len__" "Shelf.__len__" (defArgs s_Shelf_len) (defBody s_Shelf_len) (defScope s_Shelf_len) .none vkV_Shelf_len vdc_Shelf_len vpm_Shelf_len van_Shelf_len vcd_Shelf_len vct_Shelf_len), vsl_Shelf_len⟩)
    (mc_Shelf_len : PySem.W.codeIn K vcd_Shelf_len "Shelf.__len__" = true)
    (mk_Shelf_len : PySem.W.keepIn K (.ref m_Shelf_len) = true)
    (mi_Shelf_len : PySem.W.isFn K (.ref m_Shelf_len) = true)
    {m_Shelf_iter : Addr} (ma_Shelf_iter : PySem.W.findIn K (.ref O_Shelf) "__iter__" = some (some (.ref m_Shelf_iter)))
    {voc_Shelf_iter vkV_Shelf_iter vdc_Shelf_iter vpm_Shelf_iter vcd_Shelf_iter vct_Shelf_iter : Value} {vod_Shelf_iter van_Shelf_iter : Option Addr} {vsl_Shelf_iter : Array (Option Value)} (ml_Shelf_iter : K.lookup m_Shelf_iter = some ⟨voc_Shelf_iter, vod_Shelf_iter, .func (PySem.W.fnOf "__iter__" "Shelf.__iter__" (defArgs s_Shelf_iter) (defBody s_Shelf_iter) (defScope s_Shelf_iter) .none vkV_Shelf_iter vdc_Shelf_iter vpm_Shelf_iter van_Shelf_iter vcd_Shelf_iter vct_Shelf_iter), vsl_Shelf_iter⟩)
    (mc_Shelf_iter : PySem.W.codeIn K vcd_Shelf_iter "Shelf.__iter__" = true)
    (mk_Shelf_iter : PySem.W.keepIn K (.ref m_Shelf_iter) = true)
    (mi_Shelf_iter : PySem.W.isFn K (.ref m_Shelf_iter) = true)
    {m_Shelf_getitem : Addr} (ma_Shelf_getitem : PySem.W.findIn K (.ref O_Shelf) "__getitem__" = some (some (.ref m_Shelf_getitem)))
    {voc_Shelf_getitem vkV_Shelf_getitem vdc_Shelf_getitem vpm_Shelf_getitem vcd_Shelf_getitem vct_Shelf_getitem : Value} {vod_Shelf_getitem van_Shelf_getitem : Option Addr} {vsl_Shelf_getitem : Array (Option Value)} (ml_Shelf_getitem : K.lookup m_Shelf_getitem = some ⟨voc_Shelf_getitem, vod_Shelf_getitem, .func (PySem.W.fnOf "__getitem__" "Shelf.__getitem__" (defArgs s_Shelf_getitem) (defBody s_Shelf_getitem) (defScope s_Shelf_getitem) .none vkV_Shelf_getitem vdc_Shelf_getitem vpm_Shelf_getitem van_Shelf_getitem vcd_Shelf_getitem vct_Shelf_getitem), vsl_Shelf_getitem⟩)
    (mc_Shelf_getitem : PySem.W.codeIn K vcd_Shelf_getitem "Shelf.__getitem__" = true)
    (mk_Shelf_getitem : PySem.W.keepIn K (.ref m_Shelf_getitem) = true)
    (mi_Shelf_getitem : PySem.W.isFn K (.ref m_Shelf_getitem) = true)
    {m_Shelf_setitem : Addr} (ma_Shelf_setitem : PySem.W.findIn K (.ref O_Shelf) "__setitem__" = some (some (.ref m_Shelf_setitem)))
    {voc_Shelf_setitem vkV_Shelf_setitem vdc_Shelf_setitem vpm_Shelf_setitem vcd_Shelf_setitem vct_Shelf_setitem : Value} {vod_Shelf_setitem van_Shelf_setitem : Option Addr} {vsl_Shelf_setitem : Array (Option Value)} (ml_Shelf_setitem : K.lookup m_Shelf_setitem = some ⟨voc_Shelf_setitem, vod_Shelf_setitem, .func (PySem.W.fnOf "__setitem__" "Shelf.__setitem__" (defArgs s_Shelf_setitem) (defBody s_Shelf_setitem) (defScope s_Shelf_setitem) .none vkV_Shelf_setitem vdc_Shelf_setitem vpm_Shelf_setitem van_Shelf_setitem vcd_Shelf_setitem vct_Shelf_setitem), vsl_Shelf_setitem⟩)
    (mc_Shelf_setitem : PySem.W.codeIn K vcd_Shelf_setitem "Shelf.__setitem__" = true)
    (mk_Shelf_setitem : PySem.W.keepIn K (.ref m_Shelf_setitem) = true)
    (mi_Shelf_setitem : PySem.W.isFn K (.ref m_Shelf_setitem) = true)
    {mq_Shelf_can_undo : Addr} (ma_Shelf_can_undo : PySem.W.findIn K (.ref O_Shelf) "can_undo" = some (some (.ref mq_Shelf_can_undo)))
    {m_Shelf_can_undo : Addr} {mr_Shelf_can_undo : List Value} (mb_Shelf_can_undo : PySem.W.recIn K mq_Shelf_can_undo "property" = some (.ref m_Shelf_can_undo :: mr_Shelf_can_undo))
    {voc_Shelf_can_undo vkV_Shelf_can_undo vdc_Shelf_can_undo vpm_Shelf_can_undo vcd_Shelf_can_undo vct_Shelf_can_undo : Value} {vod_Shelf_can_undo van_Shelf_can_undo : Option Addr} {vsl_Shelf_can_undo : Array (Option Value)} (ml_Shelf_can_undo : K.lookup m_Shelf_can_undo = some ⟨voc_Shelf_can_undo, vod_Shelf_can_undo, .func (PySem.W.fnOf "can_undo" "Shelf.can_undo" (defArgs s_Shelf_can_undo) (defBody s_Shelf_can_undo) (defScope s_Shelf_can_undo) .none vkV_Shelf_can_undo vdc_Shelf_can_undo vpm_Shelf_can_undo van_Shelf_can_undo vcd_Shelf_can_undo vct_Shelf_can_undo), vsl_Shelf_can_undo⟩)
    (mc_Shelf_can_undo : PySem.W.codeIn K vcd_Shelf_can_undo "Shelf.can_undo" = true)
    (mk_Shelf_can_undo : PySem.W.keepIn K (.ref m_Shelf_can_undo) = true)
    (mi_Shelf_can_undo : PySem.W.isFn K (.ref m_Shelf_can_undo) = true)
    {pp_Shelf_can_undo : Addr} (pa_Shelf_can_undo : PySem.W.findIn K (.ref O_Shelf) "can_undo" = some (some (.ref pp_Shelf_can_undo)))
    (pb_Shelf_can_undo : PySem.W.specialIn K (.ref pp_Shelf_can_undo) "__get__" = some (some (.builtin "property.__get__")))
    (pc_Shelf_can_undo : PySem.W.takesIn K (.ref pp_Shelf_can_undo) = some true)
    {pr_Shelf_can_undo : List Value} (pd_Shelf_can_undo : PySem.W.recIn K pp_Shelf_can_undo "property" = some (.ref m_Shelf_can_undo :: pr_Shelf_can_undo))
    {mq_Shelf_can_redo : Addr} (ma_Shelf_can_redo : PySem.W.findIn K (.ref O_Shelf) "can_redo" = some (some (.ref mq_Shelf_can_redo)))
    {m_Shelf_can_redo : Addr} {mr_Shelf_can_redo : List Value} (mb_Shelf_can_redo : PySem.W.recIn K mq_Shelf_can_redo "property" = some (.ref m_Shelf_can_redo :: mr_Shelf_can_redo))
    {voc_Shelf_can_redo vkV_Shelf_can_redo vdc_Shelf_can_redo vpm_Shelf_can_redo vcd_Shelf_can_redo vct_Shelf_can_redo : Value} {vod_Shelf_can_redo van_Shelf_can_redo : Option Addr} {vsl_Shelf_can_redo : Array (Option Value)} (ml_Shelf_can_redo : K.lookup m_Shelf_can_redo = some ⟨voc_Shelf_can_redo, vod_Shelf_can_redo, .func (PySem.W.fnOf "can_redo" "Shelf.can_redo" (defArgs s_Shelf_can_redo) (defBody s_Shelf_can_redo) (defScope s_Shelf_can_redo) .none vkV_Shelf_can_redo vdc_Shelf_can_redo vpm_Shelf_can_redo van_Shelf_can_redo vcd_Shelf_can_redo vct_Shelf_can_redo), vsl_Shelf_can_redo⟩)
    (mc_Shelf_can_redo : PySem.W.codeIn K vcd_Shelf_can_redo "Shelf.can_redo" = true)
    (mk_Shelf_can_redo : PySem.W.keepIn K (.ref m_Shelf_can_redo) = true)
    (mi_Shelf_can_redo : PySem.W.isFn K (.ref m_Shelf_can_redo) = true)
    {pp_Shelf_can_redo : Addr} (pa_Shelf_can_redo : PySem.W.findIn K (.ref O_Shelf) "can_redo" = some (some (.ref pp_Shelf_can_redo)))
    (pb_Shelf_can_redo : PySem.W.specialIn K (.ref pp_Shelf_can_redo) "__get__" = some (some (.builtin "property.__get__")))
    (pc_Shelf_can_redo : PySem.W.takesIn K (.ref pp_Shelf_can_redo) = some true)
    {pr_Shelf_can_redo : List Value} (pd_Shelf_can_redo : PySem.W.recIn K pp_Shelf_can_redo "property" = some (.ref m_Shelf_can_redo :: pr_Shelf_can_redo))
    (ka_Shelf : PySem.W.makesIn K O_Shelf = true)
    (kb_Shelf : PySem.W.findIn K (.ref O_Shelf) "__init__" = some (some (.ref m_Shelf_init)))
    (no_Shelf_own_rows : PySem.W.findIn K (.ref O_Shelf) "own_rows" = some none)
    (no_Shelf_own_names : PySem.W.findIn K (.ref O_Shelf) "own_names" = some none)
    (no_Shelf_own_past : PySem.W.findIn K (.ref O_Shelf) "own_past" = some none)
    (no_Shelf_own_future : PySem.W.findIn K (.ref O_Shelf) "own_future" = some none)
    (xa_Shelf_settle : PySem.W.findIn K (.ref O_Shelf) "settle" = some (some (.ref m_Shelf_settle)))
    (xa_Shelf_go : PySem.W.findIn K (.ref O_Shelf) "go" = some (some (.ref m_Shelf_go)))
    (xa_Shelf_need_name : PySem.W.findIn K (.ref O_Shelf) "need_name" = some (some (.ref m_Shelf_need_name)))
    (xa_Shelf_drop : PySem.W.findIn K (.ref O_Shelf) "drop" = some (some (.ref m_Shelf_drop)))
    (xa_Shelf_stock : PySem.W.findIn K (.ref O_Shelf) "stock" = some (some (.ref m_Shelf_stock)))
    (xa_Shelf_undo : PySem.W.findIn K (.ref O_Shelf) "undo" = some (some (.ref m_Shelf_undo)))
    (xa_Shelf_redo : PySem.W.findIn K (.ref O_Shelf) "redo" = some (some (.ref m_Shelf_redo)))
    (xa_Shelf_twin : PySem.W.findIn K (.ref O_Shelf) "twin" = some (some (.ref m_Shelf_twin)))
    (na_Nothing : PySem.W.excIn K D_1 [.type "ValueError", .type "Exception", .type "BaseException", .type "object"] "ValueError.__new__" = true)
    (nb_Nothing : PySem.W.keepIn K (.ref D_1) = true)
    (nc_Nothing : PySem.W.findIn K (.ref D_1) "__getattribute__" = some (some (.builtin "BaseException.__getattribute__")))
    (nd_Nothing : PySem.W.findIn K (.ref D_1) "__getattr__" = some none)
    (ne_Nothing : PySem.W.subIn K (.ref D_1) (.type "BaseException") = some true)
    (nf_Nothing : PySem.W.hasDictIn K D_1 = true)
    (ng_Nothing : PySem.W.findIn K (.ref D_1) "__class__" = some (some (.builtin "object.__class__")))
    (nh_Nothing : PySem.W.mroIn K D_1 (.type "object") = some true)
    {u_MOST : Value} (ga_MOST : PySem.W.nsIn K mainGlobals "MOST" = some (some u_MOST))
    (r_MOST : RelV (.int 1000000000000) u_MOST)
    {u_LETTERS : Value} (ga_LETTERS : PySem.W.nsIn K mainGlobals "LETTERS" = some (some u_LETTERS))
    (r_LETTERS : RelV (.str "abcdefghijklmnopqrstuvwxyz") u_LETTERS)
    {u_MOST_LETTERS : Value} (ga_MOST_LETTERS : PySem.W.nsIn K mainGlobals "MOST_LETTERS" = some (some u_MOST_LETTERS))
    (r_MOST_LETTERS : RelV (.int 8) u_MOST_LETTERS)
    {u_MOST_NAMES : Value} (ga_MOST_NAMES : PySem.W.nsIn K mainGlobals "MOST_NAMES" = some (some u_MOST_NAMES))
    (r_MOST_NAMES : RelV (.int 8) u_MOST_NAMES)
    {u_MOST_PRICE : Value} (ga_MOST_PRICE : PySem.W.nsIn K mainGlobals "MOST_PRICE" = some (some u_MOST_PRICE))
    (r_MOST_PRICE : RelV (.int 1000000000000) u_MOST_PRICE)
    (st_Wheel : PySem.W.findIn K (.ref O_Wheel) "__str__" = some (some (.ref m_Wheel_str)))
    (kd_Wheel : PySem.W.kitOne K (.ref O_Wheel) (.ref O_Wheel) = some true)
    (st_Exact : PySem.W.findIn K (.ref O_Exact) "__str__" = some (some (.ref m_Wheel_str)))
    (kd_Exact : PySem.W.kitOne K (.ref O_Exact) (.ref O_Wheel) = some true)
    (st_Grid : PySem.W.findIn K (.ref O_Grid) "__str__" = some (some (.ref m_Wheel_str)))
    (kd_Grid : PySem.W.kitOne K (.ref O_Grid) (.ref O_Wheel) = some true)
    (tyN : PySem.W.typeIn K (.ref D_1) = some (.type "type"))
    (nsS : PySem.W.noSeq K O_Shelf = true)
    (rrN : PySem.W.kitOne K (.ref D_1) (.ref D_0) = some true)
    (xm : PySem.W.exmOne K (.ref C_6) (.ref C_6) = some true)
    (xn : PySem.W.exmOne K (.ref D_1) (.ref D_1) = some true)
    (xfi : PySem.W.fnIn K m_Shelf_getitem = true)
    (xs : PySem.W.exmOne K (.ref C_3) (.ref D_0) = some true)
    (xt : PySem.W.exmOne K (.ref C_7) (.ref D_0) = some true)
    (xd : PySem.W.exmOne K (.ref C_4) (.ref C_4) = some true) :
    LawG q l.prog w K 11 mg fa := by
  have e := hfa.symm.trans (PySem.W.mg_of X G a18)
  cases e
  have B : Bi mg := ⟨PySem.W.mg_none_of X G z0, PySem.W.mg_none_of X G z1, PySem.W.mg_none_of X G z2, PySem.W.mg_none_of X G z3, PySem.W.mg_none_of X G z4, PySem.W.mg_none_of X G z5, PySem.W.mg_none_of X G z6, PySem.W.mg_none_of X G z7, PySem.W.mg_none_of X G z8, PySem.W.mg_none_of X G z9, PySem.W.mg_none_of X G z10, PySem.W.mg_none_of X G z11, PySem.W.mg_none_of X G z12, PySem.W.mg_none_of X G z13, PySem.W.mg_none_of X G z14, PySem.W.mg_none_of X G z15, PySem.W.mg_none_of X G z16, PySem.W.mg_none_of X G z17, PySem.W.mg_none_of X G z18, PySem.W.mg_none_of X G z19, PySem.W.mg_none_of X G z20, PySem.W.mg_none_of X G z21, PySem.W.mg_none_of X G z22, PySem.W.mg_none_of X G z23, PySem.W.mg_none_of X G z24, PySem.W.mg_none_of X G z25⟩
  have F_is_whole : Df K mg "is_whole" s_is_whole := ⟨_, _, PySem.W.mg_of X G a0, fun_mk l0 c0 k0⟩
  have F_is_name : Df K mg "is_name" s_is_name := ⟨_, _, PySem.W.mg_of X G a1, fun_mk l1 c1 k1⟩
  have F_need_part : Df K mg "need_part" s_need_part := ⟨_, _, PySem.W.mg_of X G a2, fun_mk l2 c2 k2⟩
  have F_with_item : Df K mg "with_item" s_with_item := ⟨_, _, PySem.W.mg_of X G a3, fun_mk l3 c3 k3⟩
  have F_with_row : Df K mg "with_row" s_with_row := ⟨_, _, PySem.W.mg_of X G a4, fun_mk l4 c4 k4⟩
  have F_law_pen : Df K mg "_law_pen" s_law_pen := ⟨_, _, PySem.W.mg_of X G a5, fun_mk l5 c5 k5⟩
  have F_law_draw : Df K mg "_law_draw" s_law_draw := ⟨_, _, PySem.W.mg_of X G a6, fun_mk l6 c6 k6⟩
  have F_law_pick : Df K mg "_law_pick" s_law_pick := ⟨_, _, PySem.W.mg_of X G a7, fun_mk l7 c7 k7⟩
  have F_law_name : Df K mg "_law_name" s_law_name := ⟨_, _, PySem.W.mg_of X G a8, fun_mk l8 c8 k8⟩
  have F_law_state : Df K mg "_law_state" s_law_state := ⟨_, _, PySem.W.mg_of X G a9, fun_mk l9 c9 k9⟩
  have F_law_with : Df K mg "_law_with" s_law_with := ⟨_, _, PySem.W.mg_of X G a10, fun_mk l10 c10 k10⟩
  have F_law_row : Df K mg "_law_row" s_law_row := ⟨_, _, PySem.W.mg_of X G a11, fun_mk l11 c11 k11⟩
  have F_law_deed : Df K mg "_law_deed" s_law_deed := ⟨_, _, PySem.W.mg_of X G a12, fun_mk l12 c12 k12⟩
  have F_law_step : Df K mg "_law_step" s_law_step := ⟨_, _, PySem.W.mg_of X G a13, fun_mk l13 c13 k13⟩
  have F_law_stands : Df K mg "_law_stands" s_law_stands := ⟨_, _, PySem.W.mg_of X G a14, fun_mk l14 c14 k14⟩
  have F_law_led : Df K mg "_law_led" s_law_led := ⟨_, _, PySem.W.mg_of X G a15, fun_mk l15 c15 k15⟩
  have F_law_walked : Df K mg "_law_walked" s_law_walked := ⟨_, _, PySem.W.mg_of X G a16, fun_mk l16 c16 k16⟩
  have F_law_same_right : Df K mg "_law_same_right" s_law_same_right := ⟨_, _, PySem.W.mg_of X G a17, fun_mk l17 c17 k17⟩
  have FL := fun_mk (st := s_law) l18 c18 k18
  have A : ErrAll l.prog K mg := ⟨g3, op, PySem.W.mg_none_of X G zs, g1, g2⟩
  refine ⟨[], List.nodup_nil, fun p hp => absurd hp (List.not_mem_nil)
  , fun base hK hG hT => ?_⟩
  have T_BadNumber : ErrT l.prog w K mg base "BadNumber" C_0 ["value"] := err_mk1 "value" X G A E_0 e0_0 sc_BadNumber_init rfl rfl rfl rfl (fun _ => rfl) (fun _ => rfl) (fun _ => ⟨_, rfl⟩) (fun _ => rfl) (by decide) (by decide) (fun us hl => match us, hl with | [_, _], _ => rfl)
  have T_BadWheel : ErrT l.prog w K mg base "BadWheel" C_1 ["part"] := err_mk1 "part" X G A E_1 e1_0 sc_BadWheel_init rfl rfl rfl rfl (fun _ => rfl) (fun _ => rfl) (fun _ => ⟨_, rfl⟩) (fun _ => rfl) (by decide) (by decide) (fun us hl => match us, hl with | [_, _], _ => rfl)
  have T_BadValue : ErrT l.prog w K mg base "BadValue" C_2 ["value"] := err_mk1 "value" X G A E_2 e2_0 sc_BadValue_init rfl rfl rfl rfl (fun _ => rfl) (fun _ => rfl) (fun _ => ⟨_, rfl⟩) (fun _ => rfl) (by decide) (by decide) (fun us hl => match us, hl with | [_, _], _ => rfl)
  have T_BadShelf : ErrT l.prog w K mg base "BadShelf" C_3 ["part"] := err_mk1 "part" X G A E_3 e3_0 sc_BadShelf_init rfl rfl rfl rfl (fun _ => rfl) (fun _ => rfl) (fun _ => ⟨_, rfl⟩) (fun _ => rfl) (by decide) (by decide) (fun us hl => match us, hl with | [_, _], _ => rfl)
  have T_BadDeed : ErrT l.prog w K mg base "BadDeed" C_4 ["at"] := err_mk1 "at" X G A E_4 e4_0 sc_BadDeed_init rfl rfl rfl rfl (fun _ => rfl) (fun _ => rfl) (fun _ => ⟨_, rfl⟩) (fun _ => rfl) (by decide) (by decide) (fun us hl => match us, hl with | [_, _], _ => rfl)
  have T_BadText : ErrT l.prog w K mg base "BadText" C_5 ["line", "word"] := err_mk2 "line" "word" X G A E_5 e5_0 e5_1 sc_BadText_init rfl rfl rfl rfl (fun _ => rfl) (fun _ => rfl) (fun _ => ⟨_, rfl⟩) (fun _ => rfl) (fun _ => rfl) (by decide) (by decide) (by decide) (by decide) (fun us hl => match us, hl with | [_, _, _], _ => rfl)
  have T_NoName : ErrT l.prog w K mg base "NoName" C_6 ["name"] := err_mk1 "name" X G A E_6 e6_0 sc_NoName_init rfl rfl rfl rfl (fun _ => rfl) (fun _ => rfl) (fun _ => ⟨_, rfl⟩) (fun _ => rfl) (by decide) (by decide) (fun us hl => match us, hl with | [_, _], _ => rfl)
  have T_TooMany : ErrT l.prog w K mg base "TooMany" C_7 ["what", "most"] := err_mk2 "what" "most" X G A E_7 e7_0 e7_1 sc_TooMany_init rfl rfl rfl rfl (fun _ => rfl) (fun _ => rfl) (fun _ => ⟨_, rfl⟩) (fun _ => rfl) (fun _ => rfl) (by decide) (by decide) (by decide) (by decide) (fun us hl => match us, hl with | [_, _, _], _ => rfl)
  have G_ReachError : mg "ReachError" = some (.ref D_0) := PySem.W.mg_of X G d0
  have G_Nothing : mg "Nothing" = some (.ref D_1) := PySem.W.mg_of X G d1
  have G_Wheel : mg "Wheel" = some (.ref O_Wheel) := PySem.W.mg_of X G oa_Wheel
  have c_Wheel : L2.Cls K O_Wheel := ⟨ob_Wheel, oc_Wheel, od_Wheel, oe_Wheel⟩
  have t_Wheel : OwnT K O_Wheel := ⟨og_Wheel, oc_Wheel, oh_Wheel, g1, g2, oi_Wheel⟩
  have G_Exact : mg "Exact" = some (.ref O_Exact) := PySem.W.mg_of X G oa_Exact
  have c_Exact : L2.Cls K O_Exact := ⟨ob_Exact, oc_Exact, od_Exact, oe_Exact⟩
  have t_Exact : OwnT K O_Exact := ⟨og_Exact, oc_Exact, oh_Exact, g1, g2, oi_Exact⟩
  have G_Grid : mg "Grid" = some (.ref O_Grid) := PySem.W.mg_of X G oa_Grid
  have c_Grid : L2.Cls K O_Grid := ⟨ob_Grid, oc_Grid, od_Grid, oe_Grid⟩
  have t_Grid : OwnT K O_Grid := ⟨og_Grid, oc_Grid, oh_Grid, g1, g2, oi_Grid⟩
  have G_Shelf : mg "Shelf" = some (.ref O_Shelf) := PySem.W.mg_of X G oa_Shelf
  have c_Shelf : L2.Cls K O_Shelf := ⟨ob_Shelf, oc_Shelf, od_Shelf, oe_Shelf⟩
  have t_Shelf : OwnT K O_Shelf := ⟨og_Shelf, oc_Shelf, oh_Shelf, g1, g2, oi_Shelf⟩
  have FM_Wheel_init := fun_mk (st := s_Wheel_init) ml_Wheel_init mc_Wheel_init mk_Wheel_init
  have FM_Wheel_eq := fun_mk (st := s_Wheel_eq) ml_Wheel_eq mc_Wheel_eq mk_Wheel_eq
  have FM_Wheel_str := fun_mk (st := s_Wheel_str) ml_Wheel_str mc_Wheel_str mk_Wheel_str
  have FM_Wheel_trusted := fun_mk (st := s_Wheel_trusted) ml_Wheel_trusted mc_Wheel_trusted mk_Wheel_trusted
  have FM_Exact_init : SupF l.prog K "__init__" "Exact.__init__" s_Exact_init m_Exact_init vc_Exact_init vcc_Exact_init O_Exact _ := ⟨⟨voc_Exact_init, vod_Exact_init, vkV_Exact_init, vdc_Exact_init, vpm_Exact_init, vct_Exact_init, van_Exact_init, vsl_Exact_init, rfl, ml_Exact_init⟩, mc_Exact_init, ⟨vcl_Exact_init, vcld_Exact_init, vcsl_Exact_init, mx_Exact_init⟩, ⟨vccl_Exact_init, vcdd_Exact_init, vvs_Exact_init, vccs_Exact_init, vfl_Exact_init, vtf_Exact_init, my_Exact_init, mz_Exact_init, mf_Exact_init⟩, ⟨vcd_Exact_init, mg_Exact_init⟩, g3⟩
  have FM_Grid_init : SupF l.prog K "__init__" "Grid.__init__" s_Grid_init m_Grid_init vc_Grid_init vcc_Grid_init O_Grid _ := ⟨⟨voc_Grid_init, vod_Grid_init, vkV_Grid_init, vdc_Grid_init, vpm_Grid_init, vct_Grid_init, van_Grid_init, vsl_Grid_init, rfl, ml_Grid_init⟩, mc_Grid_init, ⟨vcl_Grid_init, vcld_Grid_init, vcsl_Grid_init, mx_Grid_init⟩, ⟨vccl_Grid_init, vcdd_Grid_init, vvs_Grid_init, vccs_Grid_init, vfl_Grid_init, vtf_Grid_init, my_Grid_init, mz_Grid_init, mf_Grid_init⟩, ⟨vcd_Grid_init, mg_Grid_init⟩, g3⟩
  have mk_Wheel : Mk K O_Wheel m_Wheel_init := ⟨ka_Wheel, kb_Wheel, mi_Wheel_init, of_Wheel⟩
  have mk_Exact : Mk K O_Exact m_Exact_init := ⟨ka_Exact, kb_Exact, mi_Exact_init, of_Exact⟩
  have mk_Grid : Mk K O_Grid m_Grid_init := ⟨ka_Grid, kb_Grid, mi_Grid_init, of_Grid⟩
  have su_Exact_Exact_init : SupM K mg O_Exact O_Exact "__init__" m_Wheel_init := ⟨sa_Exact_Exact_init, sb_Exact_Exact_init, sc_Exact_Exact_init, ⟨_, sd_Exact_Exact_init⟩, se_Exact_Exact_init, op, PySem.W.mg_none_of X G zs⟩
  have su_Grid_Grid_init : SupM K mg O_Grid O_Grid "__init__" m_Wheel_init := ⟨sa_Grid_Grid_init, sb_Grid_Grid_init, sc_Grid_Grid_init, ⟨_, sd_Grid_Grid_init⟩, se_Grid_Grid_init, op, PySem.W.mg_none_of X G zs⟩
  have oe_Wheel : OwnEq K O_Wheel m_Wheel_eq := ⟨qa_Wheel, mi_Wheel_eq, qb_Wheel, oi_Wheel⟩
  have co_Wheel_TRUSTED : Con K O_Wheel "TRUSTED" (.bl false) u_Wheel_TRUSTED := ⟨ca_Wheel_TRUSTED, cb_Wheel_TRUSTED, cc_Wheel_TRUSTED, by decide +kernel⟩
  have pr_Wheel_trusted : PropOf K O_Wheel "trusted" pp_Wheel_trusted m_Wheel_trusted := ⟨pa_Wheel_trusted, pb_Wheel_trusted, pc_Wheel_trusted, ⟨_, pd_Wheel_trusted⟩⟩
  have oe_Exact : OwnEq K O_Exact m_Wheel_eq := ⟨qa_Exact, mi_Wheel_eq, qb_Exact, oi_Exact⟩
  have co_Exact_TRUSTED : Con K O_Exact "TRUSTED" (.bl false) u_Exact_TRUSTED := ⟨ca_Exact_TRUSTED, cb_Exact_TRUSTED, cc_Exact_TRUSTED, by decide +kernel⟩
  have pr_Exact_trusted : PropOf K O_Exact "trusted" pp_Exact_trusted m_Wheel_trusted := ⟨pa_Exact_trusted, pb_Exact_trusted, pc_Exact_trusted, ⟨_, pd_Exact_trusted⟩⟩
  have oe_Grid : OwnEq K O_Grid m_Wheel_eq := ⟨qa_Grid, mi_Wheel_eq, qb_Grid, oi_Grid⟩
  have co_Grid_TRUSTED : Con K O_Grid "TRUSTED" (.bl true) u_Grid_TRUSTED := ⟨ca_Grid_TRUSTED, cb_Grid_TRUSTED, cc_Grid_TRUSTED, by decide +kernel⟩
  have pr_Grid_trusted : PropOf K O_Grid "trusted" pp_Grid_trusted m_Wheel_trusted := ⟨pa_Grid_trusted, pb_Grid_trusted, pc_Grid_trusted, ⟨_, pd_Grid_trusted⟩⟩
  have FM_Shelf_init := fun_mk (st := s_Shelf_init) ml_Shelf_init mc_Shelf_init mk_Shelf_init
  have FM_Shelf_settle := fun_mk (st := s_Shelf_settle) ml_Shelf_settle mc_Shelf_settle mk_Shelf_settle
  have FM_Shelf_go := fun_mk (st := s_Shelf_go) ml_Shelf_go mc_Shelf_go mk_Shelf_go
  have FM_Shelf_need_name := fun_mk (st := s_Shelf_need_name) ml_Shelf_need_name mc_Shelf_need_name mk_Shelf_need_name
  have FM_Shelf_drop := fun_mk (st := s_Shelf_drop) ml_Shelf_drop mc_Shelf_drop mk_Shelf_drop
  have FM_Shelf_stock := fun_mk (st := s_Shelf_stock) ml_Shelf_stock mc_Shelf_stock mk_Shelf_stock
  have FM_Shelf_undo := fun_mk (st := s_Shelf_undo) ml_Shelf_undo mc_Shelf_undo mk_Shelf_undo
  have FM_Shelf_redo := fun_mk (st := s_Shelf_redo) ml_Shelf_redo mc_Shelf_redo mk_Shelf_redo
  have FM_Shelf_twin := fun_mk (st := s_Shelf_twin) ml_Shelf_twin mc_Shelf_twin mk_Shelf_twin
  have FM_Shelf_len := fun_mk (st := s_Shelf_len) ml_Shelf_len mc_Shelf_len mk_Shelf_len
  have FM_Shelf_iter := fun_mk (st := s_Shelf_iter) ml_Shelf_iter mc_Shelf_iter mk_Shelf_iter
  have FM_Shelf_getitem := fun_mk (st := s_Shelf_getitem) ml_Shelf_getitem mc_Shelf_getitem mk_Shelf_getitem
  have FM_Shelf_setitem := fun_mk (st := s_Shelf_setitem) ml_Shelf_setitem mc_Shelf_setitem mk_Shelf_setitem
  have FM_Shelf_can_undo := fun_mk (st := s_Shelf_can_undo) ml_Shelf_can_undo mc_Shelf_can_undo mk_Shelf_can_undo
  have pr_Shelf_can_undo : PropOf K O_Shelf "can_undo" pp_Shelf_can_undo m_Shelf_can_undo := ⟨pa_Shelf_can_undo, pb_Shelf_can_undo, pc_Shelf_can_undo, ⟨_, pd_Shelf_can_undo⟩⟩
  have FM_Shelf_can_redo := fun_mk (st := s_Shelf_can_redo) ml_Shelf_can_redo mc_Shelf_can_redo mk_Shelf_can_redo
  have pr_Shelf_can_redo : PropOf K O_Shelf "can_redo" pp_Shelf_can_redo m_Shelf_can_redo := ⟨pa_Shelf_can_redo, pb_Shelf_can_redo, pc_Shelf_can_redo, ⟨_, pd_Shelf_can_redo⟩⟩
  have mk_Shelf : Mk K O_Shelf m_Shelf_init := ⟨ka_Shelf, kb_Shelf, mi_Shelf_init, of_Shelf⟩
  have me_Shelf_settle : Meth K O_Shelf "settle" m_Shelf_settle := ⟨xa_Shelf_settle, mi_Shelf_settle, mk_Shelf_settle⟩
  have me_Shelf_go : Meth K O_Shelf "go" m_Shelf_go := ⟨xa_Shelf_go, mi_Shelf_go, mk_Shelf_go⟩
  have me_Shelf_need_name : Meth K O_Shelf "need_name" m_Shelf_need_name := ⟨xa_Shelf_need_name, mi_Shelf_need_name, mk_Shelf_need_name⟩
  have me_Shelf_drop : Meth K O_Shelf "drop" m_Shelf_drop := ⟨xa_Shelf_drop, mi_Shelf_drop, mk_Shelf_drop⟩
  have me_Shelf_stock : Meth K O_Shelf "stock" m_Shelf_stock := ⟨xa_Shelf_stock, mi_Shelf_stock, mk_Shelf_stock⟩
  have me_Shelf_undo : Meth K O_Shelf "undo" m_Shelf_undo := ⟨xa_Shelf_undo, mi_Shelf_undo, mk_Shelf_undo⟩
  have me_Shelf_redo : Meth K O_Shelf "redo" m_Shelf_redo := ⟨xa_Shelf_redo, mi_Shelf_redo, mk_Shelf_redo⟩
  have me_Shelf_twin : Meth K O_Shelf "twin" m_Shelf_twin := ⟨xa_Shelf_twin, mi_Shelf_twin, mk_Shelf_twin⟩
  have H_BadDeed : ErrH l.prog w K mg base "BadDeed" C_4 ["at"] := err_mk1H "at" X G A E_4 e4_0 sc_BadDeed_init rfl rfl rfl rfl (fun _ => rfl) (fun _ => rfl) (fun _ => ⟨_, rfl⟩) (fun _ => rfl) (by decide) (by decide) (fun us hl => match us, hl with | [_, _], _ => rfl)
  have ev_Nothing : ErV K D_1 := ⟨nc_Nothing, nd_Nothing, ne_Nothing, nf_Nothing, ng_Nothing, g1, g2, nh_Nothing⟩
  have N_Nothing : ErrN K mg "Nothing" D_1 := ⟨G_Nothing, nb_Nothing, _, _, _, _, PySem.F.excBase_ValueError, na_Nothing⟩
  have g_MOST := PySem.W.mg_of X G ga_MOST
  have g_LETTERS := PySem.W.mg_of X G ga_LETTERS
  have g_MOST_LETTERS := PySem.W.mg_of X G ga_MOST_LETTERS
  have g_MOST_NAMES := PySem.W.mg_of X G ga_MOST_NAMES
  have g_MOST_PRICE := PySem.W.mg_of X G ga_MOST_PRICE
  have D_whole := fn_is_whole (P := l.prog) (w := w) (base := base) B F_is_whole
  have D_np := fn_need_part F_need_part D_whole T_BadWheel g_MOST r_MOST
  have RT := run_Wheel_trusted (P := l.prog) (w := w) (base := base) B FM_Wheel_trusted
  have RS := run_Wheel_str (D := O_Wheel) (gE := m_Wheel_eq) (gS := m_Wheel_str) FM_Wheel_str RT
  have wa_Wheel : WhA K O_Wheel := ⟨c_Wheel, no_Wheel_period, no_Wheel_back, no_Wheel_ahead⟩
  have wc_Wheel : WhC K O_Wheel m_Wheel_trusted m_Wheel_eq m_Wheel_str O_Wheel false := ⟨wa_Wheel, t_Wheel, kd_Wheel, ⟨_, co_Wheel_TRUSTED⟩, ⟨_, pr_Wheel_trusted⟩, oe_Wheel, st_Wheel, mi_Wheel_str⟩
  have wa_Exact : WhA K O_Exact := ⟨c_Exact, no_Exact_period, no_Exact_back, no_Exact_ahead⟩
  have wc_Exact : WhC K O_Wheel m_Wheel_trusted m_Wheel_eq m_Wheel_str O_Exact false := ⟨wa_Exact, t_Exact, kd_Exact, ⟨_, co_Exact_TRUSTED⟩, ⟨_, pr_Exact_trusted⟩, oe_Exact, st_Exact, mi_Wheel_str⟩
  have wa_Grid : WhA K O_Grid := ⟨c_Grid, no_Grid_period, no_Grid_back, no_Grid_ahead⟩
  have wc_Grid : WhC K O_Wheel m_Wheel_trusted m_Wheel_eq m_Wheel_str O_Grid true := ⟨wa_Grid, t_Grid, kd_Grid, ⟨_, co_Grid_TRUSTED⟩, ⟨_, pr_Grid_trusted⟩, oe_Grid, st_Grid, mi_Wheel_str⟩
  have R_w := run_Wheel_init FM_Wheel_init D_np
  have R_ex := run_Exact_init FM_Exact_init R_w su_Exact_Exact_init argsP id id (fun _ _ r => r) (fun _ _ _ _ _ us hl => match us, hl with | [_, _], _ => rfl)
  have R_gr := run_Grid_init FM_Grid_init R_w su_Grid_Grid_init argsP id id (fun _ _ r => r) (fun _ _ _ _ _ us hl => match us, hl with | [_, _], _ => rfl)
  have W5 : WhM l.prog w K mg base ⟨O_Wheel, m_Wheel_trusted, m_Wheel_eq, m_Wheel_str, O_Shelf⟩ O_Grid m_Wheel_init m_Grid_init _ := ⟨⟨G_Wheel, mk_Wheel, R_w⟩, ⟨G_Grid, mk_Grid, R_gr⟩, wc_Wheel, wc_Grid⟩
  have SC : ShC K O_Shelf := ⟨c_Shelf, no_Shelf_own_rows, no_Shelf_own_names, no_Shelf_own_past, no_Shelf_own_future⟩
  have D_name := fn_is_name (P := l.prog) (w := w) (base := base) B F_is_name g_LETTERS r_LETTERS g_MOST_LETTERS r_MOST_LETTERS
  have D_wi := fn_with_item (Y := ⟨O_Wheel, m_Wheel_trusted, m_Wheel_eq, m_Wheel_str, O_Shelf⟩) B F_with_item D_name D_whole T_BadShelf T_TooMany G_Wheel g_MOST_PRICE r_MOST_PRICE g_MOST_NAMES r_MOST_NAMES
  have D_wr := fn_with_row B F_with_row D_wi T_BadShelf
  have R_set := run_Shelf_settle (P := l.prog) (w := w) (base := base) (Y := ⟨O_Wheel, m_Wheel_trusted, m_Wheel_eq, m_Wheel_str, O_Shelf⟩) B FM_Shelf_settle
  have R_go := run_Shelf_go (Y := ⟨O_Wheel, m_Wheel_trusted, m_Wheel_eq, m_Wheel_str, O_Shelf⟩) FM_Shelf_go R_set me_Shelf_settle
  have R_cu := run_Shelf_can_undo (P := l.prog) (w := w) (base := base) (Y := ⟨O_Wheel, m_Wheel_trusted, m_Wheel_eq, m_Wheel_str, O_Shelf⟩) B FM_Shelf_can_undo
  have R_cr := run_Shelf_can_redo (P := l.prog) (w := w) (base := base) (Y := ⟨O_Wheel, m_Wheel_trusted, m_Wheel_eq, m_Wheel_str, O_Shelf⟩) B FM_Shelf_can_redo
  have EB : ErrB K mg "Nothing" _ := ⟨N_Nothing, ev_Nothing, tyN⟩
  have R_un := run_Shelf_undoX (Y := ⟨O_Wheel, m_Wheel_trusted, m_Wheel_eq, m_Wheel_str, O_Shelf⟩) B FM_Shelf_undo R_set me_Shelf_settle EB
  have R_re := run_Shelf_redoX (Y := ⟨O_Wheel, m_Wheel_trusted, m_Wheel_eq, m_Wheel_str, O_Shelf⟩) B FM_Shelf_redo R_set me_Shelf_settle EB
  have R_nn := run_Shelf_need_name (Y := ⟨O_Wheel, m_Wheel_trusted, m_Wheel_eq, m_Wheel_str, O_Shelf⟩) B FM_Shelf_need_name T_NoName
  have R_dr := run_Shelf_drop (Y := ⟨O_Wheel, m_Wheel_trusted, m_Wheel_eq, m_Wheel_str, O_Shelf⟩) B FM_Shelf_drop R_nn me_Shelf_need_name R_go me_Shelf_go
  have R_si := run_Shelf_setitem (Y := ⟨O_Wheel, m_Wheel_trusted, m_Wheel_eq, m_Wheel_str, O_Shelf⟩) B FM_Shelf_setitem D_wi R_go me_Shelf_go
  have R_in := run_Shelf_init (P := l.prog) (w := w) (base := base) (mg := mg) (Y := ⟨O_Wheel, m_Wheel_trusted, m_Wheel_eq, m_Wheel_str, O_Shelf⟩) FM_Shelf_init
  have R_tw := run_Shelf_twin (Y := ⟨O_Wheel, m_Wheel_trusted, m_Wheel_eq, m_Wheel_str, O_Shelf⟩) B FM_Shelf_twin G_Shelf mk_Shelf R_in R_set me_Shelf_settle
  have R_it := fun n => run_Shelf_iter (P := l.prog) (w := w) (base := base) (Y := ⟨O_Wheel, m_Wheel_trusted, m_Wheel_eq, m_Wheel_str, O_Shelf⟩) B n FM_Shelf_iter
  have R_gi := run_Shelf_getitem (P := l.prog) (w := w) (base := base) (Y := ⟨O_Wheel, m_Wheel_trusted, m_Wheel_eq, m_Wheel_str, O_Shelf⟩) B FM_Shelf_getitem
  have R_st := run_starredX (ps := ["self"]) FM_Shelf_stock sc_Shelf_stock (fun _ _ _ _ _ _ us rest hl => match us, hl with | [u], _ => by cases rest <;> rfl) (by decide) (body_Shelf_stock (Y := ⟨O_Wheel, m_Wheel_trusted, m_Wheel_eq, m_Wheel_str, O_Shelf⟩) B D_wr R_go me_Shelf_go T_BadShelf T_TooMany H_BadDeed G_ReachError xs xt) (by intro vs L Q E h; repeat (first | (obtain ⟨e, _⟩ := h; subst e; rfl) | (obtain ⟨_, h⟩ := h)))
  have oi : OwnItem K O_Shelf m_Shelf_getitem := ⟨ma_Shelf_getitem, mi_Shelf_getitem, xfi⟩
  have L_pen := fn_law_pen (P := l.prog) (w := w) (base := base) B F_law_pen
  have L_draw := fn_law_draw (P := l.prog) (w := w) (base := base) B F_law_draw
  have L_pick := fn_law_pick B F_law_pick L_draw
  have L_pickS := fn_law_pickS B F_law_pick L_draw
  have L_name := fn_law_name B F_law_name L_draw L_pick L_pickS
  have L_state := fn_law_state (Y := ⟨O_Wheel, m_Wheel_trusted, m_Wheel_eq, m_Wheel_str, O_Shelf⟩) B F_law_state R_it ma_Shelf_iter mi_Shelf_iter oi R_gi RS
  have L_with := fn_law_with (Y := ⟨O_Wheel, m_Wheel_trusted, m_Wheel_eq, m_Wheel_str, O_Shelf⟩) B F_law_with RS
  have L_row := fn_law_row (Y := ⟨O_Wheel, m_Wheel_trusted, m_Wheel_eq, m_Wheel_str, O_Shelf⟩) B F_law_row L_draw L_pick W5
  have LW : LwD l.prog w K mg base ⟨O_Wheel, m_Wheel_trusted, m_Wheel_eq, m_Wheel_str, O_Shelf⟩ _ _ _ O_Exact _ m_Exact_init m_Shelf_stock m_Shelf_drop m_Shelf_setitem m_Shelf_undo m_Shelf_redo m_Shelf_can_undo m_Shelf_can_redo := ⟨SC, L_draw, L_row, L_state, L_with, ⟨G_Exact, mk_Exact, R_ex⟩, wc_Exact, R_st, me_Shelf_stock, R_dr, me_Shelf_drop, R_si, ⟨nsS, ma_Shelf_setitem, mi_Shelf_setitem⟩, R_un, me_Shelf_undo, R_re, me_Shelf_redo, ⟨_, pr_Shelf_can_undo⟩, ⟨_, pr_Shelf_can_redo⟩, R_cu, R_cr⟩
  have ER : ErD K mg _ _ _ _ := ⟨T_BadDeed.gC, xd, T_BadDeed.ev, T_BadDeed.no "at" (List.mem_singleton.mpr rfl), T_NoName.gC, xm, T_NoName.ev, T_NoName.no "name" (List.mem_singleton.mpr rfl), N_Nothing.gC, xn, ev_Nothing, G_ReachError, rrN⟩
  have L_deed := fn_law_deed B F_law_deed LW ER
  have L_step := fn_law_step B F_law_step LW ER
  have L_stands := fn_law_stands B F_law_stands LW
  have L_led := fn_law_led B F_law_led L_draw L_deed L_step L_stands
  have L_walked := fn_law_walked B F_law_walked L_step L_stands
  have L_same := fn_law_same_right B F_law_same_right LW oi R_gi
  have LM : LwM l.prog w K mg base ⟨O_Wheel, m_Wheel_trusted, m_Wheel_eq, m_Wheel_str, O_Shelf⟩ m_Shelf_init m_Shelf_twin := ⟨SC, G_Shelf, mk_Shelf, R_in, R_tw, me_Shelf_twin, L_name, L_state, L_led, L_walked, L_stands, L_same⟩
  exact fn_entry FL sc_law (fun _ _ _ _ _ _ us hl => match us, hl with | [_], _ => rfl) (by decide) (by intro vs L Q E h; repeat (first | (obtain ⟨e, _⟩ := h; subst e; rfl) | (obtain ⟨_, h⟩ := h))) (law_body B L_pen LM)
theorem walk {l : PySem.W.OpenLaw} {q : Program} {loose : List Str} {XP : (Str → Option Value) → Heap → Prop} {YP : World → Heap → Prop} {d : DefRec} {K : Params → PySem.W.Frag} (hn : l.most = some 63) (hdf : d.params.defaults = [])
    (hY : ∀ (w : World) (h : Heap), YP w h → (K w.params).In h)
    (F : ∀ (w : World) (mg : Str → Option Value) (fa : Addr) (h : Heap), (K w.params).In h → h.Ns mainGlobals mg → mg d.name = some (.ref fa) → LawG q l.prog w (K w.params) 11 mg fa) : PySem.W.WalkO q loose XP YP l.row.toRowW d [] (fun f vs => PySem.call f vs) :=
  walkG (n := 63) hn (by decide) hdf ⟨rfl, by decide, by decide⟩ hY F
end T
open PySem PySem.W PyProof.Rows G in
set_option maxRecDepth 100000 in
set_option maxHeartbeats 0 in
theorem PySem.Challenge.cw_wheelreach_k81_whole_shelves_led_back_an_holds : PySem.Challenge.rw_wheelreach_k81_whole_shelves_led_back_an.Holds := by
  refine T.headT ?_
  k_fill
  refine T.walk (l := PySem.Challenge.rw_wheelreach_k81_whole_shelves_led_back_an) rfl rfl (fun w h Y => by first | exact PySem.W.kIn_of Y | exact PySem.W.km_in_of Y) ?F
  case F =>
    intro w mg fa h KX G hmg
    refine' T.all_mk KX G hmg ?a0 ?l0 ?c0 ?k0 ?a1 ?l1 ?c1 ?k1 ?a2 ?l2 ?c2 ?k2 ?a3 ?l3 ?c3 ?k3 ?a4 ?l4 ?c4 ?k4 ?a5 ?l5 ?c5 ?k5 ?a6 ?l6 ?c6 ?k6 ?a7 ?l7 ?c7 ?k7 ?a8 ?l8 ?c8 ?k8 ?a9 ?l9 ?c9 ?k9 ?a10 ?l10 ?c10 ?k10 ?a11 ?l11 ?c11 ?k11 ?a12 ?l12 ?c12 ?k12 ?a13 ?l13 ?c13 ?k13 ?a14 ?l14 ?c14 ?k14 ?a15 ?l15 ?c15 ?k15 ?a16 ?l16 ?c16 ?k16 ?a17 ?l17 ?c17 ?k17 ?a18 ?l18 ?c18 ?k18 ?z0 ?z1 ?z2 ?z3 ?z4 ?z5 ?z6 ?z7 ?z8 ?z9 ?z10 ?z11 ?z12 ?z13 ?z14 ?z15 ?z16 ?z17 ?z18 ?z19 ?z20 ?z21 ?z22 ?z23 ?z24 ?z25 ?zs ?op ?g1 ?g2 ?g3 ?E_0 ?e0_0 ?E_1 ?e1_0 ?E_2 ?e2_0 ?E_3 ?e3_0 ?E_4 ?e4_0 ?E_5 ?e5_0 ?e5_1 ?E_6 ?e6_0 ?E_7 ?e7_0 ?e7_1 ?d0 ?d1 ?oa_Wheel ?ob_Wheel ?oc_Wheel ?od_Wheel ?oe_Wheel ?of_Wheel ?og_Wheel ?oh_Wheel ?oi_Wheel ?oa_Exact ?ob_Exact ?oc_Exact ?od_Exact ?oe_Exact ?of_Exact ?og_Exact ?oh_Exact ?oi_Exact ?oa_Grid ?ob_Grid ?oc_Grid ?od_Grid ?oe_Grid ?of_Grid ?og_Grid ?oh_Grid ?oi_Grid ?oa_Shelf ?ob_Shelf ?oc_Shelf ?od_Shelf ?oe_Shelf ?of_Shelf ?og_Shelf ?oh_Shelf ?oi_Shelf ?ma_Wheel_init ?ml_Wheel_init ?mc_Wheel_init ?mk_Wheel_init ?mi_Wheel_init ?ma_Wheel_eq ?ml_Wheel_eq ?mc_Wheel_eq ?mk_Wheel_eq ?mi_Wheel_eq ?ma_Wheel_str ?ml_Wheel_str ?mc_Wheel_str ?mk_Wheel_str ?mi_Wheel_str ?ma_Wheel_trusted ?mb_Wheel_trusted ?ml_Wheel_trusted ?mc_Wheel_trusted ?mk_Wheel_trusted ?mi_Wheel_trusted ?ma_Exact_init ?ml_Exact_init ?mc_Exact_init ?mk_Exact_init ?mi_Exact_init ?mx_Exact_init ?my_Exact_init ?mz_Exact_init ?mf_Exact_init ?mg_Exact_init ?ma_Grid_init ?ml_Grid_init ?mc_Grid_init ?mk_Grid_init ?mi_Grid_init ?mx_Grid_init ?my_Grid_init ?mz_Grid_init ?mf_Grid_init ?mg_Grid_init ?ka_Wheel ?kb_Wheel ?ka_Exact ?kb_Exact ?ka_Grid ?kb_Grid ?sa_Exact_Exact_init ?sb_Exact_Exact_init ?sc_Exact_Exact_init ?sd_Exact_Exact_init ?se_Exact_Exact_init ?sa_Grid_Grid_init ?sb_Grid_Grid_init ?sc_Grid_Grid_init ?sd_Grid_Grid_init ?se_Grid_Grid_init ?qa_Wheel ?qb_Wheel ?no_Wheel_period ?no_Wheel_back ?no_Wheel_ahead ?ca_Wheel_TRUSTED ?cb_Wheel_TRUSTED ?cc_Wheel_TRUSTED ?pa_Wheel_trusted ?pb_Wheel_trusted ?pc_Wheel_trusted ?pd_Wheel_trusted ?qa_Exact ?qb_Exact ?no_Exact_period ?no_Exact_back ?no_Exact_ahead ?ca_Exact_TRUSTED ?cb_Exact_TRUSTED ?cc_Exact_TRUSTED ?pa_Exact_trusted ?pb_Exact_trusted ?pc_Exact_trusted ?pd_Exact_trusted ?qa_Grid ?qb_Grid ?no_Grid_period ?no_Grid_back ?no_Grid_ahead ?ca_Grid_TRUSTED ?cb_Grid_TRUSTED ?cc_Grid_TRUSTED ?pa_Grid_trusted ?pb_Grid_trusted ?pc_Grid_trusted ?pd_Grid_trusted ?ma_Shelf_init ?ml_Shelf_init ?mc_Shelf_init ?mk_Shelf_init ?mi_Shelf_init ?ma_Shelf_settle ?ml_Shelf_settle ?mc_Shelf_settle ?mk_Shelf_settle ?mi_Shelf_settle ?ma_Shelf_go ?ml_Shelf_go ?mc_Shelf_go ?mk_Shelf_go ?mi_Shelf_go ?ma_Shelf_need_name ?ml_Shelf_need_name ?mc_Shelf_need_name ?mk_Shelf_need_name ?mi_Shelf_need_name ?ma_Shelf_drop ?ml_Shelf_drop ?mc_Shelf_drop ?mk_Shelf_drop ?mi_Shelf_drop ?ma_Shelf_stock ?ml_Shelf_stock ?mc_Shelf_stock ?mk_Shelf_stock ?mi_Shelf_stock ?ma_Shelf_undo ?ml_Shelf_undo ?mc_Shelf_undo ?mk_Shelf_undo ?mi_Shelf_undo ?ma_Shelf_redo ?ml_Shelf_redo ?mc_Shelf_redo ?mk_Shelf_redo ?mi_Shelf_redo ?ma_Shelf_twin ?ml_Shelf_twin ?mc_Shelf_twin ?mk_Shelf_twin ?mi_Shelf_twin ?ma_Shelf_len ?ml_Shelf_len ?mc_Shelf_len ?mk_Shelf_len ?mi_Shelf_len ?ma_Shelf_iter ?ml_Shelf_iter ?mc_Shelf_iter ?mk_Shelf_iter ?mi_Shelf_iter ?ma_Shelf_getitem ?ml_Shelf_getitem ?mc_Shelf_getitem ?mk_Shelf_getitem ?mi_Shelf_getitem ?ma_Shelf_setitem ?ml_Shelf_setitem ?mc_Shelf_setitem ?mk_Shelf_setitem ?mi_Shelf_setitem ?ma_Shelf_can_undo ?mb_Shelf_can_undo ?ml_Shelf_can_undo ?mc_Shelf_can_undo ?mk_Shelf_can_undo ?mi_Shelf_can_undo ?pa_Shelf_can_undo ?pb_Shelf_can_undo ?pc_Shelf_can_undo ?pd_Shelf_can_undo ?ma_Shelf_can_redo ?mb_Shelf_can_redo ?ml_Shelf_can_redo ?mc_Shelf_can_redo ?mk_Shelf_can_redo ?mi_Shelf_can_redo ?pa_Shelf_can_redo ?pb_Shelf_can_redo ?pc_Shelf_can_redo ?pd_Shelf_can_redo ?ka_Shelf ?kb_Shelf ?no_Shelf_own_rows ?no_Shelf_own_names ?no_Shelf_own_past ?no_Shelf_own_future ?xa_Shelf_settle ?xa_Shelf_go ?xa_Shelf_need_name ?xa_Shelf_drop ?xa_Shelf_stock ?xa_Shelf_undo ?xa_Shelf_redo ?xa_Shelf_twin ?na_Nothing ?nb_Nothing ?nc_Nothing ?nd_Nothing ?ne_Nothing ?nf_Nothing ?ng_Nothing ?nh_Nothing ?ga_MOST ?r_MOST ?ga_LETTERS ?r_LETTERS ?ga_MOST_LETTERS ?r_MOST_LETTERS ?ga_MOST_NAMES ?r_MOST_NAMES ?ga_MOST_PRICE ?r_MOST_PRICE ?st_Wheel ?kd_Wheel ?st_Exact ?kd_Exact ?st_Grid ?kd_Grid ?tyN ?nsS ?rrN ?xm ?xn ?xfi ?xs ?xt ?xd
    (case a0 => k_is)
    (case l0 => k_is)
    (case c0 => k_is)
    (case k0 => k_is)
    (case a1 => k_is)
    (case l1 => k_is)
    (case c1 => k_is)
    (case k1 => k_is)
    (case a2 => k_is)
    (case l2 => k_is)
    (case c2 => k_is)
    (case k2 => k_is)
    (case a3 => k_is)
    (case l3 => k_is)
    (case c3 => k_is)
    (case k3 => k_is)
    (case a4 => k_is)
    (case l4 => k_is)
    (case c4 => k_is)
    (case k4 => k_is)
    (case a5 => k_is)
    (case l5 => k_is)
    (case c5 => k_is)
    (case k5 => k_is)
    (case a6 => k_is)
    (case l6 => k_is)
    (case c6 => k_is)
    (case k6 => k_is)
    (case a7 => k_is)
    (case l7 => k_is)
    (case c7 => k_is)
    (case k7 => k_is)
    (case a8 => k_is)
    (case l8 => k_is)
    (case c8 => k_is)
    (case k8 => k_is)
    (case a9 => k_is)
    (case l9 => k_is)
    (case c9 => k_is)
    (case k9 => k_is)
    (case a10 => k_is)
    (case l10 => k_is)
    (case c10 => k_is)
    (case k10 => k_is)
    (case a11 => k_is)
    (case l11 => k_is)
    (case c11 => k_is)
    (case k11 => k_is)
    (case a12 => k_is)
    (case l12 => k_is)
    (case c12 => k_is)
    (case k12 => k_is)
    (case a13 => k_is)
    (case l13 => k_is)
    (case c13 => k_is)
    (case k13 => k_is)
    (case a14 => k_is)
    (case l14 => k_is)
    (case c14 => k_is)
    (case k14 => k_is)
    (case a15 => k_is)
    (case l15 => k_is)
    (case c15 => k_is)
    (case k15 => k_is)
    (case a16 => k_is)
    (case l16 => k_is)
    (case c16 => k_is)
    (case k16 => k_is)
    (case a17 => k_is)
    (case l17 => k_is)
    (case c17 => k_is)
    (case k17 => k_is)
    (case a18 => k_is)
    (case l18 => k_is)
    (case c18 => k_is)
    (case k18 => k_is)
    (case z0 => k_is)
    (case z1 => k_is)
    (case z2 => k_is)
    (case z3 => k_is)
    (case z4 => k_is)
    (case z5 => k_is)
    (case z6 => k_is)
    (case z7 => k_is)
    (case z8 => k_is)
    (case z9 => k_is)
    (case z10 => k_is)
    (case z11 => k_is)
    (case z12 => k_is)
    (case z13 => k_is)
    (case z14 => k_is)
    (case z15 => k_is)
    (case z16 => k_is)
    (case z17 => k_is)
    (case z18 => k_is)
    (case z19 => k_is)
    (case z20 => k_is)
    (case z21 => k_is)
    (case z22 => k_is)
    (case z23 => k_is)
    (case z24 => k_is)
    (case z25 => k_is)
    (case zs => k_is)
    (case op => k_is)
    (case g1 => k_is)
    (case g2 => k_is)
    (case g3 => rfl)
    (case E_0 => (refine' ErrFacts.mk ?y_a1 ?y_a2 ?y_a3 ?y_a4 ?y_a5 ?y_a6 ?y_a7 ?y_a8 ?y_a9 ?y_b1 ?y_b2 ?y_b3 ?y_b4 ?y_b5 ?y_b6 ?y_b7 ?y_b8 ?y_b9 ?y_c1 ?y_c2 ?y_c3 ?y_c4 ?y_c5 ?y_c6; (case y_a1 => k_is); (case y_a2 => k_is); (case y_a3 => rfl); (case y_a4 => k_is); (case y_a5 => k_is); (case y_a6 => k_is); (case y_a7 => k_is); (case y_a8 => k_is); (case y_a9 => k_is); (case y_b1 => first | kernel_rfl | rfl | decide +kernel); (case y_b2 => k_is); (case y_b3 => k_is); (case y_b4 => k_is); (case y_b5 => k_is); (case y_b6 => k_is); (case y_b7 => k_is); (case y_b8 => rfl); (case y_b9 => rfl); (case y_c1 => k_is); (case y_c2 => k_is); (case y_c3 => k_is); (case y_c4 => k_is); (case y_c5 => k_is); (case y_c6 => k_is)))
    (case e0_0 => k_is)
    (case E_1 => (refine' ErrFacts.mk ?y_a1 ?y_a2 ?y_a3 ?y_a4 ?y_a5 ?y_a6 ?y_a7 ?y_a8 ?y_a9 ?y_b1 ?y_b2 ?y_b3 ?y_b4 ?y_b5 ?y_b6 ?y_b7 ?y_b8 ?y_b9 ?y_c1 ?y_c2 ?y_c3 ?y_c4 ?y_c5 ?y_c6; (case y_a1 => k_is); (case y_a2 => k_is); (case y_a3 => rfl); (case y_a4 => k_is); (case y_a5 => k_is); (case y_a6 => k_is); (case y_a7 => k_is); (case y_a8 => k_is); (case y_a9 => k_is); (case y_b1 => first | kernel_rfl | rfl | decide +kernel); (case y_b2 => k_is); (case y_b3 => k_is); (case y_b4 => k_is); (case y_b5 => k_is); (case y_b6 => k_is); (case y_b7 => k_is); (case y_b8 => rfl); (case y_b9 => rfl); (case y_c1 => k_is); (case y_c2 => k_is); (case y_c3 => k_is); (case y_c4 => k_is); (case y_c5 => k_is); (case y_c6 => k_is)))
    (case e1_0 => k_is)
    (case E_2 => (refine' ErrFacts.mk ?y_a1 ?y_a2 ?y_a3 ?y_a4 ?y_a5 ?y_a6 ?y_a7 ?y_a8 ?y_a9 ?y_b1 ?y_b2 ?y_b3 ?y_b4 ?y_b5 ?y_b6 ?y_b7 ?y_b8 ?y_b9 ?y_c1 ?y_c2 ?y_c3 ?y_c4 ?y_c5 ?y_c6; (case y_a1 => k_is); (case y_a2 => k_is); (case y_a3 => rfl); (case y_a4 => k_is); (case y_a5 => k_is); (case y_a6 => k_is); (case y_a7 => k_is); (case y_a8 => k_is); (case y_a9 => k_is); (case y_b1 => first | kernel_rfl | rfl | decide +kernel); (case y_b2 => k_is); (case y_b3 => k_is); (case y_b4 => k_is); (case y_b5 => k_is); (case y_b6 => k_is); (case y_b7 => k_is); (case y_b8 => rfl); (case y_b9 => rfl); (case y_c1 => k_is); (case y_c2 => k_is); (case y_c3 => k_is); (case y_c4 => k_is); (case y_c5 => k_is); (case y_c6 => k_is)))
    (case e2_0 => k_is)
    (case E_3 => (refine' ErrFacts.mk ?y_a1 ?y_a2 ?y_a3 ?y_a4 ?y_a5 ?y_a6 ?y_a7 ?y_a8 ?y_a9 ?y_b1 ?y_b2 ?y_b3 ?y_b4 ?y_b5 ?y_b6 ?y_b7 ?y_b8 ?y_b9 ?y_c1 ?y_c2 ?y_c3 ?y_c4 ?y_c5 ?y_c6; (case y_a1 => k_is); (case y_a2 => k_is); (case y_a3 => rfl); (case y_a4 => k_is); (case y_a5 => k_is); (case y_a6 => k_is); (case y_a7 => k_is); (case y_a8 => k_is); (case y_a9 => k_is); (case y_b1 => first | kernel_rfl | rfl | decide +kernel); (case y_b2 => k_is); (case y_b3 => k_is); (case y_b4 => k_is); (case y_b5 => k_is); (case y_b6 => k_is); (case y_b7 => k_is); (case y_b8 => rfl); (case y_b9 => rfl); (case y_c1 => k_is); (case y_c2 => k_is); (case y_c3 => k_is); (case y_c4 => k_is); (case y_c5 => k_is); (case y_c6 => k_is)))
    (case e3_0 => k_is)
    (case E_4 => (refine' ErrFacts.mk ?y_a1 ?y_a2 ?y_a3 ?y_a4 ?y_a5 ?y_a6 ?y_a7 ?y_a8 ?y_a9 ?y_b1 ?y_b2 ?y_b3 ?y_b4 ?y_b5 ?y_b6 ?y_b7 ?y_b8 ?y_b9 ?y_c1 ?y_c2 ?y_c3 ?y_c4 ?y_c5 ?y_c6; (case y_a1 => k_is); (case y_a2 => k_is); (case y_a3 => rfl); (case y_a4 => k_is); (case y_a5 => k_is); (case y_a6 => k_is); (case y_a7 => k_is); (case y_a8 => k_is); (case y_a9 => k_is); (case y_b1 => first | kernel_rfl | rfl | decide +kernel); (case y_b2 => k_is); (case y_b3 => k_is); (case y_b4 => k_is); (case y_b5 => k_is); (case y_b6 => k_is); (case y_b7 => k_is); (case y_b8 => rfl); (case y_b9 => rfl); (case y_c1 => k_is); (case y_c2 => k_is); (case y_c3 => k_is); (case y_c4 => k_is); (case y_c5 => k_is); (case y_c6 => k_is)))
    (case e4_0 => k_is)
    (case E_5 => (refine' ErrFacts.mk ?y_a1 ?y_a2 ?y_a3 ?y_a4 ?y_a5 ?y_a6 ?y_a7 ?y_a8 ?y_a9 ?y_b1 ?y_b2 ?y_b3 ?y_b4 ?y_b5 ?y_b6 ?y_b7 ?y_b8 ?y_b9 ?y_c1 ?y_c2 ?y_c3 ?y_c4 ?y_c5 ?y_c6; (case y_a1 => k_is); (case y_a2 => k_is); (case y_a3 => rfl); (case y_a4 => k_is); (case y_a5 => k_is); (case y_a6 => k_is); (case y_a7 => k_is); (case y_a8 => k_is); (case y_a9 => k_is); (case y_b1 => first | kernel_rfl | rfl | decide +kernel); (case y_b2 => k_is); (case y_b3 => k_is); (case y_b4 => k_is); (case y_b5 => k_is); (case y_b6 => k_is); (case y_b7 => k_is); (case y_b8 => rfl); (case y_b9 => rfl); (case y_c1 => k_is); (case y_c2 => k_is); (case y_c3 => k_is); (case y_c4 => k_is); (case y_c5 => k_is); (case y_c6 => k_is)))
    (case e5_0 => k_is)
    (case e5_1 => k_is)
    (case E_6 => (refine' ErrFacts.mk ?y_a1 ?y_a2 ?y_a3 ?y_a4 ?y_a5 ?y_a6 ?y_a7 ?y_a8 ?y_a9 ?y_b1 ?y_b2 ?y_b3 ?y_b4 ?y_b5 ?y_b6 ?y_b7 ?y_b8 ?y_b9 ?y_c1 ?y_c2 ?y_c3 ?y_c4 ?y_c5 ?y_c6; (case y_a1 => k_is); (case y_a2 => k_is); (case y_a3 => rfl); (case y_a4 => k_is); (case y_a5 => k_is); (case y_a6 => k_is); (case y_a7 => k_is); (case y_a8 => k_is); (case y_a9 => k_is); (case y_b1 => first | kernel_rfl | rfl | decide +kernel); (case y_b2 => k_is); (case y_b3 => k_is); (case y_b4 => k_is); (case y_b5 => k_is); (case y_b6 => k_is); (case y_b7 => k_is); (case y_b8 => rfl); (case y_b9 => rfl); (case y_c1 => k_is); (case y_c2 => k_is); (case y_c3 => k_is); (case y_c4 => k_is); (case y_c5 => k_is); (case y_c6 => k_is)))
    (case e6_0 => k_is)
    (case E_7 => (refine' ErrFacts.mk ?y_a1 ?y_a2 ?y_a3 ?y_a4 ?y_a5 ?y_a6 ?y_a7 ?y_a8 ?y_a9 ?y_b1 ?y_b2 ?y_b3 ?y_b4 ?y_b5 ?y_b6 ?y_b7 ?y_b8 ?y_b9 ?y_c1 ?y_c2 ?y_c3 ?y_c4 ?y_c5 ?y_c6; (case y_a1 => k_is); (case y_a2 => k_is); (case y_a3 => rfl); (case y_a4 => k_is); (case y_a5 => k_is); (case y_a6 => k_is); (case y_a7 => k_is); (case y_a8 => k_is); (case y_a9 => k_is); (case y_b1 => first | kernel_rfl | rfl | decide +kernel); (case y_b2 => k_is); (case y_b3 => k_is); (case y_b4 => k_is); (case y_b5 => k_is); (case y_b6 => k_is); (case y_b7 => k_is); (case y_b8 => rfl); (case y_b9 => rfl); (case y_c1 => k_is); (case y_c2 => k_is); (case y_c3 => k_is); (case y_c4 => k_is); (case y_c5 => k_is); (case y_c6 => k_is)))
    (case e7_0 => k_is)
    (case e7_1 => k_is)
    (case d0 => k_is)
    (case d1 => k_is)
    (case oa_Wheel => k_is)
    (case ob_Wheel => k_is)
    (case oc_Wheel => k_is)
    (case od_Wheel => k_is)
    (case oe_Wheel => k_is)
    (case of_Wheel => k_is)
    (case og_Wheel => k_is)
    (case oh_Wheel => k_is)
    (case oi_Wheel => k_is)
    (case oa_Exact => k_is)
    (case ob_Exact => k_is)
    (case oc_Exact => k_is)
    (case od_Exact => k_is)
    (case oe_Exact => k_is)
    (case of_Exact => k_is)
    (case og_Exact => k_is)
    (case oh_Exact => k_is)
    (case oi_Exact => k_is)
    (case oa_Grid => k_is)
    (case ob_Grid => k_is)
    (case oc_Grid => k_is)
    (case od_Grid => k_is)
    (case oe_Grid => k_is)
    (case of_Grid => k_is)
    (case og_Grid => k_is)
    (case oh_Grid => k_is)
    (case oi_Grid => k_is)
    (case oa_Shelf => k_is)
    (case ob_Shelf => k_is)
    (case oc_Shelf => k_is)
    (case od_Shelf => k_is)
    (case oe_Shelf => k_is)
    (case of_Shelf => k_is)
    (case og_Shelf => k_is)
    (case oh_Shelf => k_is)
    (case oi_Shelf => k_is)
    (case ma_Wheel_init => k_is)
    (case ml_Wheel_init => k_is)
    (case mc_Wheel_init => k_is)
    (case mk_Wheel_init => k_is)
    (case mi_Wheel_init => k_is)
    (case ma_Wheel_eq => k_is)
    (case ml_Wheel_eq => k_is)
    (case mc_Wheel_eq => k_is)
    (case mk_Wheel_eq => k_is)
    (case mi_Wheel_eq => k_is)
    (case ma_Wheel_str => k_is)
    (case ml_Wheel_str => k_is)
    (case mc_Wheel_str => k_is)
    (case mk_Wheel_str => k_is)
    (case mi_Wheel_str => k_is)
    (case ma_Wheel_trusted => k_is)
    (case mb_Wheel_trusted => k_is)
    (case ml_Wheel_trusted => k_is)
    (case mc_Wheel_trusted => k_is)
    (case mk_Wheel_trusted => k_is)
    (case mi_Wheel_trusted => k_is)
    (case ma_Exact_init => k_is)
    (case ml_Exact_init => k_is)
    (case mc_Exact_init => k_is)
    (case mk_Exact_init => k_is)
    (case mi_Exact_init => k_is)
    (case mx_Exact_init => k_is)
    (case my_Exact_init => k_is)
    (case mz_Exact_init => rfl)
    (case mf_Exact_init => rfl)
    (case mg_Exact_init => k_is)
    (case ma_Grid_init => k_is)
    (case ml_Grid_init => k_is)
    (case mc_Grid_init => k_is)
    (case mk_Grid_init => k_is)
    (case mi_Grid_init => k_is)
    (case mx_Grid_init => k_is)
    (case my_Grid_init => k_is)
    (case mz_Grid_init => rfl)
    (case mf_Grid_init => rfl)
    (case mg_Grid_init => k_is)
    (case ka_Wheel => k_is)
    (case kb_Wheel => k_is)
    (case ka_Exact => k_is)
    (case kb_Exact => k_is)
    (case ka_Grid => k_is)
    (case kb_Grid => k_is)
    (case sa_Exact_Exact_init => first | kernel_rfl | rfl | decide +kernel)
    (case sb_Exact_Exact_init => k_is)
    (case sc_Exact_Exact_init => k_is)
    (case sd_Exact_Exact_init => k_is)
    (case se_Exact_Exact_init => k_is)
    (case sa_Grid_Grid_init => first | kernel_rfl | rfl | decide +kernel)
    (case sb_Grid_Grid_init => k_is)
    (case sc_Grid_Grid_init => k_is)
    (case sd_Grid_Grid_init => k_is)
    (case se_Grid_Grid_init => k_is)
    (case qa_Wheel => k_is)
    (case qb_Wheel => k_is)
    (case no_Wheel_period => k_is)
    (case no_Wheel_back => k_is)
    (case no_Wheel_ahead => k_is)
    (case ca_Wheel_TRUSTED => k_is)
    (case cb_Wheel_TRUSTED => first | exact rfl | exact ⟨_, rfl⟩)
    (case cc_Wheel_TRUSTED => k_is)
    (case pa_Wheel_trusted => k_is)
    (case pb_Wheel_trusted => k_is)
    (case pc_Wheel_trusted => k_is)
    (case pd_Wheel_trusted => k_is)
    (case qa_Exact => k_is)
    (case qb_Exact => k_is)
    (case no_Exact_period => k_is)
    (case no_Exact_back => k_is)
    (case no_Exact_ahead => k_is)
    (case ca_Exact_TRUSTED => k_is)
    (case cb_Exact_TRUSTED => first | exact rfl | exact ⟨_, rfl⟩)
    (case cc_Exact_TRUSTED => k_is)
    (case pa_Exact_trusted => k_is)
    (case pb_Exact_trusted => k_is)
    (case pc_Exact_trusted => k_is)
    (case pd_Exact_trusted => k_is)
    (case qa_Grid => k_is)
    (case qb_Grid => k_is)
    (case no_Grid_period => k_is)
    (case no_Grid_back => k_is)
    (case no_Grid_ahead => k_is)
    (case ca_Grid_TRUSTED => k_is)
    (case cb_Grid_TRUSTED => first | exact rfl | exact ⟨_, rfl⟩)
    (case cc_Grid_TRUSTED => k_is)
    (case pa_Grid_trusted => k_is)
    (case pb_Grid_trusted => k_is)
    (case pc_Grid_trusted => k_is)
    (case pd_Grid_trusted => k_is)
    (case ma_Shelf_init => k_is)
    (case ml_Shelf_init => k_is)
    (case mc_Shelf_init => k_is)
    (case mk_Shelf_init => k_is)
    (case mi_Shelf_init => k_is)
    (case ma_Shelf_settle => k_is)
    (case ml_Shelf_settle => k_is)
    (case mc_Shelf_settle => k_is)
    (case mk_Shelf_settle => k_is)
    (case mi_Shelf_settle => k_is)
    (case ma_Shelf_go => k_is)
    (case ml_Shelf_go => k_is)
    (case mc_Shelf_go => k_is)
    (case mk_Shelf_go => k_is)
    (case mi_Shelf_go => k_is)
    (case ma_Shelf_need_name => k_is)
    (case ml_Shelf_need_name => k_is)
    (case mc_Shelf_need_name => k_is)
    (case mk_Shelf_need_name => k_is)
    (case mi_Shelf_need_name => k_is)
    (case ma_Shelf_drop => k_is)
    (case ml_Shelf_drop => k_is)
    (case mc_Shelf_drop => k_is)
    (case mk_Shelf_drop => k_is)
    (case mi_Shelf_drop => k_is)
    (case ma_Shelf_stock => k_is)
    (case ml_Shelf_stock => k_is)
    (case mc_Shelf_stock => k_is)
    (case mk_Shelf_stock => k_is)
    (case mi_Shelf_stock => k_is)
    (case ma_Shelf_undo => k_is)
    (case ml_Shelf_undo => k_is)
    (case mc_Shelf_undo => k_is)
    (case mk_Shelf_undo => k_is)
    (case mi_Shelf_undo => k_is)
    (case ma_Shelf_redo => k_is)
    (case ml_Shelf_redo => k_is)
    (case mc_Shelf_redo => k_is)
    (case mk_Shelf_redo => k_is)
    (case mi_Shelf_redo => k_is)
    (case ma_Shelf_twin => k_is)
    (case ml_Shelf_twin => k_is)
    (case mc_Shelf_twin => k_is)
    (case mk_Shelf_twin => k_is)
    (case mi_Shelf_twin => k_is)
    (case ma_Shelf_len => k_is)
    (case ml_Shelf_len => k_is)
    (case mc_Shelf_len => k_is)
    (case mk_Shelf_len => k_is)
    (case mi_Shelf_len => k_is)
    (case ma_Shelf_iter => k_is)
    (case ml_Shelf_iter => k_is)
    (case mc_Shelf_iter => k_is)
    (case mk_Shelf_iter => k_is)
    (case mi_Shelf_iter => k_is)
    (case ma_Shelf_getitem => k_is)
    (case ml_Shelf_getitem => k_is)
    (case mc_Shelf_getitem => k_is)
    (case mk_Shelf_getitem => k_is)
    (case mi_Shelf_getitem => k_is)
    (case ma_Shelf_setitem => k_is)
    (case ml_Shelf_setitem => k_is)
    (case mc_Shelf_setitem => k_is)
    (case mk_Shelf_setitem => k_is)
    (case mi_Shelf_setitem => k_is)
    (case ma_Shelf_can_undo => k_is)
    (case mb_Shelf_can_undo => k_is)
    (case ml_Shelf_can_undo => k_is)
    (case mc_Shelf_can_undo => k_is)
    (case mk_Shelf_can_undo => k_is)
    (case mi_Shelf_can_undo => k_is)
    (case pa_Shelf_can_undo => k_is)
    (case pb_Shelf_can_undo => k_is)
    (case pc_Shelf_can_undo => k_is)
    (case pd_Shelf_can_undo => k_is)
    (case ma_Shelf_can_redo => k_is)
    (case mb_Shelf_can_redo => k_is)
    (case ml_Shelf_can_redo => k_is)
    (case mc_Shelf_can_redo => k_is)
    (case mk_Shelf_can_redo => k_is)
    (case mi_Shelf_can_redo => k_is)
    (case pa_Shelf_can_redo => k_is)
    (case pb_Shelf_can_redo => k_is)
    (case pc_Shelf_can_redo => k_is)
    (case pd_Shelf_can_redo => k_is)
    (case ka_Shelf => k_is)
    (case kb_Shelf => k_is)
    (case no_Shelf_own_rows => k_is)
    (case no_Shelf_own_names => k_is)
    (case no_Shelf_own_past => k_is)
    (case no_Shelf_own_future => k_is)
    (case xa_Shelf_settle => k_is)
    (case xa_Shelf_go => k_is)
    (case xa_Shelf_need_name => k_is)
    (case xa_Shelf_drop => k_is)
    (case xa_Shelf_stock => k_is)
    (case xa_Shelf_undo => k_is)
    (case xa_Shelf_redo => k_is)
    (case xa_Shelf_twin => k_is)
    (case na_Nothing => k_exc)
    (case nb_Nothing => k_is)
    (case nc_Nothing => k_is)
    (case nd_Nothing => k_is)
    (case ne_Nothing => k_is)
    (case nf_Nothing => k_is)
    (case ng_Nothing => k_is)
    (case nh_Nothing => k_is)
    (case ga_MOST => k_is)
    (case r_MOST => first | exact rfl | exact ⟨_, rfl⟩)
    (case ga_LETTERS => k_is)
    (case r_LETTERS => first | exact rfl | exact ⟨_, rfl⟩)
    (case ga_MOST_LETTERS => k_is)
    (case r_MOST_LETTERS => first | exact rfl | exact ⟨_, rfl⟩)
    (case ga_MOST_NAMES => k_is)
    (case r_MOST_NAMES => first | exact rfl | exact ⟨_, rfl⟩)
    (case ga_MOST_PRICE => k_is)
    (case r_MOST_PRICE => first | exact rfl | exact ⟨_, rfl⟩)
    (case st_Wheel => first | kts_exm | kit_is | k_is | decide +kernel)
    (case kd_Wheel => first | kts_exm | kit_is | k_is | decide +kernel)
    (case st_Exact => first | kts_exm | kit_is | k_is | decide +kernel)
    (case kd_Exact => first | kts_exm | kit_is | k_is | decide +kernel)
    (case st_Grid => first | kts_exm | kit_is | k_is | decide +kernel)
    (case kd_Grid => first | kts_exm | kit_is | k_is | decide +kernel)
    (case tyN => first | kts_exm | kit_is | k_is | decide +kernel)
    (case nsS => first | kts_exm | kit_is | k_is | decide +kernel)
    (case rrN => first | kts_exm | kit_is | k_is | decide +kernel)
    (case xm => first | kts_exm | kit_is | k_is | decide +kernel)
    (case xn => first | kts_exm | kit_is | k_is | decide +kernel)
    (case xfi => first | kts_exm | kit_is | k_is | decide +kernel)
    (case xs => first | kts_exm | kit_is | k_is | decide +kernel)
    (case xt => first | kts_exm | kit_is | k_is | decide +kernel)
    (case xd => first | kts_exm | kit_is | k_is | decide +kernel)
