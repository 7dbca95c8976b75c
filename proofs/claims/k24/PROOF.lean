import PyProof.Rows.All
import Wide.All
import OpenK.AllK
import Wide.FinOn
import HandS.ForMost
import HandS.ForExc
import HandS.Wide
import HandS.Star
import HandS.IsInst
import HandS.Style
import HandS.Flow
import HandS.Lambda
import HandS.EndTab
import HandS.Nested
import HandS.Comp
import HandS.ExcInit
import HandS.ExcField
import HandS.ExcOwn
import HandS.ExcIs
import KE.KExcSuper
import HandS.Walk
import HandS.Zip
import HandS.Rev
import HandS.Iter
import HandS.RaiseMore
import PyProof.Rows.NestShow
import HandS.CallLocal
import PyProof.ReprLen
import PyProof.Rows.ReprItems
import PyProof.Rows.RegStrFacts
import HandS.MakeKw
import HandS.MakeKwOnly
import HandS.Property
import KE.KSuper
import PyProof.InstEq
import HandS.SortInts
import KE.GoesMore
import KE.DataMinMax
import HandS.SlotsOwn
import HandS.ClsMeth
import HandS.FStr
import HandS.SetFor
import KE.KCallOwn
import HandS.ExcValue
import HandS.SortRule
import HandS.New0
import HandS.IterVal
import OpenK.KMeth
import KE.KOwnIter
import HandS.DictSub
import KE.KOpsOwn
import KE.KStar
import KE.GoesZip
import KE.GoesEnum
import PyProof.LongRange
import PyProof.NoPylong
import HandS.OwnEq
import KE.OsRunLaw
import OpenK.KOps
import HandS.ListEq
import HandS.Conv
import HandS.TupAny
import HandS.TryOnly
import HandS.Text
import HandS.Steps
import HandS.Dict
import PySem.Challenge.RW_wheelreach_k24_differences_parted
set_option Elab.async false
set_option linter.all false
set_option maxRecDepth 100000
set_option maxHeartbeats 4000000
namespace T
set_option maxHeartbeats 0
section
open PySem PySem.W PySem.Calls PyProof.Rows HeadRun
theorem splitRun {α β γ : Type} {o : Option α} {f : α → β} {g : α → γ} {a : β} {b : γ} (h1 : o.map f = some a) (h2 : o.map g = some b) : o.map (fun s => (f s, g s)) = some (a, b) := by
  cases o with
  | none => cases h1
  | some s =>
    have e1 : f s = a := Option.some.inj h1
    have e2 : g s = b := Option.some.inj h2
    rw [← e1, ← e2]
    rfl
theorem joinRun {α β γ : Type} {o : Option α} {f : α → β × γ} {a : β} {b : γ} (h1 : o.map (fun s => (f s).1) = some a) (h2 : o.map (fun s => (f s).2) = some b) : o.map f = some (a, b) := by
  cases o with
  | none => cases h1
  | some s =>
    have e1 : (f s).1 = a := Option.some.inj h1
    have e2 : (f s).2 = b := Option.some.inj h2
    rw [← e1, ← e2]
    rfl
theorem viaRun {α β : Type} {o : Option α} {f g : α → β} {a c : β} (h : o.map f = some a) (e1 : f = g) (e2 : a = c) : o.map g = some c := e1 ▸ e2 ▸ h
def keepAt : List Nat → List Stmt → List Stmt
  | [], _ => []
  | i :: is, l => match l.drop i with | s :: _ => s :: keepAt is l | [] => []
def qv : Program := { (PySem.Challenge.rw_wheelreach_k24_differences_parted).row.prog with main := { (Program.main (PySem.Challenge.rw_wheelreach_k24_differences_parted).row.prog) with body := keepAt [0, 2, 3, 4, 5, 6, 7, 8, 9, 10, 12, 13, 14, 15, 16, 17, 18, 19, 21, 22, 23, 24, 25, 26, 27, 28, 29, 30, 31, 32, 33, 34, 35, 36, 38, 39, 40, 41, 42, 43, 44, 45, 46, 47, 48, 49, 50, 51, 52, 53, 54, 55, 57, 58, 59, 60, 61, 62, 64, 65, 66, 67, 68, 69, 70, 71, 72, 73, 75, 76, 77, 78, 79, 80, 81, 82, 83, 84] (Module.body (Program.main (PySem.Challenge.rw_wheelreach_k24_differences_parted).row.prog)) } }
theorem fstRun {α β γ : Type} {o : Option α} {f : α → β} {g : α → γ} {a : β} {b : γ} (h : o.map (fun s => (f s, g s)) = some (a, b)) : o.map f = some a := by
  cases o with
  | none => cases h
  | some s => exact congrArg some (Prod.mk.inj (Option.some.inj h)).1
theorem sndRun {α β γ : Type} {o : Option α} {f : α → β} {g : α → γ} {a : β} {b : γ} (h : o.map (fun s => (f s, g s)) = some (a, b)) : o.map g = some b := by
  cases o with
  | none => cases h
  | some s => exact congrArg some (Prod.mk.inj (Option.some.inj h)).2
theorem runG0 (w : World) (os : OsState) : (endF (stepQ (denQ tabQ) (PySem.Challenge.rw_wheelreach_k24_differences_parted).row.prog w) 17030 (PySem.Challenge.rw_wheelreach_k24_differences_parted).row.prog w os).map (fun s => (looksF (PySem.Challenge.rw_wheelreach_k24_differences_parted).row.prog (boot_heap w.params) s.abs, ((seenQ qv [Str.ofString "MOST_PERIOD", Str.ofString "MOST_TIMES", Str.ofString "Lot", Str.ofString "MOST", Str.ofString "Wheel", Str.ofString "Grid"] (importedModules (Module.body (Program.main (PySem.Challenge.rw_wheelreach_k24_differences_parted).row.prog))) (fun s => xlAt qv [(Str.ofString "MOST_PERIOD", WData.int 10000000000000000000000000000000000000000000000000000000000000000000000000000000000000000000000000000), (Str.ofString "MOST_TIMES", WData.int 1000000000000000000000000000000), (Str.ofString "MOST", WData.int 1000000000000)] s && recOk [] s) s.abs).2.1), ((seenQ qv [Str.ofString "MOST_PERIOD", Str.ofString "MOST_TIMES", Str.ofString "Lot", Str.ofString "MOST", Str.ofString "Wheel", Str.ofString "Grid"] (importedModules (Module.body (Program.main (PySem.Challenge.rw_wheelreach_k24_differences_parted).row.prog))) (fun s => xlAt qv [(Str.ofString "MOST_PERIOD", WData.int 10000000000000000000000000000000000000000000000000000000000000000000000000000000000000000000000000000), (Str.ofString "MOST_TIMES", WData.int 1000000000000000000000000000000), (Str.ofString "MOST", WData.int 1000000000000)] s && recOk [] s) s.abs).2.2.2.2.1))) = some (true, bltViewBooted, (pinGoodD (drecsOf qv))) := by kernel_rfl
theorem runA (w : World) (os : OsState) : (endF (stepQ (denQ tabQ) (PySem.Challenge.rw_wheelreach_k24_differences_parted).row.prog w) 17030 (PySem.Challenge.rw_wheelreach_k24_differences_parted).row.prog w os).map (fun s => looksF (PySem.Challenge.rw_wheelreach_k24_differences_parted).row.prog (boot_heap w.params) s.abs) = some true := (fstRun (runG0 w os))
theorem runP1 (w : World) (os : OsState) : (endF (stepQ (denQ tabQ) (PySem.Challenge.rw_wheelreach_k24_differences_parted).row.prog w) 17030 (PySem.Challenge.rw_wheelreach_k24_differences_parted).row.prog w os).map (fun s => ((seenQ qv [Str.ofString "MOST_PERIOD", Str.ofString "MOST_TIMES", Str.ofString "Lot", Str.ofString "MOST", Str.ofString "Wheel", Str.ofString "Grid"] (importedModules (Module.body (Program.main (PySem.Challenge.rw_wheelreach_k24_differences_parted).row.prog))) (fun s => xlAt qv [(Str.ofString "MOST_PERIOD", WData.int 10000000000000000000000000000000000000000000000000000000000000000000000000000000000000000000000000000), (Str.ofString "MOST_TIMES", WData.int 1000000000000000000000000000000), (Str.ofString "MOST", WData.int 1000000000000)] s && recOk [] s) s.abs).2.1)) = some bltViewBooted := (fstRun (sndRun (runG0 w os)))
theorem runP4 (w : World) (os : OsState) : (endF (stepQ (denQ tabQ) (PySem.Challenge.rw_wheelreach_k24_differences_parted).row.prog w) 17030 (PySem.Challenge.rw_wheelreach_k24_differences_parted).row.prog w os).map (fun s => ((seenQ qv [Str.ofString "MOST_PERIOD", Str.ofString "MOST_TIMES", Str.ofString "Lot", Str.ofString "MOST", Str.ofString "Wheel", Str.ofString "Grid"] (importedModules (Module.body (Program.main (PySem.Challenge.rw_wheelreach_k24_differences_parted).row.prog))) (fun s => xlAt qv [(Str.ofString "MOST_PERIOD", WData.int 10000000000000000000000000000000000000000000000000000000000000000000000000000000000000000000000000000), (Str.ofString "MOST_TIMES", WData.int 1000000000000000000000000000000), (Str.ofString "MOST", WData.int 1000000000000)] s && recOk [] s) s.abs).2.2.2.2.1)) = some (pinGoodD (drecsOf qv)) := (sndRun (sndRun (runG0 w os)))
theorem runG1 (w : World) (os : OsState) : (endF (stepQ (denQ tabQ) (PySem.Challenge.rw_wheelreach_k24_differences_parted).row.prog w) 17030 (PySem.Challenge.rw_wheelreach_k24_differences_parted).row.prog w os).map (fun s => (((seenQ qv [Str.ofString "MOST_PERIOD", Str.ofString "MOST_TIMES", Str.ofString "Lot", Str.ofString "MOST", Str.ofString "Wheel", Str.ofString "Grid"] (importedModules (Module.body (Program.main (PySem.Challenge.rw_wheelreach_k24_differences_parted).row.prog))) (fun s => xlAt qv [(Str.ofString "MOST_PERIOD", WData.int 10000000000000000000000000000000000000000000000000000000000000000000000000000000000000000000000000000), (Str.ofString "MOST_TIMES", WData.int 1000000000000000000000000000000), (Str.ofString "MOST", WData.int 1000000000000)] s && recOk [] s) s.abs).1), ((seenQ qv [Str.ofString "MOST_PERIOD", Str.ofString "MOST_TIMES", Str.ofString "Lot", Str.ofString "MOST", Str.ofString "Wheel", Str.ofString "Grid"] (importedModules (Module.body (Program.main (PySem.Challenge.rw_wheelreach_k24_differences_parted).row.prog))) (fun s => xlAt qv [(Str.ofString "MOST_PERIOD", WData.int 10000000000000000000000000000000000000000000000000000000000000000000000000000000000000000000000000000), (Str.ofString "MOST_TIMES", WData.int 1000000000000000000000000000000), (Str.ofString "MOST", WData.int 1000000000000)] s && recOk [] s) s.abs).2.2.2.2.2.2.1))) = some ((expectedOf qv), (plainGoodD qv [Str.ofString "MOST_PERIOD", Str.ofString "MOST_TIMES", Str.ofString "Lot", Str.ofString "MOST", Str.ofString "Wheel", Str.ofString "Grid"])) := by kernel_rfl
theorem runP0 (w : World) (os : OsState) : (endF (stepQ (denQ tabQ) (PySem.Challenge.rw_wheelreach_k24_differences_parted).row.prog w) 17030 (PySem.Challenge.rw_wheelreach_k24_differences_parted).row.prog w os).map (fun s => ((seenQ qv [Str.ofString "MOST_PERIOD", Str.ofString "MOST_TIMES", Str.ofString "Lot", Str.ofString "MOST", Str.ofString "Wheel", Str.ofString "Grid"] (importedModules (Module.body (Program.main (PySem.Challenge.rw_wheelreach_k24_differences_parted).row.prog))) (fun s => xlAt qv [(Str.ofString "MOST_PERIOD", WData.int 10000000000000000000000000000000000000000000000000000000000000000000000000000000000000000000000000000), (Str.ofString "MOST_TIMES", WData.int 1000000000000000000000000000000), (Str.ofString "MOST", WData.int 1000000000000)] s && recOk [] s) s.abs).1)) = some (expectedOf qv) := (fstRun (runG1 w os))
theorem runP6 (w : World) (os : OsState) : (endF (stepQ (denQ tabQ) (PySem.Challenge.rw_wheelreach_k24_differences_parted).row.prog w) 17030 (PySem.Challenge.rw_wheelreach_k24_differences_parted).row.prog w os).map (fun s => ((seenQ qv [Str.ofString "MOST_PERIOD", Str.ofString "MOST_TIMES", Str.ofString "Lot", Str.ofString "MOST", Str.ofString "Wheel", Str.ofString "Grid"] (importedModules (Module.body (Program.main (PySem.Challenge.rw_wheelreach_k24_differences_parted).row.prog))) (fun s => xlAt qv [(Str.ofString "MOST_PERIOD", WData.int 10000000000000000000000000000000000000000000000000000000000000000000000000000000000000000000000000000), (Str.ofString "MOST_TIMES", WData.int 1000000000000000000000000000000), (Str.ofString "MOST", WData.int 1000000000000)] s && recOk [] s) s.abs).2.2.2.2.2.2.1)) = some (plainGoodD qv [Str.ofString "MOST_PERIOD", Str.ofString "MOST_TIMES", Str.ofString "Lot", Str.ofString "MOST", Str.ofString "Wheel", Str.ofString "Grid"]) := (sndRun (runG1 w os))
theorem runG2 (w : World) (os : OsState) : (endF (stepQ (denQ tabQ) (PySem.Challenge.rw_wheelreach_k24_differences_parted).row.prog w) 17030 (PySem.Challenge.rw_wheelreach_k24_differences_parted).row.prog w os).map (fun s => (((seenQ qv [Str.ofString "MOST_PERIOD", Str.ofString "MOST_TIMES", Str.ofString "Lot", Str.ofString "MOST", Str.ofString "Wheel", Str.ofString "Grid"] (importedModules (Module.body (Program.main (PySem.Challenge.rw_wheelreach_k24_differences_parted).row.prog))) (fun s => xlAt qv [(Str.ofString "MOST_PERIOD", WData.int 10000000000000000000000000000000000000000000000000000000000000000000000000000000000000000000000000000), (Str.ofString "MOST_TIMES", WData.int 1000000000000000000000000000000), (Str.ofString "MOST", WData.int 1000000000000)] s && recOk [] s) s.abs).2.2.1), ((seenQ qv [Str.ofString "MOST_PERIOD", Str.ofString "MOST_TIMES", Str.ofString "Lot", Str.ofString "MOST", Str.ofString "Wheel", Str.ofString "Grid"] (importedModules (Module.body (Program.main (PySem.Challenge.rw_wheelreach_k24_differences_parted).row.prog))) (fun s => xlAt qv [(Str.ofString "MOST_PERIOD", WData.int 10000000000000000000000000000000000000000000000000000000000000000000000000000000000000000000000000000), (Str.ofString "MOST_TIMES", WData.int 1000000000000000000000000000000), (Str.ofString "MOST", WData.int 1000000000000)] s && recOk [] s) s.abs).2.2.2.1))) = some (true, true) := by kernel_rfl
theorem runP2 (w : World) (os : OsState) : (endF (stepQ (denQ tabQ) (PySem.Challenge.rw_wheelreach_k24_differences_parted).row.prog w) 17030 (PySem.Challenge.rw_wheelreach_k24_differences_parted).row.prog w os).map (fun s => ((seenQ qv [Str.ofString "MOST_PERIOD", Str.ofString "MOST_TIMES", Str.ofString "Lot", Str.ofString "MOST", Str.ofString "Wheel", Str.ofString "Grid"] (importedModules (Module.body (Program.main (PySem.Challenge.rw_wheelreach_k24_differences_parted).row.prog))) (fun s => xlAt qv [(Str.ofString "MOST_PERIOD", WData.int 10000000000000000000000000000000000000000000000000000000000000000000000000000000000000000000000000000), (Str.ofString "MOST_TIMES", WData.int 1000000000000000000000000000000), (Str.ofString "MOST", WData.int 1000000000000)] s && recOk [] s) s.abs).2.2.1)) = some true := (fstRun (runG2 w os))
theorem runP3 (w : World) (os : OsState) : (endF (stepQ (denQ tabQ) (PySem.Challenge.rw_wheelreach_k24_differences_parted).row.prog w) 17030 (PySem.Challenge.rw_wheelreach_k24_differences_parted).row.prog w os).map (fun s => ((seenQ qv [Str.ofString "MOST_PERIOD", Str.ofString "MOST_TIMES", Str.ofString "Lot", Str.ofString "MOST", Str.ofString "Wheel", Str.ofString "Grid"] (importedModules (Module.body (Program.main (PySem.Challenge.rw_wheelreach_k24_differences_parted).row.prog))) (fun s => xlAt qv [(Str.ofString "MOST_PERIOD", WData.int 10000000000000000000000000000000000000000000000000000000000000000000000000000000000000000000000000000), (Str.ofString "MOST_TIMES", WData.int 1000000000000000000000000000000), (Str.ofString "MOST", WData.int 1000000000000)] s && recOk [] s) s.abs).2.2.2.1)) = some true := (sndRun (runG2 w os))
theorem runG3 (w : World) (os : OsState) : (endF (stepQ (denQ tabQ) (PySem.Challenge.rw_wheelreach_k24_differences_parted).row.prog w) 17030 (PySem.Challenge.rw_wheelreach_k24_differences_parted).row.prog w os).map (fun s => (((seenQ qv [Str.ofString "MOST_PERIOD", Str.ofString "MOST_TIMES", Str.ofString "Lot", Str.ofString "MOST", Str.ofString "Wheel", Str.ofString "Grid"] (importedModules (Module.body (Program.main (PySem.Challenge.rw_wheelreach_k24_differences_parted).row.prog))) (fun s => xlAt qv [(Str.ofString "MOST_PERIOD", WData.int 10000000000000000000000000000000000000000000000000000000000000000000000000000000000000000000000000000), (Str.ofString "MOST_TIMES", WData.int 1000000000000000000000000000000), (Str.ofString "MOST", WData.int 1000000000000)] s && recOk [] s) s.abs).2.2.2.2.2.1), ((seenQ qv [Str.ofString "MOST_PERIOD", Str.ofString "MOST_TIMES", Str.ofString "Lot", Str.ofString "MOST", Str.ofString "Wheel", Str.ofString "Grid"] (importedModules (Module.body (Program.main (PySem.Challenge.rw_wheelreach_k24_differences_parted).row.prog))) (fun s => xlAt qv [(Str.ofString "MOST_PERIOD", WData.int 10000000000000000000000000000000000000000000000000000000000000000000000000000000000000000000000000000), (Str.ofString "MOST_TIMES", WData.int 1000000000000000000000000000000), (Str.ofString "MOST", WData.int 1000000000000)] s && recOk [] s) s.abs).2.2.2.2.2.2.2.2))) = some ((plainGoodE qv (looseW qv [Str.ofString "MOST_PERIOD", Str.ofString "MOST_TIMES", Str.ofString "Lot", Str.ofString "MOST", Str.ofString "Wheel", Str.ofString "Grid"])), (clsGoodW qv [Str.ofString "MOST_PERIOD", Str.ofString "MOST_TIMES", Str.ofString "Lot", Str.ofString "MOST", Str.ofString "Wheel", Str.ofString "Grid"])) := by kernel_rfl
theorem runP5 (w : World) (os : OsState) : (endF (stepQ (denQ tabQ) (PySem.Challenge.rw_wheelreach_k24_differences_parted).row.prog w) 17030 (PySem.Challenge.rw_wheelreach_k24_differences_parted).row.prog w os).map (fun s => ((seenQ qv [Str.ofString "MOST_PERIOD", Str.ofString "MOST_TIMES", Str.ofString "Lot", Str.ofString "MOST", Str.ofString "Wheel", Str.ofString "Grid"] (importedModules (Module.body (Program.main (PySem.Challenge.rw_wheelreach_k24_differences_parted).row.prog))) (fun s => xlAt qv [(Str.ofString "MOST_PERIOD", WData.int 10000000000000000000000000000000000000000000000000000000000000000000000000000000000000000000000000000), (Str.ofString "MOST_TIMES", WData.int 1000000000000000000000000000000), (Str.ofString "MOST", WData.int 1000000000000)] s && recOk [] s) s.abs).2.2.2.2.2.1)) = some (plainGoodE qv (looseW qv [Str.ofString "MOST_PERIOD", Str.ofString "MOST_TIMES", Str.ofString "Lot", Str.ofString "MOST", Str.ofString "Wheel", Str.ofString "Grid"])) := (fstRun (runG3 w os))
theorem runP8 (w : World) (os : OsState) : (endF (stepQ (denQ tabQ) (PySem.Challenge.rw_wheelreach_k24_differences_parted).row.prog w) 17030 (PySem.Challenge.rw_wheelreach_k24_differences_parted).row.prog w os).map (fun s => ((seenQ qv [Str.ofString "MOST_PERIOD", Str.ofString "MOST_TIMES", Str.ofString "Lot", Str.ofString "MOST", Str.ofString "Wheel", Str.ofString "Grid"] (importedModules (Module.body (Program.main (PySem.Challenge.rw_wheelreach_k24_differences_parted).row.prog))) (fun s => xlAt qv [(Str.ofString "MOST_PERIOD", WData.int 10000000000000000000000000000000000000000000000000000000000000000000000000000000000000000000000000000), (Str.ofString "MOST_TIMES", WData.int 1000000000000000000000000000000), (Str.ofString "MOST", WData.int 1000000000000)] s && recOk [] s) s.abs).2.2.2.2.2.2.2.2)) = some (clsGoodW qv [Str.ofString "MOST_PERIOD", Str.ofString "MOST_TIMES", Str.ofString "Lot", Str.ofString "MOST", Str.ofString "Wheel", Str.ofString "Grid"]) := (sndRun (runG3 w os))
theorem runP7 (w : World) (os : OsState) : (endF (stepQ (denQ tabQ) (PySem.Challenge.rw_wheelreach_k24_differences_parted).row.prog w) 17030 (PySem.Challenge.rw_wheelreach_k24_differences_parted).row.prog w os).map (fun s => ((seenQ qv [Str.ofString "MOST_PERIOD", Str.ofString "MOST_TIMES", Str.ofString "Lot", Str.ofString "MOST", Str.ofString "Wheel", Str.ofString "Grid"] (importedModules (Module.body (Program.main (PySem.Challenge.rw_wheelreach_k24_differences_parted).row.prog))) (fun s => xlAt qv [(Str.ofString "MOST_PERIOD", WData.int 10000000000000000000000000000000000000000000000000000000000000000000000000000000000000000000000000000), (Str.ofString "MOST_TIMES", WData.int 1000000000000000000000000000000), (Str.ofString "MOST", WData.int 1000000000000)] s && recOk [] s) s.abs).2.2.2.2.2.2.2.1)) = some (wideGood qv) := by kernel_rfl
theorem runS (w : World) (os : OsState) : (endF (stepQ (denQ tabQ) (PySem.Challenge.rw_wheelreach_k24_differences_parted).row.prog w) 17030 (PySem.Challenge.rw_wheelreach_k24_differences_parted).row.prog w os).map (fun s => (seenQ qv [Str.ofString "MOST_PERIOD", Str.ofString "MOST_TIMES", Str.ofString "Lot", Str.ofString "MOST", Str.ofString "Wheel", Str.ofString "Grid"] (importedModules (Module.body (Program.main (PySem.Challenge.rw_wheelreach_k24_differences_parted).row.prog))) (fun s => xlAt qv [(Str.ofString "MOST_PERIOD", WData.int 10000000000000000000000000000000000000000000000000000000000000000000000000000000000000000000000000000), (Str.ofString "MOST_TIMES", WData.int 1000000000000000000000000000000), (Str.ofString "MOST", WData.int 1000000000000)] s && recOk [] s) s.abs)) = some ((expectedOf qv), bltViewBooted, true, true, (pinGoodD (drecsOf qv)), (plainGoodE qv (looseW qv [Str.ofString "MOST_PERIOD", Str.ofString "MOST_TIMES", Str.ofString "Lot", Str.ofString "MOST", Str.ofString "Wheel", Str.ofString "Grid"])), (plainGoodD qv [Str.ofString "MOST_PERIOD", Str.ofString "MOST_TIMES", Str.ofString "Lot", Str.ofString "MOST", Str.ofString "Wheel", Str.ofString "Grid"]), (wideGood qv), (clsGoodW qv [Str.ofString "MOST_PERIOD", Str.ofString "MOST_TIMES", Str.ofString "Lot", Str.ofString "MOST", Str.ofString "Wheel", Str.ofString "Grid"])) := (joinRun (runP0 w os) (joinRun (runP1 w os) (joinRun (runP2 w os) (joinRun (runP3 w os) (joinRun (runP4 w os) (joinRun (runP5 w os) (joinRun (runP6 w os) (joinRun (runP7 w os) (runP8 w os)))))))))
end
section
local macro_rules | `(tactic| k_head) => `(tactic| k_headL)
local macro_rules | `(tactic| kernel_rfl) => `(tactic| ((with_reducible refine T.splitRun (T.runA _ _) ?_); (with_reducible refine T.splitRun ?_ ?_); (with_reducible refine T.viaRun (T.runS _ _) ?_ ?_); kernel_rfl; kernel_rfl; kernel_rfl))
open PySem PySem.W PyProof.Rows
open_top headT for PySem.Challenge.rw_wheelreach_k24_differences_parted
end
end T
set_option Elab.async false
set_option linter.all false
set_option maxRecDepth 100000
set_option maxHeartbeats 4000000
namespace G
open PySem PySem.Spec PyProof.Rows L2
abbrev En := List (Str × Option V)
abbrev Lg := List (Addr × HO)
def names (η : En) : List Str := η.map (·.1)
def vals (η : En) : L2.St := η.map (·.2)
/-- the mark of a code object's table in a ledger: what stands in it are code objects named q -/
def tabM (q : Str) : HO := .tbl #[.str q 0]
/-- what an entry says -/
def holds (H : Hp) (a : Addr) : HO → Prop
  | .tbl m => ∃ q, HO.tbl m = tabM q ∧ LamX.TabS H a q
  | o => H a = some o
/-- neither a table nor a thing told by a predicate -/
def plain : HO → Bool
  | .tbl _ => false
  | .ext _ => false
  | _ => true
def notab : HO → Bool
  | .tbl _ => false
  | _ => true
theorem holds_of {H : Hp} {a : Addr} {o : HO} (n : notab o = true) (h : H a = some o) : holds H a o := by
  cases o <;> first | exact h | cases n
theorem holds_get {H : Hp} {a : Addr} {o : HO} (n : notab o = true) (h : holds H a o) : H a = some o := by
  cases o <;> first | exact h | cases n
theorem holds_tab {H : Hp} {a : Addr} {q : Str} (h : holds H a (tabM q)) : LamX.TabS H a q := by
  obtain ⟨r, e, t⟩ := h
  unfold tabM at e
  have e1 := HO.tbl.inj e
  have e2 : [Value.str q 0] = [Value.str r 0] := congrArg Array.toList e1
  have e3 : q = r := by
    injection e2 with e2 _
    injection e2
  rw [e3]
  exact t
theorem holds_tab' {H : Hp} {a : Addr} {q : Str} (h : LamX.TabS H a q) : holds H a (tabM q) := ⟨q, rfl, h⟩
theorem plain_notab {o : HO} (h : plain o = true) : notab o = true := by
  cases o <;> first | rfl | cases h
theorem holds_some {H : Hp} {a : Addr} {o : HO} (h : holds H a o) : ∃ u, H a = some u := by
  cases o with
  | tbl m =>
    obtain ⟨q, _, ps, e, _⟩ := h
    exact ⟨_, e⟩
  | _ => exact ⟨_, h⟩
theorem holds_grow {H H' : Hp} {a : Addr} {o : HO} (g : ∀ b u, H b = some u → H' b = some u) (h : holds H a o) : holds H' a o := by
  cases o with
  | tbl m =>
    obtain ⟨q, e, t⟩ := h
    exact ⟨q, e, t.ext g⟩
  | _ => exact g _ _ h
theorem holds_upd {H : Hp} {a p : Addr} {o u v : HO} (e : H p = some u) (n : plain u = true) (ne : a ≠ p) (h : holds H a o) : holds (upd H p v) a o := by
  cases o with
  | tbl m =>
    obtain ⟨q, em, ps, e1, t2, t3⟩ := h
    refine ⟨q, em, ps, by rw [upd_ne ne]; exact e1, t2, fun pos cv hc => ?_⟩
    obtain ⟨c, e2, e3⟩ := t3 pos cv hc
    refine ⟨c, e2, ?_⟩
    rw [upd_ne fun z => ?_]
    · exact e3
    · rw [z, e] at e3
      rw [Option.some.inj e3] at n
      cases n
  | _ => exact (upd_ne ne).trans h
def Has (H : Hp) (L : Lg) : Prop := (L.map (·.1)).Nodup ∧ ∀ e ∈ L, holds H e.1 e.2
inductive At (x : Str) (v : V) : En → Prop
  | here {η : En} : At x v ((x, some v) :: η)
  | there {e : Str × Option V} {η : En} : At x v η → At x v (e :: η)
inductive Put (x : Str) (v : V) : En → En → Prop
  | here {o : Option V} {η : En} : Put x v ((x, o) :: η) ((x, some v) :: η)
  | there {e : Str × Option V} {η θ : En} : Put x v η θ → Put x v (e :: η) (e :: θ)
theorem At.idx {x : Str} {v : V} {η : En} (h : At x v η) : ∃ i : Nat, (names η)[i]? = some x ∧ (vals η)[i]? = some (some v) := by
  induction h with
  | here => exact ⟨0, rfl, rfl⟩
  | there _ ih =>
    obtain ⟨i, a, b⟩ := ih
    exact ⟨i + 1, a, b⟩
theorem Put.idx {x : Str} {v : V} {η θ : En} (h : Put x v η θ) : ∃ i : Nat, (names η)[i]? = some x ∧ vals θ = (vals η).set i (some v) ∧ names θ = names η := by
  induction h with
  | here => exact ⟨0, rfl, rfl, rfl⟩
  | there _ ih =>
    obtain ⟨i, a, b, c⟩ := ih
    refine ⟨i + 1, a, ?_, ?_⟩
    · show _ :: vals _ = _ :: (vals _).set i (some v)
      rw [b] <;> rfl
    · show _ :: names _ = _ :: names _
      rw [c] <;> rfl
/-- the environment with x set, as a function of what is put -/
inductive PutF (x : Str) : En → (V → En) → Prop
  | here {o : Option V} {η : En} : PutF x ((x, o) :: η) (fun v => (x, some v) :: η)
  | there {e : Str × Option V} {η : En} {f : V → En} : PutF x η f → PutF x (e :: η) (fun v => e :: f v)
theorem PutF.idx {x : Str} {η : En} {f : V → En} (h : PutF x η f) : ∃ i : Nat, (names η)[i]? = some x ∧ ∀ v, vals (f v) = (vals η).set i (some v) ∧ names (f v) = names η := by
  induction h with
  | here => exact ⟨0, rfl, fun _ => ⟨rfl, rfl⟩⟩
  | there _ ih =>
    obtain ⟨i, a, b⟩ := ih
    refine ⟨i + 1, a, fun v => ⟨?_, ?_⟩⟩
    · show _ :: vals _ = _ :: (vals _).set i (some v)
      rw [(b v).1] <;> rfl
    · show _ :: names _ = _ :: names _
      rw [(b v).2] <;> rfl
theorem Has.nil {H : Hp} : Has H [] := ⟨List.nodup_nil, fun _ h => absurd h (by simp)⟩
theorem Has.get {H : Hp} {L : Lg} {a : Addr} {o : HO} (h : Has H L) (m : (a, o) ∈ L) (n : notab o = true := by rfl) : H a = some o := holds_get n (h.2 (a, o) m)
theorem Has.out {H : Hp} {L : Lg} {p : Addr} (h : Has H L) (n : H p = none) : p ∉ L.map (·.1) := fun m => by
  obtain ⟨e, he, rfl⟩ := List.mem_map.mp m
  obtain ⟨u, z⟩ := holds_some (h.2 e he)
  rw [z] at n
  cases n
theorem Has.newB {H H' : Hp} {L : Lg} {p : Addr} {o : HO} (h : Has H L) (n : H p = none) (g : ∀ b u, H b = some u → H' b = some u) (x : holds H' p o) : Has H' ((p, o) :: L) := by
  refine ⟨List.nodup_cons.mpr ⟨h.out n, h.1⟩, fun e m => ?_⟩
  rcases List.mem_cons.mp m with rfl | m
  · exact x
  · exact holds_grow g (h.2 e m)
theorem updGrow {H : Hp} {p : Addr} {o : HO} (n : H p = none) : ∀ b u, H b = some u → upd H p o b = some u := fun b u e => (upd_ne (ne_of_none e n)).trans e
theorem Has.new {H : Hp} {L : Lg} {p : Addr} {o : HO} (h : Has H L) (n : H p = none) (t : notab o = true := by rfl) : Has (upd H p o) ((p, o) :: L) := h.newB n (updGrow n) (holds_of t upd_same)
/-- one entry replaced by another of its address -/
inductive Swap (p : Addr) (o : HO) : Lg → Lg → Prop
  | here {u : HO} {L : Lg} (pl : plain u = true := by rfl) : Swap p o ((p, u) :: L) ((p, o) :: L)
  | there {e : Addr × HO} {L M : Lg} : Swap p o L M → Swap p o (e :: L) (e :: M)
theorem Swap.was {p : Addr} {o : HO} {L M : Lg} (s : Swap p o L M) : ∃ u, plain u = true ∧ (p, u) ∈ L := by
  induction s with
  | here pl => exact ⟨_, pl, List.mem_cons_self⟩
  | there _ ih =>
    obtain ⟨u, a, b⟩ := ih
    exact ⟨u, a, List.mem_cons_of_mem _ b⟩
theorem Swap.fst {p : Addr} {o : HO} {L M : Lg} (s : Swap p o L M) : M.map (·.1) = L.map (·.1) ∧ p ∈ L.map (·.1) := by
  induction s with
  | here => exact ⟨rfl, List.mem_cons_self⟩
  | there _ ih => exact ⟨by rw [List.map_cons, List.map_cons, ih.1], List.mem_cons_of_mem _ ih.2⟩
theorem Swap.mem {p : Addr} {o : HO} {L M : Lg} (s : Swap p o L M) (nd : (L.map (·.1)).Nodup) : ∀ e ∈ M, e = (p, o) ∨ (e ∈ L ∧ e.1 ≠ p) := by
  induction s with
  | here =>
    intro e m
    rcases List.mem_cons.mp m with rfl | m
    · exact .inl rfl
    · have n := (List.nodup_cons.mp nd).1
      exact .inr ⟨List.mem_cons_of_mem _ m, fun z => n (List.mem_map.mpr ⟨e, m, z⟩)⟩
  | there s ih =>
    intro e m
    have n := List.nodup_cons.mp nd
    rcases List.mem_cons.mp m with rfl | m
    · exact .inr ⟨List.mem_cons_self, fun z => n.1 (by have q := s.fst.2; rw [← z] at q; exact q)⟩
    · rcases ih n.2 e m with q | ⟨q, r⟩
      · exact .inl q
      · exact .inr ⟨List.mem_cons_of_mem _ q, r⟩
theorem Has.swap {H : Hp} {L M : Lg} {p : Addr} {o : HO} (h : Has H L) (s : Swap p o L M) (t : notab o = true := by rfl) : Has (upd H p o) M := by
  obtain ⟨u, pl, mu⟩ := s.was
  refine ⟨by rw [s.fst.1]; exact h.1, fun e m => ?_⟩
  rcases s.mem h.1 e m with rfl | ⟨q, r⟩
  · exact holds_of t upd_same
  · exact holds_upd (h.get mu (plain_notab pl)) pl r (h.2 e q)
/-- M is told by L -/
structure Sub (M L : Lg) : Prop where
  to : (L.map (·.1)).Nodup → (M.map (·.1)).Nodup ∧ ∀ e ∈ M, e ∈ L
theorem Sub.has {M L : Lg} (s : Sub M L) (H : Hp) (h : Has H L) : Has H M := ⟨(s.to h.1).1, fun e m => h.2 e ((s.to h.1).2 e m)⟩
instance {M L : Lg} : CoeFun (Sub M L) (fun _ => ∀ H, Has H L → Has H M) := ⟨Sub.has⟩
theorem Sub.refl {L : Lg} : Sub L L := ⟨fun h => ⟨h, fun _ h => h⟩⟩
theorem Sub.trans {L M N : Lg} (a : Sub N M) (b : Sub M L) : Sub N L := ⟨fun h => ⟨(a.to (b.to h).1).1, fun e m => (b.to h).2 e ((a.to (b.to h).1).2 e m)⟩⟩
theorem Sub.drop {L : Lg} {e : Addr × HO} : Sub L (e :: L) := ⟨fun h => ⟨(List.nodup_cons.mp h).2, fun _ m => List.mem_cons_of_mem _ m⟩⟩
theorem Sub.cons {L M : Lg} {e : Addr × HO} (s : Sub M L) : Sub (e :: M) (e :: L) := by
  refine ⟨fun h => ?_⟩
  obtain ⟨n, h⟩ := List.nodup_cons.mp h
  obtain ⟨a, b⟩ := s.to h
  refine ⟨List.nodup_cons.mpr ⟨fun m => ?_, a⟩, fun u m => ?_⟩
  · obtain ⟨u, hu, eu⟩ := List.mem_map.mp m
    exact n (List.mem_map.mpr ⟨u, b u hu, eu⟩)
  · rcases List.mem_cons.mp m with rfl | m
    · exact List.mem_cons_self
    · exact List.mem_cons_of_mem _ (b u m)
theorem Sub.append {L M : Lg} (s : Sub M L) : ∀ {E : Lg}, Sub (E ++ M) (E ++ L)
  | [] => s
  | _ :: E => Sub.cons (Sub.append s (E := E))
theorem Sub.dropE {L : Lg} : ∀ {E : Lg}, Sub L (E ++ L)
  | [] => Sub.refl
  | _ :: E => (Sub.dropE (E := E)).trans Sub.drop
theorem Sub.perm {L M : Lg} (p : M.Perm L) : Sub M L := ⟨fun h => ⟨(p.map _).nodup_iff.mpr h, fun e m => p.mem_iff.mp m⟩⟩
theorem Sub.sublist {L M : Lg} (p : M.Sublist L) : Sub M L := ⟨fun h => ⟨(p.map _).nodup h, fun e m => p.subset m⟩⟩
theorem Swap.ex {p : Addr} {o u : HO} (pl : plain u = true) : ∀ {L : Lg}, (p, u) ∈ L → ∃ M, Swap p o L M
  | e :: L, m => by
    rcases List.mem_cons.mp m with z | m
    · subst z
      exact ⟨_, .here pl⟩
    · obtain ⟨M, s⟩ := Swap.ex (o := o) pl m
      exact ⟨_, .there s⟩
theorem Swap.keep {p : Addr} {o : HO} {L M : Lg} (s : Swap p o L M) {e : Addr × HO} (h : e ∈ L) (n : e.1 ≠ p) : e ∈ M := by
  induction s with
  | here _ =>
    rcases List.mem_cons.mp h with z | h
    · subst z
      exact absurd rfl n
    · exact List.mem_cons_of_mem _ h
  | there _ ih =>
    rcases List.mem_cons.mp h with z | h
    · subst z
      exact List.mem_cons_self
    · exact List.mem_cons_of_mem _ (ih h)
theorem Swap.got {p : Addr} {o : HO} {L M : Lg} (s : Swap p o L M) : (p, o) ∈ M := by
  induction s with
  | here _ => exact List.mem_cons_self
  | there _ ih => exact List.mem_cons_of_mem _ ih
/-- one entry changed below what is known -/
theorem Sub.swap {p : Addr} {o u : HO} {L M N : Lg} (s : Sub ((p, u) :: L) M) (w : Swap p o M N) : Sub ((p, o) :: L) N := by
  refine ⟨fun h => ?_⟩
  rw [w.fst.1] at h
  obtain ⟨a, b⟩ := s.to h
  refine ⟨a, fun e m => ?_⟩
  rcases List.mem_cons.mp m with rfl | m
  · exact w.got
  · refine w.keep (b e (List.mem_cons_of_mem _ m)) fun z => (List.nodup_cons.mp a).1 ?_
    exact List.mem_map.mpr ⟨e, m, z⟩
abbrev QV := V → Lg → Prop
def up (Q : QV) : VK := fun v H => ∃ L, Has H L ∧ Q v L
def upB (Q : Bool → Lg → Prop) : Bool → Hp → Prop := fun b H => ∃ L, Has H L ∧ Q b L
def upA (Q : List V → Lg → Prop) : List V → Hp → Prop := fun vs H => ∃ L, Has H L ∧ Q vs L
def WE (X : Cx) (e : Expr) : TE := fun σ H Q => ∀ pins s, Inv X pins σ H s → wpAny (model X.prog X.w) X.A (eval e X.env) (EP X pins σ Q) X.xe s
def WT (X : Cx) (e : Expr) : TT := fun σ H Q => ∀ pins s, Inv X pins σ H s → wpAny (model X.prog X.w) X.A (isTrue e X.env (eval e X.env)) (TP X pins σ Q) X.xe s
def WW (X : Cx) (e : Expr) : TT := fun σ H Q => ∀ whole pins s, Inv X pins σ H s → wpAny (model X.prog X.w) X.A (isTrue e X.env whole) (TP X pins σ Q) X.xe s
def WA (X : Cx) (es : List Expr) : TA := fun σ H Q => ∀ pos pins s, Inv X pins σ H s → wpAny (model X.prog X.w) X.A (spliced (backTo pos (starEach es X.env))) (AP X pins σ Q) X.xe s
def WS (X : Cx) (st : Stmt) : TS := fun D σ H => ∀ pins s, Inv X pins σ H s → wpAny (model X.prog X.w) X.A (exec st X.env) (SP X pins D) X.xe s
def WSs (X : Cx) (st : List Stmt) : TS := fun D σ H => ∀ pins s, Inv X pins σ H s → wpAny (model X.prog X.w) X.A (execs st X.env) (SP X pins D) X.xe s
def WG (X : Cx) (tg : Expr) : TG := fun v σ H Q => ∀ pins s u, Inv X pins σ H s → RelV v u → wpAny (model X.prog X.w) X.A (assign tg X.env u) (fun _ s' => ∃ σ' H', Inv X pins σ' H' s' ∧ Q σ' H') X.xe s
def WGs (X : Cx) (ts : List Expr) : TGs := fun vs σ H Q => ∀ pins s us, Inv X pins σ H s → Vals vs us → wpAny (model X.prog X.w) X.A (assignInOrder ((assignEach ts X.env).map (·.2)) us) (fun _ s' => ∃ σ' H', Inv X pins σ' H' s' ∧ Q σ' H') X.xe s
section
variable {X : Cx} {e : Expr} {σ : L2.St} {H : Hp}
theorem pe_W : PE X e (WE X e) := ⟨fun pins s _ _ _ I h => h pins s I⟩
theorem pt_W : PT X e (WT X e) := ⟨fun pins s _ _ _ I h => h pins s I⟩
theorem pw_W : PW X e (WW X e) := ⟨fun u pins s _ _ _ I h => h u pins s I⟩
theorem pa_W {es : List Expr} : PA X es (WA X es) := ⟨fun pos pins s _ _ _ I h => h pos pins s I⟩
theorem ps_W {st : Stmt} : PS X st (WS X st) := ⟨fun pins s _ _ _ I h => h pins s I⟩
theorem pss_W {st : List Stmt} : PSs X st (WSs X st) := ⟨fun pins s _ _ _ I h => h pins s I⟩
theorem pg_W : PG X e (WG X e) := ⟨fun pins s _ _ _ u _ I r h => h pins s u I r⟩
theorem pgs_W {es : List Expr} : PGs X es (WGs X es) := ⟨fun pins s _ _ _ us _ I r h => h pins s us I r⟩
theorem WE.of {t : TE} {Q : VK} (h : PE X e t) (q : t σ H Q) : WE X e σ H Q := fun pins s I => h.run pins s σ H Q I q
theorem WT.of {t : TT} {Q : Bool → Hp → Prop} (h : PT X e t) (q : t σ H Q) : WT X e σ H Q := fun pins s I => h.run pins s σ H Q I q
theorem WW.of {t : TT} {Q : Bool → Hp → Prop} (h : PW X e t) (q : t σ H Q) : WW X e σ H Q := fun u pins s I => h.run u pins s σ H Q I q
theorem WA.of {es : List Expr} {t : TA} {Q : List V → Hp → Prop} (h : PA X es t) (q : t σ H Q) : WA X es σ H Q := fun pos pins s I => h.run pos pins s σ H Q I q
theorem WS.of {st : Stmt} {t : TS} {D : Ends} (h : PS X st t) (q : t D σ H) : WS X st D σ H := fun pins s I => h.run pins s σ H D I q
theorem WSs.of {st : List Stmt} {t : TS} {D : Ends} (h : PSs X st t) (q : t D σ H) : WSs X st D σ H := fun pins s I => h.run pins s σ H D I q
theorem WG.of {t : TG} {v : V} {Q : L2.St → Hp → Prop} (h : PG X e t) (q : t v σ H Q) : WG X e v σ H Q := fun pins s u I r => h.run pins s σ H v u Q I r q
theorem WGs.of {es : List Expr} {t : TGs} {vs : List V} {Q : L2.St → Hp → Prop} (h : PGs X es t) (q : t vs σ H Q) : WGs X es vs σ H Q := fun pins s us I r => h.run pins s σ H vs us Q I r q
theorem WE.mono {Q Q' : VK} (h : WE X e σ H Q) (m : ∀ v H', Q v H' → Q' v H') : WE X e σ H Q' := fun pins s I =>
  thn (h pins s I) fun _ _ ⟨v, H', J, r, q⟩ => ⟨v, H', J, r, m v H' q⟩
theorem WT.mono {Q Q' : Bool → Hp → Prop} (h : WT X e σ H Q) (m : ∀ v H', Q v H' → Q' v H') : WT X e σ H Q' := fun pins s I =>
  thn (h pins s I) fun _ _ ⟨H', J, q⟩ => ⟨H', J, m _ H' q⟩
theorem WW.mono {Q Q' : Bool → Hp → Prop} (h : WW X e σ H Q) (m : ∀ v H', Q v H' → Q' v H') : WW X e σ H Q' := fun u pins s I =>
  thn (h u pins s I) fun _ _ ⟨H', J, q⟩ => ⟨H', J, m _ H' q⟩
theorem WA.mono {es : List Expr} {Q Q' : List V → Hp → Prop} (h : WA X es σ H Q) (m : ∀ v H', Q v H' → Q' v H') : WA X es σ H Q' := fun pos pins s I =>
  thn (h pos pins s I) fun _ _ ⟨v, H', J, r, q⟩ => ⟨v, H', J, r, m v H' q⟩
theorem WG.mono {v : V} {Q Q' : L2.St → Hp → Prop} (h : WG X e v σ H Q) (m : ∀ v H', Q v H' → Q' v H') : WG X e v σ H Q' := fun pins s u I r =>
  thn (h pins s u I r) fun _ _ ⟨v, H', J, q⟩ => ⟨v, H', J, m v H' q⟩
theorem WGs.mono {es : List Expr} {vs : List V} {Q Q' : L2.St → Hp → Prop} (h : WGs X es vs σ H Q) (m : ∀ v H', Q v H' → Q' v H') : WGs X es vs σ H Q' := fun pins s u I r =>
  thn (h pins s u I r) fun _ _ ⟨v, H', J, q⟩ => ⟨v, H', J, m v H' q⟩
end
def GE (X : Cx) (e : Expr) (η : En) (L : Lg) (Q : QV) : Prop := X.N = names η → ∀ H, Has H L → WE X e (vals η) H (up Q)
def GT (X : Cx) (e : Expr) (η : En) (L : Lg) (Q : Bool → Lg → Prop) : Prop := X.N = names η → ∀ H, Has H L → WT X e (vals η) H (upB Q)
def GW (X : Cx) (e : Expr) (η : En) (L : Lg) (Q : Bool → Lg → Prop) : Prop := X.N = names η → ∀ H, Has H L → WW X e (vals η) H (upB Q)
def GA (X : Cx) (es : List Expr) (η : En) (L : Lg) (Q : List V → Lg → Prop) : Prop := X.N = names η → ∀ H, Has H L → WA X es (vals η) H (upA Q)
/-- what is wanted behind a statement -/
structure GD where
  nx : En → Lg → Prop
  rt : QV
  bk : En → Lg → Prop
  ct : En → Lg → Prop
def upS (X : Cx) (Q : En → Lg → Prop) : L2.St → Hp → Prop := fun σ H => ∃ η L, X.N = names η ∧ σ = vals η ∧ Has H L ∧ Q η L
def GD.ends (X : Cx) (D : GD) : Ends := { nx := upS X D.nx, rt := up D.rt, bk := upS X D.bk, ct := upS X D.ct }
def GS (X : Cx) (st : Stmt) (D : GD) (η : En) (L : Lg) : Prop := X.N = names η → ∀ H, Has H L → WS X st (D.ends X) (vals η) H
def GSs (X : Cx) (st : List Stmt) (D : GD) (η : En) (L : Lg) : Prop := X.N = names η → ∀ H, Has H L → WSs X st (D.ends X) (vals η) H
def GG (X : Cx) (tg : Expr) (v : V) (η : En) (L : Lg) (Q : En → Lg → Prop) : Prop := X.N = names η → ∀ H, Has H L → WG X tg v (vals η) H (upS X Q)
def GGs (X : Cx) (ts : List Expr) (vs : List V) (η : En) (L : Lg) (Q : En → Lg → Prop) : Prop := X.N = names η → ∀ H, Has H L → WGs X ts vs (vals η) H (upS X Q)
/-- an operator, a call, a subscript by values -/
def GOp (X : Cx) (f : Value → Value → Sem Value) (x y : V) (L : Lg) (Q : QV) : Prop := ∀ pins s σ H v u, Has H L → Inv X pins σ H s → RelV x v → RelV y u → wpAny (model X.prog X.w) X.A (f v u) (EP X pins σ (up Q)) X.xe s
def GUn (X : Cx) (f : Value → Sem Value) (x : V) (L : Lg) (Q : QV) : Prop := ∀ pins s σ H v, Has H L → Inv X pins σ H s → RelV x v → wpAny (model X.prog X.w) X.A (f v) (EP X pins σ (up Q)) X.xe s
def GC (X : Cx) (f : Value) (xs : List V) (L : Lg) (Q : QV) : Prop := ∀ pins s σ H us, Has H L → Inv X pins σ H s → Vals xs us → wpAny (model X.prog X.w) X.A (call f us) (EP X pins σ (up Q)) X.xe s
section
variable {X : Cx} {L : Lg} {Q : QV} {x y : V}
theorem GOp.of {f : Value → Value → Sem Value} {r : R2} (h : OpR X f r) (q : ∀ H, Has H L → r x y H (up Q)) : GOp X f x y L Q := fun pins s σ H v u hH I rv ru => h pins s σ H x y v u _ I rv ru (q H hH)
theorem GUn.of {f : Value → Sem Value} {r : V → Hp → VK → Prop} (h : UnR X f r) (q : ∀ H, Has H L → r x H (up Q)) : GUn X f x L Q := fun pins s σ H v hH I rv => h pins s σ H x v _ I rv (q H hH)
theorem GC.of {f : Value} {xs : List V} {r : List V → Hp → VK → Prop} (h : CallR X f r) (q : ∀ H, Has H L → r xs H (up Q)) : GC X f xs L Q := fun pins s σ H us hH I rv => h pins s σ H xs us _ I rv (q H hH)
end
section
variable {X : Cx} {η : En} {L : Lg} {Q : QV} {a b c e : Expr} {pos : Pos}
theorem ge_var {x : Str} {v : V} (h : At x v η) (q : Q v L) (hv : Vis X.env.scope x := by first | exact Or.inl rfl | exact Or.inr (Or.inl rfl) | exact Or.inr (Or.inr rfl))
    (hd : (x == ("__debug__" : Str)) = false := by decide) (hcd : (x == ("__classdict__" : Str)) = false := by decide) : GE X (.Name x pos) η L Q := fun hN H hH => by
  obtain ⟨i, h1, h2⟩ := h.idx
  exact WE.of (pe_var (i := i) (by rw [hN]; exact h1) hv hd hcd) ⟨v, h2, L, hH, q⟩
theorem ge_con {v : V} (p : PE X e (tC v)) (q : Q v L) : GE X e η L Q := fun _ H hH => WE.of p ⟨L, hH, q⟩
theorem ge_int {i : Int} {j} (q : Q (.int i) L) : GE X (.Constant (.int i) j pos) η L Q := ge_con pe_int q
theorem ge_bl {i : Bool} {j} (q : Q (.bl i) L) : GE X (.Constant (.bool i) j pos) η L Q := ge_con pe_bl q
theorem ge_non {j} (q : Q .non L) : GE X (.Constant .none j pos) η L Q := ge_con pe_non q
theorem ge_str {x : Str} {j} (q : Q (.str x) L) : GE X (.Constant (.str x) j pos) η L Q := ge_con pe_str q
/-- what is known may be cut -/
theorem GE.nd (h : GE X e η L fun v L1 => (L1.map (·.1)).Nodup → Q v L1) : GE X e η L Q := fun hN H hH => (h hN H hH).mono fun v _ ⟨L', h', q⟩ => ⟨L', h', q h'.1⟩
theorem GE.sub {M : Lg} (s : Sub M L) (h : GE X e η M Q) : GE X e η L Q := fun hN H hH => h hN H (s H hH)
theorem GT.sub {M : Lg} {Q : Bool → Lg → Prop} (s : Sub M L) (h : GT X e η M Q) : GT X e η L Q := fun hN H hH => h hN H (s H hH)
theorem GE.imp {Q' : QV} (h : GE X e η L Q) (m : ∀ v L', Q v L' → Q' v L') : GE X e η L Q' := fun hN H hH => (h hN H hH).mono fun v _ ⟨L', h', q⟩ => ⟨L', h', m v L' q⟩
theorem GA.imp {es : List Expr} {Q Q' : List V → Lg → Prop} (h : GA X es η L Q) (m : ∀ v L', Q v L' → Q' v L') : GA X es η L Q' := fun hN H hH => (h hN H hH).mono fun v _ ⟨L', h', q⟩ => ⟨L', h', m v L' q⟩
theorem GT.imp {Q Q' : Bool → Lg → Prop} (h : GT X e η L Q) (m : ∀ v L', Q v L' → Q' v L') : GT X e η L Q' := fun hN H hH => (h hN H hH).mono fun v _ ⟨L', h', q⟩ => ⟨L', h', m v L' q⟩
/-- then -/
theorem GE.then {Q' : VK} (h : GE X a η L Q) (hN : X.N = names η) {H : Hp} (hH : Has H L) (m : ∀ v L1 H1, Has H1 L1 → Q v L1 → Q' v H1) : WE X a (vals η) H Q' := (h hN H hH).mono fun v H1 ⟨L1, h1, q1⟩ => m v L1 H1 h1 q1
theorem GA.then {es : List Expr} {Q : List V → Lg → Prop} {Q' : List V → Hp → Prop} (h : GA X es η L Q) (hN : X.N = names η) {H : Hp} (hH : Has H L) (m : ∀ v L1 H1, Has H1 L1 → Q v L1 → Q' v H1) : WA X es (vals η) H Q' := (h hN H hH).mono fun v H1 ⟨L1, h1, q1⟩ => m v L1 H1 h1 q1
theorem GT.then {Q : Bool → Lg → Prop} {Q' : Bool → Hp → Prop} (h : GT X a η L Q) (hN : X.N = names η) {H : Hp} (hH : Has H L) (m : ∀ v L1 H1, Has H1 L1 → Q v L1 → Q' v H1) : WT X a (vals η) H Q' := (h hN H hH).mono fun v H1 ⟨L1, h1, q1⟩ => m v L1 H1 h1 q1
theorem GW.then {Q : Bool → Lg → Prop} {Q' : Bool → Hp → Prop} (h : GW X a η L Q) (hN : X.N = names η) {H : Hp} (hH : Has H L) (m : ∀ v L1 H1, Has H1 L1 → Q v L1 → Q' v H1) : WW X a (vals η) H Q' := (h hN H hH).mono fun v H1 ⟨L1, h1, q1⟩ => m v L1 H1 h1 q1
theorem ge_bin {op : Operator} (h : GE X a η L fun x L1 => GE X b η L1 fun y L2 => GOp X (binaryOp op) x y L2 Q) : GE X (.BinOp a op b pos) η L Q := fun hN H hH =>
  WE.of (pe_op (r := fun x y H' Q' => ∀ pins s σ v u, Inv X pins σ H' s → RelV x v → RelV y u → wpAny (model X.prog X.w) X.A (binaryOp op v u) (EP X pins σ Q') X.xe s)
    (fun pins s σ H' x y v u Q' I r1 r2 q => q pins s σ v u I r1 r2) pe_W pe_W)
    (h.then hN hH fun _ _ _ h1 q1 => q1.then hN h1 fun _ _ _ h2 q2 => fun pins s σ v u I r1 r2 => q2 pins s σ _ v u h2 I r1 r2)
theorem ge_un {op : UnaryOp} (h : GE X a η L fun x L1 => GUn X (unaryOp op) x L1 Q) : GE X (.UnaryOp op a pos) η L Q := fun hN H hH =>
  WE.of (pe_un (r := fun x H' Q' => ∀ pins s σ v, Inv X pins σ H' s → RelV x v → wpAny (model X.prog X.w) X.A (unaryOp op v) (EP X pins σ Q') X.xe s)
    (fun pins s σ H' x v Q' I r1 q => q pins s σ v I r1) pe_W)
    (h.then hN hH fun _ _ _ h1 q1 => fun pins s σ v I r1 => q1 pins s σ _ v h1 I r1)
theorem ge_cmp {op : CmpOp} (h : GE X a η L fun x L1 => GE X b η L1 fun y L2 => GOp X (compareOp op) x y L2 Q) (hm : behindInMarks op b = false := by rfl) : GE X (.Compare a [op] [b] pos) η L Q := fun hN H hH =>
  WE.of (pe_cmpR (r := fun x y H' Q' => ∀ pins s σ v u, Inv X pins σ H' s → RelV x v → RelV y u → wpAny (model X.prog X.w) X.A (compareOp op v u) (EP X pins σ Q') X.xe s)
    (fun pins s σ H' x y v u Q' I r1 r2 q => q pins s σ v u I r1 r2) pe_W pe_W hm)
    (h.then hN hH fun _ _ _ h1 q1 => q1.then hN h1 fun _ _ _ h2 q2 => fun pins s σ v u I r1 r2 => q2 pins s σ _ v u h2 I r1 r2)
theorem ge_one {op : BoolOp} (h : GE X a η L Q) : GE X (.BoolOp op [a] pos) η L Q := fun hN H hH => WE.of (pe_one pe_W) (h hN H hH)
theorem ge_and {rest : List Expr} (h : GE X a η L fun x L1 => ∃ k, x = .bl k ∧ if k = true then GE X (.BoolOp .And (b :: rest) pos) η L1 Q else Q (.bl false) L1) : GE X (.BoolOp .And (a :: b :: rest) pos) η L Q := fun hN H hH =>
  WE.of (pe_and pe_W pe_W) (h.then hN hH fun x L1 H1 h1 ⟨k, e1, q1⟩ => ⟨k, e1, by
    cases k with
    | true => exact q1 hN H1 h1
    | false => exact ⟨L1, h1, q1⟩⟩)
theorem ge_or {rest : List Expr} (h : GE X a η L fun x L1 => ∃ k, x = .bl k ∧ if k = true then Q (.bl true) L1 else GE X (.BoolOp .Or (b :: rest) pos) η L1 Q) : GE X (.BoolOp .Or (a :: b :: rest) pos) η L Q := fun hN H hH =>
  WE.of (pe_or pe_W pe_W) (h.then hN hH fun x L1 H1 h1 ⟨k, e1, q1⟩ => ⟨k, e1, by
    cases k with
    | true => exact ⟨L1, h1, q1⟩
    | false => exact q1 hN H1 h1⟩)
theorem ge_not (h : GE X a η L fun x L1 => ∃ k, x = .bl k ∧ Q (.bl (!k)) L1) : GE X (.UnaryOp .Not a pos) η L Q := fun hN H hH =>
  WE.of (pe_not pe_W) (h.then hN hH fun x L1 H1 h1 ⟨k, e1, q1⟩ => ⟨k, e1, L1, h1, q1⟩)
theorem ge_if (h : GT X c η L fun k L1 => if k = true then GE X a η L1 Q else GE X b η L1 Q) : GE X (.IfExp c a b pos) η L Q := fun hN H hH =>
  WE.of (pe_ifExp pt_W pe_W pe_W) (h.then hN hH fun k L1 H1 h1 q1 => by
    cases k with
    | true => exact q1 hN H1 h1
    | false => exact q1 hN H1 h1)
theorem ga_nil {Q : List V → Lg → Prop} (q : Q [] L) : GA X [] η L Q := fun _ H hH => WA.of pa_nil ⟨L, hH, q⟩
theorem ga_cons {es : List Expr} {Q : List V → Lg → Prop} (h : GE X e η L fun x L1 => GA X es η L1 fun xs L2 => Q (x :: xs) L2) (hs : starEach (e :: es) X.env = (false, eval e X.env) :: starEach es X.env := by rfl) : GA X (e :: es) η L Q := fun hN H hH =>
  WA.of (pa_cons pe_W pa_W hs) (h.then hN hH fun _ _ _ h1 q1 => q1.then hN h1 fun _ L2 _ h2 q2 => ⟨L2, h2, q2⟩)
theorem ge_tup {es : List Expr} {x1} (h : GA X es η L fun xs L1 => xs.length ≤ sizeLine ∧ ∀ p, Q (.ref p) ((p, .tup xs) :: L1)) : GE X (.Tuple es x1 pos) η L Q := fun hN H hH =>
  WE.of (pe_tup pa_W) (h.then hN hH fun xs L1 H1 h1 ⟨z, q1⟩ => ⟨z, fun p hp => ⟨_, h1.new hp, q1 p⟩⟩)
theorem ge_lst {es : List Expr} (h : GA X es η L fun xs L1 => xs.length ≤ sizeLine ∧ ∀ p, Q (.ref p) ((p, .lst xs) :: L1)) : GE X (.List es pos) η L Q := fun hN H hH =>
  WE.of (pe_lst pa_W) (h.then hN hH fun xs L1 H1 h1 ⟨z, q1⟩ => ⟨z, fun p hp => ⟨_, h1.new hp, q1 p⟩⟩)
/-- a subscript by values -/
def GIx (X : Cx) (x y : V) (L : Lg) (Q : QV) : Prop := ∀ (value slice : Expr) pins s σ H v u, Has H L → Inv X pins σ H s → RelV x v → RelV y u → subscripted slice false v u = operate [v, u] (getItem v u) → wpAny (model X.prog X.w) X.A (subscriptTail value slice v u) (EP X pins σ (up Q)) X.xe s
theorem GIx.of {x y : V} {r : R2} (h : IxR X r) (q : ∀ H, Has H L → r x y H (up Q)) : GIx X x y L Q := fun value slice pins s σ H v u hH I rv ru hs => h value slice pins s σ H x y v u _ I rv ru (q H hH) hs
theorem ge_ix (h : GE X a η L fun x L1 => GE X b η L1 fun y L2 => GIx X x y L2 Q) (hs : PlainIx b := by exact fun _ _ => rfl) : GE X (.Subscript a b pos) η L Q := fun hN H hH =>
  WE.of (pe_ix (r := fun x y H' Q' => ∀ (value slice : Expr) pins s σ v u, Inv X pins σ H' s → RelV x v → RelV y u → subscripted slice false v u = operate [v, u] (getItem v u) → wpAny (model X.prog X.w) X.A (subscriptTail value slice v u) (EP X pins σ Q') X.xe s)
    (fun value slice pins s σ H' x y v u Q' I r1 r2 q z => q value slice pins s σ v u I r1 r2 z) pe_W pe_W hs)
    (h.then hN hH fun _ _ _ h1 q1 => q1.then hN h1 fun _ _ _ h2 q2 => fun value slice pins s σ v u I r1 r2 z => q2 value slice pins s σ _ v u h2 I r1 r2 z)
end
section
variable {X : Cx} {η : En} {L : Lg} {Q : Bool → Lg → Prop} {a b c e : Expr} {pos : Pos}
theorem gt_cmp {op : CmpOp} (h : GE X a η L fun x L1 => GE X b η L1 fun y L2 => GOp X (compareOp op) x y L2 fun z L3 => ∃ k, z = .bl k ∧ Q k L3) (hm : behindInMarks op b = false := by rfl) : GT X (.Compare a [op] [b] pos) η L Q := fun hN H hH =>
  WT.of (pt_cmpR (r := fun x y H' Q' => ∀ pins s σ v u, Inv X pins σ H' s → RelV x v → RelV y u → wpAny (model X.prog X.w) X.A (compareOp op v u) (EP X pins σ Q') X.xe s)
    (fun pins s σ H' x y v u Q' I r1 r2 q => q pins s σ v u I r1 r2) pe_W pe_W hm)
    (h.then hN hH fun _ _ _ h1 q1 => q1.then hN h1 fun _ _ _ h2 q2 => fun pins s σ v u I r1 r2 =>
      thn (q2 pins s σ _ v u h2 I r1 r2) fun _ _ ⟨z, H3, J, r3, L3, h3, k, ek, q3⟩ => ⟨z, H3, J, r3, k, ek, L3, h3, q3⟩)
theorem gt_val (h : GE X a η L fun x L1 => ∃ k, x = .bl k ∧ Q k L1) (he : ∀ whole, isTrue a X.env whole = (do let v ← whole; standAt a.pos; holding [v] (truthy v)) := by intro _; rfl) : GT X a η L Q := fun hN H hH =>
  WT.of (pt_val pe_W he) (h.then hN hH fun _ L1 _ h1 ⟨k, e1, q1⟩ => ⟨k, e1, L1, h1, q1⟩)
theorem gt_w {op : BoolOp} {es : List Expr} (h : GW X (.BoolOp op es pos) η L Q) : GT X (.BoolOp op es pos) η L Q := fun hN H hH => WT.of pw_W.pt (h hN H hH)
theorem gw_and1 (h : GT X a η L Q) : GW X (.BoolOp .And [a] pos) η L Q := fun hN H hH => WW.of (pw_and1 pt_W) (h hN H hH)
theorem gw_or1 (h : GT X a η L Q) : GW X (.BoolOp .Or [a] pos) η L Q := fun hN H hH => WW.of (pw_or1 pt_W) (h hN H hH)
theorem gw_and {rest : List Expr} (h : GT X a η L fun k L1 => if k = true then GW X (.BoolOp .And (b :: rest) pos) η L1 Q else Q false L1) : GW X (.BoolOp .And (a :: b :: rest) pos) η L Q := fun hN H hH =>
  WW.of (pw_and pt_W pw_W) (h.then hN hH fun k L1 H1 h1 q1 => by
    cases k with
    | true => exact q1 hN H1 h1
    | false => exact ⟨L1, h1, q1⟩)
theorem gw_or {rest : List Expr} (h : GT X a η L fun k L1 => if k = true then Q true L1 else GW X (.BoolOp .Or (b :: rest) pos) η L1 Q) : GW X (.BoolOp .Or (a :: b :: rest) pos) η L Q := fun hN H hH =>
  WW.of (pw_or pt_W pw_W) (h.then hN hH fun k L1 H1 h1 q1 => by
    cases k with
    | true => exact ⟨L1, h1, q1⟩
    | false => exact q1 hN H1 h1)
theorem gt_not (h : GT X a η L fun k L1 => Q (!k) L1) : GT X (.UnaryOp .Not a pos) η L Q := fun hN H hH =>
  WT.of (pt_not pt_W) (h.then hN hH fun k L1 H1 h1 q1 => ⟨L1, h1, q1⟩)
end
theorem mem0 {α : Type} {a : α} {l : List α} : a ∈ a :: l := List.mem_cons_self
theorem memS {α : Type} {a b : α} {l : List α} (h : a ∈ l) : a ∈ b :: l := List.mem_cons_of_mem _ h
theorem sql {K : PySem.W.Frag} {H : Hp} {L : Lg} {p : Addr} {xs : List V} (h : Has H L) (m : (p, HO.lst xs) ∈ L) : SqL K H p xs := SqL.of (h.get m)
theorem sqt {K : PySem.W.Frag} {H : Hp} {L : Lg} {p : Addr} {xs : List V} (h : Has H L) (m : (p, HO.tup xs) ∈ L) : SqT K H p xs := SqT.of (h.get m)
section
variable {X : Cx} {L : Lg} {Q : QV} {x y : V} {i j : Int} {p q : Addr} {xs ys : List V} {v : V}
theorem go_add (h : Q (.int (i + j)) L) : GOp X (binaryOp .Add) (.int i) (.int j) L Q := GOp.of op_add fun H hH => ⟨i, j, rfl, rfl, L, hH, h⟩
theorem go_sub (h : Q (.int (i - j)) L) : GOp X (binaryOp .Sub) (.int i) (.int j) L Q := GOp.of op_sub fun H hH => ⟨i, j, rfl, rfl, L, hH, h⟩
theorem go_mul (c : CMulW i j) (h : Q (.int (i * j)) L) : GOp X (binaryOp .Mult) (.int i) (.int j) L Q := GOp.of op_mulW fun H hH => ⟨i, j, rfl, rfl, c, L, hH, h⟩
theorem go_mulS (c : (-(2 ^ 64) < i ∧ i < 2 ^ 64) ∨ (-(2 ^ 64) < j ∧ j < 2 ^ 64)) (h : Q (.int (i * j)) L) : GOp X (binaryOp .Mult) (.int i) (.int j) L Q := GOp.of op_mul fun H hH => ⟨i, j, rfl, rfl, c, L, hH, h⟩
theorem go_mod (c : 0 < j) (h : Q (.int (i % j)) L) : GOp X (binaryOp .Mod) (.int i) (.int j) L Q := GOp.of op_modN fun H hH => ⟨i, j, rfl, rfl, by omega, L, hH, by
  show Q (.int (i.fmod j)) L
  rw [Int.fmod_eq_emod_of_nonneg i (by omega)]
  exact h⟩
theorem go_div (c : 0 < j) (d : j.natAbs < 2 ^ 9000) (h : Q (.int (i / j)) L) : GOp X (binaryOp .FloorDiv) (.int i) (.int j) L Q := GOp.of op_fdivW fun H hH => ⟨i, j, rfl, rfl, wide_div c d (by decide) (by decide), L, hH, h⟩
theorem go_pow (c : CPow i j) (h : Q (.int (i ^ j.toNat)) L) : GOp X (binaryOp .Pow) (.int i) (.int j) L Q := GOp.of op_pow fun H hH => ⟨i, j, rfl, rfl, c, L, hH, h⟩
theorem go_lt (h : Q (.bl (decide (i < j))) L) : GOp X (compareOp .Lt) (.int i) (.int j) L Q := GOp.of op_lt fun H hH => ⟨i, j, rfl, rfl, L, hH, h⟩
theorem go_le (h : Q (.bl (decide (i ≤ j))) L) : GOp X (compareOp .LtE) (.int i) (.int j) L Q := GOp.of op_le fun H hH => ⟨i, j, rfl, rfl, L, hH, h⟩
theorem go_gt (h : Q (.bl (decide (j < i))) L) : GOp X (compareOp .Gt) (.int i) (.int j) L Q := GOp.of op_gt fun H hH => ⟨i, j, rfl, rfl, L, hH, h⟩
theorem go_ge (h : Q (.bl (decide (j ≤ i))) L) : GOp X (compareOp .GtE) (.int i) (.int j) L Q := GOp.of op_ge fun H hH => ⟨i, j, rfl, rfl, L, hH, h⟩
theorem dec_int : decide (V.int i = V.int j) = decide (i = j) := by
  by_cases e : i = j
  · rw [e, decide_eq_true rfl, decide_eq_true rfl]
  · rw [decide_eq_false e, decide_eq_false fun z => e (V.int.inj z)]
theorem go_eq (h : Q (.bl (decide (i = j))) L) : GOp X (compareOp .Eq) (.int i) (.int j) L Q := GOp.of op_eq fun H hH => ⟨rfl, L, hH, by rw [dec_int]; exact h⟩
theorem go_ne (h : Q (.bl (!decide (i = j))) L) : GOp X (compareOp .NotEq) (.int i) (.int j) L Q := GOp.of op_ne fun H hH => ⟨rfl, L, hH, by rw [dec_int]; exact h⟩
theorem go_eqV (s : scal x y = true) (h : Q (.bl (decide (x = y))) L) : GOp X (compareOp .Eq) x y L Q := GOp.of op_eq fun H hH => ⟨s, L, hH, h⟩
theorem go_neV (s : scal x y = true) (h : Q (.bl (!decide (x = y))) L) : GOp X (compareOp .NotEq) x y L Q := GOp.of op_ne fun H hH => ⟨s, L, hH, h⟩
theorem go_isN (h : Q (.bl (decide (x = .non))) L) : GOp X (compareOp .Is) x .non L Q := GOp.of op_isN fun H hH => ⟨rfl, L, hH, h⟩
theorem go_notN (h : Q (.bl (!decide (x = .non))) L) : GOp X (compareOp .IsNot) x .non L Q := GOp.of op_notN fun H hH => ⟨rfl, L, hH, h⟩
/-- data, told by the ledger -/
def Dl (L : Lg) (v : V) (d : PyData) : Prop := ∀ K H, Has H L → Dp K H v d
def Dls (L : Lg) (vs : List V) (ds : List PyData) : Prop := ∀ K H, Has H L → DpAll K H vs ds
theorem dl_non : Dl L .non .none := fun _ _ _ => .non
theorem dl_bl {b : Bool} : Dl L (.bl b) (.bool b) := fun _ _ _ => .bl b
theorem dl_int : Dl L (.int i) (.int i) := fun _ _ _ => .int i
theorem dl_str {z : Str} : Dl L (.str z) (.str z) := fun _ _ _ => .str z
theorem dl_lst {ds : List PyData} (m : (p, HO.lst xs) ∈ L) (h : Dls L xs ds) : Dl L (.ref p) (.list ds) := fun K H hH => .lst (sql hH m) (h K H hH)
theorem dl_tup {ds : List PyData} (m : (p, HO.tup xs) ∈ L) (h : Dls L xs ds) : Dl L (.ref p) (.tuple ds) := fun K H hH => .tup (sqt hH m) (h K H hH)
theorem dls_nil : Dls L [] [] := fun _ _ _ => .nil
theorem dls_cons {d : PyData} {ds : List PyData} (a : Dl L v d) (h : Dls L xs ds) : Dls L (v :: xs) (d :: ds) := fun K H hH => .cons (a K H hH) (h K H hH)
theorem dls_ints : ∀ {ns : List Int}, Dls L (ns.map V.int) (ns.map PyData.int)
  | [] => dls_nil
  | _ :: _ => dls_cons dl_int dls_ints
theorem go_eqD {k : Nat} {d e : PyData} (hr : Room k X.A) (a : Dl L x d) (b : Dl L y e) (s1 : SeqAt.shaped d = true) (s2 : SeqAt.shaped e = true) (h : Q (.bl (PyData.eqv d e)) L) : GOp X (compareOp .Eq) x y L Q := GOp.of (op_eqD hr.units) fun H hH => ⟨d, e, a _ H hH, b _ H hH, s1, s2, L, hH, h⟩
theorem go_neD {k : Nat} {d e : PyData} (hr : Room k X.A) (a : Dl L x d) (b : Dl L y e) (s1 : SeqAt.shaped d = true) (s2 : SeqAt.shaped e = true) (h : Q (.bl (!PyData.eqv d e)) L) : GOp X (compareOp .NotEq) x y L Q := GOp.of (op_neD hr.units) fun H hH => ⟨d, e, a _ H hH, b _ H hH, s1, s2, L, hH, h⟩
theorem gi_lst (m : (p, HO.lst xs) ∈ L) (e : atI xs i = some v) (h : Q v L) : GIx X (.ref p) (.int i) L Q := GIx.of ix_list fun H hH => ⟨p, xs, i, v, rfl, rfl, sql hH m, e, L, hH, h⟩
theorem gi_tup (m : (p, HO.tup xs) ∈ L) (e : atI xs i = some v) (h : Q v L) : GIx X (.ref p) (.int i) L Q := GIx.of ix_tup fun H hH => ⟨p, xs, i, v, rfl, rfl, sqt hH m, e, L, hH, h⟩
theorem gc_lenL (m : (p, HO.lst xs) ∈ L) (h : Q (.int (xs.length : Int)) L) : GC X (.builtin "len") [.ref p] L Q := GC.of call_len_seq fun H hH => ⟨p, xs, rfl, .inl (sql hH m), L, hH, h⟩
theorem gc_lenT (m : (p, HO.tup xs) ∈ L) (h : Q (.int (xs.length : Int)) L) : GC X (.builtin "len") [.ref p] L Q := GC.of call_len_seq fun H hH => ⟨p, xs, rfl, .inr (sqt hH m), L, hH, h⟩
theorem gc_int (h : Q (.int i) L) : GC X (.type "int") [.int i] L Q := GC.of call_int1 fun H hH => .inl ⟨i, rfl, L, hH, h⟩
theorem gc_intB {k : Bool} (h : Q (.int (if k then 1 else 0)) L) : GC X (.type "int") [.bl k] L Q := GC.of call_int1 fun H hH => .inr ⟨k, rfl, L, hH, h⟩
theorem gc_abs (h : Q (.int (i.natAbs : Int)) L) : GC X (.builtin "abs") [.int i] L Q := GC.of call_abs fun H hH => ⟨i, rfl, L, hH, by
  have e : (if i < 0 then -i else i) = (i.natAbs : Int) := by split <;> omega
  rw [e]
  exact h⟩
theorem gc_min2 (hc : X.calm = true) (h : Q (.int (if j < i then j else i)) L) : GC X (.builtin "min") [.int i, .int j] L Q := GC.of (call_min2 hc) fun H hH => ⟨i, j, rfl, L, hH, h⟩
theorem gc_list (m : (p, HO.lst xs) ∈ L) (h : ∀ q, Q (.ref q) ((q, .lst xs) :: L)) : GC X (.type "list") [.ref p] L Q := GC.of call_list_of fun H hH => ⟨p, xs, rfl, .inl (sql hH m), fun l hl => ⟨_, hH.new hl, h l⟩⟩
/-- isinstance against a built-in class -/
theorem gc_isi {T c : String} {b : Bool} (ty : ∀ H, Has H L → TyX X.K H x (.type T)) (k : kitB T c = some b) (h : Q (.bl b) L) : GC X (.builtin "isinstance") [x, .ty c] L Q :=
  GC.of call_isi fun H hH => ⟨x, .ty c, .type T, .type c, b, rfl, .ty c, ty H hH, kit_ty k, L, hH, h⟩
end
section
variable {X : Cx} {η : En} {L : Lg} {Q : QV} {e : Expr} {es : List Expr} {pos p : Pos} {x : Str}
theorem ge_B {id : String} (hm : X.mg x = none) (hv : bootBuiltins x = some (.builtin id)) (h : GA X (e :: es) η L fun xs L1 => GC X (.builtin id) xs L1 Q) (hg : Gl X x := by rfl) (hn : x ≠ "__name__" := by decide) (hdb : (x == ("__debug__" : Str)) = false := by decide)
    (he : starEach (e :: es) X.env = (false, eval e X.env) :: starEach es X.env := by rfl) (hpl : (backTo pos (starEach es X.env)).any (·.1) = false := by rfl) : GE X (.Call (.Name x p) (e :: es) [] pos) η L Q := fun hN H hH =>
  WE.of (pe_callB (r := fun xs H' Q' => ∀ pins s σ us, Inv X pins σ H' s → Vals xs us → wpAny (model X.prog X.w) X.A (call (.builtin id) us) (EP X pins σ Q') X.xe s)
    (fun pins s σ H' xs us Q' I r q => q pins s σ us I r) hg hm hv pa_W hn hdb he hpl)
    (h.then hN hH fun _ _ _ h1 q1 => fun pins s σ us I r => q1 pins s σ _ us h1 I r)
theorem ge_Y {T : String} (hm : X.mg x = none) (hv : bootBuiltins x = some (.type T)) (h : GA X (e :: es) η L fun xs L1 => GC X (.type T) xs L1 Q) (hg : Gl X x := by rfl) (hn : x ≠ "__name__" := by decide) (hdb : (x == ("__debug__" : Str)) = false := by decide)
    (he : starEach (e :: es) X.env = (false, eval e X.env) :: starEach es X.env := by rfl) (hpl : (backTo pos (starEach es X.env)).any (·.1) = false := by rfl) : GE X (.Call (.Name x p) (e :: es) [] pos) η L Q := fun hN H hH =>
  WE.of (pe_callTy (r := fun xs H' Q' => ∀ pins s σ us, Inv X pins σ H' s → Vals xs us → wpAny (model X.prog X.w) X.A (call (.type T) us) (EP X pins σ Q') X.xe s)
    (fun pins s σ H' xs us Q' I r q => q pins s σ us I r) hg hm hv pa_W hn hdb he hpl)
    (h.then hN hH fun _ _ _ h1 q1 => fun pins s σ us I r => q1 pins s σ _ us h1 I r)
/-- the name of a built-in class as a value -/
theorem ge_tyName {T : String} (hm : X.mg x = none) (hv : bootBuiltins x = some (.type T)) (q : Q (.ty T) L) (hg : Gl X x := by rfl) (hn : x ≠ "__name__" := by decide) (hdb : (x == ("__debug__" : Str)) = false := by decide) : GE X (.Name x pos) η L Q :=
  ge_con (pe_bltn (v := .ty T) hg hm hv rfl hn hdb) q
/-- the built-ins are no names of the module -/
structure Bi (mg : Str → Option Value) : Prop where
  len : mg "len" = none
  int : mg "int" = none
  abs : mg "abs" = none
  min : mg "min" = none
  max : mg "max" = none
  range : mg "range" = none
  isinstance : mg "isinstance" = none
  list : mg "list" = none
  tuple : mg "tuple" = none
  bool : mg "bool" = none
  str : mg "str" = none
  repr : mg "repr" = none
  sum : mg "sum" = none
  sorted : mg "sorted" = none
  any : mg "any" = none
  all : mg "all" = none
  enumerate : mg "enumerate" = none
  zip : mg "zip" = none
  ValueError : mg "ValueError" = none
  LookupError : mg "LookupError" = none
  reversed : mg "reversed" = none
  b_set : mg "set" = none
  dict : mg "dict" = none
  iter : mg "iter" = none
  next : mg "next" = none
  b_type : mg "type" = none
theorem bt_len : bootBuiltins "len" = some (.builtin "len") := by decide +kernel
theorem bt_abs : bootBuiltins "abs" = some (.builtin "abs") := by decide +kernel
theorem bt_min : bootBuiltins "min" = some (.builtin "min") := by decide +kernel
theorem bt_isinstance : bootBuiltins "isinstance" = some (.builtin "isinstance") := by decide +kernel
theorem bt_int : bootBuiltins "int" = some (.type "int") := by decide +kernel
theorem bt_bool : bootBuiltins "bool" = some (.type "bool") := by decide +kernel
theorem bt_list : bootBuiltins "list" = some (.type "list") := by decide +kernel
theorem bt_tuple : bootBuiltins "tuple" = some (.type "tuple") := by decide +kernel
theorem bt_ValueError : bootBuiltins "ValueError" = some (.type "ValueError") := by decide +kernel
theorem bt_LookupError : bootBuiltins "LookupError" = some (.type "LookupError") := by decide +kernel
theorem bt_str : bootBuiltins "str" = some (.type "str") := by decide +kernel
end
section
variable {X : Cx} {η : En} {L : Lg} {e a b c tg : Expr} {pos : Pos} {st : Stmt} {rest body : List Stmt} {D : GD} {v : V}
theorem GG.then {Q : En → Lg → Prop} {Q' : L2.St → Hp → Prop} (h : GG X tg v η L Q) (hN : X.N = names η) {H : Hp} (hH : Has H L) (m : ∀ θ L1 H1, X.N = names θ → Has H1 L1 → Q θ L1 → Q' (vals θ) H1) : WG X tg v (vals η) H Q' := (h hN H hH).mono fun σ' H1 ⟨θ, L1, n1, es, h1, q1⟩ => by
  rw [es]
  exact m θ L1 H1 n1 h1 q1
theorem GGs.then {ts : List Expr} {vs : List V} {Q : En → Lg → Prop} {Q' : L2.St → Hp → Prop} (h : GGs X ts vs η L Q) (hN : X.N = names η) {H : Hp} (hH : Has H L) (m : ∀ θ L1 H1, X.N = names θ → Has H1 L1 → Q θ L1 → Q' (vals θ) H1) : WGs X ts vs (vals η) H Q' := (h hN H hH).mono fun σ' H1 ⟨θ, L1, n1, es, h1, q1⟩ => by
  rw [es]
  exact m θ L1 H1 n1 h1 q1
theorem gg_name {x : Str} {θ : En} {Q : En → Lg → Prop} (p : Put x v η θ) (q : Q θ L) (hn : X.N.Nodup := by assumption) (hx : Loc X.env.scope x := by first | exact Or.inl rfl | exact Or.inr rfl) (hf : X.fn x = true ∨ X.env.scope.names.lookup x = some .local := by first | exact .inl rfl | exact .inr rfl) : GG X (.Name x pos) v η L Q := fun hN H hH => by
  obtain ⟨i, h1, h2, h3⟩ := p.idx
  refine WG.of (pg_name (i := i) hn (by rw [hN]; exact h1) hx hf) ?_
  show upS X Q ((vals η).set i (some v)) H
  exact ⟨θ, L, by rw [h3]; exact hN, h2.symm, hH, q⟩
theorem ggs_nil {Q : En → Lg → Prop} (q : Q η L) : GGs X [] [] η L Q := fun hN H hH => WGs.of pgs_nil ⟨rfl, η, L, hN, rfl, hH, q⟩
theorem ggs_cons {ts : List Expr} {vs : List V} {Q : En → Lg → Prop} (h : GG X e v η L fun θ L1 => GGs X ts vs θ L1 Q)
    (hs : (assignEach (e :: ts) X.env).map (·.2) = assign e X.env :: (assignEach ts X.env).map (·.2) := by rfl) : GGs X (e :: ts) (v :: vs) η L Q := fun hN H hH =>
  WGs.of (pgs_cons pg_W pgs_W hs) ⟨v, vs, rfl, h.then hN hH fun θ L1 H1 n1 h1 q1 => q1 n1 H1 h1⟩
theorem gg_tup {es : List Expr} {k : Nat} {p : Addr} {xs : List V} {Q : En → Lg → Prop} (m : (p, HO.tup xs) ∈ L) (h : GGs X es xs η L Q) (hl : xs.length = es.length := by rfl) (hc : X.calm = true := by rfl)
    (hn : (assignEach es X.env).length = es.length := by rfl) (hst : (assignEach es X.env).findIdx? (·.1) = none := by rfl) : GG X (.Tuple es k pos) (.ref p) η L Q := fun hN H hH =>
  WG.of (pg_tup hc pgs_W hn hst) ⟨p, xs, rfl, sqt hH m, hl, h hN H hH⟩
/-- o[i] = v, by values -/
def GSt (X : Cx) (o i v : V) (L : Lg) (Q : Lg → Prop) : Prop := ∀ pins s σ H ov iv u, Has H L → Inv X pins σ H s → RelV o ov → RelV i iv → RelV v u →
  wpAny (model X.prog X.w) X.A (setItem ov iv u) (fun _ s' => ∃ H', Inv X pins σ H' s' ∧ ∃ L', Has H' L' ∧ Q L') X.xe s
theorem gst_lst {p : Addr} {xs : List V} {k : Int} {j : Nat} {M : Lg} {Q : Lg → Prop} (m : (p, HO.lst xs) ∈ L) (hi : ixN xs.length k = some j) (sw : Swap p (.lst (xs.set j v)) L M) (q : Q M) : GSt X (.ref p) (.int k) v L Q :=
  fun pins s σ H ov iv u hH I r1 r2 r3 => (show PSet X rSetL from set_list) pins s σ H (.ref p) (.int k) v ov iv u _ I r1 r2 r3 ⟨p, xs, k, j, rfl, rfl, hH.get m, hi, M, hH.swap sw, q⟩
theorem gst_30 {p : Addr} {a b c : V} {M : Lg} {Q : Lg → Prop} (m : (p, HO.lst [a, b, c]) ∈ L) (sw : Swap p (.lst [v, b, c]) L M) (q : Q M) : GSt X (.ref p) (.int 0) v L Q := gst_lst (j := 0) m rfl sw q
theorem gst_31 {p : Addr} {a b c : V} {M : Lg} {Q : Lg → Prop} (m : (p, HO.lst [a, b, c]) ∈ L) (sw : Swap p (.lst [a, v, c]) L M) (q : Q M) : GSt X (.ref p) (.int 1) v L Q := gst_lst (j := 1) m rfl sw q
theorem gst_32 {p : Addr} {a b c : V} {M : Lg} {Q : Lg → Prop} (m : (p, HO.lst [a, b, c]) ∈ L) (sw : Swap p (.lst [a, b, v]) L M) (q : Q M) : GSt X (.ref p) (.int 2) v L Q := gst_lst (j := 2) m rfl sw q
theorem gg_sub {o i : Expr} {Q : En → Lg → Prop} (h : GE X o η L fun x L1 => GE X i η L1 fun y L2 => GSt X x y v L2 fun L3 => Q η L3)
    (ha : ∀ v, assign (.Subscript o i pos) X.env v = (do
      let ov ← holding [v] (eval o X.env)
      let iv ← holding [v, ov] (eval i X.env)
      standAt pos
      holding [v, ov, iv] (setItem ov iv v)
      release [v, ov, iv] []) := by intro _; rfl) : GG X (.Subscript o i pos) v η L Q := fun hN H hH =>
  WG.of (pg_sub (t := fun x y z H' Q' => ∀ pins s σ ov iv u, Inv X pins σ H' s → RelV x ov → RelV y iv → RelV z u → wpAny (model X.prog X.w) X.A (setItem ov iv u) (fun _ s' => ∃ H'', Inv X pins σ H'' s' ∧ Q' H'') X.xe s)
    pe_W pe_W (fun pins s σ H' x y z ov iv u Q' I r1 r2 r3 q => q pins s σ ov iv u I r1 r2 r3) ha)
    (h.then hN hH fun _ _ _ h1 q1 => q1.then hN h1 fun _ _ _ h2 q2 => fun pins s σ ov iv u I r1 r2 r3 =>
      thn (q2 pins s σ _ ov iv u h2 I r1 r2 r3) fun _ _ ⟨H3, J, L3, h3, q3⟩ => ⟨H3, J, η, L3, hN, rfl, h3, q3⟩)
theorem GS.run {σ : L2.St} {H : Hp} (h : GS X st D η L) (hN : X.N = names η) (hH : Has H L) : WS X st (D.ends X) (vals η) H := h hN H hH
theorem SPm {pins : List (Addr × Obj)} {D D' : Ends} {f : Flow} {s : Shared} (h : SP X pins D f s) (nx : ∀ σ H, D.nx σ H → D'.nx σ H) (rt : ∀ v H, D.rt v H → D'.rt v H) (bk : ∀ σ H, D.bk σ H → D'.bk σ H) (ct : ∀ σ H, D.ct σ H → D'.ct σ H) : SP X pins D' f s := by
  cases f with
  | next => obtain ⟨σ', H', I, q⟩ := h; exact ⟨σ', H', I, nx _ _ q⟩
  | brk => obtain ⟨σ', H', I, q⟩ := h; exact ⟨σ', H', I, bk _ _ q⟩
  | cont => obtain ⟨σ', H', I, q⟩ := h; exact ⟨σ', H', I, ct _ _ q⟩
  | ret u => obtain ⟨v, σ', H', I, r, q⟩ := h; exact ⟨v, σ', H', I, r, rt _ _ q⟩
theorem WS.mono {σ : L2.St} {H : Hp} {D D' : Ends} (h : WS X st D σ H) (nx : ∀ σ H, D.nx σ H → D'.nx σ H) (rt : ∀ v H, D.rt v H → D'.rt v H) (bk : ∀ σ H, D.bk σ H → D'.bk σ H) (ct : ∀ σ H, D.ct σ H → D'.ct σ H) : WS X st D' σ H :=
  fun pins s I => thn (h pins s I) fun _ _ z => SPm z nx rt bk ct
theorem WSs.mono {σ : L2.St} {H : Hp} {D D' : Ends} {sts : List Stmt} (h : WSs X sts D σ H) (nx : ∀ σ H, D.nx σ H → D'.nx σ H) (rt : ∀ v H, D.rt v H → D'.rt v H) (bk : ∀ σ H, D.bk σ H → D'.bk σ H) (ct : ∀ σ H, D.ct σ H → D'.ct σ H) : WSs X sts D' σ H :=
  fun pins s I => thn (h pins s I) fun _ _ z => SPm z nx rt bk ct
theorem gss_nil (q : D.nx η L) : GSs X [] D η L := fun hN H hH => WSs.of pss_nil ⟨η, L, hN, rfl, hH, q⟩
theorem gss_cons (h : GS X st { D with nx := fun θ L1 => GSs X rest D θ L1 } η L) : GSs X (st :: rest) D η L := fun hN H hH =>
  WSs.of (pss_cons ps_W pss_W) ((h hN H hH).mono (fun σ1 H1 ⟨θ, L1, n1, es, h1, q1⟩ => by
    rw [es]
    exact q1 n1 H1 h1) (fun _ _ z => z) (fun _ _ z => z) fun _ _ z => z)
theorem GS.cut (M : En → Lg → Prop) {Q : En → Lg → Prop} (h : GS X st { D with nx := M } η L) (k : ∀ θ L1, M θ L1 → Q θ L1) (e : D.nx = Q := by rfl) : GS X st D η L := fun hN H hH =>
  (h hN H hH).mono (fun σ1 H1 ⟨θ, L1, n1, es, h1, q1⟩ => ⟨θ, L1, n1, es, h1, by rw [e]; exact k θ L1 q1⟩) (fun _ _ z => z) (fun _ _ z => z) fun _ _ z => z
theorem GSs.sub {M : Lg} {sts : List Stmt} (s : Sub M L) (h : GSs X sts D η M) : GSs X sts D η L := fun hN H hH => h hN H (s H hH)
theorem GS.sub {M : Lg} (s : Sub M L) (h : GS X st D η M) : GS X st D η L := fun hN H hH => h hN H (s H hH)
theorem gs_pass (q : D.nx η L) : GS X (.Pass pos) D η L := fun hN H hH => WS.of ps_pass ⟨η, L, hN, rfl, hH, q⟩
theorem gs_break (q : D.bk η L) : GS X (.Break pos) D η L := fun hN H hH => WS.of ps_break ⟨η, L, hN, rfl, hH, q⟩
theorem gs_continue (q : D.ct η L) : GS X (.Continue pos) D η L := fun hN H hH => WS.of ps_continue ⟨η, L, hN, rfl, hH, q⟩
theorem gs_expr (h : GE X e η L fun _ L1 => D.nx η L1) (hs : swapsWith e none pos.line X.env = pure false := by rfl) : GS X (.Expr e pos) D η L := fun hN H hH =>
  WS.of (ps_expr pe_W hs) (h.then hN hH fun _ L1 H1 h1 q1 => ⟨η, L1, hN, rfl, h1, q1⟩)
theorem gs_ret (h : GE X e η L D.rt) : GS X (.Return (some e) pos) D η L := fun hN H hH => WS.of (ps_ret pe_W) (h hN H hH)
theorem gs_retN (q : D.rt .non L) : GS X (.Return none pos) D η L := fun hN H hH => WS.of ps_retN ⟨L, hH, q⟩
theorem gs_if {p q : List Stmt} (h : GT X c η L fun k L1 => if k = true then GSs X p D η L1 else GSs X q D η L1) : GS X (.If c p q pos) D η L := fun hN H hH =>
  WS.of (ps_if pt_W pss_W pss_W) (h.then hN hH fun k L1 H1 h1 q1 => by
    cases k with
    | true => exact q1 hN H1 h1
    | false => exact q1 hN H1 h1)
/-- x = e, x a name of the def's own -/
theorem gs_set {x : Str} {f : V → En} {pos' : Pos} (p : PutF x η f) (h : GE X e η L fun v L1 => D.nx (f v) L1) (hn : X.N.Nodup := by assumption) (hx : Loc X.env.scope x := by first | exact Or.inl rfl | exact Or.inr rfl)
    (hs : swapsWith e (some (.Name x pos')) pos.line X.env = pure false := by rfl) (hf : X.fn x = true ∨ X.env.scope.names.lookup x = some .local := by first | exact .inl rfl | exact .inr rfl) : GS X (.Assign [.Name x pos'] e pos) D η L := fun hN H hH => by
  obtain ⟨i, h1, h2⟩ := p.idx
  refine WS.of (ps_set (i := i) hn (by rw [hN]; exact h1) hx pe_W hs hf) (h.then hN hH fun v L1 H1 g1 q1 => ?_)
  show upS X D.nx ((vals η).set i (some v)) H1
  exact ⟨f v, L1, by rw [(h2 v).2]; exact hN, (h2 v).1.symm, g1, q1⟩
/-- x op= y, by values -/
def GIp (X : Cx) (op : Operator) (x y : V) (L : Lg) (Q : QV) : Prop := ∀ pins s σ H v u, Has H L → Inv X pins σ H s → RelV x v → RelV y u → wpAny (model X.prog X.w) X.A (inplaceOp op v u) (EP X pins σ (up Q)) X.xe s
theorem gp_add {i j : Int} {Q : QV} (h : Q (.int (i + j)) L) : GIp X .Add (.int i) (.int j) L Q := fun pins s σ H v u hH I r1 r2 => (show PIp X .Add (ipI fun i j => i + j) from ip_add) pins s σ H _ _ v u _ I r1 r2 ⟨i, j, rfl, rfl, L, hH, h⟩
theorem gp_sub {i j : Int} {Q : QV} (h : Q (.int (i - j)) L) : GIp X .Sub (.int i) (.int j) L Q := fun pins s σ H v u hH I r1 r2 => (show PIp X .Sub (ipI fun i j => i - j) from ip_sub) pins s σ H _ _ v u _ I r1 r2 ⟨i, j, rfl, rfl, L, hH, h⟩
/-- x op= e -/
theorem gs_aug {x : Str} {y : V} {f : V → En} {pos' : Pos} {op : Operator} (r : At x y η) (p : PutF x η f)
    (h : GE X e η L fun z L1 => GIp X op y z L1 fun w L2 => D.nx (f w) L2)
    (hn : X.N.Nodup := by assumption) (hx : Loc X.env.scope x := by first | exact Or.inl rfl | exact Or.inr rfl) (hf : X.fn x = true ∨ X.env.scope.names.lookup x = some .local := by first | exact .inl rfl | exact .inr rfl) : GS X (.AugAssign (.Name x pos') op e pos) D η L := fun hN H hH => by
  obtain ⟨i, h1, h2⟩ := p.idx
  obtain ⟨j, g1, g2⟩ := r.idx
  have ij : i = j := by
    have h1' : X.N[i]? = some x := by rw [hN]; exact h1
    have g1' : X.N[j]? = some x := by rw [hN]; exact g1
    obtain ⟨a1, a2⟩ := List.getElem?_eq_some_iff.mp h1'
    obtain ⟨b1, b2⟩ := List.getElem?_eq_some_iff.mp g1'
    exact (List.getElem_inj hn).mp (a2.trans b2.symm)
  subst ij
  refine WS.of (ps_aug (i := i) (ti := fun a b H' Q' => ∀ pins s σ v u, Inv X pins σ H' s → RelV a v → RelV b u → wpAny (model X.prog X.w) X.A (inplaceOp op v u) (EP X pins σ Q') X.xe s) hn (by rw [hN]; exact h1) hx pe_W
    (fun pins s σ H' a b v u Q' I r1 r2 q => q pins s σ v u I r1 r2) hf) ⟨y, g2, ?_⟩
  refine h.then hN hH fun z L1 H1 k1 q1 => fun pins s σ v u I r1 r2 => ?_
  refine thn (q1 pins s σ H1 v u k1 I r1 r2) fun w _ ⟨x', H2, J, r3, L2, k2, q2⟩ => ⟨x', H2, J, r3, ?_⟩
  show upS X D.nx ((vals η).set i (some x')) H2
  exact ⟨f x', L2, by rw [(h2 x').2]; exact hN, (h2 x').1.symm, k2, q2⟩
/-- a, b = x, y (both written) -/
theorem gs_par {x y : Str} {f : V → En} {g : V → V → En} {px py pt pos : Pos} {kt k2 pt2} (p : PutF x η f) (q : ∀ v, PutF y (f v) (g v)) (h : GA X [a, b] η L fun vs L1 => ∃ v w, vs = [v, w] ∧ D.nx (g v w) L1)
    (hw : swappedStores [.Tuple [.Name x px, .Name y py] kt pt] (.Tuple [a, b] k2 pt2) X.env = pure (some [x, y]) := by rfl) (hxy : x ≠ y := by decide +kernel) (hn : X.N.Nodup := by assumption) (hc : X.calm = true := by rfl)
    (hx : X.env.scope.names.lookup x = some .local := by rfl) (hy : X.env.scope.names.lookup y = some .local := by rfl)
    (hs : swapsWithSole [.Tuple [.Name x px, .Name y py] kt pt] (.Tuple [a, b] k2 pt2) pos.line X.env = pure false := by rfl) :
    GS X (.Assign [.Tuple [.Name x px, .Name y py] kt pt] (.Tuple [a, b] k2 pt2) pos) D η L := fun hN H hH => by
  obtain ⟨i, h1, h2⟩ := p.idx
  obtain ⟨j, g1⟩ : ∃ j : Nat, ∀ v, (names (f v))[j]? = some y ∧ ∀ w, vals (g v w) = (vals (f v)).set j (some w) ∧ names (g v w) = names (f v) := by
    obtain ⟨j, k1, k2⟩ := (q .non).idx
    refine ⟨j, fun v => ?_⟩
    obtain ⟨j', m1, m2⟩ := (q v).idx
    have e : j = j' := by
      rw [(h2 .non).2] at k1
      rw [(h2 v).2] at m1
      have k1' : X.N[j]? = some y := by rw [hN]; exact k1
      have m1' : X.N[j']? = some y := by rw [hN]; exact m1
      obtain ⟨a1, a2⟩ := List.getElem?_eq_some_iff.mp k1'
      obtain ⟨b1, b2⟩ := List.getElem?_eq_some_iff.mp m1'
      exact (List.getElem_inj hn).mp (a2.trans b2.symm)
    subst e
    exact ⟨m1, m2⟩
  have hi : X.N[i]? = some x := by rw [hN]; exact h1
  have hj : X.N[j]? = some y := by
    have z := (g1 .non).1
    rw [(h2 .non).2] at z
    rw [hN]
    exact z
  have hij : i ≠ j := fun e => hxy (by rw [e, hj] at hi; exact (Option.some.inj hi).symm)
  refine WS.of (ps_par (i := i) (j := j) hc hn hi hj hij hx hy pa_W hw hs) (h.then hN hH fun vs L1 H1 k1 ⟨v, w, e1, q1⟩ => ⟨v, w, e1, ?_⟩)
  show upS X D.nx (((vals η).set i (some v)).set j (some w)) H1
  refine ⟨g v w, L1, ?_, ?_, k1, q1⟩
  · rw [((g1 v).2 w).2, (h2 v).2]
    exact hN
  · rw [((g1 v).2 w).1, (h2 v).1]
end
section
variable {X : Cx} {η : En} {L : Lg} {e a b c tg iter : Expr} {pos : Pos} {body : List Stmt} {D : GD}
theorem gs_asg (h : GE X e η L fun v L1 => GG X tg v η L1 D.nx) (hs : swapsWithSole [tg] e pos.line X.env = pure false := by rfl) (hw : swappedStores [tg] e X.env = pure none := by rfl)
    (h1 : (assignEach [tg] X.env).map (·.2) = [assign tg X.env] := by rfl) : GS X (.Assign [tg] e pos) D η L := fun hN H hH =>
  WS.of (ps_asg pe_W pg_W hs hw h1) (h.then hN hH fun v L1 H1 k1 q1 => q1 hN H1 k1)
/-- a loop's invariant: Pv by the turn -/
structure LoopBy (X : Cx) (tg : Expr) (body : List Stmt) (D : GD) (item : Nat → V → Prop) (n : Nat) (η : En) (L : Lg) (Pv : Nat → En → Lg → Prop) : Prop where
  h0 : Pv 0 η L
  hs : ∀ i x θ M, i < n → item i x → Pv i θ M → GG X tg x θ M fun θ' M' => GSs X body { nx := Pv (i + 1), rt := D.rt, bk := D.nx, ct := Pv (i + 1) } θ' M'
  hd : ∀ θ M, Pv n θ M → D.nx θ M
/-- one turn, as the library's loops ask it -/
theorem turn {item : Nat → V → Prop} {n : Nat} {Pv : Nat → En → Lg → Prop} (l : LoopBy X tg body D item n η L Pv) {i : Nat} {x : V} {σ : L2.St} {H : Hp} (hi : i < n) (hx : item i x) (p : upS X (Pv i) σ H) :
    WG X tg x σ H fun σ2 H2 => WSs X body { D.ends X with nx := upS X (Pv (i + 1)), ct := upS X (Pv (i + 1)), bk := (D.ends X).nx } σ2 H2 := by
  obtain ⟨θ, M, n1, es, h1, q1⟩ := p
  rw [es]
  exact (l.hs i x θ M hi hx q1).then n1 h1 fun θ' M' H2 n2 h2 q2 => q2 n2 H2 h2
/-- while: the word Pv with its measure as a part -/
theorem gs_while (Pv : Nat → En → Lg → Prop) (m0 : Nat) (h0 : Pv m0 η L)
    (hs : ∀ m θ M, Pv m θ M → GT X c θ M fun k M1 => if k = true then GSs X body { nx := fun θ' M' => ∃ m', m' < m ∧ Pv m' θ' M', rt := D.rt, bk := D.nx, ct := fun θ' M' => ∃ m', m' < m ∧ Pv m' θ' M' } θ M1 else D.nx θ M1)
    (hp : PassesOwn (model X.prog X.w) X.A X.env X.xe := by first | exact PassesOwn.never | exact passes_of rfl | assumption) : GS X (.While c body [] pos) D η L := fun hN H hH =>
  WS.of (ps_while hp pt_W pss_W) ⟨fun m => upS X (Pv m), ⟨m0, η, L, hN, rfl, hH, h0⟩, fun m σ H1 ⟨θ, M, n1, es, h1, q1⟩ => by
    rw [es]
    refine (hs m θ M q1).then n1 h1 fun k M1 H2 h2 q2 => ?_
    cases k with
    | true =>
      refine ⟨upS X fun θ' M' => ∃ m', m' < m ∧ Pv m' θ' M', fun σ' H' ⟨θ', M', n', e', h', m', hlt, q'⟩ => ⟨m', hlt, θ', M', n', e', h', q'⟩, ?_⟩
      exact q2 n1 H2 h2
    | false => exact ⟨θ, M1, n1, rfl, h2, q2⟩⟩
end
abbrev XL := Value → Option Addr → Lg → Prop
abbrev SpL := List V → Lg → QV → XL → Prop
/-- a promise over ledgers, as the library's -/
def toSp (sp : SpL) : Sp := fun vs H Q E => ∃ L Ql El, Has H L ∧ sp vs L Ql El ∧ (∀ v L' H', Has H' L' → Ql v L' → Q v H') ∧ ∀ c d L' H', Has H' L' → El c d L' → E c d H'
section
variable {P : Program} {w : World} {K : PySem.W.Frag} {mg : Str → Option Value} {base : Heap}
/-- the def x of the text as it stands behind the top -/
def Df (K : PySem.W.Frag) (mg : Str → Option Value) (x : Str) (st : Stmt) : Prop := ∃ f fd, mg x = some (.ref f) ∧ Fun K x x st f fd
/-- room for calls, and no repr that is under way -/
structure RoomG (k : Nat) (A : Around) : Prop extends Room k A where
  gd : A.guards = some []
theorem RoomG.mono {j k : Nat} {A : Around} (r : RoomG k A) (h : j ≤ k) : RoomG j A := ⟨r.toRoom.mono h, r.gd⟩
/-- what is at f keeps its promise; args: how the call's values are handed over -/
def RunG (P : Program) (w : World) (K : PySem.W.Frag) (mg : Str → Option Value) (base : Heap) (CX : CXT) (k : Nat) (f : Addr) (args : List Value → Args) (sp : Sp) : Prop :=
  ∀ (A : Around) (outer : List Env) (s : Shared) (H : Hp) (us : List Value) (vs : List V) (Q : VK) (E : XK), RoomG k A → Env0 P w K mg base A outer s H → Vals vs us → sp vs H Q E → codeAny (model P w) A (.call (.ref f) (args us)) (CR CX outer P w H s Q E) s
abbrev argsP : List Value → Args := fun us => ⟨us, []⟩
abbrev argsK (n : Nat) (ks : List Str) : List Value → Args := fun us => ⟨us.take n, ks.zip (us.drop n)⟩
theorem RunG.imp {CX : CXT} {k : Nat} {f : Addr} {args : List Value → Args} {sp sp' : Sp} (F : RunG P w K mg base CX k f args sp) (h : ∀ vs H Q E, sp' vs H Q E → sp vs H Q E) : RunG P w K mg base CX k f args sp' := fun A outer s H us vs Q E hr e0 r hs => F A outer s H us vs Q E hr e0 r (h _ _ _ _ hs)
theorem RunG.mono {CX : CXT} {j k : Nat} {f : Addr} {args : List Value → Args} {sp : Sp} (F : RunG P w K mg base CX j f args sp) (h : j ≤ k) : RunG P w K mg base CX k f args sp := fun A outer s H us vs Q E hr => F A outer s H us vs Q E (hr.mono h)
/-- the def x keeps its promise -/
def FnA (P : Program) (w : World) (K : PySem.W.Frag) (mg : Str → Option Value) (base : Heap) (CX : CXT) (x : Str) (k : Nat) (args : List Value → Args) (sp : SpL) : Prop := ∃ f, mg x = some (.ref f) ∧ PySem.W.keepIn K (.ref f) = true ∧ RunG P w K mg base CX k f args (toSp sp)
abbrev Fn (P : Program) (w : World) (K : PySem.W.Frag) (mg : Str → Option Value) (base : Heap) (CX : CXT) (x : Str) (k : Nat) (sp : SpL) : Prop := FnA P w K mg base CX x k argsP sp
/-- what is left over may be dropped -/
def drp (Q : QV) : QV := fun v L => ∃ M, Sub M L ∧ Q v M
def bodyD (Q : QV) : GD := { nx := fun _ L => drp Q .non L, rt := drp Q, bk := fun _ _ => False, ct := fun _ _ => False }
def begun (N : List Str) (vs : List V) : En := N.zip (L2.start N vs)
theorem names_begun {N : List Str} {vs : List V} (h : vs.length ≤ N.length) : names (begun N vs) = N ∧ vals (begun N vs) = L2.start N vs := by
  have l : (L2.start N vs).length = N.length := by
    unfold L2.start
    rw [List.length_append, List.length_map, List.length_replicate]
    omega
  unfold names vals begun
  exact ⟨List.map_fst_zip (Nat.le_of_eq l.symm), List.map_snd_zip (Nat.le_of_eq l)⟩
/-- where the body of such a def stands -/
def cx0 (P : Program) (w : World) (K : PySem.W.Frag) (mg : Str → Option Value) (base : Heap) (N : List Str) (x : Str) (sc : Scope) (f : Addr) (cdv : Value) (A : Around) (outer : List Env) (s : Shared) (H : Hp) (E0 : XK) : Cx := (cxOf CX0 P w K mg base N x sc f cdv A outer s H E0).nox
/-- what a body shows, as the library wants it -/
theorem body_end {X : Cx} {st : List Stmt} {vs : List V} {H : Hp} {Q : VK} {Ql : QV} (hl : vs.length ≤ X.N.length) (hq : ∀ v L' H', Has H' L' → Ql v L' → Q v H') {L : Lg} (hH : Has H L) (h : GSs X st (bodyD Ql) (begun X.N vs) L) :
    WSs X st { nx := fun _ H' => Q .non H', rt := Q } (L2.start X.N vs) H := by
  have z := h (by rw [(names_begun hl).1] <;> rfl) H hH
  rw [(names_begun hl).2] at z
  refine z.mono (fun σ H' hh => ?_) (fun v H' hh => ?_) (fun _ _ hh => ?_) (fun _ _ hh => ?_)
  · obtain ⟨θ, M, _, _, h', M', sb, q⟩ := hh
    exact hq _ M' H' (sb _ h') q
  · obtain ⟨M, h', M', sb, q⟩ := hh
    exact hq _ M' H' (sb _ h') q
  · obtain ⟨_, _, _, _, _, q⟩ := hh
    exact q.elim
  · obtain ⟨_, _, _, _, _, q⟩ := hh
    exact q.elim
theorem guard_deeper {A : Around} {e : Env} (h : A.guards = some []) : (A.deeper e).guards = some [] := h
/-- what a promise's body is shown of -/
abbrev BodyOf (P : Program) (w : World) (K : PySem.W.Frag) (mg : Str → Option Value) (base : Heap) (N : List Str) (q : Str) (st : Stmt) (k : Nat) (sp : SpL) : Prop :=
  ∀ (X : Cx) (f : Addr) (cdv : Value) (A : Around) (outer : List Env) (s : Shared) (H : Hp) (E0 : XK) (L : Lg) (vs : List V) (Q : QV) (E : XL), X = cx0 P w K mg base N q (defScope st) f cdv A outer s H E0 → X.N.Nodup → RoomG k X.A → sp vs L Q E → GSs X (defBody st) (bodyD Q) (begun N vs) L
theorem run_plain {x q : Str} {st : Stmt} {f : Addr} {fd : FuncData} {N ps : List Str} {k : Nat} {sp : SpL} (F : Fun K x q st f fd) (S : FnScope N ps (defScope st)) (args : List Value → Args) (pmV : List V → List V) (pmU : List Value → List Value) (hpm : ∀ vs us, Vals vs us → Vals (pmV vs) (pmU us))
    (hb : ∀ (kV doc pm : Value) (an : Option Addr) (cdv ct : Value) (us : List Value), (pmU us).length = ps.length → bindArgs (PySem.W.fnOf x q (defArgs st) (defBody st) (defScope st) .none kV doc pm an cdv ct) (args us) = pure (ps.zip (pmU us)))
    (hl : ps.length ≤ N.length) (len : ∀ vs L Q E, sp vs L Q E → vs.length = ps.length) (body : BodyOf P w K mg base N q st k sp) : RunG P w K mg base CX0 (k + 1) f args (fun vs => toSp sp (pmV vs)) := by
  obtain ⟨oc, od, kV, doc, pm, an, cdv, ct, osl, rfl, lk, hcd⟩ := F.ex
  intro A outer s H us vs Q E hr e0 r hsp
  obtain ⟨L, Ql, El, hH, h, hq, _⟩ := hsp
  have hn : (pmV vs).length = ps.length := len _ L Ql El h
  have r2 := hpm vs us r
  have hlv : (pmV vs).length ≤ N.length := by
    rw [hn]
    exact hl
  exact LamX.run_ofS (CX := CX0) lk hcd S hr.toRoom e0 (.of_eq (hb kV doc pm an cdv ct us (by rw [← r2.length]; exact hn))) r2 hn fun hr2 =>
    ⟨WSs _ (defBody st), PSs.nox pss_W, body_end (X := cx0 P w K mg base N q (defScope st) f cdv A outer s H E) hlv hq hH (body _ f cdv A outer s H E L (pmV vs) Ql El rfl S.nd ⟨hr2, guard_deeper hr.gd⟩ h)⟩
/-- THE RULE for a def that lets no exception out -/
theorem fn_plain {x : Str} {st : Stmt} {N ps : List Str} {k : Nat} {sp : SpL} (F : Df K mg x st) (S : FnScope N ps (defScope st))
    (hb : ∀ (kV doc pm : Value) (an : Option Addr) (cdv ct : Value) (us : List Value), us.length = ps.length → bindArgs (PySem.W.fnOf x x (defArgs st) (defBody st) (defScope st) .none kV doc pm an cdv ct) ⟨us, []⟩ = pure (ps.zip us))
    (hl : ps.length ≤ N.length) (len : ∀ vs L Q E, sp vs L Q E → vs.length = ps.length) (body : BodyOf P w K mg base N x st k sp) : Fn P w K mg base CX0 x (k + 1) sp := by
  obtain ⟨f, fd, hm, F⟩ := F
  exact ⟨f, hm, F.kp, run_plain F S argsP id id (fun _ _ r => r) hb hl len body⟩
end
def NoX : XL := fun _ _ _ => False
def upX (E : XL) : XK := fun c d H => ∃ L, Has H L ∧ E c d L
section
variable {X : Cx} {η : En} {L : Lg} {Q : QV} {El : XL} {CX : CXT} {x : Str} {j k : Nat} {sp : SpL} {e o : Expr} {es : List Expr} {pos p apos : Pos}
theorem passA {E : XK} : Passes CX0 X E := fun _ _ _ _ _ _ _ h => h.elim
theorem passN : Passes (L2.CX X.prog X.w) X (upX NoX) := fun _ _ _ _ _ _ _ h => by
  obtain ⟨_, _, _, _, _, _, _, _, _, _, _, _, _, _, z⟩ := h
  exact z.elim
theorem up_sp {vs : List V} {H : Hp} (hH : Has H L) (h : sp vs L Q El) : toSp sp vs H (up Q) (upX El) := ⟨L, Q, El, hH, h, fun _ L' _ h' q => ⟨L', h', q⟩, fun _ _ L' _ h' q => ⟨L', h', q⟩⟩
/-- a call that got its values -/
theorem run_G {pins : List (Addr × Obj)} {σ : L2.St} {H : Hp} {s : Shared} {f : Addr} {args : List Value → Args} {us : List Value} {vs : List V} {sp : Sp} {E : XK} {Q : VK} (F : RunG X.prog X.w X.K X.mg X.base CX k f args sp) (hr : RoomG k X.A) (hx : Passes CX X E) (I : Inv X pins σ H s) (r : Vals vs us) (h : sp vs H Q E) :
    wpAny (model X.prog X.w) X.A (call (.ref f) (args us).pos (args us).kw) (EP X pins σ Q) X.xe s := by
  refine wpAny_call (codeAny_mono (F X.A X.stack s H us vs Q E hr I.env0 r h) fun r' s' hq => ?_)
  cases r' with
  | error e => exact hx pins σ H s e s' I hq
  | ok fl =>
    cases fl with
    | ret u => exact I.after hq
    | next => exact hq.elim
    | brk => exact hq.elim
    | cont => exact hq.elim
theorem ge_call (F : Fn X.prog X.w X.K X.mg X.base CX x k sp) (hr : RoomG j X.A) (hx : Passes CX X (upX El)) (h : GA X (e :: es) η L fun vs L1 => sp vs L1 Q El) (hjk : k ≤ j := by decide) (hg : Gl X x := by rfl) (hd : (x == ("__debug__" : Str)) = false := by decide)
    (he : starEach (e :: es) X.env = (false, eval e X.env) :: starEach es X.env := by rfl) (hpl : (backTo pos (starEach es X.env)).any (·.1) = false := by rfl) : GE X (.Call (.Name x p) (e :: es) [] pos) η L Q := fun hN H hH pins s I => by
  obtain ⟨f, hm, hk, F⟩ := F
  refine wpAny_Call_Name_kw (ld_glob I hg hm ?_ hd)
  refine PySem.W.callWith_K (h₀ := X.base) I.ok.mod.kin hk ?_ he hpl
  refine thn (h hN H hH pos pins s I) fun us s1 ⟨vs, H1, J, r, L1, h1, q⟩ => ⟨J.kIn, ?_⟩
  exact run_G (args := argsP) F (hr.mono hjk) hx J r (up_sp h1 q)
/-- xs.append(e) -/
theorem ge_append (h : GE X o η L fun v L1 => ∃ l zs, v = .ref l ∧ (l, HO.lst zs) ∈ L1 ∧ GE X e η L1 fun y L2 => ∃ xs M, (l, HO.lst xs) ∈ L2 ∧ xs.length < sizeLine ∧ Swap l (.lst (xs ++ [y])) L2 M ∧ Q .non M)
    (hbase : attributeBase o "append" X.env (eval o X.env) = eval o X.env := by rfl)
    (hfew : ((backTo pos (starEach [e] X.env)).all (fun x => !x.1) && (backToKw pos (keywordEach [] X.env)).all (fun x => x.1.isSome)
      && decide ([e].length + ([] : List Keyword).length + (if ([] : List Keyword).isEmpty then 0 else 1) < 30)) = true := by rfl)
    (hline : (apos.endLine == pos.line) = true := by rfl) (hs : starEach [e] X.env = (false, eval e X.env) :: starEach [] X.env := by rfl) : GE X (.Call (.Attribute o "append" apos) [e] [] pos) η L Q := fun hN H hH =>
  WE.of (pe_bm PySem.F.plainAttrs_list PySem.F.slot_list_append PySem.F.type_list_append mt_append pe_W (pa_cons pe_W pa_nil hs) hbase hfew hline hs rfl) (h.then hN hH fun v L1 H1 k1 ⟨l, zs, ev, m, q⟩ => by
    subst ev
    exact ⟨.inl ⟨rfl, zs, sql k1 m⟩, q.then hN k1 fun y L2 H2 k2 ⟨xs, M, m2, z, sw, q2⟩ => ⟨l, xs, y, rfl, rfl, k2.get m2, z, M, k2.swap sw, q2⟩⟩)
/-- a slice with both ends left out, or written -/
def GPart (X : Cx) (o : Option Expr) (η : En) (L : Lg) (Q : Option Int → Lg → Prop) : Prop := match o with
  | none => Q none L
  | some e => GE X e η L fun v L1 => ∃ i, v = .int i ∧ Q (some i) L1
def WPart (X : Cx) (o : Option Expr) : TO := match o with
  | none => tNoPart
  | some e => tPart (WE X e)
theorem po_W {o : Option Expr} : PO X o (WPart X o) := by
  cases o with
  | none => exact po_none
  | some e => exact po_some pe_W
theorem GPart.then {o : Option Expr} {Q : Option Int → Lg → Prop} {Q' : Option Int → Hp → Prop} (h : GPart X o η L Q) (hN : X.N = names η) {H : Hp} (hH : Has H L) (m : ∀ v L1 H1, Has H1 L1 → Q v L1 → Q' v H1) : WPart X o (vals η) H Q' := by
  cases o with
  | none => exact m none L H hH h
  | some e => exact GE.then h hN hH fun v L1 H1 h1 ⟨i, ei, q⟩ => ⟨i, ei, m _ L1 H1 h1 q⟩
def InL (K : PySem.W.Frag) (L : Lg) (p : Addr) (xs : List V) : Prop := ∀ H, Has H L → SqL K H p xs
theorem ge_sliceL {lo hi : Option Expr} {p2 : Pos} (h : GE X e η L fun v L1 => ∃ p xs, v = .ref p ∧ GPart X lo η L1 fun i L2 => GPart X hi η L2 fun j L3 => InL X.K L3 p xs ∧ ∀ q, Q (.ref q) ((q, .lst (cutV xs i j)) :: L3)) : GE X (.Subscript e (.Slice lo hi none p2) pos) η L Q := fun hN H hH =>
  WE.of (pe_slice sl_list pe_W po_W po_W) (h.then hN hH fun v L1 H1 k1 ⟨p, xs, ev, q⟩ => q.then hN k1 fun i L2 H2 k2 q2 => q2.then hN k2 fun j L3 H3 k3 ⟨m, q3⟩ => ⟨p, xs, ev, m H3 k3, fun r hr => ⟨_, k3.new hr, q3 r⟩⟩)
end
section
variable {P : Program} {w : World} {K : PySem.W.Frag} {mg : Str → Option Value} {base : Heap}
/-- values, then a tuple of the rest -/
theorem run_starred {x q pv : Str} {st : Stmt} {f : Addr} {fd : FuncData} {N ps : List Str} {k : Nat} {sp : SpL} (F : Fun K x q st f fd) (S : FnScope N (ps ++ [pv]) (defScope st))
    (hb : ∀ (kV doc pm : Value) (an : Option Addr) (cdv ct : Value) (us rest : List Value), us.length = ps.length → bindArgs (PySem.W.fnOf x q (defArgs st) (defBody st) (defScope st) .none kV doc pm an cdv ct) ⟨us ++ rest, []⟩ = (newTuple rest >>= fun t => pure (ps.zip us ++ [(pv, t)])))
    (hl : ps.length + 1 ≤ N.length) (body : BodyOf P w K mg base N q st k sp) (len : ∀ vs L Q E, sp vs L Q E → vs.length = ps.length + 1) : RunG P w K mg base CX0 (k + 1) f argsP (toSp fun vs L Q E => ∃ ws rest, vs = ws ++ rest ∧ ws.length = ps.length ∧ rest.length ≤ sizeLine ∧ ∀ p, sp (ws ++ [.ref p]) ((p, .tup rest) :: L) Q E) := by
  obtain ⟨oc, od, kV, doc, pm, an, cdv, ct, osl, rfl, lk, hcd⟩ := F.ex
  intro A outer s H us vs Q E hr e0 r hsp
  obtain ⟨L, Ql, El, hH, ⟨ws, rest, ev, hlw, hz, hs⟩, hq, _⟩ := hsp
  subst ev
  obtain ⟨u1, u2, eu, r1, r2⟩ := StX.vals_split r
  subst eu
  have hn : H s.heap.objs.size = none := e0.hok.fresh (Nat.le_refl _)
  have hl1 : u1.length = ps.length := by
    rw [← r1.length]
    exact hlw
  have hl2 : u2.length ≤ sizeLine := by
    rw [← r2.length]
    exact hz
  refine StX.run_bnd (CX := CX0) lk hcd S hr.toRoom e0 (G := fun xs H2 => ∃ p, H p = none ∧ xs = ws ++ [V.ref p] ∧ H2 = upd H p (.tup rest)) (fun A' Ex Q' h => ?_) fun s2 H2 xs ⟨p, hp, ex, eH⟩ hr' => ?_
  · rw [show bindArgs _ (argsP (u1 ++ u2)) = _ from hb kV doc pm an cdv ct u1 u2 hl1]
    refine wpAny_bind (wpAny_newTuple (wpAny_pure ?_) hl2)
    have new : ObjOk P w (upd H s.heap.objs.size (.tup rest)) (s.heap.push ({ cls := .type "tuple", data := .seq u2.toArray } : Obj)) s.heap.objs.size (.tup rest) := ⟨hz, u2, r2, ⟨_, Heap.get?_push_size _ rfl, rfl, _, rfl⟩⟩
    have un := StX.un_laid (fs := frs outer) (s := s) (o := ({ cls := .type "tuple", data := .seq u2.toArray } : Obj)) (u := .tup rest) hn
    have z := h _ _ (ws ++ [V.ref s.heap.objs.size]) (u1 ++ [Value.ref s.heap.objs.size]) (StX.env0_laid e0 new) un rfl (fun _ _ z => z.elim) (r1.append (.cons rfl .nil)) (by rw [List.length_append, List.length_append, hlw] <;> rfl) ⟨_, hn, rfl, rfl⟩
    rw [List.zip_append hl1.symm] at z
    exact z
  · subst ex eH
    have hlv : (ws ++ [V.ref p]).length ≤ N.length := by
      rw [List.length_append, hlw]
      exact hl
    exact ⟨WSs _ (defBody st), PSs.nox pss_W, body_end (X := cx0 P w K mg base N q (defScope st) f cdv A outer s2 (upd H p (.tup rest)) E) hlv hq (hH.new hp) (body _ f cdv A outer s2 _ E _ _ Ql El rfl S.nd ⟨hr', guard_deeper hr.gd⟩ (hs p))⟩
end
inductive Knd (L : Lg) : V → String → Prop
  | non : Knd L .non "NoneType"
  | bl {b : Bool} : Knd L (.bl b) "bool"
  | int {i : Int} : Knd L (.int i) "int"
  | str {x : Str} : Knd L (.str x) "str"
  | lst {p : Addr} {xs : List V} (m : (p, HO.lst xs) ∈ L) : Knd L (.ref p) "list"
  | tup {p : Addr} {xs : List V} (m : (p, HO.tup xs) ∈ L) : Knd L (.ref p) "tuple"
  | dct {p : Addr} {kvs : List (Key × V)} (m : (p, HO.dK kvs) ∈ L) : Knd L (.ref p) "dict"
theorem Knd.ty {K : PySem.W.Frag} {L : Lg} {x : V} {T : String} (k : Knd L x T) (H : Hp) (hH : Has H L) : TyX K H x (.type T) := by
  cases k with
  | non => exact .base .non
  | bl => exact .base (.bl _)
  | int => exact .base (.int _)
  | str => exact .base (.str _)
  | lst m => exact .base (.lst (hH.get m))
  | tup m => exact .base (.tup (hH.get m))
  | dct m => exact .base (.dK (hH.get m))
theorem Knd.sub {L M : Lg} {x : V} {T : String} (k : Knd L x T) (s : ∀ e ∈ L, e ∈ M) : Knd M x T := by
  cases k with
  | non => exact .non
  | bl => exact .bl
  | int => exact .int
  | str => exact .str
  | lst m => exact .lst (s _ m)
  | tup m => exact .tup (s _ m)
  | dct m => exact .dct (s _ m)
theorem kb_int_int : kitB "int" "int" = some true := by decide +kernel
theorem kb_int_bool : kitB "int" "bool" = some false := by decide +kernel
theorem kb_bool_int : kitB "bool" "int" = some true := by decide +kernel
theorem kb_bool_bool : kitB "bool" "bool" = some true := by decide +kernel
theorem kb_non_int : kitB "NoneType" "int" = some false := by decide +kernel
theorem kb_str_int : kitB "str" "int" = some false := by decide +kernel
theorem kb_list_int : kitB "list" "int" = some false := by decide +kernel
theorem kb_tuple_int : kitB "tuple" "int" = some false := by decide +kernel
theorem kb_dict_int : kitB "dict" "int" = some false := by decide +kernel
theorem kb_tuple_tuple : kitB "tuple" "tuple" = some true := by decide +kernel
section
variable {X : Cx} {L : Lg} {Q : QV} {x : V} {T c : String} {b : Bool}
theorem gc_isK (k : Knd L x T) (e : kitB T c = some b) (h : Q (.bl b) L) : GC X (.builtin "isinstance") [x, .ty c] L Q := gc_isi (fun H hH => k.ty H hH) e h
end
theorem sz1 : 1 ≤ sizeLine := by decide +kernel
theorem sz2 : 2 ≤ sizeLine := by decide +kernel
theorem sz3 : 3 ≤ sizeLine := by decide +kernel
theorem sz_le {n : Nat} (h : n ≤ 1000) : n ≤ sizeLine := Nat.le_trans h (by decide +kernel)
theorem sz_lt {n : Nat} (h : n < 1000) : n < sizeLine := Nat.lt_of_lt_of_le h (by decide +kernel)
theorem Sub.keep {L M : Lg} {e : Addr × HO} (s : M.Sublist L) : Sub (e :: M) (e :: L) := Sub.sublist (s.cons_cons e)
section
variable {a b c d e f g h i : Addr × HO} {R : Lg}
theorem br0 : Sub (a :: b :: R) (a :: b :: R) := Sub.refl
theorem br1 : Sub (a :: b :: c :: R) (c :: a :: b :: R) := Sub.perm (List.perm_middle (l₁ := [a, b])).symm.symm
theorem br2 : Sub (a :: b :: c :: d :: R) (c :: d :: a :: b :: R) := Sub.perm (by
  have z := List.perm_append_comm (l₁ := [a, b]) (l₂ := [c, d])
  exact z.append_right R)
theorem br3 : Sub (a :: b :: c :: d :: e :: R) (c :: d :: e :: a :: b :: R) := Sub.perm (by
  have z := List.perm_append_comm (l₁ := [a, b]) (l₂ := [c, d, e])
  exact z.append_right R)
theorem br4 : Sub (a :: b :: c :: d :: e :: f :: R) (c :: d :: e :: f :: a :: b :: R) := Sub.perm (by
  have z := List.perm_append_comm (l₁ := [a, b]) (l₂ := [c, d, e, f])
  exact z.append_right R)
theorem br5 : Sub (a :: b :: c :: d :: e :: f :: g :: R) (c :: d :: e :: f :: g :: a :: b :: R) := Sub.perm (by
  have z := List.perm_append_comm (l₁ := [a, b]) (l₂ := [c, d, e, f, g])
  exact z.append_right R)
theorem br6 : Sub (a :: b :: c :: d :: e :: f :: g :: h :: R) (c :: d :: e :: f :: g :: h :: a :: b :: R) := Sub.perm (by
  have z := List.perm_append_comm (l₁ := [a, b]) (l₂ := [c, d, e, f, g, h])
  exact z.append_right R)
end
section
variable {X : Cx} {η : En} {L : Lg} {Q : QV} {e : Expr} {es : List Expr} {pos p : Pos}
theorem gb_len (B : Bi X.mg) (h : GA X (e :: es) η L fun xs L1 => GC X (.builtin "len") xs L1 Q) (hg : Gl X "len" := by rfl) (he : starEach (e :: es) X.env = (false, eval e X.env) :: starEach es X.env := by rfl) (hpl : (backTo pos (starEach es X.env)).any (·.1) = false := by rfl) :
    GE X (.Call (.Name "len" p) (e :: es) [] pos) η L Q := ge_B B.len bt_len h hg (by decide) (by decide) he hpl
theorem gb_abs (B : Bi X.mg) (h : GA X (e :: es) η L fun xs L1 => GC X (.builtin "abs") xs L1 Q) (hg : Gl X "abs" := by rfl) (he : starEach (e :: es) X.env = (false, eval e X.env) :: starEach es X.env := by rfl) (hpl : (backTo pos (starEach es X.env)).any (·.1) = false := by rfl) :
    GE X (.Call (.Name "abs" p) (e :: es) [] pos) η L Q := ge_B B.abs bt_abs h hg (by decide) (by decide) he hpl
theorem gb_min (B : Bi X.mg) (h : GA X (e :: es) η L fun xs L1 => GC X (.builtin "min") xs L1 Q) (hg : Gl X "min" := by rfl) (he : starEach (e :: es) X.env = (false, eval e X.env) :: starEach es X.env := by rfl) (hpl : (backTo pos (starEach es X.env)).any (·.1) = false := by rfl) :
    GE X (.Call (.Name "min" p) (e :: es) [] pos) η L Q := ge_B B.min bt_min h hg (by decide) (by decide) he hpl
theorem gb_isinstance (B : Bi X.mg) (h : GA X (e :: es) η L fun xs L1 => GC X (.builtin "isinstance") xs L1 Q) (hg : Gl X "isinstance" := by rfl) (he : starEach (e :: es) X.env = (false, eval e X.env) :: starEach es X.env := by rfl) (hpl : (backTo pos (starEach es X.env)).any (·.1) = false := by rfl) :
    GE X (.Call (.Name "isinstance" p) (e :: es) [] pos) η L Q := ge_B B.isinstance bt_isinstance h hg (by decide) (by decide) he hpl
theorem gb_int (B : Bi X.mg) (h : GA X (e :: es) η L fun xs L1 => GC X (.type "int") xs L1 Q) (hg : Gl X "int" := by rfl) (he : starEach (e :: es) X.env = (false, eval e X.env) :: starEach es X.env := by rfl) (hpl : (backTo pos (starEach es X.env)).any (·.1) = false := by rfl) :
    GE X (.Call (.Name "int" p) (e :: es) [] pos) η L Q := ge_Y B.int bt_int h hg (by decide) (by decide) he hpl
theorem gb_list (B : Bi X.mg) (h : GA X (e :: es) η L fun xs L1 => GC X (.type "list") xs L1 Q) (hg : Gl X "list" := by rfl) (he : starEach (e :: es) X.env = (false, eval e X.env) :: starEach es X.env := by rfl) (hpl : (backTo pos (starEach es X.env)).any (·.1) = false := by rfl) :
    GE X (.Call (.Name "list" p) (e :: es) [] pos) η L Q := ge_Y B.list bt_list h hg (by decide) (by decide) he hpl
theorem gb_tuple (B : Bi X.mg) (h : GA X (e :: es) η L fun xs L1 => GC X (.type "tuple") xs L1 Q) (hg : Gl X "tuple" := by rfl) (he : starEach (e :: es) X.env = (false, eval e X.env) :: starEach es X.env := by rfl) (hpl : (backTo pos (starEach es X.env)).any (·.1) = false := by rfl) :
    GE X (.Call (.Name "tuple" p) (e :: es) [] pos) η L Q := ge_Y B.tuple bt_tuple h hg (by decide) (by decide) he hpl
theorem gb_bool (B : Bi X.mg) (h : GA X (e :: es) η L fun xs L1 => GC X (.type "bool") xs L1 Q) (hg : Gl X "bool" := by rfl) (he : starEach (e :: es) X.env = (false, eval e X.env) :: starEach es X.env := by rfl) (hpl : (backTo pos (starEach es X.env)).any (·.1) = false := by rfl) :
    GE X (.Call (.Name "bool" p) (e :: es) [] pos) η L Q := ge_Y B.bool bt_bool h hg (by decide) (by decide) he hpl
theorem gb_str (B : Bi X.mg) (h : GA X (e :: es) η L fun xs L1 => GC X (.type "str") xs L1 Q) (hg : Gl X "str" := by rfl) (he : starEach (e :: es) X.env = (false, eval e X.env) :: starEach es X.env := by rfl) (hpl : (backTo pos (starEach es X.env)).any (·.1) = false := by rfl) :
    GE X (.Call (.Name "str" p) (e :: es) [] pos) η L Q := ge_Y B.str bt_str h hg (by decide) (by decide) he hpl
theorem gv_int (B : Bi X.mg) (q : Q (.ty "int") L) (hg : Gl X "int" := by rfl) : GE X (.Name "int" pos) η L Q := ge_tyName B.int bt_int q hg (by decide) (by decide)
theorem gv_bool (B : Bi X.mg) (q : Q (.ty "bool") L) (hg : Gl X "bool" := by rfl) : GE X (.Name "bool" pos) η L Q := ge_tyName B.bool bt_bool q hg (by decide) (by decide)
theorem gv_tuple (B : Bi X.mg) (q : Q (.ty "tuple") L) (hg : Gl X "tuple" := by rfl) : GE X (.Name "tuple" pos) η L Q := ge_tyName B.tuple bt_tuple q hg (by decide) (by decide)
theorem gv_list (B : Bi X.mg) (q : Q (.ty "list") L) (hg : Gl X "list" := by rfl) : GE X (.Name "list" pos) η L Q := ge_tyName B.list bt_list q hg (by decide) (by decide)
theorem gv_str (B : Bi X.mg) (q : Q (.ty "str") L) (hg : Gl X "str" := by rfl) : GE X (.Name "str" pos) η L Q := ge_tyName B.str bt_str q hg (by decide) (by decide)
end
theorem ite_t {A B : Prop} (h : A) : if true = true then A else B := by rw [if_pos rfl]; exact h
theorem ite_f {A B : Prop} (h : B) : if false = true then A else B := by rw [if_neg Bool.false_ne_true]; exact h
theorem ite_d {c A B : Prop} [Decidable c] (h : c → A) (k : ¬ c → B) : if decide c = true then A else B := by
  by_cases z : c
  · rw [if_pos (decide_eq_true z)]; exact h z
  · rw [decide_eq_false z, if_neg Bool.false_ne_true]; exact k z
theorem ite_n {c A B : Prop} [Decidable c] (h : ¬ c → A) (k : c → B) : if (!decide c) = true then A else B := by
  by_cases z : c
  · rw [decide_eq_true z]; exact ite_f (k z)
  · rw [decide_eq_false z]; exact ite_t (h z)
theorem ite_b {b : Bool} {A B : Prop} (h : b = true → A) (k : b = false → B) : if b = true then A else B := by
  cases b with
  | true => exact ite_t (h rfl)
  | false => exact ite_f (k rfl)
section
variable {X : Cx} {L : Lg} {Q : QV} {i j r : Int}
theorem go_modR (c : 0 < j) (h : ∀ r, 0 ≤ r → r < j → Q (.int r) L) : GOp X (binaryOp .Mod) (.int i) (.int j) L Q := go_mod c (h _ (Int.emod_nonneg _ (by omega)) (Int.emod_lt_of_pos _ c))
theorem go_powL (c : CPow i j) (e : i ^ j.toNat = r) (h : Q (.int r) L) : GOp X (binaryOp .Pow) (.int i) (.int j) L Q := go_pow c (by rw [e]; exact h)
theorem go_powR (c : CPow i j) (h : ∀ r, Q (.int r) L) : GOp X (binaryOp .Pow) (.int i) (.int j) L Q := go_pow c (h _)
end
theorem bnd {s t A B : Int} (s0 : 0 ≤ s) (s1 : s ≤ A) (t0 : 0 ≤ t) (t1 : t ≤ B) : 0 ≤ s * t ∧ s * t ≤ A * B := ⟨Int.mul_nonneg s0 t0, Int.mul_le_mul s1 t1 t0 (Int.le_trans s0 s1)⟩
theorem depthInts : ∀ ns : List Int, PyData.depthAll (ns.map PyData.int) = 0
  | [] => by simp [PyData.depthAll]
  | n :: r => by
    have e := depthInts r
    simp [PyData.depthAll, PyData.depth, e]
theorem layInts : ∀ ns : List Int, PyData.canLayAll0 (ns.map PyData.int) = true
  | [] => by simp [PyData.canLayAll0]
  | n :: r => by
    have e := layInts r
    simp [PyData.canLayAll0, PyData.canLay0, e]
theorem shapedL (ns : List Int) : SeqAt.shaped (.list (ns.map PyData.int)) = true := by
  have a := depthInts ns
  have b := layInts ns
  simp [SeqAt.shaped, PyData.canLay0, PyData.depth, a, b]
theorem eqvInts : ∀ ns ms : List Int, PyData.eqvAll (ns.map PyData.int) (ms.map PyData.int) = decide (ns = ms)
  | [], [] => by simp [PyData.eqvAll]
  | [], m :: r => by simp [PyData.eqvAll]
  | n :: r, [] => by simp [PyData.eqvAll]
  | n :: r, m :: q => by
    have e := eqvInts r q
    simp [PyData.eqvAll, PyData.eqv, e]
    by_cases h : n = m <;> by_cases k : r = q <;> simp [h, k]
theorem eqvL (ns ms : List Int) : PyData.eqv (.list (ns.map PyData.int)) (.list (ms.map PyData.int)) = decide (ns = ms) := by
  rw [← eqvInts]
  simp [PyData.eqv]
section
variable {X : Cx} {L : Lg} {Q : QV} {i j r : Int}
theorem go_divS (c : 0 < j) (d : j < 2 ^ 64) (h : Q (.int (i / j)) L) : GOp X (binaryOp .FloorDiv) (.int i) (.int j) L Q := go_div c (Nat.lt_of_lt_of_le (by omega : j.natAbs < 2 ^ 64) (Nat.pow_le_pow_right (by decide) (by decide))) h
end
theorem idxU {N : List Str} (hn : N.Nodup) {i j : Nat} {x : Str} (h : N[i]? = some x) (k : N[j]? = some x) : i = j := by
  obtain ⟨a1, a2⟩ := List.getElem?_eq_some_iff.mp h
  obtain ⟨b1, b2⟩ := List.getElem?_eq_some_iff.mp k
  exact (List.getElem_inj hn).mp (a2.trans b2.symm)
section
variable {X : Cx} {η : En} {L : Lg} {a b c : Expr} {D : GD}
theorem PutF.at {x : Str} {N : List Str} {i : Nat} {θ : En} {f : V → En} (p : PutF x θ f) (hn : N.Nodup) (hN : N = names θ) (h : N[i]? = some x) (v : V) : vals (f v) = (vals θ).set i (some v) ∧ names (f v) = names θ := by
  obtain ⟨j, h1, h2⟩ := p.idx
  have e : i = j := idxU hn h (by rw [hN]; exact h1)
  subst e
  exact h2 v
theorem gs_par3 {x y z : Str} {f : V → En} {g : V → V → En} {k : V → V → V → En} {px py pz pt pos : Pos} {kt k2 pt2} (p : PutF x η f) (q : ∀ v, PutF y (f v) (g v)) (r : ∀ v w, PutF z (g v w) (k v w))
    (h : GA X [a, b, c] η L fun vs L1 => ∃ u v w, vs = [u, v, w] ∧ D.nx (k u v w) L1)
    (hw : swappedStores [.Tuple [.Name x px, .Name y py, .Name z pz] kt pt] (.Tuple [a, b, c] k2 pt2) X.env = pure (some [x, y, z]) := by rfl) (hxy : x ≠ y := by decide +kernel) (hxz : x ≠ z := by decide +kernel) (hyz : y ≠ z := by decide +kernel) (hn : X.N.Nodup := by assumption) (hc : X.calm = true := by rfl)
    (hx : X.env.scope.names.lookup x = some .local := by rfl) (hy : X.env.scope.names.lookup y = some .local := by rfl) (hz : X.env.scope.names.lookup z = some .local := by rfl)
    (hs : swapsWithSole [.Tuple [.Name x px, .Name y py, .Name z pz] kt pt] (.Tuple [a, b, c] k2 pt2) pos.line X.env = pure false := by rfl) :
    GS X (.Assign [.Tuple [.Name x px, .Name y py, .Name z pz] kt pt] (.Tuple [a, b, c] k2 pt2) pos) D η L := fun hN H hH => by
  obtain ⟨i, h1, h2⟩ := p.idx
  have nf : ∀ v, names (f v) = X.N := fun v => (h2 v).2.trans hN.symm
  obtain ⟨j, g1, _⟩ := (q .non).idx
  rw [nf] at g1
  have ng : ∀ v w, names (g v w) = X.N := fun v w => ((q v).at hn (nf v).symm g1 w).2.trans (nf v)
  obtain ⟨l, k1, _⟩ := (r .non .non).idx
  rw [ng] at k1
  have i1 : X.N[i]? = some x := by rw [hN]; exact h1
  have ne : ∀ {m n : Nat} {s t : Str}, X.N[m]? = some s → X.N[n]? = some t → s ≠ t → m ≠ n := fun hm hn' d e => d (by rw [e, hn'] at hm; exact (Option.some.inj hm).symm)
  refine WS.of (ps_par3 (i := i) (j := j) (l := l) hc hn i1 g1 k1 (ne i1 g1 hxy) (ne i1 k1 hxz) (ne g1 k1 hyz) hx hy hz pa_W hw hs) (h.then hN hH fun vs L1 H1 m1 ⟨u, v, w, e1, q1⟩ => ⟨u, v, w, e1, ?_⟩)
  show upS X D.nx ((((vals η).set i (some u)).set j (some v)).set l (some w)) H1
  have z := (r u v).at hn (ng u v).symm k1 w
  refine ⟨k u v w, L1, (z.2.trans (ng u v)).symm, ?_, m1, q1⟩
  rw [z.1, ((q u).at hn (nf u).symm g1 v).1, (h2 u).1]
end
section
variable {X : Cx} {L : Lg} {Q : QV} {i : Int} {p : Addr}
theorem isN_int (h : Q (.bl false) L) : GOp X (compareOp .Is) (.int i) .non L Q := go_isN h
theorem isN_ref (h : Q (.bl false) L) : GOp X (compareOp .Is) (.ref p) .non L Q := go_isN h
theorem isN_non (h : Q (.bl true) L) : GOp X (compareOp .Is) .non .non L Q := go_isN h
theorem notN_int (h : Q (.bl true) L) : GOp X (compareOp .IsNot) (.int i) .non L Q := go_notN h
theorem notN_ref (h : Q (.bl true) L) : GOp X (compareOp .IsNot) (.ref p) .non L Q := go_notN h
theorem notN_non (h : Q (.bl false) L) : GOp X (compareOp .IsNot) .non .non L Q := go_notN h
end
theorem gu_neg {X : Cx} {L : Lg} {Q : QV} {i : Int} (h : Q (.int (-i)) L) : GUn X (unaryOp .USub) (.int i) L Q := GUn.of un_neg fun H hH => ⟨i, rfl, L, hH, h⟩
/-- the law's own promise; ts: the tables of code objects -/
def spLaw (K : PySem.W.Frag) (ts : Lg) : SpL := fun vs L Q _ => ∃ (a : Addr) (ns : List Int) (M : Lg), vs = [.ref a] ∧ L = ts ++ M ∧ InL K L a (ns.map V.int) ∧ (∀ z ∈ ns, Builtin.Int.intBits z ≤ 1048576) ∧ ∀ M, Q (.bl true) M
abbrev tabsL (ts : List (Addr × Str)) : Lg := ts.map fun p => (p.1, tabM p.2)
/-- the heap that the law begins with: the script, the tables -/
def lawH (K : PySem.W.Frag) (a : Addr) (ob : Obj) (ns : List Int) (ts : List Addr) : Hp := fun b =>
  if b = a then (match K.lookup a with | none => some (.frz ob (.lst (ns.map V.int))) | some _ => none) else if b ∈ ts then some (.tbl #[]) else none
section
variable {K : PySem.W.Frag} {a b : Addr} {ob : Obj} {ns : List Int} {ts : List Addr}
theorem lawH_a (e : K.lookup a = none) : lawH K a ob ns ts a = some (.frz ob (.lst (ns.map V.int))) := by
  unfold lawH
  rw [if_pos rfl, e]
theorem lawH_k {o : Obj} (e : K.lookup a = some o) : lawH K a ob ns ts a = none := by
  unfold lawH
  rw [if_pos rfl, e]
theorem lawH_t (n : b ≠ a) (m : b ∈ ts) : lawH K a ob ns ts b = some (.tbl #[]) := by
  unfold lawH
  rw [if_neg n, if_pos m]
theorem lawH_n (n : b ≠ a) (m : b ∉ ts) : lawH K a ob ns ts b = none := by
  unfold lawH
  rw [if_neg n, if_neg m]
/-- one of the three -/
theorem lawH_way (b : Addr) : (b = a ∧ K.lookup a = none ∧ lawH K a ob ns ts b = some (.frz ob (.lst (ns.map V.int)))) ∨ (b ≠ a ∧ b ∈ ts ∧ lawH K a ob ns ts b = some (.tbl #[])) ∨ lawH K a ob ns ts b = none := by
  by_cases n : b = a
  · subst n
    cases e : K.lookup b with
    | none => exact .inl ⟨rfl, rfl, lawH_a e⟩
    | some o => exact .inr (.inr (lawH_k e))
  · by_cases m : b ∈ ts
    · exact .inr (.inl ⟨n, m, lawH_t n m⟩)
    · exact .inr (.inr (lawH_n n m))
end
section
variable {P : Program} {w : World} {K : PySem.W.Frag} {mg mb : Str → Option Value}
/-- the law's call, from its promise; cs: the code objects with their tables and the names of what stands in these -/
theorem law_run {k : Nat} {fa a : Addr} {cs : List (Addr × Addr × Str)} {t0 : Shared} {vs : List Value} {ns : List Int}
    (KX : K.In t0.heap) (hns : t0.heap.Ns mainGlobals mg) (hb : t0.heap.Ns builtinsNs mb) (hbb : ∀ x : Str, x ≠ "__name__" → mb x = bootBuiltins x) (hlim : t0.heap.NoLimit) (hg : t0.gens = #[])
    (nd : (cs.map fun p => p.2.1).Nodup) (hT : ∀ p ∈ cs, t0.heap.get? p.2.1 = some { cls := .none, data := .fields #[] }) (nT : ∀ p ∈ cs, K.lookup p.2.1 = none) (C : ∀ p ∈ cs, PySem.W.CodeHd t0.heap p.1 p.2.1)
    (hbm : ∃ (bm : Addr) (ob : Obj), mg "__builtins__" = some (.ref bm) ∧ bm ≠ builtinsNs ∧ t0.heap.get? bm = some ob ∧ ob.cls = .type "module" ∧ ob.dict = some builtinsNs ∧ ob.data = .plain)
    (ha : t0.heap.get? a = some { cls := .type "list", data := .seq vs.toArray }) (hi : IntsAre vs ns) (hl : ns.length ≤ sizeLine) (bits : ∀ z ∈ ns, Builtin.Int.intBits z ≤ 1048576) (hr : Room k callerA)
    (F : ∀ base : Heap, K.In base → base.Ns mainGlobals mg → (∀ p ∈ cs, LamX.TabB base mg p.1 p.2.1) → RunG P w K mg base CX0 k fa argsP (toSp (spLaw K (tabsL (cs.map fun p => p.2))))) :
    codeAny (model P w) callerA (.call (.ref fa) ⟨[.ref a], []⟩) (fun r s' => r = .ok (.ret (.bool true)) ∧ OldK t0.heap s'.heap ∧ s'.os = t0.os ∧ AllBare s'.gens) t0 := by
  let ob : Obj := { cls := .type "list", data := .seq vs.toArray }
  let ts : List Addr := cs.map fun p => p.2.1
  let H : Hp := lawH K a ob ns ts
  have way : ∀ b : Addr, (b = a ∧ K.lookup a = none ∧ H b = some (.frz ob (.lst (ns.map V.int)))) ∨ (b ≠ a ∧ b ∈ ts ∧ H b = some (.tbl #[])) ∨ H b = none := lawH_way
  have tsT : ∀ b ∈ ts, ∃ p ∈ cs, p.2.1 = b := fun b hb => List.mem_map.mp hb
  have isT : ∀ b ∈ ts, t0.heap.get? b = some { cls := .none, data := .fields #[] } := fun b hb => by
    obtain ⟨p, hp, e⟩ := tsT b hb
    exact e ▸ hT p hp
  have memT : ∀ p ∈ cs, p.2.1 ∈ ts := fun p hp => List.mem_map.mpr ⟨p, hp, rfl⟩
  have aT : ∀ b ∈ ts, b ≠ a := fun b hb z => by
    have q := (isT b hb).symm.trans (z ▸ ha)
    have q2 : Data.fields #[] = Data.seq vs.toArray _ := congrArg Obj.data (Option.some.inj q)
    cases q2
  have tabH : ∀ p ∈ cs, H p.2.1 = some (.tbl #[]) := fun p hp => lawH_t (aT _ (memT p hp)) (memT p hp)
  have rv := vals_ints hi
  -- what is neither a list nor a table is hidden from H
  have hid : ∀ {b : Addr} {o : Obj}, t0.heap.get? b = some o → (∀ u n, o.data ≠ .seq u n) → o.data ≠ .fields #[] → H b = none := fun {b o} e n1 n2 => by
    rcases way b with ⟨rfl, _, _⟩ | ⟨_, m, _⟩ | z
    · exact absurd (congrArg Obj.data (Option.some.inj (ha.symm.trans e))).symm (n1 _ _)
    · exact absurd (congrArg Obj.data (Option.some.inj ((isT b m).symm.trans e))).symm n2
    · exact z
  let base : Heap := hidT t0.heap H
  have inB : ∀ {b : Addr} {o : Obj}, t0.heap.get? b = some o → H b = none → base.get? b = some o := fun e n => hidT_get e n
  have nsB : ∀ {b : Addr} {m : Str → Option Value}, t0.heap.Ns b m → base.Ns b m := fun {b m} ⟨o, es, ep, e, d, r⟩ => ⟨o, es, ep, inB e (hid e (fun u n z => by rw [d] at z; cases z) fun z => by rw [d] at z; cases z), d, r⟩
  have KB : K.In base := fun b o e => inB (KX b o e) (by
    rcases way b with ⟨rfl, n, _⟩ | ⟨_, m, _⟩ | z
    · exact absurd (n.symm.trans e) (by simp)
    · obtain ⟨p, hp, ep⟩ := tsT b m
      exact absurd ((nT p hp).symm.trans (ep ▸ e)) (by simp)
    · exact z)
  have hM : L2.Mod K mg base := ⟨KB, nsB hns, ⟨mb, nsB hb, hbb⟩, let ⟨mc, h1, h2⟩ := hlim; ⟨mc, nsB h1, h2⟩⟩
  have TB : ∀ p ∈ cs, LamX.TabB base mg p.1 p.2.1 := fun p hp => by
    have tp := hT p hp
    refine ⟨?_, ?_, fun z => ?_⟩
    · obtain ⟨o, us, file, tf, flags, tg, inF, text, tt, e1, r1, r2, r3, rest⟩ := C p hp
      refine ⟨o, us, file, tf, flags, tg, inF, text, tt, inB e1 (hid e1 (fun u n z => ?_) fun z => ?_), r1, r2, r3, rest⟩
      · rw [r2] at z
        cases z
      · rw [r2] at z
        cases z
        simp at r3
    · obtain ⟨bm, o, b1, b2, b3, b4, b5, b6⟩ := hbm
      refine ⟨bm, o, b1, b2, fun q => ?_, fun q => ?_, inB b3 (hid b3 (fun u n z => ?_) fun z => ?_), b4, b5, b6⟩
      · obtain ⟨o2, es, ep, e, hd, _⟩ := hns
        have z := (congrArg Obj.data (Option.some.inj ((q ▸ b3).symm.trans e))).symm.trans b6
        rw [hd] at z
        cases z
      · have z := b6.symm.trans (congrArg Obj.data (Option.some.inj ((q ▸ b3).symm.trans tp)))
        cases z
      · rw [b6] at z
        cases z
      · rw [b6] at z
        cases z
    · obtain ⟨o, es, ep, e, hd, _⟩ := hns
      have q := hd.symm.trans (congrArg Obj.data (Option.some.inj (e.symm.trans (z ▸ tp))))
      cases q
  have hokH : HOk P w H t0.heap := fun b u e => by
    rcases way b with ⟨rfl, _, z⟩ | ⟨_, m, z⟩ | z
    · cases z.symm.trans e
      exact ⟨ha, by rw [List.length_map]; exact hl, vs, _, rv, ha⟩
    · cases z.symm.trans e
      exact isT b m
    · cases z.symm.trans e
  have sq : SqL K H a (ns.map V.int) := by
    cases hk : K.lookup a with
    | none => exact .inl (.inr ⟨ob, lawH_a hk⟩)
    | some o =>
      cases ha.symm.trans (KX a o hk)
      exact .inr ⟨_, vs.toArray, _, hk, rfl, rfl, rfl, by rw [List.size_toArray, hi.length]; exact hl, by simpa using rv⟩
  have e0 : Env0 P w K mg base callerA [] t0 H := ⟨rfl, hM, fun b o e => of_hidT e, Nat.le_of_eq (hidT_size _ _), trivial, fun b z => (List.not_mem_nil z).elim, hokH, .of_eq hg⟩
  -- the ledger: the tables, and the script where it is no object of the module's
  have hsp : toSp (spLaw K (tabsL (cs.map fun p => p.2))) [.ref a] H (fun v _ => v = .bl true) fun _ _ _ => False := by
    have hasT : Has H (tabsL (cs.map fun p => p.2)) := by
      refine ⟨by simpa [tabsL, List.map_map, Function.comp_def] using nd, fun e m => ?_⟩
      obtain ⟨q, hq, rfl⟩ := List.mem_map.mp m
      obtain ⟨p, hp, rfl⟩ := List.mem_map.mp hq
      exact holds_tab' (.nil (tabH p hp))
    cases hk : K.lookup a with
    | some o =>
      refine ⟨_, fun v _ => v = .bl true, NoX, hasT, ⟨a, ns, [], rfl, by rw [List.append_nil], fun H' _ => ?_, bits, fun _ => rfl⟩, fun _ _ _ _ q => q, fun _ _ _ _ _ q => q⟩
      rcases sq with (z | ⟨o2, z⟩) | z
      · exact absurd ((lawH_k hk).symm.trans z) (by simp)
      · exact absurd ((lawH_k hk).symm.trans z) (by simp)
      · exact .inr z
    | none =>
      have ea : H a = some (.frz ob (.lst (ns.map V.int))) := lawH_a hk
      refine ⟨tabsL (cs.map fun p => p.2) ++ [(a, .frz ob (.lst (ns.map V.int)))], fun v _ => v = .bl true, NoX, ?_, ⟨a, ns, _, rfl, rfl, fun H' h' => ?_, bits, fun _ => rfl⟩, fun _ _ _ _ q => q, fun _ _ _ _ _ q => q⟩
      · refine ⟨?_, fun e m => ?_⟩
        · rw [List.map_append]
          refine List.nodup_append.mpr ⟨hasT.1, by simp, fun x hx y hy => ?_⟩
          have hy' : y = a := by simpa using hy
          obtain ⟨e, he, rfl⟩ := List.mem_map.mp hx
          obtain ⟨q, hq, rfl⟩ := List.mem_map.mp he
          obtain ⟨p, hp, rfl⟩ := List.mem_map.mp hq
          rw [hy']
          exact aT _ (memT p hp)
        · rcases List.mem_append.mp m with m | m
          · exact hasT.2 e m
          · obtain rfl : e = (a, _) := by simpa using m
            exact ea
      · exact .inl (.inr ⟨ob, h'.get (List.mem_append_right _ (List.mem_singleton.mpr rfl))⟩)
  refine codeAny_mono (F base KB (nsB hns) TB callerA [] t0 H [.ref a] [.ref a] _ _ ⟨hr, rfl⟩ e0 (.cons rfl .nil) hsp) fun r s' h => ?_
  cases r with
  | error e => exact False.elim h
  | ok fl =>
    cases fl with
    | ret u =>
      obtain ⟨v, H', os, bare, un, hok', r', q⟩ := h
      have q' : v = .bl true := q
      subst q'
      obtain rfl : u = Value.bool true := r'
      have grown : ∀ b ∈ ts, ∃ more : Array Value, s'.heap.get? b = some { cls := .none, data := .fields more } := fun b hb => by
        obtain ⟨more, z⟩ := un.tbls b #[] (lawH_t (aT b hb) hb)
        exact ⟨_, hok' b _ z⟩
      have same : ∀ b o, b ∉ ts → t0.heap.get? b = some o → s'.heap.get? b = some o := fun b o nb e => by
        rcases way b with ⟨_, _, z⟩ | ⟨_, m, _⟩ | z
        · have e1 := (hokH b _ z).1
          have e2 := (hok' b _ (un.frzs b ob _ z)).1
          exact e2.trans (e1.symm.trans e)
        · exact absurd m nb
        · exact un.keep b o e z (fun q => (List.not_mem_nil q).elim) (List.not_mem_nil)
      refine ⟨rfl, ⟨fun b o e => ?_, fun b o e => ?_⟩, os, bare⟩
      · by_cases hb : b ∈ ts
        · obtain ⟨more, hm⟩ := grown b hb
          obtain ⟨p, hp, rfl⟩ := tsT b hb
          cases (hT p hp).symm.trans e
          exact .inr (.inl ⟨((C p hp).tab (hT p hp)).isCodeTable, rfl, #[], more, rfl, by rw [Array.empty_append]; exact hm⟩)
        · exact .inl (same b o hb e)
      · by_cases hb : b ∈ ts
        · obtain ⟨more, hm⟩ := grown b hb
          exact ⟨_, hm⟩
        · exact ⟨o, same b o hb e⟩
    | next => exact False.elim h
    | brk => exact False.elim h
    | cont => exact False.elim h
end
/-- what the end wants of the law at the head's heap h: cs, the makers of lambdas by name, with their code objects, tables, and what stands in these -/
def LawG (q : Program) (P : Program) (w : World) (K : PySem.W.Frag) (k : Nat) (mg : Str → Option Value) (fa : Addr) : Prop :=
  ∃ cs : List (Str × Addr × Addr × Str), (cs.map fun p => p.2.2.1).Nodup ∧ (∀ p ∈ cs, PySem.W.tabIn K p.1 = some (p.2.1, p.2.2.1) ∧ ((recsOf q).find? fun e => e.name == p.1).isSome = true ∧ K.lookup p.2.2.1 = none) ∧
    ∀ base : Heap, K.In base → base.Ns mainGlobals mg → (∀ p ∈ cs, LamX.TabB base mg p.2.1 p.2.2.1) → RunG P w K mg base CX0 k fa argsP (toSp (spLaw K (tabsL (cs.map fun p => p.2.2))))
theorem walkG {l : PySem.W.OpenLaw} {n k : Nat} {q : Program} {loose : List Str} {XP : (Str → Option Value) → Heap → Prop} {YP : World → Heap → Prop} {d : DefRec} {K : Params → PySem.W.Frag}
    (hn : l.most = some n) (hn2 : n ≤ sizeLine) (hdf : d.params.defaults = []) (hr : Room k callerA) (hY : ∀ (w : World) (h : Heap), YP w h → (K w.params).In h)
    (F : ∀ (w : World) (mg : Str → Option Value) (fa : Addr) (h : Heap), (K w.params).In h → h.Ns mainGlobals mg → mg d.name = some (.ref fa) → LawG q l.prog w (K w.params) k mg fa) : PySem.W.WalkO q loose XP YP l.row.toRowW d [] (fun f vs => PySem.call f vs) := by
  refine Att.attach_callB hn hdf fun w s₀ t0 mg mb fa o pm cd doc a vs ns G Y ho hd hcd hmg hobj hints hlen hbits hg => ?_
  have KX := hY w _ Y
  obtain ⟨cs, nd, hcs, hF⟩ := F w mg fa _ KX G.T.g hmg
  have tb : ∀ p ∈ cs, PySem.W.CodeHd t0.heap p.2.1 p.2.2.1 ∧ t0.heap.get? p.2.2.1 = some { cls := .none, data := .fields #[] } := fun p hp => by
    obtain ⟨e1, e2, _⟩ := hcs p hp
    obtain ⟨dr, e3⟩ := Option.isSome_iff_exists.mp e2
    exact PySem.W.tab_of G.T KX e3 e1
  have up : ∀ {φ : Addr × Addr × Str → Prop}, (∀ p ∈ cs, φ p.2) → ∀ p ∈ cs.map (·.2), φ p := fun {φ} h p hp => by
    obtain ⟨p', h', rfl⟩ := List.mem_map.mp hp
    exact h p' h'
  refine law_run (cs := cs.map (·.2)) KX G.T.g G.T.b G.T.builtins G.T.nolimit hg (by rw [List.map_map]; exact nd) (up fun p hp => (tb p hp).2) (up fun p hp => (hcs p hp).2.2) (up fun p hp => (tb p hp).1) G.T.bmain hobj hints (Nat.le_trans hlen hn2) hbits hr fun base h1 h2 h3 => ?_
  rw [List.map_map]
  exact hF base h1 h2 fun p hp => h3 p.2 (List.mem_map.mpr ⟨p, hp, rfl⟩)
/-- the law's own entry -/
theorem fn_entry {P : Program} {w : World} {K : PySem.W.Frag} {mg : Str → Option Value} {base : Heap} {x : Str} {st : Stmt} {N ps : List Str} {k : Nat} {sp : SpL} {f : Addr} {fd : FuncData} (F : Fun K x x st f fd) (S : FnScope N ps (defScope st))
    (hb : ∀ (kV doc pm : Value) (an : Option Addr) (cdv ct : Value) (us : List Value), us.length = ps.length → bindArgs (PySem.W.fnOf x x (defArgs st) (defBody st) (defScope st) .none kV doc pm an cdv ct) ⟨us, []⟩ = pure (ps.zip us))
    (hl : ps.length ≤ N.length) (len : ∀ vs L Q E, sp vs L Q E → vs.length = ps.length) (body : BodyOf P w K mg base N x st k sp) : RunG P w K mg base CX0 (k + 1) f argsP (toSp sp) := run_plain F S argsP id id (fun _ _ r => r) hb hl len body
end G
set_option Elab.async false
set_option linter.all false
set_option maxRecDepth 100000
set_option maxHeartbeats 4000000
namespace G
open PySem PySem.Spec PyProof.Rows L2 NdefX
def AtSs (X : Cx) (B sts : List Stmt) : TS := fun D σ H => ∀ pins s, Inv X pins σ H s → _root_.PySem.wpAt (model X.prog X.w) X.A (.func B X.env) (execs sts X.env) (SP X pins D) X.xe s
theorem AtSs.any {X : Cx} {B sts : List Stmt} {D : Ends} {σ : L2.St} {H : Hp} (h : WSs X sts D σ H) : AtSs X B sts D σ H := fun pins s I => _root_.PySem.wpAt_of_wpAny (h pins s I)
/-- the words of a method that says super() -/
abbrev nfS (x q : Str) (st : Stmt) (cc c : Addr) : NF := ⟨x, q, defArgs st, defBody st, defScope st, [("__class__", cc)], c⟩
structure SupF (P : Program) (K : PySem.W.Frag) (x q : Str) (st : Stmt) (f c cc D : Addr) (fd : FuncData) : Prop where
  ex : ∃ (oc : Value) (od : Option Addr) (kV doc pm ct : Value) (an : Option Addr) (osl : Array (Option Value)), fd = PySem.W.fnX x q (defArgs st) (defBody st) (defScope st) [("__class__", cc)] .none kV doc pm an (.ref c) ct ∧ K.lookup f = some ⟨oc, od, .func fd, osl⟩
  cd : PySem.W.codeIn K (.ref c) q = true
  cell : ∃ (cl : Value) (cld : Option Addr) (csl : Array (Option Value)), K.lookup cc = some ⟨cl, cld, .cell (some (.ref D)), csl⟩
  file : ∃ (ccl : Value) (cdd : Option Addr) (vs : Array Value) (ccs : Array (Option Value)) (fl : Str) (tf : Tok), K.lookup c = some ⟨ccl, cdd, .fields vs, ccs⟩ ∧ vs[2]? = some (.str fl tf) ∧ (P.main.file == fl) = true
  cls : ∃ cd, PySem.W.clsIn K D = some cd
  top : (P.main.scope.names.lookup ("super" : Str)).isSome = false
section
variable {CX : CXT} {P : Program} {w : World} {K : PySem.W.Frag} {mg : Str → Option Value} {base : Heap} {N ps : List Str} {x q : Str} {st : Stmt} {f c cc D : Addr} {fd : FuncData} {k : Nat} {sp : Sp}
theorem SupF.cells (F : SupF P K x q st f c cc D fd) {A : Around} {outer : List Env} {s : Shared} {H : Hp} (e0 : Env0 P w K mg base A outer s H) : CellsAt [("__class__", cc)] ["__class__"] [none] s.heap H := by
  obtain ⟨cl, cld, csl, hc⟩ := F.cell
  have look : ∀ {y : Str} {a : Addr}, List.lookup y [(("__class__" : Str), cc)] = some a → y = "__class__" ∧ a = cc := fun {y a} e => by
    by_cases hy : y = "__class__"
    · subst hy
      simp [List.lookup] at e
      exact ⟨rfl, e.symm⟩
    · have z : (y == ("__class__" : Str)) = false := by simpa using hy
      simp [List.lookup, z] at e
  have hb := e0.bs cc _ (e0.mod.kin _ _ hc)
  refine ⟨rfl, fun y a e => ?_, fun y z a e1 e2 => (look e1).1.trans (look e2).1.symm, fun i y e => ?_⟩
  · obtain ⟨_, rfl⟩ := look e
    exact ⟨hb.2, _, _, hb.1, rfl⟩
  · cases i with
    | zero =>
      have e' : some ("__class__" : Str) = some y := e
      cases e'
      exact ⟨cc, by simp [List.lookup], fun v z => by cases z⟩
    | succ i => cases e
/-- such a method keeps its promise -/
theorem SupF.ok (F : SupF P K x q st f c cc D fd) (S : NScope N ps ["__class__"] (defScope st)) (len : ∀ vs H Q E, sp vs H Q E → vs.length = ps.length)
    (body : ∀ (A : Around) (outer : List Env) (s : Shared) (H : Hp) (vs : List V) (Q : VK) (E : XK), Room k (A.deeper (envF (nfS x q st cc c) f s.heap.objs.size)) → sp vs H Q E →
      AtSs (ncx CX P w K mg base N (nfS x q st cc c) f A outer s H E) (defBody st) (defBody st) { nx := fun _ H' => Q .non H', rt := Q } (startF N vs [none]) H) : FnOk P w K mg base CX (k + 1) f fd ps sp := by
  refine ⟨len, fun A outer s H args us vs Q E hr e0 hb r hsp => ?_⟩
  obtain ⟨oc, od, kV, doc, pm, ct, an, osl, rfl, lk⟩ := F.ex
  have KX : K.In s.heap := e0.mod.kin.keeps fun b o e => (e0.bs b o e).1
  have lim : s.heap.NoLimit := e0.mod.nolimit.keeps fun b o e => (e0.bs b o e).1
  refine _root_.PySem.ks_codeAny_call_defAt (body := defBody st) hr.depth (KX _ _ lk) rfl lim (PySem.W.codeRec_of KX F.cd) rfl hb S.nocell (fun ⟨n, _⟩ hy => S.par n (List.of_mem_zip hy).1) (fun h₁ hns kp => ?_) S.co S.gen S.kind
  have I : Inv (ncx CX P w K mg base N (nfS x q st cc c) f A outer s H E) [] (startF N vs [none]) H { s with heap := h₁, toks := s.toks + (ps.zip us).length } := inv_startN S hr.hd e0 (len _ _ _ _ hsp) r (F.cells e0) hns kp
  refine _root_.PySem.wpAt_mono (body A outer s H vs Q E (hr.deeper _) hsp [] _ I) (fun fl s' hs => ?_) fun e s' hs => hs
  have fin : ∀ {σ' : L2.St} {H' : Hp} {v : V} {u : Value}, Inv (ncx CX P w K mg base N (nfS x q st cc c) f A outer s H E) [] σ' H' s' → L2.RelV v u → Q v H' → CE outer P w H s Q u s' := fun {σ' H' v u} J rv qq => ⟨v, H', J.os, J.bare, J.base, J.hok, rv, qq⟩
  cases fl with
  | ret u =>
    obtain ⟨v, σ', H', J, rv, qq⟩ := hs
    exact fin J rv qq
  | next =>
    obtain ⟨σ', H', J, qq⟩ := hs
    exact fin (v := V.non) (u := Value.none) J rfl qq
  | brk => exact hs.elim fun _ z => z.elim fun _ z => z.2.elim
  | cont => exact hs.elim fun _ z => z.elim fun _ z => z.2.elim
end
/-- ValueError.__init__ bound to the error at x -/
def mwO (x u : Addr) : HO := .ext fun h => h.get? u = some (PySem.W.kxs_mw "ValueError.__init__" x)
theorem mwO_ok {P : Program} {w : World} {H : Hp} {h : Heap} {x u : Addr} (e : h.get? u = some (PySem.W.kxs_mw "ValueError.__init__" x)) : ObjOk P w H h u (mwO x u) := ⟨e, ⟨_, e⟩, fun _ _ z k => k _ z⟩
theorem mwO_at {P : Program} {w : World} {H : Hp} {h : Heap} {x u : Addr} (hok : HOk P w H h) (e : H u = some (mwO x u)) : h.get? u = some (PySem.W.kxs_mw "ValueError.__init__" x) := by
  obtain ⟨z, _, _⟩ := hok u _ e
  exact z
section
variable {prog : Program} {w : World} {A : Around} {E : Value → Shared → Prop} {h : Heap} {g : Array GenState} {d : Drawn} {t : Nat} {os : OsState}
variable {nm q : Str} {C N : Addr} {bs bm : List Value} {hdct : Bool} {sn : List Str} {sub : List Value} {ab : Bool} {col : Option Bool} {dd : Option Addr} {k0 k1 k2 k3 k5 : Option Value}
theorem call_mw {u e t0 : Addr} {us : List Value} {Q : Value → Shared → Prop} (hC : h.get? C = some (excClassObj nm q C N bs bm hdct sn sub ab col dd k0 k1 k2 k3 k5 "ValueError.__new__")) (he : h.get? e = some (PySem.HandSPX.excO C t0))
    (hu : h.get? u = some (PySem.W.kxs_mw "ValueError.__init__" e)) (hl : us.length ≤ sizeLine) (hq : ∀ h' t1, (∀ b o, b ≠ e → h.get? b = some o → h'.get? b = some o) → h'.get? e = some (PySem.HandSPX.excO C t1) → Q .none ⟨h', g, d, t, os⟩) :
    wpAny (model prog w) A (call (.ref u) us) Q E ⟨h, g, d, t, os⟩ := by
  refine wpAny_call (codeAny_of_tree (show wpAny _ A.in1 (callAny (.ref u) ⟨us, []⟩) _ _ _ from ?_))
  unfold callAny
  refine wpAny_bind (wpAny_load hu ?_)
  show wpAny _ _ (if (Value.type "method-wrapper" == Value.type "method" || Value.type "method-wrapper" == Value.type "builtin_function_or_method" || Value.type "method-wrapper" == Value.type "method-wrapper") = true then _ else _) _ _ _
  rw [if_pos (by decide)]
  refine PySem.W.KFB.if_so (show (Value.type "method-wrapper" != Value.type "method") = true by decide) (wpAny_bind (PySem.W.check_bound_init F.excBase_ValueError.toExcCallFacts hC he rfl (wpAny_bind (wpAny_pure (wpAny_pure ⟨_root_.PySem.plainId_quiet F.excBase_ValueError.init.plain _, codeAny_builtin F.excBase_ValueError.initEntry ?_⟩)))))
  exact PySem.W.exc_init_tree (cls := .ref C) (t0 := t0) (dv := none) (c2 := .none) (c3 := .none) (b4 := .bool false) he hl fun h' k e1 _ => hq h' _ k e1
end
section
variable {X : Cx} {B rest : List Stmt} {D : Ends} {σ : L2.St} {H : Hp} {x q : Str} {st : Stmt} {f c cc D0 C a : Addr} {fd : FuncData} {i : Nat} {ar : Arg} {ta : TA} {e : Expr} {es : List Expr} {p0 p1 p2 p3 p4 : Pos} {pl : Sem Bool}
theorem at_supx (F : SupF X.prog X.K x q st f c cc D0 fd) (hfu : X.env.func = some f) (hco : X.env.code = .ref c) (hcl : X.env.cells.lookup ("__class__" : Str) = some cc) (hp : (fd.params.posonlyargs ++ fd.params.args).head? = some ar)
    (hks : X.env.kindOf "super" = some .globalImplicit) (hkc : X.env.kindOf "__class__" = some .free) (hka : X.env.kindOf ar.arg = some .local) (hm : X.mg "super" = none)
    (T : OexC X.K C) (sm : PySem.W.ks_superIn X.K C D0 "__init__" = some (some (.builtin "ValueError.__init__"))) (sub : PySem.W.mroIn X.K C (.ref D0) = some true) (sV : PySem.W.subIn X.K (.ref C) (.type "ValueError") = some true)
    (op : PySem.W.nsIn X.K cStatics "thirdparty.any" = some none) (hi : X.N[i]? = some ar.arg) (hs : σ[i]? = some (some (.ref a))) (ha : H a = some (exo a C none)) (pa : PA X (e :: es) ta)
    (h : ∀ u, H u = none → ta σ (upd H u (mwO a u)) fun vs H1 => vs.length ≤ 1000 ∧ H1 u = some (mwO a u) ∧ H1 a = some (exo a C none) ∧ AtSs X B rest D σ H1)
    (he : starEach (e :: es) X.env = (false, eval e X.env) :: starEach es X.env := by rfl) (hpl : (backTo p3 (starEach es X.env)).any (·.1) = false := by rfl) (hint : interactive X.env = false := by rfl)
    (hsw : swapsWith (.Call (.Attribute (.Call (.Name "super" p0) [] [] p1) "__init__" p2) (e :: es) [] p3) none p4.line X.env = pure false := by rfl)
    (hev : eval (.Call (.Attribute (.Call (.Name "super" p0) [] [] p1) "__init__" p2) (e :: es) [] p3) X.env = (do
      let ov ← attributeBase (.Call (.Name "super" p0) [] [] p1) "__init__" X.env (eval (.Call (.Name "super" p0) [] [] p1) X.env)
      standAt p2.atName
      let (ff, first) ← holding [ov] (getMethod ov "__init__" pl)
      callWith p3 ff first (backTo p3 (starEach (e :: es) X.env)) []) := by rfl) :
    AtSs X B (.Expr (.Call (.Attribute (.Call (.Name "super" p0) [] [] p1) "__init__" p2) (e :: es) [] p3) p4 :: rest) D σ H := fun pins s I => by
  obtain ⟨oc, od, kV, doc, pm, ct, an, osl, efd, lk⟩ := F.ex
  obtain ⟨ccl, cdd, vs, ccs, fl, tf, lc, hvs, hfile⟩ := F.file
  obtain ⟨cl, cld, csl, hcell⟩ := F.cell
  obtain ⟨cdD, hD⟩ := F.cls
  obtain ⟨mb, hb1, hb2⟩ := I.mod.blt
  obtain ⟨oD, hD1, hD2⟩ : ∃ oD, s.heap.get? D0 = some oD ∧ oD.data = .cls cdD := by
    unfold PySem.W.clsIn at hD
    split at hD
    · rename_i c' d' cd' sl' ho
      cases hD
      exact ⟨_, I.kIn _ _ ho, rfl⟩
    · cases hD
  obtain ⟨nm, qn, NN, bs, bm, sn, sb, ab, col, dd, k0, k1, k2, k3, k5, hC, hbm⟩ := T.cls
  have hcC : PySem.W.clsIn X.K C = some { name := nm, bases := bs, mro := .ref C :: bm, ns := NN, qualname := qn, hasDict := true, slotNames := sn, subclasses := sb, abstract := ab, collection := col, hasDel := false } := by unfold PySem.W.clsIn; rw [hC] <;> rfl
  obtain ⟨t0, hx⟩ := exo_at I.hok ha
  have IA : PySem.W.InstAt s.heap a _ C none := ⟨hx, rfl, rfl, trivial⟩
  have xC : a ≠ C := PySem.W.ks_ne I.kIn IA hcC
  refine _root_.PySem.ks_wpAt_execs_cons (_root_.PySem.ks_wpAt_Expr_any (_root_.PySem.ks_wpAt_MethodCall (pl := pl) (_root_.PySem.ks_wpAt_super_base hks hkc rfl hfu (I.kIn _ _ lk) rfl hp hco (I.kIn _ _ lc) rfl hvs hfile F.top ?_) hev) hint hsw)
  refine PySem.W.ks_loadName_global I.ok.kind hks (Calls.loadGlobal_builtin (by rw [I.ok.glob]; exact I.mod.glob.keeps I.bk) hm (by rw [I.ok.blt]; exact hb1.keeps I.bk) ((hb2 _ (by decide)).trans (by decide +kernel)) ⟨rfl, ?_⟩)
  refine wpAny_loadName_free I.ok.kind hkc hcl ⟨_, I.kIn _ _ hcell, rfl⟩ ?_
  obtain ⟨m, hn, hl⟩ := id I.loc
  obtain ⟨u, r, qq⟩ := hl i _ _ hi hs (.inl hka)
  obtain rfl : u = Value.ref a := r
  rcases qq with ⟨_, em⟩ | ⟨k, _⟩
  · refine wpAny_loadName_local I.ok.kind hka hn em ?_
    obtain ⟨hp', g, d, t, os⟩ := s
    refine _root_.PySem.ks_wpAny_isType_cls hD1 hD2 ⟨rfl, ?_⟩
    refine _root_.PySem.ks_wpAny_call_super hD1 hD2 hx rfl (fun c e => by cases e) (PySem.W.looks_mroIn I.kIn sub) (fun h' eS kS => ?_)
    have J1 : Inv X pins σ H ⟨h', g, d, t, os⟩ := I.kept (t' := t) kS
    have IA1 : PySem.W.InstAt h' a _ C none := ⟨kS _ _ hx, rfl, rfl, trivial⟩
    have sm' := sm
    unfold PySem.W.ks_superIn at sm'
    rw [hcC] at sm'
    refine PySem.W.kxs_getMethod PySem.W.kxs_ValueError eS (PySem.W.looks_opaque J1.kIn op) ((PySem.W.looks_clsIn J1.kIn hcC).andThen .now) rfl J1.kIn sm' (IA1.type.andThen (PySem.W.looks_subIn J1.kIn sV)) xC rfl ?_
    have nu : H h'.objs.size = none := J1.hok.fresh (Nat.le_refl _)
    have J2 : Inv X pins σ (upd H h'.objs.size (mwO a h'.objs.size)) ⟨h'.push (PySem.W.kxs_mw "ValueError.__init__" a), g, d, t + 1, os⟩ :=
      J1.laid (t' := t + 1) (a := h'.objs.size) (fun b o z => Heap.get?_push_of_some _ z) (Nat.le_refl _) (mwO_ok (Heap.get?_push_size _ rfl))
    show wpAny _ _ (callWith p3 (Value.ref h'.objs.size) [] (backTo p3 (starEach (e :: es) X.env)) []) _ _ _
    have hpa := pa.run p3 pins _ σ _ _ J2 (h _ nu)
    rw [he] at hpa ⊢
    refine PySem.W.kxs_callWith (i := "ValueError.__init__") (x := a) (by show (false || (backTo p3 (starEach es X.env)).any (·.1)) = false; rw [hpl]; rfl) (Calls.evalArgs_plain (thn hpa fun us s1 ⟨vs', H1, J3, r1, hlen, e1, e2, qk⟩ => ?_))
    refine ⟨mwO_at J3.hok e1, ?_⟩
    show wpAny _ _ (call (Value.ref h'.objs.size) us) _ _ _
    obtain ⟨t1, hx1⟩ := exo_at J3.hok e2
    have hul : us.length ≤ sizeLine := by
      rw [← Paired.length r1, sizeLine_eq]
      omega
    have hCx := J3.kIn _ _ hC
    have hmw := mwO_at J3.hok e1
    obtain ⟨h1, g1, d1, t1', os1⟩ := s1
    refine call_mw hCx hx1 hmw hul (fun h2 t2 k2 hx2 => ?_)
    have J4 := J3.write (t' := t1') (x := a) (e := a) (o := exo a C none) (by rw [e2]; exact True.intro) (.inl rfl) k2 ⟨_, hx2⟩ (exo_ok hx2)
    have eu : upd H1 a (exo a C none) = H1 := by
      funext b
      by_cases hb : b = a
      · rw [hb, upd_same, e2]
      · rw [upd_ne hb]
    rw [eu] at J4
    exact qk pins _ J4
  · rcases k with k | k
    · have z := k.symm.trans hka
      cases z
    · have z := k.symm.trans hka
      cases z
end
/-- what the written part says of the error class at C, named x, with the fields ns -/
structure ErrK (K : PySem.W.Frag) (mg : Str → Option Value) (x : Str) (C fI : Addr) (ns : List Str) : Prop where
  gC : mg x = some (.ref C)
  T : OexC K C
  iC : PySem.W.findIn K (.ref C) "__init__" = some (some (.ref fI))
  tI : PySem.W.typeIn K (.ref fI) = some (.type "function")
  no : ∀ n ∈ ns, PySem.W.findIn K (.ref C) n = some none
  sm : PySem.W.ks_superIn K C C "__init__" = some (some (.builtin "ValueError.__init__"))
  sub : PySem.W.mroIn K C (.ref C) = some true
  sV : PySem.W.subIn K (.ref C) (.type "ValueError") = some true
  op : PySem.W.nsIn K cStatics "thirdparty.any" = some none
  su : mg "super" = none
/-- __init__ keeps: the fields stand in a new dict -/
def spErr (C : Addr) (ns : List Str) : Sp := fun vs H Q _ => ∃ (a : Addr) (ws : List V), vs = .ref a :: ws ∧ ws.length = ns.length ∧ H a = some (exo a C none) ∧
  ∀ u d, H u = none → d ≠ u → d ≠ a → u ≠ a → H d = none → Q .non (upd (upd (upd H u (mwO a u)) d (exd d (ns.zip ws).reverse)) a (exo a C (some d)))
section
variable {P : Program} {w : World} {K : PySem.W.Frag} {mg : Str → Option Value} {base : Heap} {x q : Str} {st : Stmt} {f c cc C : Addr} {fd : FuncData} {n m : Str} {pa0 : Arg} {p0 p1 p2 p3 p4 p5 p6 q0 q1 q2 q3 r0 r1 r2 r3 : Pos}
theorem clsCell {cc : Addr} : List.lookup ("__class__" : Str) [(("__class__" : Str), cc)] = some cc := by simp [List.lookup]
/-- super().__init__(n); self.n = n -/
theorem err1_ok (F : SupF P K "__init__" q st f c cc C fd) (G : ErrK K mg x C f [n]) (S : NScope ["self", n, "__class__"] ["self", n] ["__class__"] (defScope st))
    (eb : defBody st = [.Expr (.Call (.Attribute (.Call (.Name "super" p0) [] [] p1) "__init__" p2) [.Name n p3] [] p4) p5, .Assign [.Attribute (.Name "self" q0) n q1] (.Name n q2) q3])
    (hp : (fd.params.posonlyargs ++ fd.params.args).head? = some pa0) (h0 : pa0.arg = "self") (hks : (defScope st).names.lookup ("super" : Str) = some .globalImplicit)
    (hint : ∀ L, interactive (envF (nfS "__init__" q st cc c) f L) = false)
    (hsw1 : ∀ L, swapsWith (.Call (.Attribute (.Call (.Name "super" p0) [] [] p1) "__init__" p2) [.Name n p3] [] p4) none p5.line (envF (nfS "__init__" q st cc c) f L) = pure false)
    (hev : ∀ L, ∃ pl : Sem Bool, eval (.Call (.Attribute (.Call (.Name "super" p0) [] [] p1) "__init__" p2) [.Name n p3] [] p4) (envF (nfS "__init__" q st cc c) f L) = (do
      let ov ← attributeBase (.Call (.Name "super" p0) [] [] p1) "__init__" (envF (nfS "__init__" q st cc c) f L) (eval (.Call (.Name "super" p0) [] [] p1) (envF (nfS "__init__" q st cc c) f L))
      standAt p2.atName
      let (ff, first) ← holding [ov] (getMethod ov "__init__" pl)
      callWith p4 ff first (backTo p4 (starEach [.Name n p3] (envF (nfS "__init__" q st cc c) f L))) []))
    (hsw2 : ∀ L, swapsWith (.Name n q2) (some (.Attribute (.Name "self" q0) n q1)) q3.line (envF (nfS "__init__" q st cc c) f L) = pure false) (hdb : (n == ("__debug__" : Str)) = false) (hcd : (n == ("__classdict__" : Str)) = false) : FnOk P w K mg base CX0 1 f fd ["self", n] (spErr C [n]) := by
  refine F.ok S (fun vs H Q E h => ?_) (fun A outer s H vs Q E hr h => ?_)
  · obtain ⟨a, ws, rfl, hl, _⟩ := h
    simpa using hl
  · obtain ⟨a, ws, rfl, hl, ha, hq⟩ := h
    match ws, hl with
    | [v], _ =>
      obtain ⟨pl, hev⟩ := hev s.heap.objs.size
      rw [eb]
      have vn : Vis (defScope st) n := .inl (S.par n (by simp))
      have hself : (defScope st).names.lookup ("self" : Str) = some .local := S.par "self" (by simp)
      have pN : PE (ncx CX0 P w K mg base ["self", n, "__class__"] (nfS "__init__" q st cc c) f A outer s H E) (.Name n p3) (tVar 1) := pe_var rfl vn hdb hcd
      refine at_supx (i := 0) F rfl rfl clsCell hp hks (S.frk "__class__" (by simp)) (by rw [h0]; exact hself) G.su G.T G.sm G.sub G.sV G.op (by rw [h0]; rfl) rfl ha (pa_cons pN pa_nil) (fun u hu => ?_) (hint := hint _) (hsw := hsw1 _) (hev := hev)
      have ua : u ≠ a := fun z => by
        rw [z, ha] at hu
        cases hu
      refine ⟨v, rfl, by show 1 ≤ 1000; decide, upd_same, ?_, .any ?_⟩
      · rw [upd_ne (Ne.symm ua)]
        exact ha
      · refine WSs.of (pss_one (ps_ost (pe_var (i := 0) rfl (.inl hself)) (pe_var (i := 1) rfl vn hdb hcd) (hsw2 _))) ?_
        refine ⟨v, rfl, .ref a, rfl, a, C, rfl, G.T, G.no n (by simp), .inl ⟨?_, fun d hd hda => ?_⟩⟩
        · rw [upd_ne (Ne.symm ua)]
          exact ha
        · have du : d ≠ u := fun z => by
            rw [z, upd_same] at hd
            cases hd
          rw [upd_ne du] at hd
          exact hq u d hu du hda ua hd
/-- super().__init__(n, m); self.n = n; self.m = m -/
theorem err2_ok (F : SupF P K "__init__" q st f c cc C fd) (G : ErrK K mg x C f [n, m]) (S : NScope ["self", n, m, "__class__"] ["self", n, m] ["__class__"] (defScope st))
    (eb : defBody st = [.Expr (.Call (.Attribute (.Call (.Name "super" p0) [] [] p1) "__init__" p2) [.Name n p3, .Name m p6] [] p4) p5, .Assign [.Attribute (.Name "self" q0) n q1] (.Name n q2) q3, .Assign [.Attribute (.Name "self" r0) m r1] (.Name m r2) r3])
    (hp : (fd.params.posonlyargs ++ fd.params.args).head? = some pa0) (h0 : pa0.arg = "self") (hks : (defScope st).names.lookup ("super" : Str) = some .globalImplicit)
    (hint : ∀ L, interactive (envF (nfS "__init__" q st cc c) f L) = false)
    (hsw1 : ∀ L, swapsWith (.Call (.Attribute (.Call (.Name "super" p0) [] [] p1) "__init__" p2) [.Name n p3, .Name m p6] [] p4) none p5.line (envF (nfS "__init__" q st cc c) f L) = pure false)
    (hev : ∀ L, ∃ pl : Sem Bool, eval (.Call (.Attribute (.Call (.Name "super" p0) [] [] p1) "__init__" p2) [.Name n p3, .Name m p6] [] p4) (envF (nfS "__init__" q st cc c) f L) = (do
      let ov ← attributeBase (.Call (.Name "super" p0) [] [] p1) "__init__" (envF (nfS "__init__" q st cc c) f L) (eval (.Call (.Name "super" p0) [] [] p1) (envF (nfS "__init__" q st cc c) f L))
      standAt p2.atName
      let (ff, first) ← holding [ov] (getMethod ov "__init__" pl)
      callWith p4 ff first (backTo p4 (starEach [.Name n p3, .Name m p6] (envF (nfS "__init__" q st cc c) f L))) []))
    (hsw2 : ∀ L, swapsWith (.Name n q2) (some (.Attribute (.Name "self" q0) n q1)) q3.line (envF (nfS "__init__" q st cc c) f L) = pure false) (hsw3 : ∀ L, swapsWith (.Name m r2) (some (.Attribute (.Name "self" r0) m r1)) r3.line (envF (nfS "__init__" q st cc c) f L) = pure false)
    (hdb : (n == ("__debug__" : Str)) = false) (hcd : (n == ("__classdict__" : Str)) = false) (mdb : (m == ("__debug__" : Str)) = false) (mcd : (m == ("__classdict__" : Str)) = false) : FnOk P w K mg base CX0 1 f fd ["self", n, m] (spErr C [n, m]) := by
  refine F.ok S (fun vs H Q E h => ?_) (fun A outer s H vs Q E hr h => ?_)
  · obtain ⟨a, ws, rfl, hl, _⟩ := h
    simpa using hl
  · obtain ⟨a, ws, rfl, hl, ha, hq⟩ := h
    match ws, hl with
    | [v, z], _ =>
      obtain ⟨pl, hev⟩ := hev s.heap.objs.size
      rw [eb]
      have vn : Vis (defScope st) n := .inl (S.par n (by simp))
      have vm : Vis (defScope st) m := .inl (S.par m (by simp))
      have hself : (defScope st).names.lookup ("self" : Str) = some .local := S.par "self" (by simp)
      have pN : PE (ncx CX0 P w K mg base ["self", n, m, "__class__"] (nfS "__init__" q st cc c) f A outer s H E) (.Name n p3) (tVar 1) := pe_var rfl vn hdb hcd
      have pM : PE (ncx CX0 P w K mg base ["self", n, m, "__class__"] (nfS "__init__" q st cc c) f A outer s H E) (.Name m p6) (tVar 2) := pe_var rfl vm mdb mcd
      refine at_supx (i := 0) F rfl rfl clsCell hp hks (S.frk "__class__" (by simp)) (by rw [h0]; exact hself) G.su G.T G.sm G.sub G.sV G.op (by rw [h0]; rfl) rfl ha (pa_cons pN (pa_cons pM pa_nil)) (fun u hu => ?_) (hint := hint _) (hsw := hsw1 _) (hev := hev)
      have ua : u ≠ a := fun y => by
        rw [y, ha] at hu
        cases hu
      refine ⟨v, rfl, z, rfl, by show 2 ≤ 1000; decide, upd_same, ?_, .any ?_⟩
      · rw [upd_ne (Ne.symm ua)]
        exact ha
      · refine WSs.of (pss_cons (ps_ost (pe_var (i := 0) rfl (.inl hself)) (pe_var (i := 1) rfl vn hdb hcd) (hsw2 _)) (pss_one (ps_ost (pe_var (i := 0) rfl (.inl hself)) (pe_var (i := 2) rfl vm mdb mcd) (hsw3 _)))) ?_
        refine ⟨v, rfl, .ref a, rfl, a, C, rfl, G.T, G.no n (by simp), .inl ⟨?_, fun d hd hda => ?_⟩⟩
        · rw [upd_ne (Ne.symm ua)]
          exact ha
        · have du : d ≠ u := fun y => by
            rw [y, upd_same] at hd
            cases hd
          rw [upd_ne du] at hd
          refine ⟨z, rfl, .ref a, rfl, a, C, rfl, G.T, G.no m (by simp), .inr ⟨d, _, upd_same, by rw [upd_ne hda, upd_same], by show 1 ≤ 900; decide, ?_⟩⟩
          have key := hq u d hu du hda ua hd
          have e : upd (upd (upd (upd H u (mwO a u)) d (exd d [(n, v)])) a (exo a C (some d))) d (exd d [(m, z), (n, v)]) = upd (upd (upd H u (mwO a u)) d (exd d [(m, z), (n, v)])) a (exo a C (some d)) := by
            funext b
            by_cases hb : b = d
            · subst hb
              rw [upd_same, upd_ne hda, upd_same]
            · rw [upd_ne hb]
              by_cases h2 : b = a
              · subst h2
                rw [upd_same, upd_same]
              · rw [upd_ne h2, upd_ne hb, upd_ne h2, upd_ne hb]
          show Q .non (upd (upd (upd (upd H u (mwO a u)) d (exd d [(n, v)])) a (exo a C (some d))) d (exd d [(m, z), (n, v)]))
          rw [e]
          exact key
end
abbrev XW := Value → Option Addr → En → Lg → Prop
def upW (X : Cx) (W : XW) : WX := fun cls d σ H => ∃ η L, X.N = names η ∧ σ = vals η ∧ Has H L ∧ W cls d η L
/-- the frame lets out what W tells -/
def Tk (X : Cx) (W : XW) : Prop := Takes X (upW X W)
/-- an error class that can be made -/
structure ErrC (P : Program) (w : World) (K : PySem.W.Frag) (mg : Str → Option Value) (base : Heap) (x : Str) (C : Addr) (ns : List Str) : Prop where
  ex : ∃ fI fd, ErrK K mg x C fI ns ∧ FnOk P w K mg base CX0 1 fI fd ("self" :: ns) (spErr C ns) ∧ L2.Binds K fd ("self" :: ns) []
def GMk (X : Cx) (e : Expr) (η : En) (L : Lg) (Q : XL) : Prop := X.N = names η → ∀ H, Has H L → ∀ pins s, Inv X pins (vals η) H s → wpAny (model X.prog X.w) X.A (eval e X.env) (MkP X pins (vals η) (upX Q)) X.xe s
theorem mkp_imp {X : Cx} {pins : List (Addr × Obj)} {σ : L2.St} {Q Q' : XK} {u : Value} {s : Shared} (h : MkP X pins σ Q u s) (m : ∀ c d H, Q c d H → Q' c d H) : MkP X pins σ Q' u s := by
  obtain ⟨a, oe, vs, sI, H', cls, d, h1, h2, h3, h4, h5, h6, h7, h8, h9, h10, h11, h12, q⟩ := h
  exact ⟨a, oe, vs, sI, H', cls, d, h1, h2, h3, h4, h5, h6, h7, h8, h9, h10, h11, h12, m _ _ _ q⟩
section
variable {X : Cx} {η : En} {L : Lg} {e : Expr} {es : List Expr} {pos p : Pos} {D : GD} {W : XW} {Q : QV} {j k : Nat} {x : Str} {C : Addr} {ns : List Str}
theorem gs_raise (tk : Tk X W) (h : GMk X e η L fun c d L1 => W c d η L1) (hc : X.calm = true := by rfl) : GS X (.Raise (some e) none pos) D η L := fun hN H hH =>
  WS.of (ps_raise (t := fun σ H Q => ∀ pins s, Inv X pins σ H s → wpAny (model X.prog X.w) X.A (eval e X.env) (MkP X pins σ Q) X.xe s) hc tk (fun pins s σ H Q I q => q pins s I))
    (fun pins s I => thn (h hN H hH pins s I) fun u s' z => mkp_imp z fun c d H' ⟨L', h', q⟩ => ⟨η, L', hN, rfl, h', q⟩)
theorem gmk_err {E : XL} (T : ErrC X.prog X.w X.K X.mg X.base x C ns) (hr : RoomG j X.A) (h : GA X (e :: es) η L fun vs L1 => vs.length = ns.length ∧ ∀ d, E (.ref C) (some d) ((d, .xd (ns.zip vs).reverse) :: L1)) (hn : ns.length ≤ 900) (hj : 2 ≤ j := by decide) (hg : Gl X x := by rfl)
    (hdb : (x == ("__debug__" : Str)) = false := by decide) (he : starEach (e :: es) X.env = (false, eval e X.env) :: starEach es X.env := by rfl) (hpl : (backTo pos (starEach es X.env)).any (·.1) = false := by rfl) : GMk X (.Call (.Name x p) (e :: es) [] pos) η L E := fun hN H hH pins s I => by
  obtain ⟨fI, fd, G, F, hb⟩ := T.ex
  refine pmk_oex (dvs := []) (ds := []) G.T G.iC G.tI F (hr.toRoom.mono hj) hb .nil (fun _ _ _ _ _ _ _ z => z.elim) hg G.gC pa_W hdb he hpl pins s (vals η) H _ I ?_
  refine (h hN H hH).mono fun vs H1 ⟨L1, h1, hl, q⟩ => ⟨by omega, fun a ha => ⟨a, vs, by rw [List.append_nil], hl, upd_same, fun u d hu du da ua hd => ⟨rfl, d, _, upd_same, by rw [upd_ne da, upd_same], ?_, ?_⟩⟩⟩
  · rw [upd_ne da] at hd
    exact hd
  · refine ⟨_, ?_, q d⟩
    have hd1 : H1 d = none := by
      rw [upd_ne da] at hd
      exact hd
    have hu1 : H1 u = none := by
      rw [upd_ne ua] at hu
      exact hu
    have old : ∀ b o, H1 b = some o → (upd (del (upd (upd (upd (upd H1 a (exo a C none)) u (mwO a u)) d (exd d (ns.zip vs).reverse)) a (exo a C (some d))) a) d (.xd (ns.zip vs).reverse)) b = some o := fun b o z => by
      have na := ne_of_none z ha
      rw [upd_ne (ne_of_none z hd1), del_ne na, upd_ne na, upd_ne (ne_of_none z hd1), upd_ne (ne_of_none z hu1), upd_ne na]
      exact z
    exact h1.newB hd1 old upd_same
end
section
variable {X : Cx} {η : En} {L : Lg} {e : Expr} {es : List Expr} {pos p : Pos} {W : XW} {Q : QV} {j k : Nat} {x : Str} {sp : SpL}
/-- what a callee of ours lets out, taken -/
theorem run_x {pins : List (Addr × Obj)} {H : Hp} {s : Shared} {f : Addr} {args : List Value → Args} {us : List Value} {vs : List V} (F : RunG X.prog X.w X.K X.mg X.base (L2.CX X.prog X.w) k f args (toSp sp)) (hr : RoomG k X.A) (tk : Tk X W) (hN : X.N = names η) (hH : Has H L) (I : Inv X pins (vals η) H s) (r : Vals vs us)
    (h : sp vs L Q fun c d L' => W c d η L') : wpAny (model X.prog X.w) X.A (call (.ref f) (args us).pos (args us).kw) (EP X pins (vals η) (up Q)) X.xe s := by
  have hsp : toSp sp vs H (up Q) (fun c d H' => upW X W c d (vals η) H') := ⟨L, Q, _, hH, h, fun _ L' _ h' q => ⟨L', h', q⟩, fun _ _ L' _ h' q => ⟨η, L', hN, rfl, h', q⟩⟩
  refine wpAny_call (codeAny_mono (F X.A X.stack s H us vs _ _ hr I.env0 r hsp) fun r' s' hq => ?_)
  cases r' with
  | error e => exact passAt tk (vals η) pins H s e s' I hq
  | ok fl =>
    cases fl with
    | ret u => exact I.after hq
    | next => exact hq.elim
    | brk => exact hq.elim
    | cont => exact hq.elim
theorem ge_callX (F : Fn X.prog X.w X.K X.mg X.base (L2.CX X.prog X.w) x k sp) (hr : RoomG j X.A) (tk : Tk X W) (h : GA X (e :: es) η L fun vs L1 => sp vs L1 Q fun c d L' => W c d η L') (hjk : k ≤ j := by decide) (hg : Gl X x := by rfl) (hd : (x == ("__debug__" : Str)) = false := by decide)
    (he : starEach (e :: es) X.env = (false, eval e X.env) :: starEach es X.env := by rfl) (hpl : (backTo pos (starEach es X.env)).any (·.1) = false := by rfl) : GE X (.Call (.Name x p) (e :: es) [] pos) η L Q := fun hN H hH pins s I => by
  obtain ⟨f, hm, hk, F⟩ := F
  refine wpAny_Call_Name_kw (ld_glob I hg hm (PySem.W.callWith_K (h₀ := X.base) I.ok.mod.kin hk (thn (h hN H hH pos pins s I) fun us s1 ⟨vs, H1, J, r, L1, h1, q⟩ => ⟨J.kIn, ?_⟩) he hpl) hd)
  exact run_x (args := argsP) F (hr.mono hjk) tk hN h1 J r q
end
section
variable {P : Program} {w : World} {K : PySem.W.Frag} {mg : Str → Option Value} {base : Heap}
/-- where the body of a def stands that may let errors out -/
abbrev cxR (P : Program) (w : World) (K : PySem.W.Frag) (mg : Str → Option Value) (base : Heap) (N : List Str) (x : Str) (sc : Scope) (f : Addr) (cdv : Value) (A : Around) (outer : List Env) (s : Shared) (H : Hp) (E0 : XK) : Cx := cxOf (L2.CX P w) P w K mg base N x sc f cdv A outer s H E0
/-- what is left over may be dropped -/
def drpE (E : XL) : XL := fun c d L => ∃ M, Sub M L ∧ E c d M
abbrev BodyX (P : Program) (w : World) (K : PySem.W.Frag) (mg : Str → Option Value) (base : Heap) (N : List Str) (q : Str) (st : Stmt) (k : Nat) (sp : SpL) : Prop :=
  ∀ (X : Cx) (f : Addr) (cdv : Value) (A : Around) (outer : List Env) (s : Shared) (H : Hp) (E0 : XK) (L : Lg) (vs : List V) (Q : QV) (E : XL), X = cxR P w K mg base N q (defScope st) f cdv A outer s H E0 → X.N.Nodup → RoomG k X.A → Tk X (fun c d _ L' => drpE E c d L') → sp vs L Q E → GSs X (defBody st) (bodyD Q) (begun N vs) L
theorem run_raise {x q : Str} {st : Stmt} {f : Addr} {fd : FuncData} {N ps : List Str} {k : Nat} {sp : SpL} (F : Fun K x q st f fd) (S : FnScope N ps (defScope st)) (args : List Value → Args) (pmV : List V → List V) (pmU : List Value → List Value) (hpm : ∀ vs us, Vals vs us → Vals (pmV vs) (pmU us))
    (hb : ∀ (kV doc pm : Value) (an : Option Addr) (cdv ct : Value) (us : List Value), (pmU us).length = ps.length → bindArgs (PySem.W.fnOf x q (defArgs st) (defBody st) (defScope st) .none kV doc pm an cdv ct) (args us) = pure (ps.zip (pmU us)))
    (hl : ps.length ≤ N.length) (len : ∀ vs L Q E, sp vs L Q E → vs.length = ps.length) (body : BodyX P w K mg base N q st k sp) : RunG P w K mg base (L2.CX P w) (k + 1) f args (fun vs => toSp sp (pmV vs)) := by
  obtain ⟨oc, od, kV, doc, pm, an, cdv, ct, osl, rfl, lk, hcd⟩ := F.ex
  intro A outer s H us vs Q E hr e0 r hsp
  obtain ⟨L, Ql, El, hH, h, hq, he⟩ := hsp
  have hn : (pmV vs).length = ps.length := len _ L Ql El h
  have r2 := hpm vs us r
  have hlv : (pmV vs).length ≤ N.length := by
    rw [hn]
    exact hl
  have tk : Tk (cxR P w K mg base N q (defScope st) f cdv A outer s H E) (fun c d _ L' => drpE El c d L') := (takes_of rfl rfl rfl rfl).imp fun c d σ H' ⟨η, L', _, _, h', M, sb, z⟩ => he c d M H' (sb _ h') z
  exact LamX.run_ofS (CX := L2.CX P w) lk hcd S hr.toRoom e0 (.of_eq (hb kV doc pm an cdv ct us (by rw [← r2.length]; exact hn))) r2 hn fun hr2 =>
    ⟨WSs _ (defBody st), pss_W, body_end (X := cxR P w K mg base N q (defScope st) f cdv A outer s H E) hlv hq hH (body _ f cdv A outer s H E L (pmV vs) Ql El rfl S.nd ⟨hr2, guard_deeper hr.gd⟩ tk h)⟩
/-- THE RULE for a def that may let errors out -/
theorem fn_raise {x : Str} {st : Stmt} {N ps : List Str} {k : Nat} {sp : SpL} (F : Df K mg x st) (S : FnScope N ps (defScope st))
    (hb : ∀ (kV doc pm : Value) (an : Option Addr) (cdv ct : Value) (us : List Value), us.length = ps.length → bindArgs (PySem.W.fnOf x x (defArgs st) (defBody st) (defScope st) .none kV doc pm an cdv ct) ⟨us, []⟩ = pure (ps.zip us))
    (hl : ps.length ≤ N.length) (len : ∀ vs L Q E, sp vs L Q E → vs.length = ps.length) (body : BodyX P w K mg base N x st k sp) : Fn P w K mg base (L2.CX P w) x (k + 1) sp := by
  obtain ⟨f, fd, hm, F⟩ := F
  exact ⟨f, hm, F.kp, run_raise F S argsP id id (fun _ _ r => r) hb hl len body⟩
end
/-- an error that was caught, at a: its class, its dict -/
def excH (a : Addr) (cls : Value) (d : Option Addr) : HO := .ext fun h => ∃ (oe : Obj) (vs : Array Value), h.get? a = some oe ∧ Zc cls d oe ∧ oe.data = .fields vs
theorem excH_at {P : Program} {w : World} {H : Hp} {h : Heap} {a : Addr} {cls : Value} {d : Option Addr} (hok : HOk P w H h) (e : H a = some (excH a cls d)) : ∃ (oe : Obj) (vs : Array Value), h.get? a = some oe ∧ Zc cls d oe ∧ oe.data = .fields vs := by
  obtain ⟨z, _, _⟩ := hok a _ e
  exact z
/-- an object of the heap is tracked from now on -/
theorem track {X : Cx} {pins : List (Addr × Obj)} {σ : L2.St} {H : Hp} {s : Shared} {a : Addr} {cls : Value} {d : Option Addr} {oe : Obj} {vs : Array Value} (I : Inv X pins σ H s) (ha : s.heap.get? a = some oe) (z : Zc cls d oe) (hd : oe.data = .fields vs) (na : H a = none) (nL : a ≠ X.env.locals)
    (n0 : X.s_0.heap.get? a = none) (np : ∀ p ∈ X.pn ++ pins, p.1 ≠ a) : Inv X pins σ (upd H a (excH a cls d)) s := by
  have ub : ∀ {b : Addr} {o : HO}, H b = some o → upd H a (excH a cls d) b = some o := fun {b o} q => (upd_ne (ne_of_none q na)).trans q
  refine ⟨I.ok, I.os, I.bare, ⟨I.base.keep, I.base.slot, fun b o e n hq => ?_, I.base.there, fun b xs e => ub (I.base.tups b xs e), fun b o u e => ub (I.base.frzs b o u e), fun b ps e => ?_⟩, I.loc, I.cell, ?_, fun x c e => ?_, fun p hp => ?_, fun b u e => ?_, I.len⟩
  · rw [upd_ne fun y => by rw [y, n0] at e; cases e]
    exact I.base.free b o e n hq
  · obtain ⟨m, q⟩ := I.base.tbls b ps e
    exact ⟨m, ub q⟩
  · rw [upd_ne (Ne.symm nL)]
    exact I.free
  · obtain ⟨v, o, ho, hc⟩ := I.cell x c e
    rw [upd_ne fun y => by
      rw [y, ha] at ho
      cases ho
      rw [hd] at hc
      cases hc]
    exact I.freeC x c e
  · obtain ⟨e, n, r⟩ := I.pin p hp
    exact ⟨e, by rw [upd_ne (np p hp)]; exact n, r⟩
  · by_cases hb : b = a
    · subst hb
      rw [upd_same] at e
      cases e
      exact ⟨⟨oe, vs, ha, z, hd⟩, ⟨oe, ha⟩, fun _ _ ⟨o, v, q, r⟩ k => ⟨o, v, k o q, r⟩⟩
    · rw [upd_ne hb] at e
      exact (I.hok b u e).stay (fun _ _ _ q => q) (fun _ q => ub q) fun _ _ q => ub q
/-- the slot of a name is empty again -/
inductive Clr (x : Str) : En → En → Prop
  | here {o : Option V} {η : En} : Clr x ((x, o) :: η) ((x, none) :: η)
  | there {e : Str × Option V} {η θ : En} : Clr x η θ → Clr x (e :: η) (e :: θ)
theorem Clr.idx {x : Str} {η θ : En} (h : Clr x η θ) : ∃ i : Nat, (names η)[i]? = some x ∧ vals θ = (vals η).set i none ∧ names θ = names η := by
  induction h with
  | here => exact ⟨0, rfl, rfl, rfl⟩
  | there _ ih =>
    obtain ⟨i, a, b, c⟩ := ih
    refine ⟨i + 1, a, ?_, ?_⟩
    · show _ :: vals _ = _ :: (vals _).set i none
      rw [b] <;> rfl
    · show _ :: names _ = _ :: names _
      rw [c] <;> rfl
/-- where an except suite stands -/
abbrev suX (X : Cx) (a : Addr) : Cx := { X with A := X.A.mark (some (.ref a)), calm := false, xe := fun _ _ => False }
/-- where the body of a try stands -/
abbrev trX (X : Cx) (pn : List (Addr × Obj)) (xe : Value → Shared → Prop) : Cx := { X with pn := pn, xe := xe }
/-- what is wanted behind the suite: n is empty -/
def suD (n : Str) (D : GD) : GD := { nx := fun θ L => ∃ θ', Clr n θ θ' ∧ D.nx θ' L, rt := D.rt, bk := fun θ L => ∃ θ', Clr n θ θ' ∧ D.bk θ' L, ct := fun θ L => ∃ θ', Clr n θ θ' ∧ D.ct θ' L }
/-- what the clause makes of an error -/
def exW (X : Cx) (c : Value) (n : Str) (suite : List Stmt) (D : GD) (Wout : XW) : XW := fun cls d θ L => ∃ b, PySem.W.exmOne X.K cls c = some b ∧ (b = true → ∀ a, ∃ θ', Put n (.ref a) θ θ' ∧ GSs (suX X a) suite (suD n D) θ' ((a, excH a cls d) :: L)) ∧ (b = false → Wout cls d θ L)
section
variable {X : Cx} {η : En} {L : Lg} {D : GD} {Wout : XW} {x n : Str} {c : Value} {body suite : List Stmt} {b₀ : Stmt} {np pos pos' : Pos}
theorem gs_try_as (hc : Names X x c) (tk : Tk X Wout) (hb : ∀ (X' : Cx) (pn : List (Addr × Obj)) (xe : Value → Shared → Prop), X' = trX X pn xe → PassesOwn (model X'.prog X'.w) X'.A X'.env X'.xe → X'.N.Nodup → Tk X' (exW X c n (b₀ :: suite) D Wout) → GSs X' body D η L)
    (hi : n ∈ X.N) (hn : X.N.Nodup := by assumption) (hs : X.stack = X.env :: X.outer := by rfl) (hf : X.env.frame = some X.env.locals := by rfl) (hln : X.env.kindOf n = some .local := by rfl) (hex : X.ex = [] := by rfl) :
    GS X (.Try body [.ExceptHandler (some (.Name x np)) (some n) (b₀ :: suite) pos'] [] [] pos) D η L := fun hN H hH pins s I => by
  obtain ⟨i, hi⟩ := List.mem_iff_getElem?.mp hi
  have ok := I.ok
  have fr0 : X.A.frames = some (X.env :: X.outer) := by rw [ok.frames, hs]
  have fix : ∀ {m : Nat} {θ : En}, X.N = names θ → (names θ)[m]? = some n → m = i := fun {m θ} e1 e2 => idxU hn (by rw [e1]; exact e2) hi
  -- behind the suite: the name goes
  have goes : ∀ {a : Addr} {σ6 : L2.St} {H6 : Hp} {s6 : Shared} {Q : Shared → Prop}, Inv (suX X a) pins σ6 H6 s6 → (∀ s7, Inv X pins (σ6.set i none) H6 s7 → Q s7) → wpAny (model X.prog X.w) X.A (do bindName X.env n .none; unbindBehindTheSuite X.env n pos') (fun _ s7 => Q s7) X.xe s6 := fun {a σ6 H6 s6 Q} S6 hq =>
    gone_ok (X := X) ⟨ok, S6.os, S6.bare, S6.base, S6.loc, S6.cell, S6.free, S6.freeC, S6.pin, S6.hok, S6.len⟩ hn hi hln hq
  have clr : ∀ {Q : En → Lg → Prop} {σ6 : L2.St} {H6 : Hp} {a : Addr}, upS (suX X a) (fun θ L => ∃ θ', Clr n θ θ' ∧ Q θ' L) σ6 H6 → upS X Q (σ6.set i none) H6 := fun {Q σ6 H6 a} ⟨θ, M, n1, es, h1, θ', ck, q⟩ => by
    obtain ⟨m, m1, m2, m3⟩ := ck.idx
    have mi := fix n1 m1
    subst mi
    exact ⟨θ', M, by rw [m3]; exact n1, by rw [m2, es], h1, q⟩
  refine wpAny_Try_except (wpAny_mono (hb (trX X (X.pn ++ pins) (fun e s₁ => wpAny (model X.prog X.w) X.A (noteFrame e X.env) (fun _ s₂ => wpAny (model X.prog X.w) X.A (setFlight e none) (fun _ s₃ =>
    wpAny (model X.prog X.w) X.A (handleBy e X.env [.ExceptHandler (some (.Name x np)) (some n) (b₀ :: suite) pos']) (SP X pins (D.ends X)) X.xe s₃) X.xe s₂) X.xe s₁)) _ _ rfl PassesOwn.looking hn (fun u s' air => ?_) hN H hH [] s (I.toTry _)) (fun fl s1 z => ?_) fun e s1 z => z)
  · obtain ⟨a, B, sI, pins', σ', H', cls, d, rfl, Jt, nb, up, sky, na, os, ag, θ, M, nθ, rfl, hM, b, hb1, yes, no⟩ := air
    have J : Inv X pins (vals θ) H' sI := Jt.ofTry ok
    have sk : Sky B (X.env :: X.outer) a (Zc cls d) X.env.locals s'.heap := by rw [← hs]; exact sky
    show wpAny (model X.prog X.w) X.A (noteFrame (Value.ref a) X.env) _ _ _
    refine Sky.land Zc.steady fr0 hf sk fun g3 F3 u3 => ?_
    have J3 : Inv X pins (vals θ) H' { s' with heap := g3 } := J.landed nb F3.1 (up.trans u3) os ag
    obtain ⟨o3, v3, he3, hz3, hd3⟩ := F3.there
    have out : a ∉ frs (X.env :: X.outer) := fun hm => by
      obtain ⟨_, o', e', hnf⟩ := F3.2.2.1.mem hm
      rw [he3] at e'
      cases e'
      exact hnf _ hd3
    have nL : a ≠ X.env.locals := fun z => out (List.mem_filterMap.mpr ⟨X.env, List.mem_cons_self, by rw [hf, z]⟩)
    have nF : a ∉ X.fs := fun hm => by
      obtain ⟨e, he, q⟩ := List.mem_filterMap.mp hm
      exact out (List.mem_filterMap.mpr ⟨e, List.mem_cons_of_mem _ he, q⟩)
    have aI : sI.heap.get? a = none := by
      cases e : sI.heap.get? a with
      | none => rfl
      | some o =>
        have z := nb a o e (by rw [hs]; exact out)
        rw [F3.2.1] at z
        cases z
    have S3 := J3.suite he3 hd3 na nL nF
    refine wpAny_handleBy_cons (codeAny_handlers_test ?_) (by intro q; cases q)
    have LT : PySem.W.Looks (model X.prog X.w) g3 (typeOf (.ref a)) cls := fun A Q E s k q => wpAny_typeOf_ref (k _ _ he3) (by rw [hz3.1]; exact q)
    have LM := PySem.W.exm_one (M := model X.prog X.w) J3.kIn LT hb1
    have asks : ∀ {Q : Value → Shared → Prop} {E : Value → Shared → Prop}, Q c { s' with heap := g3 } → wpAny (model X.prog X.w) (X.A.mark (some (.ref a))) (eval (.Name x np) X.env) Q E { s' with heap := g3 } := fun {Q E} q => by
      obtain ⟨hg, hdbg, hm | ⟨hm, hv, hnn⟩⟩ := hc
      · exact ld_glob (X := X.suite a ((a, o3) :: (X.pn ++ pins))) S3 hg hm q hdbg
      · exact ld_blt (X := X.suite a ((a, o3) :: (X.pn ++ pins))) S3 hg hm hv q hnn hdbg
    refine asks (LM.here ?_)
    cases b with
    | true =>
      refine codeAny_handlers_suite_as (HandSPX.lands_againZ F3 fun g4 F4 u4 => ?_)
      have J4 : Inv X pins (vals θ) H' { s' with heap := g4 } := J.landed nb F4.1 ((up.trans u3).trans u4) os ag
      obtain ⟨o4, v4, he4, hz4, hd4⟩ := F4.there
      have n0 : X.s_0.heap.get? a = none := by
        cases e : X.s_0.heap.get? a with
        | none => rfl
        | some o =>
          obtain ⟨o', e'⟩ := J.base.there a o e (by rw [hex]; exact fun z => nomatch z)
          rw [aI] at e'
          cases e'
      have T4 := track (cls := cls) (d := d) J4 he4 hz4 hd4 na nL n0 fun p hp z => by
        obtain ⟨e, _⟩ := J.pin p hp
        rw [z, aI] at e
        cases e
      have S4 : Inv (suX X a) pins (vals θ) (upd H' a (excH a cls d)) { s' with heap := g4 } := ⟨ok.suite a X.pn, T4.os, T4.bare, T4.base, T4.loc, T4.cell, T4.free, T4.freeC, T4.pin, T4.hok, T4.len⟩
      obtain ⟨θ', pu, run⟩ := yes rfl a
      obtain ⟨m, m1, m2, m3⟩ := pu.idx
      have mi := fix nθ m1
      subst mi
      have N4 : (suX X a).N = names θ' := by rw [m3]; exact nθ
      refine store_ok (X := suX X a) (v := .ref a) S4 hn hi (.inl hln) rfl (fun s5 S5 => ?_) (.inr hln)
      rw [← m2] at S5
      refine wpAny_mono (run N4 _ (hM.new na) pins s5 S5) (fun fl s6 z => ?_) fun _ _ z => z.elim
      cases fl with
      | next => exact z.elim fun σ6 z => z.elim fun H6 z => goes z.1 fun s7 J7 => ⟨_, H6, J7, clr z.2⟩
      | brk => exact z.elim fun σ6 z => z.elim fun H6 z => goes z.1 fun s7 J7 => ⟨_, H6, J7, clr z.2⟩
      | cont => exact z.elim fun σ6 z => z.elim fun H6 z => goes z.1 fun s7 J7 => ⟨_, H6, J7, clr z.2⟩
      | ret u => exact z.elim fun v6 z => z.elim fun σ6 z => z.elim fun H6 z => goes z.1 fun s7 J7 => ⟨v6, _, H6, J7, z.2.1, z.2.2⟩
    | false =>
      show wpAny _ X.A (handleBy (Value.ref a) X.env []) _ _ _
      refine wpAny_handleBy_nil ?_
      obtain ⟨_, _, _, oe, vs, T, oT, ts', he, hz, hd, h1, _⟩ := id F3
      unfold PySem.passOn
      refine wpAny_bind (wpAny_field he hd h1 ?_)
      rw [if_neg (show ¬ ((Value.ref T == Value.none) = true) from by simp)]
      have on : wpAny (model X.prog X.w) X.A (setFlight (.ref a) X.env.frame) (fun _ s4 => wpAny (model X.prog X.w) X.A (throw (.ref a) : Sem Flow) (SP X pins (D.ends X)) X.xe s4) X.xe { s' with heap := g3 } := by
        rw [hf]
        refine HandSPX.setFlight_upZ F3 fun g4 hh4 u4 => wpAny_throw (tk _ _ ⟨a, B, sI, pins, vals θ, H', cls, d, rfl, J, nb, (up.trans u3).trans u4, .inr (.inr (by rw [hs]; exact hh4)), na, os, ag, θ, M, nθ, rfl, hM, no rfl⟩)
      first
        | exact wpAny_bind (wpAny_pure (wpAny_bind on))
        | exact wpAny_bind on
  · cases fl with
    | next => exact z.elim fun σ' z => z.elim fun H' z => wpAny_execs_nil ⟨σ', H', z.1.ofTry ok, z.2⟩
    | brk => exact z.elim fun σ' z => z.elim fun H' z => ⟨σ', H', z.1.ofTry ok, z.2⟩
    | cont => exact z.elim fun σ' z => z.elim fun H' z => ⟨σ', H', z.1.ofTry ok, z.2⟩
    | ret u => exact z.elim fun v z => z.elim fun σ' z => z.elim fun H' z => ⟨v, σ', H', z.1.ofTry ok, z.2.1, z.2.2⟩
end
end G
set_option Elab.async false
set_option linter.all false
set_option maxRecDepth 100000
set_option maxHeartbeats 4000000
namespace G
open PySem PySem.Spec PyProof.Rows L2
/-- n turns; keep: what must stand at every turn; item: what comes at turn i, with the entries that come with it -/
structure Src where
  n : Nat
  keep : Lg → Prop
  item : Nat → V → Lg → Prop
structure SrcOk (J : It) (S : Src) : Prop where
  goes : ∀ i H M, i < S.n → Has H M → S.keep M → J.go i H
  stops : ∀ H M, Has H M → S.keep M → J.stop S.n H
  yields : ∀ i H x H' M, i < S.n → Has H M → S.keep M → J.yld i H x H' → ∃ E, S.item i x E ∧ Has H' (E ++ M)
theorem SrcOk.of {J : It} {n : Nat} {G : Hp → Prop} {Y : Nat → Hp → V → Hp → Prop} {keep : Lg → Prop} {item : Nat → V → Lg → Prop} (w : Walk J n G Y) (hg : ∀ H M, Has H M → keep M → G H)
    (hy : ∀ i H x H' M, i < n → Has H M → keep M → Y i H x H' → ∃ E, item i x E ∧ Has H' (E ++ M)) : SrcOk J ⟨n, keep, item⟩ :=
  ⟨fun i H M hi h k => w.goes i H hi (hg H M h k), fun H M h k => w.stops H (hg H M h k), fun i H x H' M hi h k y => hy i H x H' M hi h k (w.yields i H x H' hi (hg H M h k) y)⟩
def WI (X : Cx) (tg iter : Expr) : TI := fun σ H R => ∀ pins s, Inv X pins σ H s → wpAny (model X.prog X.w) X.A (eval iter X.env) (fun v s1 => wpAny (model X.prog X.w) X.A (pyIter v) (PIE X pins σ tg R) X.xe s1) X.xe s
theorem pi_W {X : Cx} {tg iter : Expr} : PI X tg iter (WI X tg iter) := ⟨fun pins s _ _ _ I h => h pins s I⟩
theorem WI.of {X : Cx} {tg iter : Expr} {wi : TI} {σ : L2.St} {H : Hp} {R : It → Hp → Prop} (h : PI X tg iter wi) (q : wi σ H R) : WI X tg iter σ H R := fun pins s I => h.run pins s σ H R I q
def GI (X : Cx) (tg iter : Expr) (η : En) (L : Lg) (Q : Src → Lg → Prop) : Prop := X.N = names η → ∀ H, Has H L → WI X tg iter (vals η) H fun J H1 => ∃ L1 S, Has H1 L1 ∧ SrcOk J S ∧ Q S L1
/-- one item of a list as it stands -/
def itemAt (xs : List V) : Nat → V → Lg → Prop := fun i x E => xs[i]? = some x ∧ E = []
def itemFn (f : Nat → V) : Nat → V → Lg → Prop := fun i x E => x = f i ∧ E = []
def itemPr (f g : Nat → Option V) : Nat → V → Lg → Prop := fun i v E => ∃ t x y, v = .ref t ∧ E = [(t, .tup [x, y])] ∧ f i = some x ∧ g i = some y
theorem y_at {xs : List V} {i : Nat} {H H' : Hp} {x : V} {M : Lg} (h : Has H M) (y : YAt xs i H x H') : ∃ E, itemAt xs i x E ∧ Has H' (E ++ M) := by
  obtain ⟨e, y⟩ := y
  subst e
  exact ⟨[], ⟨y, rfl⟩, h⟩
theorem y_fn {f : Nat → V} {i : Nat} {H H' : Hp} {x : V} {M : Lg} (h : Has H M) (y : YFn f i H x H') : ∃ E, itemFn f i x E ∧ Has H' (E ++ M) := by
  obtain ⟨e, y⟩ := y
  subst e
  exact ⟨[], ⟨y, rfl⟩, h⟩
theorem y_pr {f g : Nat → Option V} {i : Nat} {H H' : Hp} {x : V} {M : Lg} (h : Has H M) (y : YPair f g i H x H') : ∃ E, itemPr f g i x E ∧ Has H' (E ++ M) := by
  obtain ⟨T, u, v, e1, n, e2, e3, e4⟩ := y
  subst e1 e2
  exact ⟨[(T, .tup [u, v])], ⟨T, u, v, rfl, rfl, e3, e4⟩, h.new n⟩
/-- the list of xs at p stands in the ledger -/
def KeepL (p : Addr) (xs : List V) : Lg → Prop := fun M => (p, HO.lst xs) ∈ M
def KeepT (p : Addr) (xs : List V) : Lg → Prop := fun M => (p, HO.tup xs) ∈ M
section
variable {X : Cx} {η : En} {L : Lg} {Q : Src → Lg → Prop} {tg a b c e : Expr} {p pos : Pos}
theorem gi_list (h : GE X e η L fun v L1 => ∃ q xs, v = .ref q ∧ (q, HO.lst xs) ∈ L1 ∧ Q ⟨xs.length, KeepL q xs, itemAt xs⟩ L1) : GI X tg e η L Q := fun hN H hH =>
  WI.of (pi_list pe_W) (h.then hN hH fun v L1 H1 k1 ⟨q, xs, ev, m, z⟩ => ⟨q, ev, ⟨xs, sql k1 m⟩, L1, _, k1, SrcOk.of walk_list (fun H M hM k => sql hM k) (fun i H x H' M _ hM _ y => y_at hM y), z⟩)
theorem gi_tuple (h : GE X e η L fun v L1 => ∃ q xs, v = .ref q ∧ (q, HO.tup xs) ∈ L1 ∧ Q ⟨xs.length, KeepT q xs, itemAt xs⟩ L1) : GI X tg e η L Q := fun hN H hH =>
  WI.of (pi_tup pe_W) (h.then hN hH fun v L1 H1 k1 ⟨q, xs, ev, m, z⟩ => ⟨q, ev, ⟨xs, sqt k1 m⟩, L1, _, k1, SrcOk.of walk_tup (fun H M hM k => sqt hM k) (fun i H x H' M _ hM _ y => y_at hM y), z⟩)
theorem gi_range1 (h : GA X [a] η L fun vs L1 => ∃ j : Int, vs = [.int j] ∧ (-(2 ^ 62) ≤ j ∧ j < 2 ^ 62) ∧ Q ⟨j.toNat, fun _ => True, itemFn fun i => .int (i : Int)⟩ L1) (hm : X.mg "range" = none) (hg : Gl X "range" := by rfl)
    (hs' : starEach [a] X.env = [(false, eval a X.env)] := by rfl) : GI X tg (.Call (.Name "range" p) [a] [] pos) η L Q := fun hN H hH =>
  WI.of (pi_range1 hg hm pa_W hs') (h.then hN hH fun vs L1 H1 k1 ⟨j, e1, bd, q⟩ => ⟨j, e1, bd.1, bd.2, L1, _, k1, SrcOk.of walk_range (fun _ _ _ _ => True.intro) (fun i H x H' M _ hM _ y => by
    obtain ⟨e, y⟩ := y
    subst e
    exact ⟨[], ⟨y.trans (congrArg V.int (Int.zero_add _)), rfl⟩, hM⟩), q⟩)
theorem gi_range2 (h : GA X [a, b] η L fun vs L1 => ∃ j k : Int, vs = [.int j, .int k] ∧ (-(2 ^ 62) ≤ j ∧ j < 2 ^ 62 ∧ -(2 ^ 62) ≤ k ∧ k < 2 ^ 62) ∧ Q ⟨(k - j).toNat, fun _ => True, itemFn fun i => .int (j + (i : Int))⟩ L1) (hm : X.mg "range" = none) (hg : Gl X "range" := by rfl)
    (hs' : starEach [a, b] X.env = [(false, eval a X.env), (false, eval b X.env)] := by rfl) (hs2 : starEach [b] X.env = [(false, eval b X.env)] := by rfl) : GI X tg (.Call (.Name "range" p) [a, b] [] pos) η L Q := fun hN H hH =>
  WI.of (pi_range2 hg hm pa_W hs' hs2) (h.then hN hH fun vs L1 H1 k1 ⟨j, k, e1, bd, q⟩ => ⟨j, k, e1, bd, L1, _, k1, SrcOk.of walk_range (fun _ _ _ _ => True.intro) (fun i H x H' M _ hM _ y => y_fn hM y), q⟩)
theorem gi_zip {elts : List Expr} {kk : Nat} {tpos : Pos} (h : GA X [e, a] η L fun vs L1 => ∃ q r xs ys, vs = [.ref q, .ref r] ∧ (q, HO.lst xs) ∈ L1 ∧ (r, HO.lst ys) ∈ L1 ∧ Q ⟨min xs.length ys.length, fun M => (q, HO.lst xs) ∈ M ∧ (r, HO.lst ys) ∈ M, itemPr (fun i => xs[i]?) (fun i => ys[i]?)⟩ L1) (hm : X.mg "zip" = none) (hg : Gl X "zip" := by rfl)
    (hs' : starEach [e, a] X.env = (false, eval e X.env) :: starEach [a] X.env := by rfl) (hpl : (backTo pos (starEach [a] X.env)).any (·.1) = false := by rfl) : GI X (.Tuple elts kk tpos) (.Call (.Name "zip" p) [e, a] [] pos) η L Q := fun hN H hH =>
  WI.of (pi_zip hg hm pa_W hs' hpl) (h.then hN hH fun vs L1 H1 k1 ⟨q, r, xs, ys, e1, m1, m2, z⟩ => ⟨q, r, xs, ys, e1, sql k1 m1, sql k1 m2, L1, _, k1, SrcOk.of (walk_zip rfl) (fun H M hM k => ⟨sql hM k.1, sql hM k.2⟩) (fun i H x H' M _ hM _ y => y_pr hM y), z⟩)
end
structure LoopS (X : Cx) (tg : Expr) (body : List Stmt) (D : GD) (S : Src) (η : En) (L : Lg) (Pv : Nat → En → Lg → Prop) : Prop where
  h0 : Pv 0 η L
  kp : ∀ i θ M, i ≤ S.n → (M.map (·.1)).Nodup → Pv i θ M → S.keep M
  hs : ∀ i x E θ M, i < S.n → S.item i x E → Pv i θ M → GG X tg x θ (E ++ M) fun θ' M' => GSs X body { nx := Pv (i + 1), rt := D.rt, bk := D.nx, ct := Pv (i + 1) } θ' M'
  hd : ∀ θ M, Pv S.n θ M → D.nx θ M
section
variable {X : Cx} {η : En} {L : Lg} {tg iter : Expr} {body : List Stmt} {pos : Pos} {D : GD}
theorem gs_for (h : GI X tg iter η L fun S L1 => ∃ Pv, LoopS X tg body D S η L1 Pv) (hp : PassesOwn (model X.prog X.w) X.A X.env X.xe := by first | exact PassesOwn.never | exact passes_of rfl | assumption) (hc : X.calm = true := by rfl)
    (hs : ∀ x, foldedSetIterable iter X.env x = pure x := by intro _; rfl) : GS X (.For tg iter body [] pos) D η L := fun hN H hH =>
  WS.of (ps_for hp hc pi_W pg_W pss_W hs) (by
    intro pins s I
    refine wpAny_mono (h hN H hH pins s I) (fun v s1 z => wpAny_mono z (fun itv s2 z2 => ?_) fun _ _ z => z) fun _ _ z => z
    obtain ⟨it, fp, tn, J, H1, ev, I2, T, t0, f2, L1, S, k1, ok, Pv, l⟩ := z2
    refine ⟨it, fp, tn, J, H1, ev, I2, T, t0, f2, ?_⟩
    refine ⟨fun i m σ H => m = S.n - i ∧ i ≤ S.n ∧ upS X (Pv i) σ H, ⟨S.n, by simp, Nat.zero_le _, η, L1, hN, rfl, k1, l.h0⟩, ?_⟩
    rintro i m σ H ⟨rfl, hi, θ, M, n1, es, h1, q1⟩
    have kk := l.kp i θ M hi h1.1 q1
    by_cases hlt : i < S.n
    · refine .inr ⟨ok.goes i H M hlt h1 kk, upS X (Pv (i + 1)), fun σ' H' p' => ⟨S.n - (i + 1), by omega, rfl, hlt, p'⟩, fun x H' y => ?_⟩
      obtain ⟨E, it', h2⟩ := ok.yields i H x H' M hlt h1 kk y
      rw [es]
      exact (l.hs i x E θ M hlt it' q1).then n1 h2 fun θ' M' H2 n2 h2 q2 => q2 n2 H2 h2
    · have e : i = S.n := by omega
      subst e
      exact .inl ⟨ok.stops H M h1 kk, θ, M, n1, es, h1, l.hd θ M q1⟩)
end
def GTs (X : Cx) (ifs : List Expr) (η : En) (L : Lg) (Q : Bool → Lg → Prop) : Prop := match ifs with
  | [] => Q true L
  | [c] => GT X c η L Q
  | _ => False
def WTs (X : Cx) (ifs : List Expr) : TT := match ifs with
  | [] => tYes
  | [c] => WT X c
  | _ => fun _ _ _ => False
theorem pts_W {X : Cx} {ifs : List Expr} : PTs X ifs (WTs X ifs) := by
  match ifs with
  | [] => exact pts_nil
  | [c] => exact pts_one pt_W
  | _ :: _ :: _ => exact ⟨fun _ _ _ _ _ _ h => h.elim⟩
theorem GTs.then {X : Cx} {ifs : List Expr} {η : En} {L : Lg} {Q : Bool → Lg → Prop} {Q' : Bool → Hp → Prop} (h : GTs X ifs η L Q) (hN : X.N = names η) {H : Hp} (hH : Has H L) (m : ∀ b L1 H1, Has H1 L1 → Q b L1 → Q' b H1) : WTs X ifs (vals η) H Q' := by
  match ifs, h with
  | [], h => exact m true L H hH h
  | [c], h => exact GT.then h hN hH m
/-- the block of a comprehension -/
abbrev blkX (X : Cx) (s : Shared) (H : Hp) (scope : Scope) (C : Addr) (cl : List (Str × Addr)) (fp : List Addr) : Cx := X.blk s H scope (compEnvC scope cl C X.env) fp
/-- one turn of a comprehension: the item stands in θ; B: the block's contexts -/
abbrev AllBlk (X : Cx) (scope : Scope) (φ : Cx → Prop) : Prop := ∀ (s : Shared) (H : Hp) (C : Addr) (cl : List (Str × Addr)) (fp : List Addr), φ (blkX X s H scope C cl fp)
abbrev LocB (X : Cx) (scope : Scope) (x : Str) : Prop := AllBlk X scope fun B => Loc B.env.scope x ∧ (B.fn x = true ∨ B.env.scope.names.lookup x = some .local)
theorem idxEq {N : List Str} (hn : N.Nodup) {i : Nat} {x : Str} (h : N[i]? = some x) : N.idxOf x = i := idxU hn (by
  have m := List.idxOf_lt_length_of_mem (List.mem_of_getElem? h)
  rw [List.getElem?_eq_getElem m, List.getElem_idxOf m]) h
def LcTurn (X : Cx) (scope : Scope) (ifs : List Expr) (elt : Expr) (D : Addr) (Nx : Lg → Prop) (θ : En) (M : Lg) : Prop :=
  AllBlk X scope fun B => GTs B ifs θ M fun b M1 => if b = true then AllBlk X scope fun B => GE B elt θ M1 fun y M2 => ∃ acc M3, (D, HO.lst acc) ∈ M2 ∧ acc.length < sizeLine ∧ Swap D (.lst (acc ++ [y])) M2 M3 ∧ Nx M3 else Nx M1
structure LcS (X : Cx) (scope : Scope) (ifs : List Expr) (elt : Expr) (S : Src) (D : Addr) (L : Lg) (st : V → Lg → (En → Lg → Prop) → Prop) (Pv : Nat → Lg → Prop) (Q : QV) : Prop where
  h0 : Pv 0 ((D, .lst []) :: L)
  kp : ∀ i M, i ≤ S.n → (M.map (·.1)).Nodup → Pv i M → S.keep M
  hs : ∀ i x E M, i < S.n → S.item i x E → ((E ++ M).map (·.1)).Nodup → Pv i M → st x (E ++ M) fun θ M' => LcTurn X scope ifs elt D (Pv (i + 1)) θ M'
  hd : ∀ M, Pv S.n M → Q (.ref D) M
theorem wipe_one {σ : L2.St} {i : Nat} {v : Option V} : wipe (σ.set i v) [i] = wipe σ [i] := by
  show (σ.set i v).set i none = σ.set i none
  rw [List.set_set]
def teB (X : Cx) (scope : Scope) (elt : Expr) : TE := fun σ H q => AllBlk X scope fun B => WE B elt σ H q
def ttB (X : Cx) (scope : Scope) (ifs : List Expr) : TT := fun σ H q => AllBlk X scope fun B => WTs B ifs σ H q
theorem pe_teB {X : Cx} {scope : Scope} {elt : Expr} (s : Shared) (H : Hp) (C : Addr) (cl : List (Str × Addr)) (fp : List Addr) : PE (blkX X s H scope C cl fp) elt (teB X scope elt) := ⟨fun pins s1 σ H1 Q I h => h s H C cl fp pins s1 I⟩
theorem pts_ttB {X : Cx} {scope : Scope} {ifs : List Expr} (s : Shared) (H : Hp) (C : Addr) (cl : List (Str × Addr)) (fp : List Addr) : PTs (blkX X s H scope C cl fp) ifs (ttB X scope ifs) := ⟨fun pins s1 σ H1 Q I h => pts_W.run pins s1 σ H1 Q I (h s H C cl fp)⟩
section
variable {X : Cx} {η : En} {L : Lg} {elt iter tg : Expr} {ifs : List Expr} {scope : Scope} {pos p1 p2 p3 : Pos} {x y : Str} {f : V → En} {Q : QV}
/-- what the library's comprehension asks, from ours -/
theorem lc_core' {g : TG} {vs : List Nat} {st : V → Lg → (En → Lg → Prop) → Prop} (nη : X.N = names η) {H : Hp} (hH : Has H L) {Qh : VK} (hq : ∀ D M H', Has H' M → Q (.ref D) M → Qh (.ref D) H')
    (hst : ∀ v M H' k Qk, Has H' M → st v M k → (∀ θ M' H2, X.N = names θ → Has H2 M' → k θ M' → wipe (vals θ) vs = wipe (vals η) vs → Qk (vals θ) H2) → g v (wipe (vals η) vs) H' Qk)
    (h : GI X tg iter η L fun S L1 => ∀ D, ∃ Pv, LcS X scope ifs elt S D L1 st Pv Q) : tLc (WI X tg iter) g (ttB X scope ifs) (teB X scope elt) vs (vals η) H Qh := by
  intro pins s I
  refine wpAny_mono (h nη H hH pins s I) (fun v s1 z => wpAny_mono z (fun itv s2 z2 => ?_) fun _ _ z => z) fun _ _ z => z
  obtain ⟨it, fp, tn, J, H1, ev, I2, T, t0, f2, L1, S, k1, ok, l⟩ := z2
  refine ⟨it, fp, tn, J, H1, ev, I2, T, t0, f2, fun D nD => ?_⟩
  obtain ⟨Pv, l⟩ := l D
  refine ⟨fun i m H => m = S.n - i ∧ i ≤ S.n ∧ ∃ M, Has H M ∧ Pv i M, ⟨S.n, by simp, Nat.zero_le _, _, k1.new nD, l.h0⟩, ?_⟩
  rintro t m H2 ⟨rfl, hi2, M, h3, q1⟩
  have kk := l.kp t M hi2 h3.1 q1
  by_cases hlt : t < S.n
  · refine .inr ⟨ok.goes t H2 M hlt h3 kk, fun H' => ∃ M, Has H' M ∧ Pv (t + 1) M, fun H' p' => ⟨S.n - (t + 1), by omega, rfl, hlt, p'⟩, fun v H3 y => ?_⟩
    obtain ⟨E, it', h4⟩ := ok.yields t H2 v H3 M hlt h3 kk y
    refine hst v (E ++ M) H3 _ _ h4 (l.hs t v E M hlt it' h4.1 q1) fun θ M' H5 nθ h5 q2 ew => ⟨ew, fun s' H' C cl fp => ?_⟩
    refine (q2 s' H' C cl fp).then nθ h5 fun b M1 H6 h6 q3 => ?_
    cases b with
    | true =>
      rw [if_pos rfl] at q3 ⊢
      refine fun s' H' C cl fp => (q3 s' H' C cl fp).then nθ h6 fun y M2 H7 h7 q4 => ?_
      obtain ⟨acc, M3, m2, z, sw, q5⟩ := q4
      exact ⟨acc, h7.get m2, z, M3, h7.swap sw, q5⟩
    | false =>
      rw [if_neg Bool.false_ne_true] at q3 ⊢
      exact ⟨M1, h6, q3⟩
  · have e : t = S.n := by omega
    subst e
    exact .inl ⟨ok.stops H2 M h3 kk, hq D M H2 h3 (l.hd M q1)⟩
/-- the store of the item: one name -/
theorem st_one {i : Nat} (P : PutF x η f) (hi : X.N[i]? = some x) (hN : X.N.Nodup) (nη : X.N = names η) : ∀ (v : V) (M : Lg) (H' : Hp) (k : En → Lg → Prop) (Qk : L2.St → Hp → Prop), Has H' M → k (f v) M → (∀ θ M' H2, X.N = names θ → Has H2 M' → k θ M' → wipe (vals θ) [i] = wipe (vals η) [i] → Qk (vals θ) H2) → gName i v (wipe (vals η) [i]) H' Qk := fun v M H' k Qk hM q hk => by
  obtain ⟨j, h1, h2⟩ := P.idx
  have ij : i = j := idxU hN hi (by rw [nη]; exact h1)
  subst ij
  have e1 : (wipe (vals η) [i]).set i (some v) = vals (f v) := by
    rw [(h2 v).1]
    show ((vals η).set i none).set i (some v) = _
    rw [List.set_set]
  have z := hk (f v) M H' (by rw [(h2 v).2]; exact nη) hM q (by rw [(h2 v).1]; exact wipe_one)
  show Qk ((wipe (vals η) [i]).set i (some v)) H'
  rw [e1]
  exact z
/-- [elt for x in iter if ..], as a value -/
theorem ge_lc1 (P : PutF x η f) (h : GI X (.Name x p1) iter η L fun S L1 => ∀ D, ∃ Pv, LcS X scope ifs elt S D L1 (fun v M k => k (f v) M) Pv Q) (hb : blkC X.N X.env.scope scope [(x, X.N.idxOf x)] = true) (hlx : LocB X scope x := by exact fun _ _ _ _ _ => ⟨.inl rfl, .inr rfl⟩)
    (hN : X.N.Nodup := by assumption) (hc : X.calm = true := by rfl) (hs : ∀ z, foldedSetIterable iter X.env z = pure z := by intro _; rfl) : GE X (.ListComp elt [⟨.Name x p1, iter, ifs, 0⟩] scope pos) η L Q := fun nη H hH => by
  obtain ⟨i, h1, _⟩ := P.idx
  have hi : X.N[i]? = some x := by rw [nη]; exact h1
  exact WE.of (pe_lc (own := [(x, i)]) hc hN pi_W (blkOk_by (by rw [idxEq hN hi] at hb; exact hb)) (fun s H C cl fp => pg_name (X := blkX X s H scope C cl fp) hN hi (hlx s H C cl fp).1 (hlx s H C cl fp).2) pts_ttB pe_teB hs)
    (lc_core' (Qh := up Q) nη hH (fun D M H' hM q => ⟨M, hM, q⟩) (st_one P hi hN nη) h)
/-- y = [elt for x in iter if ..] -/
theorem gs_lc1 {D : GD} {fy : V → En} {py : Pos} (Py : PutF y η fy) (P : PutF x η f) (h : GI X (.Name x p1) iter η L fun S L1 => ∀ d, ∃ Pv, LcS X scope ifs elt S d L1 (fun v M k => k (f v) M) Pv fun v M => D.nx (fy v) M) (hb : blkC X.N X.env.scope scope [(x, X.N.idxOf x)] = true) (hlx : LocB X scope x := by exact fun _ _ _ _ _ => ⟨.inl rfl, .inr rfl⟩)
    (hyl : X.env.scope.names.lookup y = some .local := by rfl) (hsw : swapsWith (.ListComp elt [⟨.Name x p1, iter, ifs, 0⟩] scope pos) (some (.Name y py)) p3.line X.env = pure true := by rfl)
    (hN : X.N.Nodup := by assumption) (hc : X.calm = true := by rfl) (hs : ∀ z, foldedSetIterable iter X.env z = pure z := by intro _; rfl) : GS X (.Assign [.Name y py] (.ListComp elt [⟨.Name x p1, iter, ifs, 0⟩] scope pos) p3) D η L := fun nη H hH => by
  obtain ⟨i, h1, _⟩ := P.idx
  obtain ⟨j, k1, k2⟩ := Py.idx
  have hi : X.N[i]? = some x := by rw [nη]; exact h1
  have hj : X.N[j]? = some y := by rw [nη]; exact k1
  refine WS.of (ps_setLc (own := [(x, i)]) hc hN hj hyl hsw pi_W (blkOk_by (by rw [idxEq hN hi] at hb; exact hb)) (fun s H C cl fp => pg_name (X := blkX X s H scope C cl fp) hN hi (hlx s H C cl fp).1 (hlx s H C cl fp).2) pts_ttB pe_teB hs) ?_
  refine lc_core' (Qh := fun v H1 => gName j v (vals η) H1 (D.ends X).nx) nη hH (fun d M H' hM q => ?_) (st_one P hi hN nη) h
  show upS X D.nx ((vals η).set j (some (.ref d))) H'
  exact ⟨fy (.ref d), M, by rw [(k2 _).2]; exact nη, (k2 _).1.symm, hM, q⟩
theorem wipe_two {σ : L2.St} {i j : Nat} (ne : i ≠ j) {a b : Option V} : ((wipe σ [i, j]).set i a).set j b = (σ.set i a).set j b ∧ wipe ((σ.set i a).set j b) [i, j] = wipe σ [i, j] := by
  refine ⟨?_, ?_⟩
  · show ((((σ.set j none).set i none).set i a).set j b) = _
    rw [List.set_set, List.set_comm _ _ ne, List.set_set, List.set_comm _ _ (Ne.symm ne)]
  · show ((((σ.set i a).set j b).set j none).set i none) = (σ.set j none).set i none
    rw [List.set_set, List.set_comm _ _ ne, List.set_set, List.set_comm _ _ (Ne.symm ne)]
/-- the store of an item: a pair's two names -/
theorem st_two {K : PySem.W.Frag} {g : V → V → En} {i j : Nat} (P : PutF x η f) (R : ∀ v, PutF y (f v) (g v)) (hi : X.N[i]? = some x) (hj : X.N[j]? = some y) (ne : i ≠ j) (hN : X.N.Nodup) (nη : X.N = names η) :
    ∀ (v : V) (M : Lg) (H' : Hp) (k : En → Lg → Prop) (Qk : L2.St → Hp → Prop), Has H' M → (∃ p a b, v = .ref p ∧ (p, HO.tup [a, b]) ∈ M ∧ k (g a b) M) → (∀ θ M' H2, X.N = names θ → Has H2 M' → k θ M' → wipe (vals θ) [i, j] = wipe (vals η) [i, j] → Qk (vals θ) H2) →
      gTup K 2 (gCons (gName i) (gCons (gName j) gNil)) v (wipe (vals η) [i, j]) H' Qk := fun v M H' k Qk hM ⟨p, a, b, ev, m, q⟩ hk => by
  have nf : ∀ v, X.N = names (f v) := fun v => by
    obtain ⟨_, _, h2⟩ := P.idx
    rw [(h2 v).2]
    exact nη
  have e1 : vals (f a) = (vals η).set i (some a) := (P.at hN nη hi a).1
  have e2 : vals (g a b) = (vals (f a)).set j (some b) := ((R a).at hN (nf a) hj b).1
  have nθ : X.N = names (g a b) := (nf a).trans ((R a).at hN (nf a) hj b).2.symm
  have e3 : vals (g a b) = ((vals η).set i (some a)).set j (some b) := by rw [e2, e1]
  refine ⟨p, [a, b], ev, sqt hM m, rfl, a, [b], rfl, b, [], rfl, rfl, ?_⟩
  have z := hk (g a b) M H' nθ hM q (by rw [e3]; exact (wipe_two ne).2)
  rw [e3] at z
  show Qk (((wipe (vals η) [i, j]).set i (some a)).set j (some b)) H'
  rw [(wipe_two ne).1]
  exact z
theorem pg_pair {i j : Nat} {kt : Nat} {pt : Pos} (hc : X.calm = true) (hN : X.N.Nodup) (hi : X.N[i]? = some x) (hj : X.N[j]? = some y) (hlx : LocB X scope x) (hly : LocB X scope y) :
    ∀ (s : Shared) (H : Hp) (C : Addr) (cl : List (Str × Addr)) (fp : List Addr), PG (blkX X s H scope C cl fp) (.Tuple [.Name x p1, .Name y p2] kt pt) (gTup X.K 2 (gCons (gName i) (gCons (gName j) gNil))) := fun s H C cl fp =>
  pg_tup (X := blkX X s H scope C cl fp) (n := 2) hc (pgs_cons (pg_name hN hi (hlx s H C cl fp).1 (hlx s H C cl fp).2) (pgs_cons (pg_name hN hj (hly s H C cl fp).1 (hly s H C cl fp).2) pgs_nil)) rfl rfl
/-- [elt for x, y in iter if ..], as a value -/
theorem ge_lc2 {g : V → V → En} {kt : Nat} {pt : Pos} (P : PutF x η f) (R : ∀ v, PutF y (f v) (g v)) (h : GI X (.Tuple [.Name x p1, .Name y p2] kt pt) iter η L fun S L1 => ∀ D, ∃ Pv, LcS X scope ifs elt S D L1 (fun v M k => ∃ p a b, v = .ref p ∧ (p, HO.tup [a, b]) ∈ M ∧ k (g a b) M) Pv Q)
    (hxy : x ≠ y) (hb : blkC X.N X.env.scope scope [(x, X.N.idxOf x), (y, X.N.idxOf y)] = true) (hlx : LocB X scope x := by exact fun _ _ _ _ _ => ⟨.inl rfl, .inr rfl⟩) (hly : LocB X scope y := by exact fun _ _ _ _ _ => ⟨.inl rfl, .inr rfl⟩)
    (hN : X.N.Nodup := by assumption) (hc : X.calm = true := by rfl) (hs : ∀ z, foldedSetIterable iter X.env z = pure z := by intro _; rfl) : GE X (.ListComp elt [⟨.Tuple [.Name x p1, .Name y p2] kt pt, iter, ifs, 0⟩] scope pos) η L Q := fun nη H hH => by
  obtain ⟨i, h1, h2⟩ := P.idx
  have hi : X.N[i]? = some x := by rw [nη]; exact h1
  obtain ⟨j, k1, _⟩ := (R .non).idx
  have hj : X.N[j]? = some y := by
    rw [(h2 .non).2] at k1
    rw [nη]
    exact k1
  have ne : i ≠ j := fun z => hxy (by rw [z, hj] at hi; exact (Option.some.inj hi).symm)
  exact WE.of (pe_lc (own := [(x, i), (y, j)]) hc hN pi_W (blkOk_by (by rw [idxEq hN hi, idxEq hN hj] at hb; exact hb)) (pg_pair hc hN hi hj hlx hly) pts_ttB pe_teB hs)
    (lc_core' (Qh := up Q) nη hH (fun D M H' hM q => ⟨M, hM, q⟩) (st_two P R hi hj ne hN nη) h)
end
end G
set_option Elab.async false
set_option linter.all false
set_option maxRecDepth 100000
set_option maxHeartbeats 4000000
namespace G
open PySem PySem.Spec PyProof.Rows L2
open PySem.W in
/-- what an own error class says of its instances -/
structure ErV (K : Frag) (D : Addr) : Prop where
  ga : findIn K (.ref D) "__getattribute__" = some (some (.builtin "BaseException.__getattribute__"))
  gt : findIn K (.ref D) "__getattr__" = some none
  ex : subIn K (.ref D) (.type "BaseException") = some true
  hd : hasDictIn K D = true
  cl : findIn K (.ref D) "__class__" = some (some (.builtin "object.__class__"))
  sp : specialIn K (.builtin "object.__class__") "__get__" = some (some (.builtin "getset_descriptor.__get__"))
  tk : takesIn K (.builtin "object.__class__") = some true
  mo : mroIn K D (.type "object") = some true
section
open PySem.W
variable {prog : Program} {w : World} {A : Around} {E : Value → Shared → Prop} {s : Shared} {K : Frag} {x D : Addr} {ox : Obj} {od : Option Obj}
theorem ErV.find (T : ErV K D) : findObj K D od "__class__" = some (.bind (.builtin "getset_descriptor.__get__") (.builtin "object.__class__")) := by
  obtain ⟨cd, hc, _⟩ := any_some T.hd
  unfold findObj
  rw [hc, Option.bind_some, T.cl, Option.bind_some]
  simp [T.sp, T.tk]
/-- its __class__ -/
theorem ErV.cls (T : ErV K D) {Q : Option Value → Shared → Prop} (X : K.In s.heap) (I : InstAt s.heap x ox D od) (h : Q (some (.ref D)) { s with toks := s.toks + 1 }) : wpAny (model prog w) A (getAttr? (.ref x) "__class__") Q E s := by
  obtain ⟨hh, gg, dd, tt, oo⟩ := s
  have ty := I.type (M := model prog w)
  have lga := looks_findIn (M := model prog w) X T.ga
  have lgt := looks_findIn (M := model prog w) X T.gt
  have lfi := looks_find (M := model prog w) X I T.find
  have isb : Looks (model prog w) hh (isInstance (.ref x) (.type "BaseException")) true := ty.andThen (looks_subIn X T.ex)
  have no : (Value.builtin "BaseException.__getattribute__" == Value.builtin "object.__getattribute__") = false := by decide +kernel
  have no2 : (onTheHeap (Value.ref D) && Value.builtin "BaseException.__getattribute__" == Value.builtin "object.__getattribute__") = false := by
    rw [no]
    rfl
  have no3 : (false && onTheHeap (Value.builtin "BaseException.__getattribute__")) = false := rfl
  unfold getAttr? getAttrBy? getAttrBy
  refine wpAny_bind (wpAny_mkText (wpAny_bind (wpAny_attempt (wpAny_holding (wpAny_bind (ty.at (wpAny_bind (lga.at ?_))))))))
  show wpAny _ _ (if (onTheHeap (Value.ref D) && Value.builtin "BaseException.__getattribute__" == Value.builtin "object.__getattribute__") = true then _ else _) _ _ _
  rw [no2, if_neg Bool.false_ne_true]
  unfold getAttrByItsOwn hookBefore
  refine wpAny_bind ?_
  rw [if_pos (show onTheHeap (Value.ref D) = true from rfl)]
  refine lgt.at (wpAny_bind (wpAny_attempt (wpAny_holding ?_)))
  unfold callGetattribute
  rw [no3, if_neg Bool.false_ne_true]
  unfold boundAndCalled
  rw [PySem.F.excAttr_ValueError.ga.bind (.ref x)]
  refine wpAny_bind (wpAny_pure ?_)
  show wpAny _ _ (call (.builtin "BaseException.__getattribute__") [.ref x, .str "__class__" tt]) _ _ _
  refine wpAny_call (codeAny_call_builtin PySem.F.excAttr_ValueError.ga.plain PySem.F.entry_bexc_ga (@check_slot (model prog w) _ _ ⟨hh, gg, dd, tt + 1, oo⟩ "BaseException.__getattribute__" "BaseException" "__getattribute__" (.ref x) [.str "__class__" tt] [] _ (by decide +kernel) (by decide +kernel) isb (PySem.F.args_bexc_ga (.ref x) (.str "__class__" tt)) ?_))
  unfold Builtin.«object.__getattribute__»
  refine wpAny_bind (wpAny_of_eq (a := ((Value.ref x : Value), [Value.str "__class__" tt])) (by first | rfl | (simp only [slotArgs]; rfl)) (wpAny_bind (wpAny_pure (wpAny_bind (ty.at (wpAny_bind (lfi.at ?_)))))))
  show wpAny _ _ (holding [Value.builtin "object.__class__"] (call (.builtin "getset_descriptor.__get__") [.builtin "object.__class__", .ref x, .ref D]) >>= ret) _ _ _
  refine wpAny_bind (wpAny_holding (wpAny_call (class_get (s := ⟨hh, gg, dd, tt + 1, oo⟩) (ox := ox) (od := od) X I T.mo (wpAny_pure ?_))))
  show wpAny _ _ (handedOut (.ref D)) _ _ _
  rw [handedOut_of (v := .ref D) rfl]
  first
    | exact wpAny_pure (wpAny_pure h)
    | exact wpAny_pure h
    | exact wpAny_pure (wpAny_bind (wpAny_pure (wpAny_pure h)))
theorem ErV.kit (T : ErV K D) : KitX K (.ref x) (.ref D) (fun h => ∃ ox od, InstAt h x ox D od) where
  ty := fun _ _ _ ⟨_, _, I⟩ => I.type
  it := fun _ _ X _ => by
    obtain ⟨cd, hc, _⟩ := any_some T.hd
    unfold clsIn at hc
    split at hc
    · rename_i e
      exact fun A' Q' E' s' k q => by
        unfold isType loadHead
        exact wpAny_bind (wpAny_loadPart (k _ _ (X _ _ e)) (wpAny_pure q))
    · cases hc
  ne := fun h tp dd its n sl X htp => by
    obtain ⟨cd, hc, _⟩ := any_some T.hd
    refine Bool.eq_false_iff.mpr fun q => ?_
    obtain rfl : D = tp := Value.ref.inj (beq_iff_eq.mp q)
    unfold clsIn at hc
    split at hc
    · rename_i e
      cases (X _ _ e).symm.trans htp
    · cases hc
  ca := fun X ⟨_, _, I⟩ k => T.cls X I k
end
section
variable {X : Cx} {η : En} {L : Lg} {Q : QV} {a C D : Addr} {d : Option Addr} {c : V} {e : Expr} {pos : Pos} {n : Str}
theorem exc_instD {P : Program} {w : World} {H : Hp} {h : Heap} {dd : Addr} {fs : List (Str × V)} (hok : HOk P w H h) (e : H a = some (excH a (.ref C) (some dd))) (ed : H dd = some (.xd fs)) :
    ∃ (oe od : Obj) (mA : Str → Option Value), PySem.W.InstAt h a oe C (some od) ∧ (∀ name, PySem.W.lookIn name od = some (mA name)) ∧ ∀ f, RelO (fs.lookup f) (mA f) := by
  obtain ⟨oe, vs, h1, h2, h3⟩ := excH_at hok e
  obtain ⟨mA, hns, hr⟩ := (show ObjOk P w H h dd (.xd fs) from hok dd _ ed)
  obtain ⟨od, ho, hl⟩ := lookIn_ns hns
  exact ⟨oe, od, mA, ⟨h1, h2.1, by unfold PySem.W.notCls; rw [h3] <;> rfl, by rw [h2.2]; exact ho⟩, hl, hr⟩
/-- isinstance of an error -/
theorem gc_isE {cv : Value} {b : Bool} {dd : Addr} {fs : List (Str × V)} (T : ErV X.K C) (m : (a, excH a (.ref C) (some dd)) ∈ L) (md : (dd, HO.xd fs) ∈ L) (kc : ClsV c cv) (k : PySem.W.kitOne X.K (.ref C) cv = some b) (q : Q (.bl b) L) : GC X (.builtin "isinstance") [.ref a, c] L Q := fun pins s σ H us hH I r => by
  cases r with
  | cons rx rr =>
    cases rr with
    | cons rt rr =>
      cases rr
      obtain rfl : _ = Value.ref a := rx
      have ec := kc.eq rt
      subst ec
      obtain ⟨oe, od, mA, J, _⟩ := exc_instD I.hok (hH.get m) (hH.get md)
      exact PySem.W.kia_one T.kit I.kIn ⟨_, _, J⟩ k (fun z => nomatch z) fun tk => ⟨.bl b, H, I.kept (t' := tk) fun _ _ z => z, rfl, L, hH, q⟩
/-- a field of an error -/
def GAt (X : Cx) (n : Str) (x : V) (L : Lg) (Q : QV) : Prop := ∀ pins s σ H u (ex : Bool), Has H L → Inv X pins σ H s → RelV x u → wpAny (model X.prog X.w) X.A (getAttr u n ex) (EP X pins σ (up Q)) X.xe s
theorem gat_exc {dd : Addr} {fs : List (Str × V)} {v : V} (T : ErV X.K C) (hno : PySem.W.findIn X.K (.ref C) n = some none) (m : (a, excH a (.ref C) (some dd)) ∈ L) (md : (dd, HO.xd fs) ∈ L) (l : fs.lookup n = some v) (q : Q v L) : GAt X n (.ref a) L Q := fun pins s σ H u ex hH I r => by
  obtain rfl : u = Value.ref a := r
  obtain ⟨oe, od, mA, J, hl, hr⟩ := exc_instD I.hok (hH.get m) (hH.get md)
  obtain ⟨u, hu, ru⟩ := RelO.some_of (v := v) (o := mA n) (by rw [← l]; exact hr n)
  exact HandSPX.exc_get I.kIn J T.ga T.gt T.ex (PySem.W.findObj_own T.hd hno rfl (by rw [hl, hu])) (handed_of ru) ⟨v, H, I.tok _, ru, L, hH, q⟩
theorem ge_attr (h : GE X e η L fun x L1 => GAt X n x L1 Q) (hb : attributeBase e n X.env (eval e X.env) = eval e X.env := by rfl) : GE X (.Attribute e n pos) η L Q := fun hN H hH pins s I =>
  attr_of hb (thn (h hN H hH pins s I) fun u s1 ⟨x, H1, I1, r1, L1, k1, q1⟩ => q1 pins s1 _ H1 u _ k1 I1 r1)
end
end G
set_option Elab.async false
set_option linter.all false
set_option maxRecDepth 100000
set_option maxHeartbeats 4000000
namespace G
open PySem PySem.Spec PyProof.Rows L2
/-- v is the value d, as repr reads it -/
def Rd (L : Lg) (v : V) (d : PyData) : Prop := ∀ (X : Cx) (pins : List (Addr × Obj)) (σ : L2.St) (H : Hp) (s : Shared) (u : Value), Has H L → Inv X pins σ H s → RelV v u → ∃ as, Reads s.heap u d as ∧ (d.hasDict = true → sysModules ∉ as)
section
variable {L : Lg} {v : V} {d : PyData} {p : Addr} {x : Str} {i : Int}
theorem rd_dl (h : Dl L v d) (n : d.hasDict = false) : Rd L v d := fun X pins σ H s u hH I r => by
  obtain ⟨as, q⟩ := Dp.reads I d v u (h X.K H hH) r
  exact ⟨as, q, PyData.noDict_hsm n⟩
theorem rd_non : Rd L .non .none := rd_dl dl_non (by simp only [PyData.hasDict])
theorem rd_bl {b : Bool} : Rd L (.bl b) (.bool b) := rd_dl dl_bl (by simp only [PyData.hasDict])
theorem rd_str : Rd L (.str x) (.str x) := rd_dl dl_str (by simp only [PyData.hasDict])
theorem rd_ints {ns : List Int} (m : (p, HO.lst (ns.map V.int)) ∈ L) : Rd L (.ref p) (.list (ns.map PyData.int)) := rd_dl (dl_lst m dls_ints) (by
  have key : ∀ l : List Int, PyData.hasDictAll (l.map PyData.int) = false := fun l => by
    induction l with
    | nil => rfl
    | cons a l ih =>
      rw [List.map_cons, PyData.hasDictAll, PyData.hasDict, Bool.false_or]
      exact ih
  rw [PyData.hasDict]
  exact key ns)
theorem rd_dict0 (m : (p, HO.dK []) ∈ L) : Rd L (.ref p) (.dict []) := fun X pins σ H s u hH I r => by
  obtain rfl : u = Value.ref p := r
  obtain ⟨_, ne, vs, kv, o, es, ep, h1, h2, h3, _, h4, _⟩ := dk_of I.hok (hH.get m)
  cases kv
  have e0 : es.toList = [] := by
    generalize es.toList = l at h4
    cases h4
    rfl
  refine ⟨p :: [] ++ [], Reads.dict h1 h2.1 h3 (by rw [e0]; exact ReadsAll.nil) (by rw [e0]; exact ReadsAll.nil), fun _ z => ?_⟩
  have z' : sysModules = p := by simpa using z
  rw [← z'] at ne
  exact absurd ne (by decide)
end
section
variable {X : Cx} {L : Lg} {Q : QV} {v : V} {d : PyData} {k : Nat}
theorem gc_repr (hr : RoomG k X.A) (r : Rd L v d) (s : d.showable = true) (dp : d.depth ≤ 60) (sz : d.shown.length ≤ sizeLine) (q : Q (.str d.shown) L) : GC X (.builtin "repr") [v] L Q := fun pins s' σ H us hH I rv => by
  cases rv with
  | cons ru rr =>
    cases rr
    obtain ⟨as, rd, ns⟩ := r X pins σ H s' _ hH I ru
    have fin : ∀ tk, EP X pins σ (up Q) (.str d.shown tk) { s' with toks := s'.toks + 1 } := fun tk => ⟨.str d.shown, H, I.tok _, ⟨tk, rfl⟩, L, hH, q⟩
    have hu : X.A.units + (d.depth + 1) < cLine := by
      have := hr.toRoom.un
      omega
    cases rd with
    | none =>
      rw [PyData.shown] at fin
      exact P.repr_of_none (fin _)
    | bool b =>
      rw [PyData.shown] at fin
      exact P.repr_of_bool (fin _)
    | int i t =>
      rw [PyData.shown] at fin
      rw [PyData.showable] at s
      exact P.repr_of_int (of_decide_eq_true s) (fin _)
    | str x t =>
      rw [PyData.shown] at fin sz
      exact P.repr_of_str (fin _) sz
    | list h1 h2 h3 h4 => exact repr_of_reads' (.list h1 h2 h3 h4) s ns hr.gd hu (fun _ _ e => e) (fun h' u tk kp => ⟨.str _, H, I.kept (t' := tk) kp, ⟨u, rfl⟩, L, hH, q⟩) sz
    | tuple h1 h2 h3 h4 => exact repr_of_reads' (.tuple h1 h2 h3 h4) s ns hr.gd hu (fun _ _ e => e) (fun h' u tk kp => ⟨.str _, H, I.kept (t' := tk) kp, ⟨u, rfl⟩, L, hH, q⟩) sz
    | dict h1 h2 h3 h4 h5 => exact repr_of_reads' (.dict h1 h2 h3 h4 h5) s ns hr.gd hu (fun _ _ e => e) (fun h' u tk kp => ⟨.str _, H, I.kept (t' := tk) kp, ⟨u, rfl⟩, L, hH, q⟩) sz
end
end G
set_option Elab.async false
set_option linter.all false
set_option maxRecDepth 100000
set_option maxHeartbeats 4000000
namespace G
open PySem PySem.Spec PyProof.Rows L2
theorem among_left {pos : Pos} {cv : Value} (l r : List Value) (h : LamX.TabS = LamX.TabS) (t : TriplesOk l) (e : codeAmong pos l = some cv) : codeAmong pos (l ++ r) = some cv := by
  fun_induction TriplesOk l with
  | case1 => simp [codeAmong] at e
  | case2 a t0 b u x rest ih =>
    simp only [List.cons_append, codeAmong] at e ⊢
    split at e
    · rename_i q
      rw [if_pos q]
      exact e
    · rename_i q
      rw [if_neg q]
      exact ih t e
  | case3 l h1 h2 => exact t.elim
section
variable {X : Cx} {pins : List (Addr × Obj)} {σ : L2.St} {H : Hp} {s : Shared}
/-- a lambda is made; what stands in the table from now on -/
theorem lam_made {c P : Addr} {params : Arguments} {body : Expr} {scope : Scope} {pos : Pos} {E : Value → Shared → Prop} {Q : Value → Shared → Prop} (I : Inv X pins σ H s) (TB : LamX.TabB X.base X.mg c P) (hcode : X.env.code = .ref c)
    (hT : LamX.TabS H P (X.env.qual ++ "<lambda>")) (hdef : defaultsOf params X.env = ([], [])) (hfree : ∀ y ∈ scope.names, y.2 = .free → ∃ c, X.env.cells.lookup y.1 = some c)
    (h : ∀ (f c' : Addr) (pm ctv : Value) (H1 : Hp) (s' : Shared) (ps : Array Value), Inv X pins σ H1 s' → (∀ b o, b ≠ P → H b = some o → H1 b = some o) → H1 P = some (.tbl ps) → TriplesOk ps.toList → codeAmong pos ps.toList = some (.ref c') → LamX.TabS H1 P (X.env.qual ++ "<lambda>") →
      s'.heap.get? f = some (PySem.W.kla_obj "<lambda>" (X.env.qual ++ "<lambda>") params body scope (cloFrom X.env.cells scope.names []) pm c' ctv) → H1 f = none → f ∉ frs X.stack → Q (.ref f) s') :
    wpAny (model X.prog X.w) X.A (eval (.Lambda params body scope pos) X.env) Q E s := by
  obtain ⟨ps, hP, ht, ha⟩ := hT
  have bP : s.heap.BuiltinsAt X.mg P := TB.bm.keeps I.bk
  have hP' : s.heap.get? P = some { cls := .none, data := .fields ps } := I.hok P _ hP
  have nofr : ∀ f, s.heap.objs.size ≤ f → f ∉ frs X.stack := fun f hf z => by
    rcases List.mem_cons.mp (I.stkSub _ z) with e | e
    · have h1 := I.lt
      rw [← e] at h1
      exact Nat.lt_irrefl _ (Nat.lt_of_lt_of_le h1 hf)
    · exact I.nofs hf e
  refine PySem.W.kla_eval hdef ?_
  cases hc : codeAmong pos ps.toList with
  | some cv =>
    obtain ⟨c', e, hco⟩ := ha pos cv hc
    subst e
    exact PySem.W.kla_makeFunctionHit (mg := X.mg) (c := c) (P := P) (ps := ps) (closure_ok hfree) I.ok.glob (I.mod.glob.keeps I.bk) hcode (TB.code.keeps I.bk) hP' ht hc bP fun ctv h' tk hx hsz =>
      h h'.objs.size c' _ ctv H _ ps (I.kept (t' := tk) fun b o e => Heap.get?_push_of_some _ (hx b o e)) (fun _ _ _ e => e) hP ht hc ⟨ps, hP, ht, ha⟩ (Heap.get?_push_size _ rfl) (I.hok.fresh hsz) (nofr _ hsz)
  | none =>
    refine PySem.W.kla_makeFunction (mg := X.mg) (c := c) (P := P) (ps := ps) (closure_ok hfree) I.ok.glob (I.mod.glob.keeps I.bk) hcode (TB.code.keeps I.bk) hP' ht hc TB.gP bP fun c' ctv h' tk hx hge hlt hrec htb => ?_
    obtain ⟨c2, oc, vs, t, e2, hoc, hd, hv⟩ := hrec
    cases e2
    have hsz : s.heap.objs.size ≤ h'.objs.size := Nat.le_trans hge (Nat.le_of_lt hlt)
    have nC : H c' = none := I.hok.fresh hge
    have I1 := LamX.inv_table (t' := tk) (more := #[rawInt pos.line, rawInt pos.col, .ref c']) (h' := h'.push (PySem.W.kla_obj "<lambda>" (X.env.qual ++ "<lambda>") params body scope (cloFrom X.env.cells scope.names []) ((X.mg "__name__").getD .none) c' ctv)) I hP
      (fun b o hb e => Heap.get?_push_of_some _ (hx b o hb e)) (Heap.get?_push_of_some _ htb) hge ⟨oc, vs, t, Heap.get?_push_of_some _ hoc, hd, hv⟩
    have grow : ∀ b o, b ≠ P → H b = some o → upd (upd H P (.tbl (ps ++ #[rawInt pos.line, rawInt pos.col, .ref c']))) c' (LamX.CodeO c' (X.env.qual ++ "<lambda>")) b = some o := fun b o n e => by
      rw [upd_ne (ne_of_none e nC), upd_ne n]
      exact e
    have eL : (ps ++ #[rawInt pos.line, rawInt pos.col, .ref c']).toList = ps.toList ++ [rawInt pos.line, rawInt pos.col, .ref c'] := by simp
    have hP1 : upd (upd H P (.tbl (ps ++ #[rawInt pos.line, rawInt pos.col, .ref c']))) c' (LamX.CodeO c' (X.env.qual ++ "<lambda>")) P = some (.tbl (ps ++ #[rawInt pos.line, rawInt pos.col, .ref c'])) := by rw [upd_ne (ne_of_none hP nC), upd_same]
    have ht1 : TriplesOk (ps ++ #[rawInt pos.line, rawInt pos.col, .ref c']).toList := by
      rw [eL]
      exact PySem.TriplesOk_snoc _ _ _ _ ht
    refine h h'.objs.size c' _ ctv _ _ _ I1 grow hP1 ht1 (by rw [eL]; exact codeAmong_snoc _ ht hc) ⟨_, hP1, ht1, fun p' cv hcv => ?_⟩ (Heap.get?_push_size _ rfl) ?_ (nofr _ hsz)
    · rw [eL] at hcv
      rcases LamX.among_app _ ht hcv with z | z
      · obtain ⟨c0, e1, e2⟩ := ha p' cv z
        exact ⟨c0, e1, grow _ _ (fun z => LamX.codeO_ne ps (Option.some.inj (e2.symm.trans (z ▸ hP)))) e2⟩
      · exact ⟨c', z, upd_same⟩
    · have n1 : h'.objs.size ≠ c' := Nat.ne_of_gt hlt
      have n2 : h'.objs.size ≠ P := Nat.ne_of_gt (Nat.lt_of_lt_of_le (Heap.lt_size hP') hsz)
      rw [upd_ne n1, upd_ne n2]
      exact I.hok.fresh hsz
/-- the ledger behind the making -/
theorem has_made {L : Lg} {P : Addr} {q : Str} {H1 : Hp} (hH : Has H L) (m : (P, tabM q) ∈ L) (g : ∀ b o, b ≠ P → H b = some o → H1 b = some o) (t : LamX.TabS H1 P q) : Has H1 L := by
  refine ⟨hH.1, fun e he => ?_⟩
  obtain ⟨ps, hP, _⟩ := holds_tab (hH.2 _ m)
  by_cases z : e.1 = P
  · have ee : e = (P, tabM q) := by
      have key : ∀ (M : Lg), (M.map (·.1)).Nodup → e ∈ M → (P, tabM q) ∈ M → e = (P, tabM q) := fun M nd h1 h2 => by
        induction M with
        | nil => cases h1
        | cons a M ih =>
          rw [List.map_cons] at nd
          obtain ⟨n1, n2⟩ := List.nodup_cons.mp nd
          rcases List.mem_cons.mp h1 with r1 | r1
          · rcases List.mem_cons.mp h2 with r2 | r2
            · rw [r1, r2]
            · exact absurd (List.mem_map.mpr ⟨_, r2, by rw [← r1]; exact z.symm⟩) n1
          · rcases List.mem_cons.mp h2 with r2 | r2
            · exact absurd (List.mem_map.mpr ⟨_, r1, by rw [← r2]; exact z⟩) n1
            · exact ih n2 r1 r2
      exact key L hH.1 he m
    rw [ee]
    exact holds_tab' t
  · have h1 := hH.2 e he
    obtain ⟨a, o⟩ := e
    cases o with
    | tbl m =>
      obtain ⟨r, em, ps2, e1, t2, t3⟩ := h1
      refine ⟨r, em, ps2, g _ _ z e1, t2, fun pos cv hc => ?_⟩
      obtain ⟨c0, e2, e3⟩ := t3 pos cv hc
      exact ⟨c0, e2, g _ _ (fun y => LamX.codeO_ne ps (Option.some.inj (e3.symm.trans (y ▸ hP)))) e3⟩
    | _ => exact g _ _ z h1
end
/-- the body of a lambda, wherever it is called with the names η of the def that made it -/
def LamOk (X : Cx) (scope : Scope) (body : Expr) (η : En) (k : Nat) (L : Lg) (A : QV) (E : XL) : Prop :=
  ∀ (A0 : Around) (outer : List Env) (s : Shared) (H : Hp) (Ex : XK) (f c' : Addr), RoomG k (LamX.lamCx X A0 outer s H Ex scope f c').A → Tk (LamX.lamCx X A0 outer s H Ex scope f c') (fun c d _ L' => E c d L') → GE (LamX.lamCx X A0 outer s H Ex scope f c') body η L A
/-- what a def's body may use of the lambda that it got as its parameter a: it may call it in a try where the ledger is L -/
def Act (Z : Cx) (a : Str) (f : Addr) (L : Lg) (A : QV) (E : XL) : Prop :=
  ∀ (pn : List (Addr × Obj)) (xe : Value → Shared → Prop) (W : XW) (θ : En) (p1 p2 : Pos), Tk (trX Z pn xe) W → (∀ c d L', E c d L' → W c d θ L') → At a (.ref f) θ → GE (trX Z pn xe) (.Call (.Name a p1) [] [] p2) θ L A
end G
set_option Elab.async false
set_option linter.all false
set_option maxRecDepth 100000
set_option maxHeartbeats 4000000
namespace G
open PySem PySem.Spec PyProof.Rows L2 NdefX
def clsBody : Stmt → List Stmt
  | .ClassDef _ _ _ b _ _ _ _ _ _ _ => b
  | _ => []
def clsAt (c : Stmt) (j : Nat) : Stmt := (clsBody c).getD j (.Pass ⟨0, 0, 0, 0⟩)
/-- an own error class, as its user wants it -/
structure ErrT (P : Program) (w : World) (K : PySem.W.Frag) (mg : Str → Option Value) (base : Heap) (x : Str) (C : Addr) (ns : List Str) : Prop where
  gC : mg x = some (.ref C)
  ck : ErrC P w K mg base x C ns
  ev : ErV K C
  no : ∀ n ∈ ns, PySem.W.findIn K (.ref C) n = some none
section
variable {P : Program} {w : World} {K : PySem.W.Frag} {mg : Str → Option Value} {base : Heap} {x q : Str} {st : Stmt} {C fI c cc : Addr} {n m : Str}
variable {nm qn : Str} {N : Addr} {bs bm : List Value} {sn : List Str} {sub : List Value} {ab : Bool} {col : Option Bool} {dd : Option Addr} {k0 k1 k2 k3 k5 : Option Value} {oc kV doc pm ct cl ccl : Value} {od an cld cdd : Option Addr} {osl csl ccs : Array (Option Value)} {vs : Array Value} {fl : Str} {tf : Tok} {cd : ClassData}
/-- what the written part says of an own error class with its own __init__ over ValueError's -/
structure ErrFacts (P : Program) (K : PySem.W.Frag) (x q : Str) (st : Stmt) (C fI c cc : Addr) (nm qn : Str) (N : Addr) (bs bm : List Value) (sn : List Str) (sub : List Value) (ab : Bool) (col : Option Bool) (dd : Option Addr) (k0 k1 k2 k3 k5 : Option Value) (oc kV doc pm ct cl ccl : Value) (od an cld cdd : Option Addr) (osl csl ccs : Array (Option Value)) (vs : Array Value) (fl : Str) (tf : Tok) (cd : ClassData) : Prop where
  a1 : PySem.W.nsIn K mainGlobals x = some (some (.ref C))
  a2 : K.lookup C = some (excClassObj nm qn C N bs bm true sn sub ab col dd k0 k1 k2 k3 k5 "ValueError.__new__")
  a3 : PySem.HandSPX.refsVE bm = true
  a4 : PySem.W.findIn K (.ref C) "__setattr__" = some (some (.builtin "object.__setattr__"))
  a5 : PySem.W.subIn K (.ref C) (.type "BaseException") = some true
  a6 : PySem.W.typeIn K (.ref C) = some (.type "type")
  a7 : PySem.W.keepIn K (.ref C) = true
  a8 : PySem.W.findIn K (.ref C) "__init__" = some (some (.ref fI))
  a9 : PySem.W.typeIn K (.ref fI) = some (.type "function")
  b1 : PySem.W.ks_superIn K C C "__init__" = some (some (.builtin "ValueError.__init__"))
  b2 : PySem.W.mroIn K C (.ref C) = some true
  b3 : PySem.W.subIn K (.ref C) (.type "ValueError") = some true
  b4 : K.lookup fI = some ⟨oc, od, .func (PySem.W.fnX "__init__" q (defArgs st) (defBody st) (defScope st) [("__class__", cc)] .none kV doc pm an (.ref c) ct), osl⟩
  b5 : PySem.W.codeIn K (.ref c) q = true
  b6 : K.lookup cc = some ⟨cl, cld, .cell (some (.ref C)), csl⟩
  b7 : K.lookup c = some ⟨ccl, cdd, .fields vs, ccs⟩
  b8 : vs[2]? = some (.str fl tf)
  b9 : (P.main.file == fl) = true
  c1 : PySem.W.clsIn K C = some cd
  c2 : PySem.W.findIn K (.ref C) "__getattribute__" = some (some (.builtin "BaseException.__getattribute__"))
  c3 : PySem.W.findIn K (.ref C) "__getattr__" = some none
  c4 : PySem.W.hasDictIn K C = true
  c5 : PySem.W.findIn K (.ref C) "__class__" = some (some (.builtin "object.__class__"))
  c6 : PySem.W.mroIn K C (.type "object") = some true
section
variable (F : ErrFacts P K x q st C fI c cc nm qn N bs bm sn sub ab col dd k0 k1 k2 k3 k5 oc kV doc pm ct cl ccl od an cld cdd osl csl ccs vs fl tf cd)
include F
theorem ErrFacts.sup (top : (P.main.scope.names.lookup ("super" : Str)).isSome = false) : SupF P K "__init__" q st fI c cc C (PySem.W.fnX "__init__" q (defArgs st) (defBody st) (defScope st) [("__class__", cc)] .none kV doc pm an (.ref c) ct) :=
  ⟨⟨oc, od, kV, doc, pm, ct, an, osl, rfl, F.b4⟩, F.b5, ⟨cl, cld, csl, F.b6⟩, ⟨ccl, cdd, vs, ccs, fl, tf, F.b7, F.b8, F.b9⟩, ⟨cd, F.c1⟩, top⟩
theorem ErrFacts.errK {ns : List Str} {h : Heap} (X : K.In h) (G : h.Ns mainGlobals mg) (op : PySem.W.nsIn K cStatics "thirdparty.any" = some none) (su : mg "super" = none) (no : ∀ n ∈ ns, PySem.W.findIn K (.ref C) n = some none) : ErrK K mg x C fI ns :=
  ⟨PySem.W.mg_of X G F.a1, ⟨⟨_, _, _, _, _, _, _, _, _, _, _, _, _, _, _, F.a2, F.a3⟩, F.a4, F.a5, F.a6, F.a7⟩, F.a8, F.a9, no, F.b1, F.b2, F.b3, op, su⟩
theorem ErrFacts.errV (sp : PySem.W.specialIn K (.builtin "object.__class__") "__get__" = some (some (.builtin "getset_descriptor.__get__"))) (tk : PySem.W.takesIn K (.builtin "object.__class__") = some true) : ErV K C := ⟨F.c2, F.c3, F.a5, F.c4, F.c5, sp, tk, F.c6⟩
end
/-- the top's own words, needed for every error class -/
structure ErrAll (P : Program) (K : PySem.W.Frag) (mg : Str → Option Value) : Prop where
  top : (P.main.scope.names.lookup ("super" : Str)).isSome = false
  op : PySem.W.nsIn K cStatics "thirdparty.any" = some none
  su : mg "super" = none
  sp : PySem.W.specialIn K (.builtin "object.__class__") "__get__" = some (some (.builtin "getset_descriptor.__get__"))
  tk : PySem.W.takesIn K (.builtin "object.__class__") = some true
section
variable {p0 p1 p2 p3 p4 p5 p6 q0 q1 q2 q3 r0 r1 r2 r3 : Pos} {pa0 : Arg}
/-- a class of one field: def __init__(self, n): super().__init__(n); self.n = n -/
theorem err_mk1 {h : Heap} (n : Str) (X : K.In h) (G : h.Ns mainGlobals mg) (A : ErrAll P K mg) (F : ErrFacts P K x q st C fI c cc nm qn N bs bm sn sub ab col dd k0 k1 k2 k3 k5 oc kV doc pm ct cl ccl od an cld cdd osl csl ccs vs fl tf cd) (no : PySem.W.findIn K (.ref C) n = some none)
    (S : NScope ["self", n, "__class__"] ["self", n] ["__class__"] (defScope st))
    (eb : defBody st = [.Expr (.Call (.Attribute (.Call (.Name "super" p0) [] [] p1) "__init__" p2) [.Name n p3] [] p4) p5, .Assign [.Attribute (.Name "self" q0) n q1] (.Name n q2) q3])
    (hp : ((defArgs st).posonlyargs ++ (defArgs st).args).head? = some pa0) (h0 : pa0.arg = "self") (hks : (defScope st).names.lookup ("super" : Str) = some .globalImplicit)
    (hint : ∀ L, interactive (envF (nfS "__init__" q st cc c) fI L) = false)
    (hsw1 : ∀ L, swapsWith (.Call (.Attribute (.Call (.Name "super" p0) [] [] p1) "__init__" p2) [.Name n p3] [] p4) none p5.line (envF (nfS "__init__" q st cc c) fI L) = pure false)
    (hev : ∀ L, ∃ pl : Sem Bool, eval (.Call (.Attribute (.Call (.Name "super" p0) [] [] p1) "__init__" p2) [.Name n p3] [] p4) (envF (nfS "__init__" q st cc c) fI L) = (do
      let ov ← attributeBase (.Call (.Name "super" p0) [] [] p1) "__init__" (envF (nfS "__init__" q st cc c) fI L) (eval (.Call (.Name "super" p0) [] [] p1) (envF (nfS "__init__" q st cc c) fI L))
      standAt p2.atName
      let (ff, first) ← holding [ov] (getMethod ov "__init__" pl)
      callWith p4 ff first (backTo p4 (starEach [.Name n p3] (envF (nfS "__init__" q st cc c) fI L))) []))
    (hsw2 : ∀ L, swapsWith (.Name n q2) (some (.Attribute (.Name "self" q0) n q1)) q3.line (envF (nfS "__init__" q st cc c) fI L) = pure false) (hdb : (n == ("__debug__" : Str)) = false) (hcd : (n == ("__classdict__" : Str)) = false)
    (hb : ∀ us : List Value, us.length = 2 → bindArgs (PySem.W.fnX "__init__" q (defArgs st) (defBody st) (defScope st) [("__class__", cc)] .none kV doc pm an (.ref c) ct) ⟨us, []⟩ = pure ((["self", n] : List Str).zip us)) : ErrT P w K mg base x C [n] := by
  have N1 : ∀ m ∈ [n], PySem.W.findIn K (.ref C) m = some none := fun m hm => by
    rw [List.mem_singleton.mp hm]
    exact no
  have EK := F.errK (ns := [n]) X G A.op A.su N1
  exact ⟨EK.gC, ⟨fI, _, EK, err1_ok (F.sup A.top) EK S eb hp h0 hks hint hsw1 hev hsw2 hdb hcd, .all fun us hl => hb us hl⟩, F.errV A.sp A.tk, N1⟩
/-- a class of two fields -/
theorem err_mk2 {h : Heap} (n m : Str) (X : K.In h) (G : h.Ns mainGlobals mg) (A : ErrAll P K mg) (F : ErrFacts P K x q st C fI c cc nm qn N bs bm sn sub ab col dd k0 k1 k2 k3 k5 oc kV doc pm ct cl ccl od an cld cdd osl csl ccs vs fl tf cd) (no : PySem.W.findIn K (.ref C) n = some none) (no2 : PySem.W.findIn K (.ref C) m = some none)
    (S : NScope ["self", n, m, "__class__"] ["self", n, m] ["__class__"] (defScope st))
    (eb : defBody st = [.Expr (.Call (.Attribute (.Call (.Name "super" p0) [] [] p1) "__init__" p2) [.Name n p3, .Name m p6] [] p4) p5, .Assign [.Attribute (.Name "self" q0) n q1] (.Name n q2) q3, .Assign [.Attribute (.Name "self" r0) m r1] (.Name m r2) r3])
    (hp : ((defArgs st).posonlyargs ++ (defArgs st).args).head? = some pa0) (h0 : pa0.arg = "self") (hks : (defScope st).names.lookup ("super" : Str) = some .globalImplicit)
    (hint : ∀ L, interactive (envF (nfS "__init__" q st cc c) fI L) = false)
    (hsw1 : ∀ L, swapsWith (.Call (.Attribute (.Call (.Name "super" p0) [] [] p1) "__init__" p2) [.Name n p3, .Name m p6] [] p4) none p5.line (envF (nfS "__init__" q st cc c) fI L) = pure false)
    (hev : ∀ L, ∃ pl : Sem Bool, eval (.Call (.Attribute (.Call (.Name "super" p0) [] [] p1) "__init__" p2) [.Name n p3, .Name m p6] [] p4) (envF (nfS "__init__" q st cc c) fI L) = (do
      let ov ← attributeBase (.Call (.Name "super" p0) [] [] p1) "__init__" (envF (nfS "__init__" q st cc c) fI L) (eval (.Call (.Name "super" p0) [] [] p1) (envF (nfS "__init__" q st cc c) fI L))
      standAt p2.atName
      let (ff, first) ← holding [ov] (getMethod ov "__init__" pl)
      callWith p4 ff first (backTo p4 (starEach [.Name n p3, .Name m p6] (envF (nfS "__init__" q st cc c) fI L))) []))
    (hsw2 : ∀ L, swapsWith (.Name n q2) (some (.Attribute (.Name "self" q0) n q1)) q3.line (envF (nfS "__init__" q st cc c) fI L) = pure false) (hsw3 : ∀ L, swapsWith (.Name m r2) (some (.Attribute (.Name "self" r0) m r1)) r3.line (envF (nfS "__init__" q st cc c) fI L) = pure false)
    (hdb : (n == ("__debug__" : Str)) = false) (hcd : (n == ("__classdict__" : Str)) = false) (mdb : (m == ("__debug__" : Str)) = false) (mcd : (m == ("__classdict__" : Str)) = false)
    (hb : ∀ us : List Value, us.length = 3 → bindArgs (PySem.W.fnX "__init__" q (defArgs st) (defBody st) (defScope st) [("__class__", cc)] .none kV doc pm an (.ref c) ct) ⟨us, []⟩ = pure ((["self", n, m] : List Str).zip us)) : ErrT P w K mg base x C [n, m] := by
  have N1 : ∀ y ∈ [n, m], PySem.W.findIn K (.ref C) y = some none := fun y hy => by
    rcases List.mem_cons.mp hy with rfl | hy
    · exact no
    · rw [List.mem_singleton.mp hy]
      exact no2
  have EK := F.errK (ns := [n, m]) X G A.op A.su N1
  exact ⟨EK.gC, ⟨fI, _, EK, err2_ok (F.sup A.top) EK S eb hp h0 hks hint hsw1 hev hsw2 hsw3 hdb hcd mdb mcd, .all fun us hl => hb us hl⟩, F.errV A.sp A.tk, N1⟩
end
end
section
variable {X : Cx} {η : En} {L : Lg} {Q : QV} {El : XL} {CX : CXT} {x : Str} {j k : Nat} {sp : SpL} {e : Expr} {es : List Expr} {kws : List Keyword} {pos p : Pos} {W : XW}
/-- the values of keywords, one behind another -/
def GK (X : Cx) (kws : List Keyword) (η : En) (L : Lg) (Q : List V → Lg → Prop) : Prop := match kws with
  | [] => Q [] L
  | k :: r => GE X k.value η L fun v L1 => GK X r η L1 fun vs L2 => Q (v :: vs) L2
theorem gk_nil {Q : List V → Lg → Prop} (q : Q [] L) : GK X [] η L Q := q
theorem gk_cons {k : Keyword} {Q : List V → Lg → Prop} (h : GE X k.value η L fun v L1 => GK X kws η L1 fun vs L2 => Q (v :: vs) L2) : GK X (k :: kws) η L Q := h
theorem GK.run {Q : List V → Lg → Prop} : ∀ {kws : List Keyword} {L : Lg} {Q : List V → Lg → Prop}, GK X kws η L Q → X.N = names η → ∀ (pos : Pos) (pins : List (Addr × Obj)) (s : Shared) (H : Hp), Has H L → Inv X pins (vals η) H s →
    wpAny (model X.prog X.w) X.A (evalAll ((backToKw pos (keywordEach kws X.env)).map (·.2))) (fun us s' => ∃ vs H', Inv X pins (vals η) H' s' ∧ Vals vs us ∧ ∃ L', Has H' L' ∧ Q vs L') X.xe s
  | [], L, Q, h, hN, pos, pins, s, H, hH, I => wpAny_evalAll_nil ⟨[], H, I, .nil, L, hH, h⟩
  | ⟨nm, e, kp⟩ :: r, L, Q, h, hN, pos, pins, s, H, hH, I => by
    show wpAny _ _ (evalAll ((do let v ← eval e X.env; standAt pos; pure v) :: (backToKw pos (keywordEach r X.env)).map (·.2))) _ _ s
    refine wpAny_evalAll_cons (wpAny_bind (thn (h hN H hH pins s I) fun u s1 ⟨x, H1, I1, r1, L1, h1, q1⟩ => wpAny_bind (wpAny_standAt (wpAny_pure ?_))))
    exact thn (GK.run (Q := Q) q1 hN pos pins s1 H1 h1 I1) fun us s2 ⟨xs, H2, I2, r2, L2, h2, q2⟩ => ⟨x :: xs, H2, I2, .cons r1 r2, L2, h2, q2⟩
/-- what is at f, called with values that keep φ -/
def GF (X : Cx) (η : En) (f : Addr) (args : List Value → Args) (φ : List V → Lg → Prop) (Q : QV) : Prop :=
  ∀ (pins : List (Addr × Obj)) (s : Shared) (H : Hp) (us : List Value) (vs : List V) (L : Lg), Has H L → Inv X pins (vals η) H s → Vals vs us → φ vs L → wpAny (model X.prog X.w) X.A (call (.ref f) (args us).pos (args us).kw) (EP X pins (vals η) (up Q)) X.xe s
theorem gf_of {f : Addr} {args : List Value → Args} (F : RunG X.prog X.w X.K X.mg X.base CX k f args (toSp sp)) (hr : RoomG j X.A) (hx : Passes CX X (upX El)) (hjk : k ≤ j := by decide) : GF X η f args (fun vs L => sp vs L Q El) Q := fun _ _ _ _ _ _ hH I r h => run_G F (hr.mono hjk) hx I r (up_sp hH h)
/-- a def by its name, as a value -/
theorem gv_def {f : Addr} (hm : X.mg x = some (.ref f)) (q : Q (.ref f) L) (hg : Gl X x := by rfl) (hd : (x == ("__debug__" : Str)) = false := by decide) : GE X (.Name x pos) η L Q := ge_con (pe_glob (v := .ref f) hg hm rfl hd) q
end
/-- a maker's table, from what the written part holds -/
theorem tab_mk {K : PySem.W.Frag} {x n q : Str} {f c P : Addr} {oc kV doc pm ct e : Value} {od an dd : Option Addr} {osl sl : Array (Option Value)} {vs : Array Value} {a : Arguments} {b : List Stmt} {sc : Scope} (h1 : PySem.W.nsIn K mainGlobals x = some (some (.ref f)))
    (h2 : K.lookup f = some ⟨oc, od, .func (PySem.W.fnOf n q a b sc .none kV doc pm an (.ref c) ct), osl⟩) (h3 : K.lookup c = some ⟨e, dd, .fields vs, sl⟩) (h4 : vs[11]? = some (.ref P)) : PySem.W.tabIn K x = some (c, P) := by
  unfold PySem.W.tabIn
  rw [h1]
  simp only [h2]
  show (match K.lookup c with | some ⟨_, _, .fields vs, _⟩ => (match (vs[11]? : Option Value) with | some (.ref P) => some (c, P) | _ => none) | _ => none) = _
  simp only [h3, h4]
section
variable {X : Cx} {η : En} {L : Lg} {Q : QV} {pos : Pos}
theorem gv_ValueError (B : Bi X.mg) (q : Q (.ty "ValueError") L) (hg : Gl X "ValueError" := by rfl) : GE X (.Name "ValueError" pos) η L Q := ge_tyName B.ValueError bt_ValueError q hg (by decide) (by decide)
theorem gv_LookupError (B : Bi X.mg) (q : Q (.ty "LookupError") L) (hg : Gl X "LookupError" := by rfl) : GE X (.Name "LookupError" pos) η L Q := ge_tyName B.LookupError bt_LookupError q hg (by decide) (by decide)
/-- {} -/
theorem ge_dict0 (h : ∀ p, Q (.ref p) ((p, .dK []) :: L)) : GE X (.Dict [] [] pos) η L Q := fun _ H hH => WE.of pe_dnewK fun p hp => ⟨_, hH.new hp, h p⟩
theorem gb_repr {e : Expr} {p : Pos} {k : Nat} (B : Bi X.mg) (hr : RoomG k X.A) (h : GE X e η L fun v L1 => ∃ d, Rd L1 v d ∧ d.showable = true ∧ d.depth ≤ 60 ∧ d.shown.length ≤ sizeLine ∧ Q (.str d.shown) L1) (hg : Gl X "repr" := by rfl) (hs : starEach [e] X.env = (false, eval e X.env) :: starEach [] X.env := by rfl) :
    GE X (.Call (.Name "repr" p) [e] [] pos) η L Q :=
  ge_B B.repr (by decide +kernel) (ga_cons (h.imp fun v L1 ⟨d, r, s, dp, z, q⟩ => ga_nil (gc_repr hr r s dp z q)) hs) hg (by decide) (by decide) hs rfl
end
end G
set_option Elab.async false
set_option linter.all false
set_option maxRecDepth 100000
set_option maxHeartbeats 4000000
namespace G
open PySem PySem.Spec PyProof.Rows L2
section
variable {X : Cx} {η : En} {L : Lg} {Q : QV} {p q : Addr} {xs ys : List V} {i k : Int}
/-- lists of ints compared -/
theorem go_eqI {j : Nat} {ns ms : List Int} (hr : RoomG j X.A) (m1 : (p, HO.lst (ns.map V.int)) ∈ L) (m2 : (q, HO.lst (ms.map V.int)) ∈ L) (h : Q (.bl (decide (ns = ms))) L) : GOp X (compareOp .Eq) (.ref p) (.ref q) L Q :=
  go_eqD hr.toRoom (dl_lst m1 dls_ints) (dl_lst m2 dls_ints) (shapedL _) (shapedL _) (by rw [eqvL]; exact h)
theorem go_neI {j : Nat} {ns ms : List Int} (hr : RoomG j X.A) (m1 : (p, HO.lst (ns.map V.int)) ∈ L) (m2 : (q, HO.lst (ms.map V.int)) ∈ L) (h : Q (.bl (!decide (ns = ms))) L) : GOp X (compareOp .NotEq) (.ref p) (.ref q) L Q :=
  go_neD hr.toRoom (dl_lst m1 dls_ints) (dl_lst m2 dls_ints) (shapedL _) (shapedL _) (by rw [eqvL]; exact h)
end
/-- a datum that repr shows, within n signs and k levels -/
structure Sh (d : PyData) (n k : Nat) : Prop where
  s : d.showable = true
  dp : d.depth ≤ k
  l : d.shown.length ≤ n
theorem sh_bl {b : Bool} : Sh (.bool b) 5 0 := ⟨by rw [PyData.showable], by rw [PyData.depth]; exact Nat.le_refl _, by rw [PyData.shown]; cases b <;> decide⟩
theorem showAll_of {n k : Nat} : ∀ {xs : List PyData}, (∀ x ∈ xs, Sh x n k) → PyData.showableAll xs = true
  | [], _ => by rw [PyData.showableAll]
  | x :: xs, h => by
    rw [PyData.showableAll, (h x (List.mem_cons_self ..)).s, Bool.true_and]
    exact showAll_of fun y hy => h y (List.mem_cons_of_mem _ hy)
theorem depthAll_of {n k : Nat} : ∀ {xs : List PyData}, (∀ x ∈ xs, Sh x n k) → PyData.depthAll xs ≤ k
  | [], _ => by simp [PyData.depthAll]
  | x :: xs, h => by
    have a := (h x (List.mem_cons_self ..)).dp
    have b := depthAll_of (xs := xs) fun y hy => h y (List.mem_cons_of_mem _ hy)
    simp only [PyData.depthAll]
    omega
theorem lenAll_of {n k : Nat} : ∀ {xs : List PyData}, (∀ x ∈ xs, Sh x n k) → ((PyData.shownAll xs).map (·.length)).sum ≤ n * xs.length ∧ (PyData.shownAll xs).length = xs.length
  | [], _ => by simp [PyData.shownAll]
  | x :: xs, h => by
    have a := (h x (List.mem_cons_self ..)).l
    have b := lenAll_of (xs := xs) fun y hy => h y (List.mem_cons_of_mem _ hy)
    rw [PyData.shownAll]
    simp only [List.map_cons, List.sum_cons, List.length_cons, Nat.mul_succ]
    omega
theorem sh_list {n k m : Nat} {xs : List PyData} (h : ∀ x ∈ xs, Sh x n k) (hm : xs.length ≤ m) : Sh (.list xs) (n * m + 2 * m + 3) (k + 1) := by
  have a := lenAll_of h
  have b := listText_len_le (PyData.shownAll xs)
  have c : n * xs.length ≤ n * m := Nat.mul_le_mul_left _ hm
  refine ⟨by rw [PyData.showable]; exact showAll_of h, by rw [PyData.depth]; exact Nat.succ_le_succ (depthAll_of h), by rw [PyData.shown]; omega⟩
theorem Sh.up {d : PyData} {n k n' k' : Nat} (h : Sh d n k) (a : n ≤ n') (b : k ≤ k') : Sh d n' k' := ⟨h.s, Nat.le_trans h.dp b, Nat.le_trans h.l a⟩
section
variable {X : Cx} {η : En} {L : Lg} {Q : QV} {e : Expr} {p pos : Pos} {k n m : Nat}
/-- repr(e), by the datum's measure -/
theorem gb_reprS (B : Bi X.mg) (hr : RoomG k X.A) (h : GE X e η L fun v L1 => ∃ d n m, Rd L1 v d ∧ Sh d n m ∧ m ≤ 60 ∧ n ≤ sizeLine ∧ Q (.str d.shown) L1) (hg : Gl X "repr" := by rfl) (hs : starEach [e] X.env = (false, eval e X.env) :: starEach [] X.env := by rfl) :
    GE X (.Call (.Name "repr" p) [e] [] pos) η L Q := gb_repr B hr (h.imp fun v L1 ⟨d, n, m, r, s, a, b, q⟩ => ⟨d, r, s.s, Nat.le_trans s.dp a, Nat.le_trans s.l b, q⟩) hg hs
theorem szL (h : n ≤ 16777216) : n ≤ sizeLine := by
  rw [sizeLine_eq]
  exact h
end
theorem range_more {p : Nat → Bool} {g : Nat → V} {i : Nat} : ((List.range (i + 1)).filter p).map g = ((List.range i).filter p).map g ++ (if p i = true then [g i] else []) := by
  rw [List.range_succ, List.filter_append, List.map_append]
  congr 1
  by_cases h : p i = true
  · rw [if_pos h, List.filter_cons_of_pos h]
    rfl
  · rw [if_neg h, List.filter_cons_of_neg h]
    rfl
theorem GTs.sub {X : Cx} {ifs : List Expr} {η : En} {L M : Lg} {Q : Bool → Lg → Prop} (s : Sub M L) (h : GTs X ifs η M fun b M1 => ∀ M2, Sub M1 M2 → Q b M2) : GTs X ifs η L Q := by
  match ifs, h with
  | [], h => exact h _ s
  | [c], h => exact GT.sub s (h.imp fun b M1 q => q _ .refl)
section
variable {X : Cx} {η : En} {L : Lg} {elt iter tg : Expr} {ifs : List Expr} {scope : Scope} {pos p1 p2 p3 : Pos} {x y : Str} {f : V → En} {Q : QV}
/-- what such a comprehension is shown of; st: how an item is stored -/
structure PureC (X : Cx) (scope : Scope) (ifs : List Expr) (elt : Expr) (S : Src) (L : Lg) (st : V → Lg → (En → Lg → Prop) → Prop) (p : Nat → Bool) (g : Nat → V) : Prop where
  n : S.n ≤ 1000000
  kp : ∀ M, (∀ e ∈ L, e ∈ M) → S.keep M
  tn : ∀ i x E D acc M, i < S.n → S.item i x E → ((E ++ M).map (·.1)).Nodup → Sub ((D, .lst acc) :: L) M → st x (E ++ M) fun θ M' => AllBlk X scope fun B => GTs B ifs θ M' fun b M1 => b = p i ∧ Sub ((D, .lst acc) :: L) M1 ∧ (b = true → AllBlk X scope fun B => GE B elt θ M1 fun z M2 => z = g i ∧ Sub ((D, .lst acc) :: L) M2)
theorem GE.undrp {e : Expr} (h : GE X e η L (drp Q)) : GE X e η L Q := fun hN H hH => (h hN H hH).mono fun v H' ⟨M, hM, N, s, q⟩ => ⟨N, s H' hM, q⟩
theorem GS.undrp {st : Stmt} {D : GD} (h : GS X st { D with nx := fun θ M => ∃ N, Sub N M ∧ D.nx θ N } η L) : GS X st D η L := fun hN H hH =>
  (h hN H hH).mono (fun σ H' ⟨θ, M, n1, es, hM, N, s, q⟩ => ⟨θ, N, n1, es, s H' hM, q⟩) (fun _ _ z => z) (fun _ _ z => z) fun _ _ z => z
theorem filter_le {p : Nat → Bool} {g : Nat → V} {i : Nat} : (((List.range i).filter p).map g).length ≤ i := by
  rw [List.length_map]
  exact Nat.le_trans (List.length_filter_le _ _) (by rw [List.length_range]; exact Nat.le_refl _)
theorem PureC.lc {S : Src} {st : V → Lg → (En → Lg → Prop) → Prop} {p : Nat → Bool} {g : Nat → V} (h : PureC X scope ifs elt S L st p g) (mono : ∀ v M (k k' : En → Lg → Prop), (∀ θ M', k θ M' → k' θ M') → st v M k → st v M k') (D : Addr)
    (q : Q (.ref D) ((D, .lst (((List.range S.n).filter p).map g)) :: L)) : ∃ Pv, LcS X scope ifs elt S D L st Pv (drp Q) := by
  refine ⟨fun i M => Sub ((D, .lst (((List.range i).filter p).map g)) :: L) M, Sub.refl, fun i M _ nd s => h.kp M fun e m => (s.to nd).2 e (List.mem_cons_of_mem _ m), fun i x E M hi it nd s => ?_, fun M s => ⟨_, s, q⟩⟩
  refine mono x (E ++ M) _ _ (fun θ M' k => ?_) (h.tn i x E D _ M hi it nd s)
  intro s1 H1 C1 cl1 fp1
  have k1 := k s1 H1 C1 cl1 fp1
  have more := range_more (p := p) (g := g) (i := i)
  have key : ∀ b M1, (b = p i ∧ Sub ((D, .lst (((List.range i).filter p).map g)) :: L) M1 ∧ (b = true → AllBlk X scope fun B => GE B elt θ M1 fun z M2 => z = g i ∧ Sub ((D, .lst (((List.range i).filter p).map g)) :: L) M2)) →
      if b = true then AllBlk X scope fun B => GE B elt θ M1 fun y M2 => ∃ acc M3, (D, HO.lst acc) ∈ M2 ∧ acc.length < sizeLine ∧ Swap D (.lst (acc ++ [y])) M2 M3 ∧ Sub ((D, .lst (((List.range (i + 1)).filter p).map g)) :: L) M3 else Sub ((D, .lst (((List.range (i + 1)).filter p).map g)) :: L) M1 := fun b M1 ⟨eb, sb, hb⟩ => by
    cases b with
    | true =>
      rw [if_pos rfl]
      intro s2 H2 C2 cl2 fp2
      refine GE.nd ((hb rfl s2 H2 C2 cl2 fp2).imp fun y M2 ⟨ey, s3⟩ nd => ?_)
      have m2 := (s3.to nd).2 _ List.mem_cons_self
      obtain ⟨M3, sw⟩ := Swap.ex (o := .lst (((List.range i).filter p).map g ++ [y])) (u := .lst (((List.range i).filter p).map g)) rfl m2
      refine ⟨_, M3, m2, ?_, sw, ?_⟩
      · have := filter_le (p := p) (g := g) (i := i)
        have := h.n
        rw [sizeLine_eq]
        omega
      · rw [more, if_pos eb.symm, ← ey]
        exact s3.swap sw
    | false =>
      rw [if_neg Bool.false_ne_true, more, if_neg (by rw [← eb]; exact Bool.false_ne_true), List.append_nil]
      exact sb
  match ifs, k1 with
  | [], k1 => exact key _ _ k1
  | [c], k1 => exact k1.imp fun b M1 z => key b M1 z
theorem GI.imp {Q Q' : Src → Lg → Prop} (h : GI X tg iter η L Q) (m : ∀ S L1, Q S L1 → Q' S L1) : GI X tg iter η L Q' := fun hN H hH pins s I =>
  wpAny_mono (h hN H hH pins s I) (fun v s1 z => wpAny_mono z (fun itv s2 ⟨it, fp, tn, J, H1, ev, I2, T, t0, f2, L1, S, k1, ok, q⟩ => ⟨it, fp, tn, J, H1, ev, I2, T, t0, f2, L1, S, k1, ok, m S L1 q⟩) fun _ _ z => z) fun _ _ z => z
/-- what is shown of a pure comprehension: R what holds of the new list -/
def PureL (X : Cx) (scope : Scope) (ifs : List Expr) (elt : Expr) (st : V → Lg → (En → Lg → Prop) → Prop) (R : V → Lg → Prop) (S : Src) (L1 : Lg) : Prop := ∃ p g, PureC X scope ifs elt S L1 st p g ∧ ∀ D, R (.ref D) ((D, .lst (((List.range S.n).filter p).map g)) :: L1)
abbrev stOne (f : V → En) : V → Lg → (En → Lg → Prop) → Prop := fun v M k => k (f v) M
abbrev stTwo (g : V → V → En) : V → Lg → (En → Lg → Prop) → Prop := fun v M k => ∃ p a b, v = .ref p ∧ (p, HO.tup [a, b]) ∈ M ∧ k (g a b) M
theorem monoOne {f : V → En} : ∀ v M (k k' : En → Lg → Prop), (∀ θ M', k θ M' → k' θ M') → stOne f v M k → stOne f v M k' := fun _ _ _ _ m z => m _ _ z
theorem monoTwo {g : V → V → En} : ∀ v M (k k' : En → Lg → Prop), (∀ θ M', k θ M' → k' θ M') → stTwo g v M k → stTwo g v M k' := fun _ _ _ _ m ⟨p, a, b, e, h, z⟩ => ⟨p, a, b, e, h, m _ _ z⟩
/-- [elt for x in iter if ..], all parts pure -/
theorem ge_lcP (P : PutF x η f) (h : GI X (.Name x p1) iter η L (PureL X scope ifs elt (stOne f) Q)) (hb : blkC X.N X.env.scope scope [(x, X.N.idxOf x)] = true) (hlx : LocB X scope x := by exact fun _ _ _ _ _ => ⟨.inl rfl, .inr rfl⟩)
    (hN : X.N.Nodup := by assumption) (hc : X.calm = true := by rfl) (hs : ∀ z, foldedSetIterable iter X.env z = pure z := by intro _; rfl) : GE X (.ListComp elt [⟨.Name x p1, iter, ifs, 0⟩] scope pos) η L Q :=
  GE.undrp (ge_lc1 P (h.imp fun S L1 ⟨p, g, pc, q⟩ D => pc.lc monoOne D (q D)) hb hlx hN hc hs)
theorem gs_lcP {D : GD} {fy : V → En} {py : Pos} (Py : PutF y η fy) (P : PutF x η f) (h : GI X (.Name x p1) iter η L (PureL X scope ifs elt (stOne f) fun v M => D.nx (fy v) M)) (hb : blkC X.N X.env.scope scope [(x, X.N.idxOf x)] = true) (hlx : LocB X scope x := by exact fun _ _ _ _ _ => ⟨.inl rfl, .inr rfl⟩)
    (hyl : X.env.scope.names.lookup y = some .local := by rfl) (hsw : swapsWith (.ListComp elt [⟨.Name x p1, iter, ifs, 0⟩] scope pos) (some (.Name y py)) p3.line X.env = pure true := by rfl)
    (hN : X.N.Nodup := by assumption) (hc : X.calm = true := by rfl) (hs : ∀ z, foldedSetIterable iter X.env z = pure z := by intro _; rfl) : GS X (.Assign [.Name y py] (.ListComp elt [⟨.Name x p1, iter, ifs, 0⟩] scope pos) p3) D η L :=
  GS.undrp (gs_lc1 Py P (h.imp fun S L1 ⟨p, g, pc, q⟩ d => pc.lc (Q := fun v M => D.nx (fy v) M) monoOne d (q d)) hb hlx hyl hsw hN hc hs)
end
section
variable {X : Cx} {L : Lg} {elt : Expr} {ifs : List Expr} {scope : Scope} {f : V → En} {R : V → Lg → Prop} {q : Addr} {xs : List V} {t : V → Bool} {g : V → V}
/-- a pure comprehension's turn: the test, then the element -/
abbrev TurnP (X : Cx) (scope : Scope) (ifs : List Expr) (elt : Expr) (L : Lg) (θ : En) (b0 : Bool) (z0 : V) : Prop := ∀ D acc, AllBlk X scope fun B => GTs B ifs θ ((D, .lst acc) :: L) fun b M1 => b = b0 ∧ Sub ((D, .lst acc) :: L) M1 ∧ (b = true → AllBlk X scope fun B => GE B elt θ M1 fun z M2 => z = z0 ∧ Sub ((D, .lst acc) :: L) M2)
theorem turnP_use {st : V → Lg → (En → Lg → Prop) → Prop} {θ : En} {b0 : Bool} {z0 : V} (h : TurnP X scope ifs elt L θ b0 z0) {D : Addr} {acc : List V} {M : Lg} (s : Sub ((D, .lst acc) :: L) M) :
    AllBlk X scope fun B => GTs B ifs θ M fun b M1 => b = b0 ∧ Sub ((D, .lst acc) :: L) M1 ∧ (b = true → AllBlk X scope fun B => GE B elt θ M1 fun z M2 => z = z0 ∧ Sub ((D, .lst acc) :: L) M2) := fun s1 H1 C1 cl1 fp1 => by
  refine GTs.sub s ?_
  have k := h D acc s1 H1 C1 cl1 fp1
  have key : ∀ b M1, (b = b0 ∧ Sub ((D, .lst acc) :: L) M1 ∧ (b = true → AllBlk X scope fun B => GE B elt θ M1 fun z M2 => z = z0 ∧ Sub ((D, .lst acc) :: L) M2)) → ∀ M2, Sub M1 M2 → b = b0 ∧ Sub ((D, .lst acc) :: L) M2 ∧ (b = true → AllBlk X scope fun B => GE B elt θ M2 fun z M2 => z = z0 ∧ Sub ((D, .lst acc) :: L) M2) :=
    fun b M1 ⟨e, s1, k⟩ M2 s2 => ⟨e, s1.trans s2, fun hb s3 H3 C3 cl3 fp3 => GE.sub s2 (k hb s3 H3 C3 cl3 fp3)⟩
  match ifs, k with
  | [], k => exact key _ _ k
  | [c], k => exact k.imp key
/-- over the numbers of a range -/
theorem pure_fn {n : Nat} {h : Nat → V} {p : Nat → Bool} {g : Nat → V} (hl : n ≤ 1000000) (ht : ∀ i, i < n → TurnP X scope ifs elt L (f (h i)) (p i) (g i)) (r : ∀ D, R (.ref D) ((D, .lst (((List.range n).filter p).map g)) :: L)) : PureL X scope ifs elt (stOne f) R ⟨n, fun _ => True, itemFn h⟩ L := by
  refine ⟨p, g, ⟨hl, fun _ _ => True.intro, fun i x E D acc M hi ⟨hx, hE⟩ _ s => ?_⟩, r⟩
  subst hE hx
  exact turnP_use (st := stOne f) (ht i hi) s
end
end G
set_option Elab.async false
set_option linter.all false
set_option maxRecDepth 100000
set_option maxHeartbeats 4000000
namespace G
open PySem PySem.Spec PyProof.Rows L2
abbrev penO (c : Addr) (n m : Int) : HO := .lst [.ref c, .int n, .int m]
abbrev celO (ns : List Int) : HO := .lst (ns.map V.int)
def spDraw : SpL := fun vs L Q _ => ∃ (p c : Addr) (ns : List Int) (n m many : Int) (R : Lg), vs = [.ref p, .int many] ∧ Sub ((p, penO c n m) :: (c, celO ns) :: R) L ∧ ns.length ≤ 63 ∧ 0 < many ∧ many < 2 ^ 64 ∧ 0 ≤ n ∧ n ≤ 100000 ∧ 0 ≤ m ∧
  ∀ d n' m', 0 ≤ d → d < many → 0 ≤ n' → n' ≤ n + 1 → 0 ≤ m' → Q (.int d) ((p, penO c n' m') :: (c, celO ns) :: R)
theorem cut63 {ns : List Int} : ∃ ms : List Int, ms.length ≤ 63 ∧ cutV (ns.map V.int) none (some 63) = ms.map V.int := by
  refine ⟨ns.take 63, by rw [List.length_take]; omega, ?_⟩
  unfold cutV
  have e1 : HT.sIx (ns.map V.int).length 0 none = 0 := rfl
  have e2 : HT.sIx (ns.map V.int).length (ns.map V.int).length (some 63) = min 63 (ns.map V.int).length := HT.sIx_nat _ _ 63
  rw [e1, e2, List.drop_zero, Nat.sub_zero, List.map_take, ← List.take_take, List.take_length]
/-- a list, one of which is drawn -/
def spPick : SpL := fun vs L Q _ => ∃ (p c q : Addr) (ns : List Int) (xs : List V) (n m : Int) (R : Lg), vs = [.ref p, .ref q] ∧ Sub ((p, penO c n m) :: (c, celO ns) :: R) L ∧ (q, HO.lst xs) ∈ R ∧ ns.length ≤ 63 ∧ 0 < xs.length ∧ xs.length < 1000 ∧ 0 ≤ n ∧ n ≤ 100000 ∧ 0 ≤ m ∧
  ∀ (k : Nat) (x : V) n' m', xs[k]? = some x → 0 ≤ n' → n' ≤ n + 1 → 0 ≤ m' → Q x ((p, penO c n' m') :: (c, celO ns) :: R)
theorem gts_nil {X : Cx} {η : En} {L : Lg} {Q : Bool → Lg → Prop} (q : Q true L) : GTs X [] η L Q := q
theorem tk0 {X : Cx} : Tk X (fun _ _ _ _ => False) := (L2.takes0 (X := X)).imp fun _ _ _ _ ⟨_, _, _, _, _, z⟩ => z.elim
theorem rdSub {L M : Lg} {v : V} {d : PyData} (s : Sub M L) (h : Rd M v d) : Rd L v d := fun X pins σ H s' u hH I r => h X pins σ H s' u (s H hH) I r
section
variable {a b c d e f g h i j : Addr × HO} {R : Lg}
theorem rot3 : Sub (c :: a :: b :: R) (a :: b :: c :: R) := Sub.perm (List.perm_middle (l₁ := [a, b]) (l₂ := R) (a := c)).symm
theorem rot3' : Sub (a :: b :: c :: R) (c :: a :: b :: R) := Sub.perm (List.perm_middle (l₁ := [a, b]) (l₂ := R) (a := c))
end
section
variable {X : Cx} {η : En} {L : Lg} {elt iter : Expr} {ifs : List Expr} {scope : Scope} {pos p1 p3 : Pos} {x y : Str} {f : V → En} {Q : QV}
theorem gs_lcD {D : GD} {fy : V → En} {py : Pos} (Py : PutF y η fy) (P : PutF x η f) (h : GI X (.Name x p1) iter η L fun S L1 => ∀ d, ∃ Pv, LcS X scope ifs elt S d L1 (fun v M k => k (f v) M) Pv (drp fun v M => D.nx (fy v) M)) (hb : blkC X.N X.env.scope scope [(x, X.N.idxOf x)] = true) (hlx : LocB X scope x := by exact fun _ _ _ _ _ => ⟨.inl rfl, .inr rfl⟩)
    (hyl : X.env.scope.names.lookup y = some .local := by rfl) (hsw : swapsWith (.ListComp elt [⟨.Name x p1, iter, ifs, 0⟩] scope pos) (some (.Name y py)) p3.line X.env = pure true := by rfl)
    (hN : X.N.Nodup := by assumption) (hc : X.calm = true := by rfl) (hs : ∀ z, foldedSetIterable iter X.env z = pure z := by intro _; rfl) : GS X (.Assign [.Name y py] (.ListComp elt [⟨.Name x p1, iter, ifs, 0⟩] scope pos) p3) D η L := GS.undrp (gs_lc1 Py P h hb hlx hyl hsw hN hc hs)
end
end G
set_option Elab.async false
set_option linter.all false
set_option maxRecDepth 100000
set_option maxHeartbeats 4000000
namespace G
open PySem PySem.Spec PyProof.Rows L2
/-- the def x, and its code object -/
def DfC (K : PySem.W.Frag) (mg : Str → Option Value) (x : Str) (st : Stmt) (c : Addr) : Prop :=
  ∃ (f : Addr) (oc : Value) (od : Option Addr) (kV doc pm : Value) (an : Option Addr) (ct : Value) (osl : Array (Option Value)), mg x = some (.ref f) ∧
    K.lookup f = some ⟨oc, od, .func (PySem.W.fnOf x x (defArgs st) (defBody st) (defScope st) .none kV doc pm an (.ref c) ct), osl⟩ ∧ PySem.W.codeIn K (.ref c) x = true ∧ PySem.W.keepIn K (.ref f) = true
section
variable {P : Program} {w : World} {K : PySem.W.Frag} {mg : Str → Option Value} {base : Heap}
abbrev BodyC (P : Program) (w : World) (K : PySem.W.Frag) (mg : Str → Option Value) (base : Heap) (N : List Str) (q : Str) (st : Stmt) (k : Nat) (c : Addr) (sp : SpL) : Prop :=
  ∀ (X : Cx) (f : Addr) (A : Around) (outer : List Env) (s : Shared) (H : Hp) (E0 : XK) (L : Lg) (vs : List V) (Q : QV) (E : XL), X = cx0 P w K mg base N q (defScope st) f (.ref c) A outer s H E0 → X.N.Nodup → RoomG k X.A → sp vs L Q E → GSs X (defBody st) (bodyD Q) (begun N vs) L
theorem fn_plainC {x : Str} {st : Stmt} {N ps : List Str} {k : Nat} {c : Addr} {sp : SpL} (F : DfC K mg x st c) (S : FnScope N ps (defScope st))
    (hb : ∀ (kV doc pm : Value) (an : Option Addr) (cdv ct : Value) (us : List Value), us.length = ps.length → bindArgs (PySem.W.fnOf x x (defArgs st) (defBody st) (defScope st) .none kV doc pm an cdv ct) ⟨us, []⟩ = pure (ps.zip us))
    (hl : ps.length ≤ N.length) (len : ∀ vs L Q E, sp vs L Q E → vs.length = ps.length) (body : BodyC P w K mg base N x st k c sp) : Fn P w K mg base CX0 x (k + 1) sp := by
  obtain ⟨f, oc, od, kV, doc, pm, an, ct, osl, hm, lk, hcd, kp⟩ := F
  refine ⟨f, hm, kp, ?_⟩
  intro A outer s H us vs Q E hr e0 r hsp
  obtain ⟨L, Ql, El, hH, h, hq, _⟩ := hsp
  have hn : vs.length = ps.length := len _ L Ql El h
  have hlv : vs.length ≤ N.length := by
    rw [hn]
    exact hl
  exact LamX.run_ofS (CX := CX0) lk hcd S hr.toRoom e0 (.of_eq (hb kV doc pm an (.ref c) ct us (by rw [← r.length]; exact hn))) r hn fun hr2 =>
    ⟨WSs _ (defBody st), PSs.nox pss_W, body_end (X := cx0 P w K mg base N x (defScope st) f (.ref c) A outer s H E) hlv hq hH (body _ f A outer s H E L vs Ql El rfl S.nd ⟨hr2, guard_deeper hr.gd⟩ h)⟩
end
/-- two entries behind others -/
theorem rotL {a b : Addr × HO} {R : Lg} (l : Lg) : Sub (a :: b :: (l ++ R)) (l ++ (a :: b :: R)) := Sub.perm (by
  refine List.Perm.trans (l₂ := a :: (l ++ (b :: R))) (.cons a ?_) ?_
  · exact List.perm_middle.symm
  · exact List.perm_middle.symm)
theorem rot12 {a b c : Addr × HO} {R : Lg} : Sub (a :: b :: c :: R) (c :: a :: b :: R) := rotL [_]
section
variable {X : Cx} {L : Lg} {Q : QV} {p q : Addr}
theorem go_eqLI {j : Nat} {xs ys : List V} {ns ms : List Int} (hr : RoomG j X.A) (m1 : (p, HO.lst xs) ∈ L) (m2 : (q, HO.lst ys) ∈ L) (e1 : xs = ns.map V.int) (e2 : ys = ms.map V.int) (h : Q (.bl (decide (ns = ms))) L) : GOp X (compareOp .Eq) (.ref p) (.ref q) L Q := by
  subst e1
  subst e2
  exact go_eqI hr m1 m2 h
theorem go_neLI {j : Nat} {xs ys : List V} {ns ms : List Int} (hr : RoomG j X.A) (m1 : (p, HO.lst xs) ∈ L) (m2 : (q, HO.lst ys) ∈ L) (e1 : xs = ns.map V.int) (e2 : ys = ms.map V.int) (h : Q (.bl (!decide (ns = ms))) L) : GOp X (compareOp .NotEq) (.ref p) (.ref q) L Q := by
  subst e1
  subst e2
  exact go_neI hr m1 m2 h
end
/-- a value that is shown, and of which the kind is known -/
structure Odd (L : Lg) (v : V) (d : PyData) : Prop where
  kd : ∃ T, Knd L v T
  rd : Rd L v d
  s : d.showable = true
  dp : d.depth ≤ 60
  sz : d.shown.length ≤ 100000
  ok : PyData.strOk d.shown = true
theorem Odd.drop {L : Lg} {v : V} {d : PyData} {a : Addr × HO} (h : Odd L v d) : Odd (a :: L) v d := by
  obtain ⟨T, k⟩ := h.kd
  exact ⟨⟨T, k.sub fun e m => memS m⟩, rdSub Sub.drop h.rd, h.s, h.dp, h.sz, h.ok⟩
theorem GG.sub {X : Cx} {tg : Expr} {v : V} {η : En} {L M : Lg} {Q : En → Lg → Prop} (s : Sub M L) (h : GG X tg v η M Q) : GG X tg v η L Q := fun hN H hH => h hN H (s H hH)
end G
set_option Elab.async false
set_option linter.all false
set_option maxRecDepth 100000
set_option maxHeartbeats 4000000
namespace G
open PySem PySem.Spec PyProof.Rows L2
theorem RoomG.make {k : Nat} {A : Around} (r : RoomG (k + 1) A) (C : Addr) (us : List Value) (kw : List (Str × Value)) : RoomG k (A.under (.builtin "type.__call__" ⟨.ref C :: us, kw⟩)) := ⟨r.toRoom.make C us kw, r.gd⟩
section
variable {X : Cx} {CX : CXT} {k : Nat} {C f : Addr} {sp : Sp} {E : XK} {args : List Value → Args}
/-- C(..): a new instance and its dict, then __init__ -/
theorem run_makeG {pins : List (Addr × Obj)} {σ : L2.St} {H : Hp} {s : Shared} {Q : VK} {us : List Value} {vs : List V} {ps : List Value} {kw : List (Str × Value)} (M : Mk X.K C f) (F : RunG X.prog X.w X.K X.mg X.base CX k f args sp) (hr : RoomG (k + 1) X.A) (hx : PassesAt CX X σ E) (I : Inv X pins σ H s) (r : Vals vs us)
    (ha : ∀ y : Value, args (y :: us) = ⟨y :: ps, kw⟩)
    (h : ∀ x dx, H x = none → H dx = none → dx ≠ x → sp (.ref x :: vs) (upd (upd H dx (.own x)) x (.ins C dx [])) (fun v H2 => v = .non ∧ Q (.ref x) H2) E) : wpAny (model X.prog X.w) X.A (call (.ref C) ps kw) (EP X pins σ Q) X.xe s := by
  have hq := h (s.heap.objs.size + 1) s.heap.objs.size (I.hok.fresh (Nat.le_succ _)) (I.hok.fresh (Nat.le_refl _)) (Nat.ne_of_lt (Nat.lt_succ_self _))
  have I2 := Inv.made (C := C) I
  have z := F _ X.stack _ _ (.ref (s.heap.objs.size + 1) :: us) (.ref (s.heap.objs.size + 1) :: vs) _ E (hr.make C ps kw) (I2.env0.make C ps kw) (.cons rfl r) hq
  rw [ha] at z
  refine wpAny_call (make_map (f := f) I.kIn M.makes M.init (beq_iff_eq.mp M.fn) (codeAny_mono z fun r s' hq' => ?_))
  cases r with
  | error e => exact hx pins _ _ e s' I2 hq'
  | ok fl =>
    cases fl with
    | ret u =>
      obtain ⟨v, H', I3, rv, ev, q3⟩ := I2.after hq'
      subst ev
      exact ⟨rv, ⟨V.ref (s.heap.objs.size + 1), H', I3, rfl, q3⟩⟩
    | next => exact False.elim hq'
    | brk => exact False.elim hq'
    | cont => exact False.elim hq'
end
section
variable {X : Cx} {CX : CXT} {j k : Nat} {C f g p : Addr} {sp : SpL} {El : XL} {args argsI : List Value → Args} {η : En} {L : Lg} {Q : QV} {W : XW} {x n m : Str} {e o value : Expr} {es : List Expr} {D : GD} {pos pos' p1 : Pos} {a dx : Addr} {fs : List (Str × V)} {v y : V} {u : Value}
/-- what __init__ is shown at the new instance -/
abbrev InitSp (C : Addr) (sp : SpL) (Q : QV) (El : XL) : List V → Lg → Prop := fun vs L => ∀ x dx, sp (.ref x :: vs) ((x, .ins C dx []) :: (dx, .own x) :: L) (fun v L' => v = .non ∧ Q (.ref x) L') El
theorem init_sp {H : Hp} {vs : List V} {E : XK} (hH : Has H L) (h : InitSp C sp Q El vs L) (he : ∀ c d L' H', Has H' L' → El c d L' → E c d H') : ∀ x dx, H x = none → H dx = none → dx ≠ x → toSp sp (.ref x :: vs) (upd (upd H dx (.own x)) x (.ins C dx [])) (fun v H2 => v = .non ∧ up Q (.ref x) H2) E := fun x dx hx hdx ne =>
  ⟨_, _, El, (hH.new hdx).new (by rw [upd_ne (Ne.symm ne)]; exact hx), h x dx, fun v L' H' h' q => ⟨q.1, L', h', q.2⟩, he⟩
theorem gf_make (M : Mk X.K C f) (F : RunG X.prog X.w X.K X.mg X.base CX k f argsI (toSp sp)) (ha : ∀ y us, argsI (y :: us) = ⟨y :: (args us).pos, (args us).kw⟩) (hr : RoomG j X.A) (hx : Passes CX X (upX El)) (hjk : k + 1 ≤ j := by decide) : GF X η C args (InitSp C sp Q El) Q := fun pins s H us vs L hH I r h =>
  run_makeG M F (hr.mono hjk) (fun pins => hx pins _) I r (fun y => ha y us) (init_sp hH h fun c d L' H' h' q => ⟨L', h', q⟩)
/-- x(..), x a global that holds a thing of which GF tells -/
theorem ge_callF {φ : List V → Lg → Prop} (hm : X.mg x = some (.ref f)) (hk : PySem.W.keepIn X.K (.ref f) = true) (F : X.N = names η → GF X η f argsP φ Q) (h : GA X (e :: es) η L φ) (hg : Gl X x := by rfl) (hd : (x == ("__debug__" : Str)) = false := by decide)
    (he : starEach (e :: es) X.env = (false, eval e X.env) :: starEach es X.env := by rfl) (hpl : (backTo pos (starEach es X.env)).any (·.1) = false := by rfl) : GE X (.Call (.Name x p1) (e :: es) [] pos) η L Q := fun hN H hH pins s I => by
  refine wpAny_Call_Name_kw (ld_glob I hg hm ?_ hd)
  refine PySem.W.callWith_K (h₀ := X.base) I.ok.mod.kin hk ?_ he hpl
  exact thn (h hN H hH pos pins s I) fun us s1 ⟨vs, H1, J, r, L1, h1, q⟩ => ⟨J.kIn, F hN pins s1 H1 us vs L1 h1 J r q⟩
theorem gat_fld (c : Cls X.K C) (no : NoAttr X.K C n) (mm : (a, HO.ins C dx fs) ∈ L) (l : fs.lookup n = some v) (q : Q v L) : GAt X n (.ref a) L Q := fun pins s σ H u ex hH I r => by
  obtain rfl : u = Value.ref a := r
  exact getattr_ok I (hH.get mm) c no l fun u' s' I' ru => ⟨v, H, I', ru, L, hH, q⟩
theorem gs_fld (h : GE X value η L fun y L1 => GE X o η L1 fun x L2 => ∃ a C dx fs M, x = .ref a ∧ (a, HO.ins C dx fs) ∈ L2 ∧ Cls X.K C ∧ NoAttr X.K C n ∧ fs.length < 1000 ∧ Swap a (.ins C dx (putF n y fs)) L2 M ∧ D.nx η M)
    (hs : swapsWith value (some (.Attribute o n pos')) pos.line X.env = pure false := by rfl) : GS X (.Assign [.Attribute o n pos'] value pos) D η L := fun hN H hH =>
  WS.of (ps_fld pe_W pe_W hs) (h.then hN hH fun y L1 H1 h1 q => q.then hN h1 fun x L2 H2 h2 ⟨a, C, dx, fs, M, ex, mm, c, no, l, sw, q2⟩ => ⟨a, C, dx, fs, ex, h2.get mm, c, no, l, η, M, hN, rfl, h2.swap sw, q2⟩)
/-- o.m(..) -/
theorem ge_meth {pl : Sem Bool} (F : RunG X.prog X.w X.K X.mg X.base CX k g argsP (toSp sp)) (hm : Meth X.K C m g) (c : Cls X.K C) (hr : RoomG j X.A) (hx : Passes CX X (upX El)) (h : GE X o η L fun x L1 => ∃ a dx fs, x = .ref a ∧ (a, HO.ins C dx fs) ∈ L1 ∧ fs.lookup m = none ∧ GA X (e :: es) η L1 fun vs L2 => sp (.ref a :: vs) L2 Q El) (hjk : k ≤ j := by decide)
    (hst : starEach (e :: es) X.env = (false, eval e X.env) :: starEach es X.env := by rfl) (hpl : (backTo pos (starEach es X.env)).any (·.1) = false := by rfl)
    (ht : eval (.Call (.Attribute o m pos') (e :: es) [] pos) X.env = (do
      let ov ← eval o X.env
      standAt pos'.atName
      let (f, first) ← holding [ov] (getMethod ov m pl)
      callWith pos f first (backTo pos (starEach (e :: es) X.env)) (backToKw pos (keywordEach [] X.env))) := by rfl) : GE X (.Call (.Attribute o m pos') (e :: es) [] pos) η L Q := fun hN H hH pins s I => by
  refine PySem.W.methodCall_KW (pl := pl) (thn (h hN H hH pins s I) fun u s1 ⟨x, H1, I1, rx, L1, h1, a, dx, fs, ex, ea, l, q⟩ => ?_) ht
  subst ex
  obtain rfl : u = Value.ref a := rx
  refine getmeth_ok I1 (h1.get ea) c hm l ?_
  refine PySem.W.callWith_K (first := [.ref a]) (h₀ := X.base) I.ok.mod.kin hm.kp (thn (q hN H1 h1 pos pins s1 I1) fun us s2 ⟨vs, H2, I2, r, L2, h2, q2⟩ => ⟨I2.kIn, ?_⟩) hst hpl
  exact run_G (args := argsP) (us := .ref a :: us) (vs := .ref a :: vs) F (hr.mono hjk) hx I2 (.cons rfl r) (up_sp h2 q2)
end
end G
set_option Elab.async false
set_option linter.all false
set_option maxRecDepth 100000
set_option maxHeartbeats 4000000
namespace G
open PySem PySem.Spec PyProof.Rows L2 NdefX
/-- what the written part says of super().n at an instance of C, from the class D -/
structure SupM (K : PySem.W.Frag) (mg : Str → Option Value) (C D : Addr) (n : Str) (g : Addr) : Prop where
  sm : PySem.W.ks_superIn K C D n = some (some (.ref g))
  tg : PySem.W.typeIn K (.ref g) = some (.type "function")
  fi : PySem.W.fnIn K g = true
  cls : ∃ cd, PySem.W.clsIn K C = some cd
  sub : PySem.W.mroIn K C (.ref D) = some true
  op : PySem.W.nsIn K cStatics "thirdparty.any" = some none
  su : mg "super" = none
/-- the slots of a method that says super(), when it begins -/
def begunF (N : List Str) (vs : List V) : En := N.zip (startF N vs [none])
abbrev cxS (CX : CXT) (P : Program) (w : World) (K : PySem.W.Frag) (mg : Str → Option Value) (base : Heap) (N : List Str) (x q : Str) (st : Stmt) (cc c f : Addr) (A : Around) (outer : List Env) (s : Shared) (H : Hp) (E0 : XK) : Cx := ncx CX P w K mg base N (nfS x q st cc c) f A outer s H E0
section
variable {CX : CXT} {P : Program} {w : World} {K : PySem.W.Frag} {mg : Str → Option Value} {base : Heap} {N ps : List Str} {x q : Str} {st : Stmt} {f c cc D : Addr} {fd : FuncData} {k : Nat} {sp : SpL}
/-- such a method keeps a promise over ledgers -/
theorem run_sup (F : SupF P K x q st f c cc D fd) (S : NScope N ps ["__class__"] (defScope st)) (args : List Value → Args) (pmV : List V → List V) (pmU : List Value → List Value) (hpm : ∀ vs us, Vals vs us → Vals (pmV vs) (pmU us))
    (hb : ∀ (kV doc pm ct : Value) (an : Option Addr) (us : List Value), (pmU us).length = ps.length → bindArgs (PySem.W.fnX x q (defArgs st) (defBody st) (defScope st) [("__class__", cc)] .none kV doc pm an (.ref c) ct) (args us) = pure (ps.zip (pmU us)))
    (len : ∀ vs L Q E, sp vs L Q E → vs.length = ps.length) (hl : ∀ vs : List V, vs.length = ps.length → (startF N vs [none]).length = N.length)
    (body : ∀ (X : Cx) (A : Around) (outer : List Env) (s : Shared) (H : Hp) (E0 : XK) (L : Lg) (vs : List V) (Q : QV) (E : XL), X = cxS CX P w K mg base N x q st cc c f A outer s H E0 → (∀ c d L' H', Has H' L' → E c d L' → E0 c d H') → X.N.Nodup → RoomG k X.A → sp vs L Q E → Has H L → X.N = names (begunF N vs) → AtSs X (defBody st) (defBody st) ((bodyD Q).ends X) (vals (begunF N vs)) H) :
    RunG P w K mg base CX (k + 1) f args (fun vs => toSp sp (pmV vs)) := by
  intro A outer s H us vs Q E hr e0 r hsp
  obtain ⟨oc, od, kV, doc, pm, ct, an, osl, rfl, lk⟩ := F.ex
  obtain ⟨L, Ql, El, hH, h, hq, he⟩ := hsp
  have hn : (pmV vs).length = ps.length := len _ L Ql El h
  have r2 := hpm vs us r
  have KX : K.In s.heap := e0.mod.kin.keeps fun b o e => (e0.bs b o e).1
  have lim : s.heap.NoLimit := e0.mod.nolimit.keeps fun b o e => (e0.bs b o e).1
  have hbb := hb kV doc pm ct an us (by rw [← r2.length]; exact hn)
  refine _root_.PySem.ks_codeAny_call_defAt (body := defBody st) hr.depth (KX _ _ lk) rfl lim (PySem.W.codeRec_of KX F.cd) rfl (.of_eq hbb) S.nocell (fun ⟨n, _⟩ hy => S.par n (List.of_mem_zip hy).1) (fun h₁ hns kp => ?_) S.co S.gen S.kind
  have I : Inv (ncx CX P w K mg base N (nfS x q st cc c) f A outer s H E) [] (startF N (pmV vs) [none]) H { s with heap := h₁, toks := s.toks + (ps.zip (pmU us)).length } := inv_startN S hr.hd e0 hn r2 (F.cells e0) hns kp
  have ev : vals (begunF N (pmV vs)) = startF N (pmV vs) [none] := List.map_snd_zip (Nat.le_of_eq (hl _ hn))
  have en : N = names (begunF N (pmV vs)) := (List.map_fst_zip (Nat.le_of_eq (hl _ hn).symm)).symm
  have b := body _ A outer s H E L (pmV vs) Ql El rfl he S.nd ⟨hr.toRoom.deeper _, guard_deeper hr.gd⟩ h hH en [] _ (by rw [ev]; exact I)
  refine _root_.PySem.wpAt_mono b (fun fl s' hs => ?_) fun e s' hs => hs
  have fin : ∀ {σ' : L2.St} {H' : Hp} {v : V} {u : Value}, Inv (ncx CX P w K mg base N (nfS x q st cc c) f A outer s H E) [] σ' H' s' → L2.RelV v u → Q v H' → CE outer P w H s Q u s' := fun {σ' H' v u} J rv qq => ⟨v, H', J.os, J.bare, J.base, J.hok, rv, qq⟩
  cases fl with
  | ret u =>
    obtain ⟨v, σ', H', J, rv, M, hM, N', sb, q⟩ := hs
    exact fin J rv (hq _ N' H' (sb _ hM) q)
  | next =>
    obtain ⟨σ', H', J, θ, M, _, _, hM, N', sb, q⟩ := hs
    exact fin (v := V.non) (u := Value.none) J rfl (hq _ N' H' (sb _ hM) q)
  | brk =>
    obtain ⟨σ', H', J, θ, M, _, _, hM, z⟩ := hs
    exact z.elim
  | cont =>
    obtain ⟨σ', H', J, θ, M, _, _, hM, z⟩ := hs
    exact z.elim
end
end G
set_option Elab.async false
set_option linter.all false
set_option maxRecDepth 100000
set_option maxHeartbeats 4000000
namespace PySem.W
open PySem PySem.Calls PyProof.Rows
end PySem.W
namespace G
open PySem PySem.Spec PyProof.Rows L2
/-- a class with its own __eq__ -/
structure OwnEq (K : PySem.W.Frag) (C g : Addr) : Prop where
  at_ : PySem.W.findIn K (.ref C) "__eq__" = some (some (.ref g))
  fn : PySem.W.isFn K (.ref g) = true
  ne : PySem.W.findIn K (.ref C) "__ne__" = some (some (.builtin "object.__ne__"))
  ob : PySem.W.mroIn K C (.type "object") = some true
section
variable {X : Cx} {CX : CXT} {j k : Nat} {C C' g a b dx dy : Addr} {fs gs : List (Str × V)} {sp : SpL} {El : XL} {L : Lg} {Q : QV}
theorem ins_inst {pins : List (Addr × Obj)} {σ : L2.St} {H : Hp} {s : Shared} (I : Inv X pins σ H s) (hH : Has H L) (m : (a, HO.ins C dx fs) ∈ L) : ∃ o od, PySem.W.InstAt s.heap a o C (some od) := by
  obtain ⟨mA, O, _⟩ := ins_get I.hok (hH.get m)
  obtain ⟨od, J, _⟩ := O.look
  exact ⟨_, od, J⟩
theorem RoomG.in1 {k : Nat} {A : Around} (r : RoomG (k + 1) A) : RoomG k A.in1 := ⟨r.toRoom.in1, r.gd⟩
theorem go_eqM (T : OwnEq X.K C g) (F : RunG X.prog X.w X.K X.mg X.base CX k g argsP (toSp sp)) (hr : RoomG j X.A) (hx : Passes CX X (upX El)) (ma : (a, HO.ins C dx fs) ∈ L) (mb : (b, HO.ins C' dy gs) ∈ L) (hn : PySem.W.notFirst X.K C (.ref C') = true)
    (h : sp [.ref a, .ref b] L (fun v L' => ∃ r, v = .bl r ∧ Q (.bl r) L') El) (hjk : k ≤ j := by decide) : GOp X (compareOp .Eq) (.ref a) (.ref b) L Q := fun pins s σ H v u hH I rx ry => by
  obtain rfl : v = Value.ref a := rx
  obtain rfl : u = Value.ref b := ry
  obtain ⟨oa, da, J⟩ := ins_inst I hH ma
  obtain ⟨ob, db, J'⟩ := ins_inst I hH mb
  obtain ⟨m, hF⟩ := I.fr
  show wpAny (model X.prog X.w) X.A (richCompare .Eq (.ref a) (.ref b)) _ _ _
  refine PySem.W.cmp_K (op := .Eq) (tb := .ref C') hr.toRoom.units0 hF I.ok.mod.kin J J'.type hn T.at_ T.fn ?_
  refine wpAny_mono (run_G (args := argsP) (us := [.ref a, .ref b]) (vs := [.ref a, .ref b]) F (hr.mono hjk) hx I (.cons rfl (.cons rfl .nil)) (up_sp hH h)) (fun r s' z => ?_) fun _ _ z => z
  obtain ⟨v, H', I', rv, L', h', r0, ev, q⟩ := z
  subst ev
  obtain rfl : r = Value.bool r0 := rv
  exact ⟨.bl r0, H', I', rfl, L', h', q⟩
/-- isinstance of an instance -/
structure OwnT (K : PySem.W.Frag) (C : Addr) : Prop where
  g : PySem.W.plainGet K C "__class__" = true
  d : PySem.W.hasDictIn K C = true
  a : PySem.W.findIn K (.ref C) "__class__" = some (some (.builtin "object.__class__"))
  n : PySem.W.specialIn K (.builtin "object.__class__") "__get__" = some (some (.builtin "getset_descriptor.__get__"))
  t : PySem.W.takesIn K (.builtin "object.__class__") = some true
  m : PySem.W.mroIn K C (.type "object") = some true
theorem gc_isI {c : V} {cv : Value} {r : Bool} (T : OwnT X.K C) (ma : (a, HO.ins C dx fs) ∈ L) (kc : ClsV c cv) (k : PySem.W.kitOne X.K (.ref C) cv = some r) (q : Q (.bl r) L) : GC X (.builtin "isinstance") [.ref a, c] L Q := fun pins s σ H us hH I rr => by
  cases rr with
  | cons rx rr =>
    cases rr with
    | cons rt rr =>
      cases rr
      obtain rfl : _ = Value.ref a := rx
      have ec := kc.eq rt
      subst ec
      obtain ⟨oe, od, J⟩ := ins_inst I hH ma
      exact PySem.W.kia_one (PySem.W.kitx_own T.g T.d T.a T.n T.t T.m) I.kIn J k (fun z => nomatch z) fun tk => ⟨.bl r, H, I.kept (t' := tk) fun _ _ z => z, rfl, L, hH, q⟩
end
end G
set_option Elab.async false
set_option linter.all false
set_option maxRecDepth 100000
set_option maxHeartbeats 4000000
namespace G
open PySem PySem.Spec PyProof.Rows L2
section
variable {X : Cx} {η : En} {L : Lg} {Q : QV} {a b c e : Expr} {es : List Expr} {op op' : CmpOp} {pos p p2 : Pos} {x : V} {q : Addr}
theorem ge_chain (h : GE X a η L fun x L1 => GE X b η L1 fun y L2 => GOp X (compareOp op) x y L2 fun z L3 => ∃ k, z = .bl k ∧ if k = true then GE X c η L3 fun w L4 => GOp X (compareOp op') y w L4 Q else Q (.bl false) L3)
    (hm : lastMarks [op, op'] [b, c] = false := by with_unfolding_all rfl) : GE X (.Compare a [op, op'] [b, c] pos) η L Q := fun hN H hH =>
  WE.of (pe_chain (r := fun x y H' Q' => ∀ pins s σ v u, Inv X pins σ H' s → RelV x v → RelV y u → wpAny (model X.prog X.w) X.A (compareOp op v u) (EP X pins σ Q') X.xe s)
    (r' := fun x y H' Q' => ∀ pins s σ v u, Inv X pins σ H' s → RelV x v → RelV y u → wpAny (model X.prog X.w) X.A (compareOp op' v u) (EP X pins σ Q') X.xe s)
    (fun pins s σ H' x y v u Q' I r1 r2 q => q pins s σ v u I r1 r2) (fun pins s σ H' x y v u Q' I r1 r2 q => q pins s σ v u I r1 r2) pe_W pe_W pe_W hm)
    (h.then hN hH fun x _ _ h1 q1 => q1.then hN h1 fun y _ _ h2 q2 => fun pins s σ v u I r1 r2 => by
      refine wpAny_mono (q2 pins s σ _ v u h2 I r1 r2) (fun z s' zz => ?_) fun _ _ z => z
      obtain ⟨zv, H3, I3, r3, L3, h3, k, ek, q3⟩ := zz
      refine ⟨zv, H3, I3, r3, k, ek, ?_⟩
      cases k with
      | true =>
        rw [if_pos rfl] at q3
        rw [if_pos rfl]
        exact q3.then hN h3 fun w L4 H4 h4 q4 => fun pins s σ v u I r1 r2 => q4 pins s σ _ v u h4 I r1 r2
      | false =>
        rw [if_neg Bool.false_ne_true] at q3
        rw [if_neg Bool.false_ne_true]
        exact ⟨L3, h3, q3⟩)
/-- *e among the values -/
theorem ga_star {Q : List V → Lg → Prop} (h : GE X e η L fun x L1 => ∃ p xs, x = .ref p ∧ ((p, HO.tup xs) ∈ L1 ∨ (p, HO.lst xs) ∈ L1) ∧ GA X es η L1 fun ys L2 => Q (xs ++ ys) L2) (hs : starEach (.Starred e p :: es) X.env = (true, eval e X.env) :: starEach es X.env := by rfl) : GA X (.Starred e p :: es) η L Q := fun hN H hH =>
  WA.of (StX.pa_star pe_W pa_W hs) (h.then hN hH fun x L1 H1 h1 ⟨p, xs, ex, m, q⟩ => ⟨p, xs, ex, m.imp (fun z => sqt h1 z) fun z => sql h1 z, q.then hN h1 fun _ L2 _ h2 q2 => ⟨L2, h2, q2⟩⟩)
end
theorem bt_sorted : bootBuiltins "sorted" = some (.builtin "sorted") := by decide +kernel
section
variable {X : Cx} {η : En} {L : Lg} {Q : QV} {e : Expr} {es : List Expr} {pos p : Pos} {x : V} {q : Addr} {T : String} {cs : List String} {b : Bool} {y : Str} {v : V} {u : Value}
theorem gb_sorted (B : Bi X.mg) (h : GA X (e :: es) η L fun xs L1 => GC X (.builtin "sorted") xs L1 Q) (hg : Gl X "sorted" := by rfl) (he : starEach (e :: es) X.env = (false, eval e X.env) :: starEach es X.env := by rfl) (hpl : (backTo pos (starEach es X.env)).any (·.1) = false := by rfl) :
    GE X (.Call (.Name "sorted" p) (e :: es) [] pos) η L Q := ge_B B.sorted bt_sorted h hg (by decide) (by decide) he hpl
/-- a global that holds a plain value -/
theorem gv_con (hm : X.mg y = some u) (r : RelV v u) (q : Q v L) (hg : Gl X y := by rfl) (hd : (y == ("__debug__" : Str)) = false := by decide) : GE X (.Name y pos) η L Q := ge_con (pe_glob hg hm r hd) q
end
end G
set_option Elab.async false
set_option linter.all false
set_option maxRecDepth 100000
set_option maxHeartbeats 4000000
namespace PySem
open Sem (wp)
open AutoSeq1 (wpAny_loadPart')
end PySem
namespace G
open PySem PySem.Spec PyProof.Rows L2
end G
set_option Elab.async false
set_option linter.all false
set_option maxRecDepth 100000
set_option maxHeartbeats 4000000
namespace G
open PySem PySem.Spec PyProof.Rows L2
abbrev P2 (p : Int × Int) : PyData := .tuple [.int p.1, .int p.2]
theorem alike2 (p q : Int × Int) : PySem.W.alike (P2 p) (P2 q) = true := by simp [PySem.W.alike, PySem.W.alikeAll]
/-- not greater, by the first, then by the second -/
def le2 (p q : Int × Int) : Prop := p.1 < q.1 ∨ (p.1 = q.1 ∧ p.2 ≤ q.2)
theorem depth2 : ∀ ps : List (Int × Int), PyData.depthAll (ps.map P2) ≤ 1
  | [] => by simp [PyData.depthAll]
  | p :: r => by
    have e := depth2 r
    simp only [List.map_cons, PyData.depthAll, PyData.depth]
    omega
/-- pairs in the ledger -/
abbrev Pr2 := Addr × Int × Int
section
variable {X : Cx} {L : Lg} {Q : QV} {q : Addr} {j : Nat}
theorem dls_prs : ∀ {ps : List Pr2}, (∀ e ∈ ps, (e.1, HO.tup [.int e.2.1, .int e.2.2]) ∈ L) → Dls L (ps.map fun e => V.ref e.1) ((ps.map fun e => e.2).map P2)
  | [], _ => dls_nil
  | e :: r, h => dls_cons (dl_tup (h e (List.mem_cons_self ..)) (dls_cons dl_int (dls_cons dl_int dls_nil))) (dls_prs fun x hx => h x (List.mem_cons_of_mem _ hx))
end
end G
set_option Elab.async false
set_option linter.all false
set_option maxRecDepth 100000
set_option maxHeartbeats 4000000
namespace PySem.W
open PySem PySem.Calls PySem.Spec PyProof.Rows
end PySem.W
namespace G
open PySem PySem.Spec PyProof.Rows L2
section
variable {X : Cx} {CX : CXT} {j k : Nat} {C g a dx p : Addr} {fs : List (Str × V)} {sp : SpL} {El : XL} {L : Lg} {Q : QV} {n : Str}
/-- a property -/
theorem gat_prop (c : Cls X.K C) (hp : PropOf X.K C n p g) (F : RunG X.prog X.w X.K X.mg X.base CX k g argsP (toSp sp)) (hr : RoomG j X.A) (hx : Passes CX X.nox (upX El)) (ma : (a, HO.ins C dx fs) ∈ L) (h : sp [.ref a] L Q El) (hjk : k + 1 ≤ j := by decide) : GAt X n (.ref a) L Q := fun pins s σ H u ex hH I r => by
  obtain rfl : u = Value.ref a := r
  obtain ⟨mA, O, _⟩ := ins_get I.hok (hH.get ma)
  obtain ⟨od, J, _⟩ := O.look
  obtain ⟨rest, hrec⟩ := hp.rec_
  have I1 := I.tok (s.toks + 1)
  have hc : (PySem.W.clsIn X.K C).isSome = true := by
    obtain ⟨cd, hc, _⟩ := PySem.W.any_some c.hd
    rw [hc]
    rfl
  refine PySem.W.get_bind I.kIn J (PySem.W.plainGet_of (c.get n)).1 (PySem.W.findObj_data hc hp.at_ hp.get hp.tak) (PySem.W.plainGet_of (c.get n)).2 (wpAny_call (PySem.W.prop_get (s := { s with toks := s.toks + 1 }) I.kIn hrec ?_))
  refine codeAny_mono (F X.A.in1 X.stack { s with toks := s.toks + 1 } H [.ref a] [.ref a] _ _ (hr.mono hjk).in1 I1.env0.in1 (.cons rfl .nil) (up_sp hH h)) fun r s' hq => ?_
  cases r with
  | error er => exact False.elim (hx pins σ H { s with toks := s.toks + 1 } er s' (I1.wish _) hq)
  | ok fl =>
    cases fl with
    | ret u =>
      obtain ⟨v, H', I3, rv, q3⟩ := I1.after hq
      show wpAny _ _ (handedOut u) _ _ _
      rw [PySem.W.handedOut_of (handed_of rv)]
      exact wpAny_pure ⟨v, H', I3, rv, q3⟩
    | next => exact False.elim hq
    | brk => exact False.elim hq
    | cont => exact False.elim hq
end
end G
set_option Elab.async false
set_option linter.all false
set_option maxRecDepth 100000
set_option maxHeartbeats 4000000
namespace G
open PySem PySem.Spec PyProof.Rows L2
def RowO (o : HO) (xs : List V) : Prop := o = .lst xs ∨ o = .tup xs
section
variable {X : Cx} {η : En} {L : Lg} {e tg : Expr} {elts : List Expr} {kk : Nat} {tpos p pos : Pos} {Q : Src → Lg → Prop} {o : HO} {xs : List V}
theorem gi_rowO (ro : RowO o xs) (h : GE X e η L fun v L1 => ∃ q, v = .ref q ∧ (q, o) ∈ L1 ∧ Q ⟨xs.length, fun M => (q, o) ∈ M, itemAt xs⟩ L1) : GI X tg e η L Q := by
  rcases ro with rfl | rfl
  · exact gi_list (h.imp fun v L1 ⟨q, ev, m, z⟩ => ⟨q, xs, ev, m, z⟩)
  · exact gi_tuple (h.imp fun v L1 ⟨q, ev, m, z⟩ => ⟨q, xs, ev, m, z⟩)
end
end G
namespace G
open PySem PySem.Spec PyProof.Rows L2
end G
set_option Elab.async false
set_option linter.all false
set_option maxRecDepth 100000
set_option maxHeartbeats 4000000
namespace G
open PySem PySem.Spec PyProof.Rows L2
theorem memR {α : Type} {a : α} {l r : List α} (h : a ∈ r) : a ∈ l ++ r := List.mem_append_right _ h
theorem memL {α : Type} {a : α} {l r : List α} (h : a ∈ l) : a ∈ l ++ r := List.mem_append_left _ h
theorem Swap.right {p : Addr} {o : HO} {L M : Lg} (s : Swap p o L M) : ∀ {E : Lg}, Swap p o (E ++ L) (E ++ M)
  | [] => s
  | _ :: E => .there (Swap.right s (E := E))
theorem subl_app {α : Type} {l e r : List α} (h : List.Sublist l r) : List.Sublist l (e ++ r) := h.trans (List.sublist_append_right e r)
section
variable {a b x : Addr × HO} {R L es : Lg}
theorem rotStep (s : Sub (a :: b :: R) L) : Sub (a :: b :: x :: R) (x :: L) := rot12.trans (Sub.cons s)
theorem rotApp (s : Sub (a :: b :: R) L) : Sub (a :: b :: (es ++ R)) (es ++ L) := (rotL es).trans (Sub.append s)
end
/-- the references of entries -/
abbrev refs (es : Lg) : List V := es.map fun e => V.ref e.1
section
variable {X : Cx} {η : En} {L : Lg} {elt iter tg : Expr} {ifs : List Expr} {scope : Scope} {pos p1 p2 p3 : Pos} {x y : Str} {f : V → En} {g : V → V → En} {Q : QV}
/-- a turn: the test, then the element, a new object o -/
abbrev TurnF (X : Cx) (scope : Scope) (ifs : List Expr) (elt : Expr) (R : Lg) (θ : En) (b0 : Bool) (o : HO) : Prop := AllBlk X scope fun B => GTs B ifs θ R fun b M1 => b = b0 ∧ Sub R M1 ∧ (b = true → AllBlk X scope fun B => GE B elt θ M1 fun z M2 => ∃ a, z = .ref a ∧ Sub ((a, o) :: R) M2)
theorem turnF_use {θ : En} {b0 : Bool} {o : HO} {R M : Lg} (h : TurnF X scope ifs elt R θ b0 o) (s : Sub R M) :
    AllBlk X scope fun B => GTs B ifs θ M fun b M1 => b = b0 ∧ Sub R M1 ∧ (b = true → AllBlk X scope fun B => GE B elt θ M1 fun z M2 => ∃ a, z = .ref a ∧ Sub ((a, o) :: R) M2) := fun s1 H1 C1 cl1 fp1 => by
  refine GTs.sub s ?_
  have k := h s1 H1 C1 cl1 fp1
  have key : ∀ b M1, (b = b0 ∧ Sub R M1 ∧ (b = true → AllBlk X scope fun B => GE B elt θ M1 fun z M2 => ∃ a, z = .ref a ∧ Sub ((a, o) :: R) M2)) → ∀ M2, Sub M1 M2 → b = b0 ∧ Sub R M2 ∧ (b = true → AllBlk X scope fun B => GE B elt θ M2 fun z M2 => ∃ a, z = .ref a ∧ Sub ((a, o) :: R) M2) :=
    fun b M1 ⟨e, s1, k⟩ M2 s2 => ⟨e, s1.trans s2, fun hb s3 H3 C3 cl3 fp3 => GE.sub s2 (k hb s3 H3 C3 cl3 fp3)⟩
  match ifs, k with
  | [], k => exact key _ _ k
  | [c], k => exact k.imp key
/-- what such a comprehension is shown of -/
structure FreshC (X : Cx) (scope : Scope) (ifs : List Expr) (elt : Expr) (S : Src) (L : Lg) (st : V → Lg → (En → Lg → Prop) → Prop) (p : Nat → Bool) (pl : Nat → HO) : Prop where
  n : S.n ≤ 1000000
  kp : ∀ M, (∀ e ∈ L, e ∈ M) → S.keep M
  tn : ∀ i x E R M, i < S.n → S.item i x E → ((E ++ M).map (·.1)).Nodup → (∀ e ∈ L, e ∈ R) → Sub R M → st x (E ++ M) fun θ M' => AllBlk X scope fun B => GTs B ifs θ M' fun b M1 => b = p i ∧ Sub R M1 ∧ (b = true → AllBlk X scope fun B => GE B elt θ M1 fun z M2 => ∃ a, z = .ref a ∧ Sub ((a, pl i) :: R) M2)
theorem range_moreO {p : Nat → Bool} {g : Nat → HO} {i : Nat} : ((List.range (i + 1)).filter p).map g = ((List.range i).filter p).map g ++ (if p i = true then [g i] else []) := by
  rw [List.range_succ, List.filter_append, List.map_append]
  congr 1
  by_cases h : p i = true
  · rw [if_pos h, List.filter_cons_of_pos h]
    rfl
  · rw [if_neg h, List.filter_cons_of_neg h]
    rfl
theorem rotE {a b : Addr × HO} {es L : Lg} : Sub (b :: ((es ++ [a]) ++ L)) (b :: a :: (es ++ L)) := Sub.perm (by
  refine .cons b ?_
  rw [List.append_assoc]
  exact List.perm_middle)
theorem rotE2 {a b : Addr × HO} {R : Lg} : Sub (b :: a :: R) (a :: b :: R) := Sub.perm (.swap _ _ _)
theorem FreshC.lc {S : Src} {st : V → Lg → (En → Lg → Prop) → Prop} {p : Nat → Bool} {pl : Nat → HO} (h : FreshC X scope ifs elt S L st p pl) (mono : ∀ v M (k k' : En → Lg → Prop), (∀ θ M', k θ M' → k' θ M') → st v M k → st v M k') (D : Addr)
    (q : ∀ es : Lg, es.map (·.2) = ((List.range S.n).filter p).map pl → Q (.ref D) ((D, .lst (refs es)) :: (es ++ L))) : ∃ Pv, LcS X scope ifs elt S D L st Pv (drp Q) := by
  refine ⟨fun i M => ∃ es : Lg, es.map (·.2) = ((List.range i).filter p).map pl ∧ Sub ((D, .lst (refs es)) :: (es ++ L)) M, ⟨[], rfl, Sub.refl⟩, fun i M _ nd ⟨es, _, s⟩ => h.kp M fun e m => (s.to nd).2 e (List.mem_cons_of_mem _ (memR m)), fun i x E M hi it nd ⟨es, e0, s⟩ => ?_, fun M ⟨es, e0, s⟩ => ⟨_, s, q es e0⟩⟩
  refine mono x (E ++ M) _ _ (fun θ M' k => ?_) (h.tn i x E _ M hi it nd (fun e m => List.mem_cons_of_mem _ (memR m)) s)
  intro s1 H1 C1 cl1 fp1
  have k1 := k s1 H1 C1 cl1 fp1
  have more := range_moreO (p := p) (g := pl) (i := i)
  have key : ∀ b M1, (b = p i ∧ Sub ((D, .lst (refs es)) :: (es ++ L)) M1 ∧ (b = true → AllBlk X scope fun B => GE B elt θ M1 fun z M2 => ∃ a, z = .ref a ∧ Sub ((a, pl i) :: (D, .lst (refs es)) :: (es ++ L)) M2)) →
      if b = true then AllBlk X scope fun B => GE B elt θ M1 fun y M2 => ∃ acc M3, (D, HO.lst acc) ∈ M2 ∧ acc.length < sizeLine ∧ Swap D (.lst (acc ++ [y])) M2 M3 ∧ ∃ es : Lg, es.map (·.2) = ((List.range (i + 1)).filter p).map pl ∧ Sub ((D, .lst (refs es)) :: (es ++ L)) M3
      else ∃ es : Lg, es.map (·.2) = ((List.range (i + 1)).filter p).map pl ∧ Sub ((D, .lst (refs es)) :: (es ++ L)) M1 := fun b M1 ⟨eb, sb, hb⟩ => by
    cases b with
    | true =>
      rw [if_pos rfl]
      intro s2 H2 C2 cl2 fp2
      refine GE.nd ((hb rfl s2 H2 C2 cl2 fp2).imp fun y M2 ⟨a, ey, s3⟩ nd => ?_)
      have s4 : Sub ((D, .lst (refs es)) :: (a, pl i) :: (es ++ L)) M2 := rotE2.trans s3
      have m2 := (s4.to nd).2 _ List.mem_cons_self
      obtain ⟨M3, sw⟩ := Swap.ex (o := .lst (refs es ++ [y])) (u := .lst (refs es)) rfl m2
      have len : es.length ≤ i := by
        have e1 := congrArg List.length e0
        rw [List.length_map, List.length_map] at e1
        have := List.length_filter_le p (List.range i)
        rw [List.length_range] at this
        omega
      refine ⟨_, M3, m2, ?_, sw, es ++ [(a, pl i)], ?_, ?_⟩
      · rw [List.length_map, sizeLine_eq]
        have := h.n
        omega
      · rw [more, if_pos eb.symm, List.map_append, e0]
        rfl
      · subst ey
        have z : Sub ((D, .lst (refs es ++ [V.ref a])) :: (a, pl i) :: (es ++ L)) M3 := s4.swap sw
        have e2 : refs (es ++ [(a, pl i)]) = refs es ++ [V.ref a] := by
          show List.map _ _ = _
          rw [List.map_append]
          rfl
        rw [e2]
        exact rotE.trans z
    | false =>
      rw [if_neg Bool.false_ne_true]
      refine ⟨es, ?_, sb⟩
      rw [more, if_neg (by rw [← eb]; exact Bool.false_ne_true), List.append_nil]
      exact e0
  match ifs, k1 with
  | [], k1 => exact key _ _ k1
  | [c], k1 => exact k1.imp fun b M1 z => key b M1 z
def FreshL (X : Cx) (scope : Scope) (ifs : List Expr) (elt : Expr) (st : V → Lg → (En → Lg → Prop) → Prop) (R : V → Lg → Prop) (S : Src) (L1 : Lg) : Prop := ∃ p pl, FreshC X scope ifs elt S L1 st p pl ∧ ∀ D es, es.map (·.2) = ((List.range S.n).filter p).map pl → R (.ref D) ((D, .lst (refs es)) :: (es ++ L1))
/-- [elt for x in iter if ..], each turn makes one new object -/
theorem ge_lcF (P : PutF x η f) (h : GI X (.Name x p1) iter η L (FreshL X scope ifs elt (stOne f) Q)) (hb : blkC X.N X.env.scope scope [(x, X.N.idxOf x)] = true) (hlx : LocB X scope x := by exact fun _ _ _ _ _ => ⟨.inl rfl, .inr rfl⟩)
    (hN : X.N.Nodup := by assumption) (hc : X.calm = true := by rfl) (hs : ∀ z, foldedSetIterable iter X.env z = pure z := by intro _; rfl) : GE X (.ListComp elt [⟨.Name x p1, iter, ifs, 0⟩] scope pos) η L Q :=
  GE.undrp (ge_lc1 P (h.imp fun S L1 ⟨p, g, pc, q⟩ D => pc.lc monoOne D (q D)) hb hlx hN hc hs)
theorem ge_lcF2 {kt : Nat} {pt : Pos} (P : PutF x η f) (R : ∀ v, PutF y (f v) (g v)) (h : GI X (.Tuple [.Name x p1, .Name y p2] kt pt) iter η L (FreshL X scope ifs elt (stTwo g) Q)) (hxy : x ≠ y) (hb : blkC X.N X.env.scope scope [(x, X.N.idxOf x), (y, X.N.idxOf y)] = true) (hlx : LocB X scope x := by exact fun _ _ _ _ _ => ⟨.inl rfl, .inr rfl⟩) (hly : LocB X scope y := by exact fun _ _ _ _ _ => ⟨.inl rfl, .inr rfl⟩)
    (hN : X.N.Nodup := by assumption) (hc : X.calm = true := by rfl) (hs : ∀ z, foldedSetIterable iter X.env z = pure z := by intro _; rfl) : GE X (.ListComp elt [⟨.Tuple [.Name x p1, .Name y p2] kt pt, iter, ifs, 0⟩] scope pos) η L Q :=
  GE.undrp (ge_lc2 P R (h.imp fun S L1 ⟨p, g, pc, q⟩ D => pc.lc monoTwo D (q D)) hxy hb hlx hly hN hc hs)
variable {R : V → Lg → Prop} {q : Addr} {o : HO} {xs : List V} {p : Nat → Bool} {pl : Nat → HO}
/-- over a row -/
theorem fresh_rowO (mq : (q, o) ∈ L) (hl : xs.length ≤ 1000000) (ht : ∀ i v R, xs[i]? = some v → (∀ e ∈ L, e ∈ R) → TurnF X scope ifs elt R (f v) (p i) (pl i)) (r : ∀ D es, es.map (·.2) = ((List.range xs.length).filter p).map pl → R (.ref D) ((D, .lst (refs es)) :: (es ++ L))) : FreshL X scope ifs elt (stOne f) R ⟨xs.length, fun M => (q, o) ∈ M, itemAt xs⟩ L := by
  refine ⟨p, pl, ⟨hl, fun M h => h _ mq, fun i x E R M hi ⟨hx, hE⟩ _ hR s => ?_⟩, r⟩
  subst hE
  exact turnF_use (ht i x R hx hR) s
/-- over a range -/
theorem fresh_fn {n : Nat} {h : Nat → V} (hl : n ≤ 1000000) (ht : ∀ i R, i < n → (∀ e ∈ L, e ∈ R) → TurnF X scope ifs elt R (f (h i)) (p i) (pl i)) (r : ∀ D es, es.map (·.2) = ((List.range n).filter p).map pl → R (.ref D) ((D, .lst (refs es)) :: (es ++ L))) : FreshL X scope ifs elt (stOne f) R ⟨n, fun _ => True, itemFn h⟩ L := by
  refine ⟨p, pl, ⟨hl, fun M h => True.intro, fun i x E R M hi ⟨hx, hE⟩ _ hR s => ?_⟩, r⟩
  subst hE hx
  exact turnF_use (ht i R hi hR) s
end
theorem at_ints {l : List Int} {i : Nat} (h : i < l.length) : atI (l.map V.int) (i : Int) = some (.int (l.getD i 0)) := atI_nat (by rw [List.getElem?_map, List.getD_eq_getElem?_getD, List.getElem?_eq_getElem h] <;> rfl)
theorem es_pairs : ∀ {es : Lg} {ds : List (Int × Int)}, es.map (·.2) = ds.map (fun d => HO.tup [.int d.1, .int d.2]) → ∃ ps : List Pr2, ps.map (fun e => (e.1, HO.tup [.int e.2.1, .int e.2.2])) = es ∧ ps.map (·.2) = ds
  | [], [], _ => ⟨[], rfl, rfl⟩
  | [], _ :: _, h => by cases h
  | _ :: _, [], h => by cases h
  | e :: es, d :: ds, h => by
    rw [List.map_cons, List.map_cons] at h
    injection h with h1 h2
    obtain ⟨ps, l, e2⟩ := es_pairs h2
    refine ⟨(e.1, d) :: ps, ?_, by rw [List.map_cons, e2]⟩
    rw [List.map_cons, l, ← h1]
section
variable {X : Cx} {η : En} {L : Lg} {a b c : Expr} {op op' : CmpOp} {pos : Pos} {Q : Bool → Lg → Prop}
/-- a < b < c as a test -/
theorem gt_chain (h : GE X a η L fun x L1 => GE X b η L1 fun y L2 => GOp X (compareOp op) x y L2 fun z L3 => ∃ k, z = .bl k ∧ if k = true then GE X c η L3 fun w L4 => GOp X (compareOp op') y w L4 fun z L5 => ∃ k, z = .bl k ∧ Q k L5 else Q false L3)
    (hm : lastMarks [op, op'] [b, c] = false := by with_unfolding_all rfl) : GT X (.Compare a [op, op'] [b, c] pos) η L Q := fun hN H hH =>
  WT.of (pt_chain (r := fun x y H' Q' => ∀ pins s σ v u, Inv X pins σ H' s → RelV x v → RelV y u → wpAny (model X.prog X.w) X.A (compareOp op v u) (EP X pins σ Q') X.xe s)
    (r' := fun x y H' Q' => ∀ pins s σ v u, Inv X pins σ H' s → RelV x v → RelV y u → wpAny (model X.prog X.w) X.A (compareOp op' v u) (EP X pins σ Q') X.xe s)
    (fun pins s σ H' x y v u Q' I r1 r2 q => q pins s σ v u I r1 r2) (fun pins s σ H' x y v u Q' I r1 r2 q => q pins s σ v u I r1 r2) pe_W pe_W pe_W hm)
    (h.then hN hH fun x _ _ h1 q1 => q1.then hN h1 fun y _ _ h2 q2 => fun pins s σ v u I r1 r2 => by
      refine wpAny_mono (q2 pins s σ _ v u h2 I r1 r2) (fun z s' zz => ?_) fun _ _ z => z
      obtain ⟨zv, H3, I3, r3, L3, h3, k, ek, q3⟩ := zz
      refine ⟨zv, H3, I3, r3, k, ek, ?_⟩
      cases k with
      | true =>
        rw [if_pos rfl] at q3
        rw [if_pos rfl]
        exact q3.then hN h3 fun w L4 H4 h4 q4 => fun pins s σ v u I r1 r2 => thn (q4 pins s σ _ v u h4 I r1 r2) fun _ _ ⟨z, H5, J, r5, L5, h5, k5, ek5, q5⟩ => ⟨z, H5, J, r5, k5, ek5, L5, h5, q5⟩
      | false =>
        rw [if_neg Bool.false_ne_true] at q3
        rw [if_neg Bool.false_ne_true]
        exact ⟨false, rfl, L3, h3, q3⟩)
end
theorem gat_fldA {X : Cx} {L : Lg} {Q : QV} {a C dx : Addr} {fs : List (Str × V)} {n : Str} {v : V} (mm : (a, HO.ins C dx fs) ∈ L) (c : L2.Cls X.K C) (no : NoAttr X.K C n) (l : fs.lookup n = some v) (q : Q v L) : GAt X n (.ref a) L Q := gat_fld c no mm l q
section
variable {X : Cx} {L : Lg} {Q : QV} {p : Addr} {xs : List V}
theorem gc_tupL (m : (p, HO.lst xs) ∈ L) (h : ∀ q, Q (.ref q) ((q, .tup xs) :: L)) : GC X (.type "tuple") [.ref p] L Q := GC.of call_tuple_of fun H hH => ⟨p, xs, rfl, .inl ⟨sql hH m, fun l hl => ⟨_, hH.new hl, h l⟩⟩⟩
end
end G
set_option Elab.async false
set_option linter.all false
set_option maxRecDepth 100000
set_option maxHeartbeats 4000000
namespace G
open PySem PySem.Spec PyProof.Rows L2 NdefX ClX
def GAs (X : Cx) (B sts : List Stmt) (D : GD) (η : En) (L : Lg) : Prop := X.N = names η → ∀ H, Has H L → AtSs X B sts (D.ends X) (vals η) H
section
variable {X : Cx} {B rest sts : List Stmt} {D : GD} {η : En} {L : Lg} {st : Stmt}
theorem gas_stm (h : GS X st { D with nx := fun θ L1 => GAs X B rest D θ L1 } η L) : GAs X B (st :: rest) D η L := fun hN H hH pins s I => by
  refine _root_.PySem.ks_wpAt_execs_cons (_root_.PySem.wpAt_of_wpAny (wpAny_mono (h hN H hH pins s I) (fun fl s' z => ?_) fun _ _ z => z))
  cases fl with
  | next =>
    obtain ⟨σ1, H1, J, θ, L1, n1, es, h1, q1⟩ := z
    rw [es] at J
    exact q1 n1 H1 h1 pins s' J
  | brk => exact z
  | cont => exact z
  | ret u => exact z
end
section
variable {X : Cx} {CX : CXT} {B rest : List Stmt} {D : GD} {W : XW} {η : En} {L : Lg} {x q n : Str} {st : Stmt} {f c cc D0 C a dx g : Addr} {fd : FuncData} {ar : Arg} {fs : List (Str × V)} {sp : SpL} {El : XL} {j k : Nat} {e : Expr} {es : List Expr} {p0 p1 p2 p3 p4 : Pos} {pl : Sem Bool}
/-- the same where the def above may raise -/
theorem gas_supX (F : SupF X.prog X.K x q st f c cc D0 fd) (T : SupM X.K X.mg C D0 n g) (hfu : X.env.func = some f) (hco : X.env.code = .ref c) (hcl : X.env.cells.lookup ("__class__" : Str) = some cc) (hp : (fd.params.posonlyargs ++ fd.params.args).head? = some ar)
    (hks : X.env.kindOf "super" = some .globalImplicit) (hkc : X.env.kindOf "__class__" = some .free) (hka : X.env.kindOf ar.arg = some .local)
    (R : RunG X.prog X.w X.K X.mg X.base (L2.CX X.prog X.w) k g argsP (toSp sp)) (hr : RoomG j X.A) (tk : Tk X W) (hat : At ar.arg (.ref a) η) (mm : (a, HO.ins C dx fs) ∈ L)
    (h : ∀ u, GA X (e :: es) η ((u, .met g a) :: L) fun vs L1 => (u, HO.met g a) ∈ L1 ∧ sp (.ref a :: vs) L1 (fun _ L2 => GSs X rest D η L2) fun c d L' => W c d η L') (hjk : k ≤ j := by decide)
    (hn : (n == ("__class__" : Str)) = false := by decide) (he : starEach (e :: es) X.env = (false, eval e X.env) :: starEach es X.env := by rfl) (hpl : (backTo p3 (starEach es X.env)).any (·.1) = false := by rfl) (hint : interactive X.env = false := by rfl)
    (hsw : swapsWith (.Call (.Attribute (.Call (.Name "super" p0) [] [] p1) n p2) (e :: es) [] p3) none p4.line X.env = pure false := by rfl)
    (hev : eval (.Call (.Attribute (.Call (.Name "super" p0) [] [] p1) n p2) (e :: es) [] p3) X.env = (do
      let ov ← attributeBase (.Call (.Name "super" p0) [] [] p1) n X.env (eval (.Call (.Name "super" p0) [] [] p1) X.env)
      standAt p2.atName
      let (ff, first) ← holding [ov] (getMethod ov n pl)
      callWith p3 ff first (backTo p3 (starEach (e :: es) X.env)) []) := by rfl) :
    GAs X B (.Expr (.Call (.Attribute (.Call (.Name "super" p0) [] [] p1) n p2) (e :: es) [] p3) p4 :: rest) D η L := fun hN H hH pins s I => by
  obtain ⟨oc, od, kV, doc, pm, ct, an, osl, efd, lk⟩ := F.ex
  obtain ⟨ccl, cdd, vs, ccs, fl, tf, lc, hvs, hfile⟩ := F.file
  obtain ⟨cl, cld, csl, hcell⟩ := F.cell
  obtain ⟨cdD, hD⟩ := F.cls
  obtain ⟨mb, hb1, hb2⟩ := I.mod.blt
  obtain ⟨oD, hD1, hD2⟩ : ∃ oD, s.heap.get? D0 = some oD ∧ oD.data = .cls cdD := by
    unfold PySem.W.clsIn at hD
    split at hD
    · rename_i c' d' cd' sl' ho
      cases hD
      exact ⟨_, I.kIn _ _ ho, rfl⟩
    · cases hD
  obtain ⟨cdC, hcC⟩ := T.cls
  obtain ⟨i, hi, hs⟩ := hat.idx
  obtain ⟨mA, O, _, _, _, _⟩ := ins_get I.hok (hH.get mm)
  obtain ⟨oda, IA, _⟩ := O.look
  have xC : a ≠ C := PySem.W.ks_ne I.kIn IA hcC
  refine _root_.PySem.ks_wpAt_execs_cons (_root_.PySem.ks_wpAt_Expr_any (_root_.PySem.ks_wpAt_MethodCall (pl := pl) (_root_.PySem.ks_wpAt_super_base hks hkc hn hfu (I.kIn _ _ lk) rfl hp hco (I.kIn _ _ lc) rfl hvs hfile F.top ?_) hev) hint hsw)
  refine PySem.W.ks_loadName_global I.ok.kind hks (Calls.loadGlobal_builtin (by rw [I.ok.glob]; exact I.mod.glob.keeps I.bk) T.su (by rw [I.ok.blt]; exact hb1.keeps I.bk) ((hb2 _ (by decide)).trans (by decide +kernel)) ⟨rfl, ?_⟩)
  refine wpAny_loadName_free I.ok.kind hkc hcl ⟨_, I.kIn _ _ hcell, rfl⟩ ?_
  obtain ⟨m, hns, hl⟩ := id I.loc
  obtain ⟨u, r, qq⟩ := hl i _ _ (by rw [hN]; exact hi) hs (.inl hka)
  obtain rfl : u = Value.ref a := r
  rcases qq with ⟨_, em⟩ | ⟨kk, _⟩
  · refine wpAny_loadName_local I.ok.kind hka hns em ?_
    obtain ⟨hp', g', d, t, os⟩ := s
    refine _root_.PySem.ks_wpAny_isType_cls hD1 hD2 ⟨rfl, ?_⟩
    refine _root_.PySem.ks_wpAny_call_super hD1 hD2 IA.at_ IA.cls (fun c e => ?_) (PySem.W.looks_mroIn I.kIn T.sub) (fun h' eS kS => ?_)
    · have := IA.no
      unfold PySem.W.notCls at this
      rw [e] at this
      exact Bool.noConfusion this
    have J1 : Inv X pins (vals η) H ⟨h', g', d, t, os⟩ := I.kept (t' := t) kS
    have sm' := T.sm
    unfold PySem.W.ks_superIn at sm'
    rw [hcC] at sm'
    obtain ⟨of, hof, hofc⟩ : ∃ of, h'.get? g = some of ∧ of.cls = .type "function" := by
      have ht' : (X.K.lookup g).map (·.cls) = some (.type "function") := T.tg
      cases z : X.K.lookup g with
      | none => rw [z] at ht'; cases ht'
      | some of => rw [z] at ht'; exact ⟨of, J1.kIn _ _ z, Option.some.inj ht'⟩
    refine _root_.PySem.ks_wpAny_getMethod_super eS (PySem.W.looks_opaque J1.kIn T.op) ((PySem.W.looks_clsIn J1.kIn hcC).andThen .now) rfl J1.kIn sm' hof hofc xC hn ?_
    have nu : H h'.objs.size = none := J1.hok.fresh (Nat.le_refl _)
    have J2 : Inv X pins (vals η) (upd H h'.objs.size (.met g a)) ⟨h'.push { cls := .type "method", data := .fields #[.ref g, .ref a] }, g', d, t + 1, os⟩ :=
      J1.laid (t' := t + 1) (a := h'.objs.size) (fun b o z => Heap.get?_push_of_some _ z) (Nat.le_refl _) (Heap.get?_push_size _ rfl)
    show wpAny _ _ (callWith p3 (Value.ref h'.objs.size) [] (backTo p3 (starEach (e :: es) X.env)) []) _ _ _
    have hpa := h h'.objs.size hN _ (hH.new nu) p3 pins _ J2
    rw [he] at hpa ⊢
    refine callwith_met (X := X) (g := g) (a := a) (by show ((false || (backTo p3 (starEach es X.env)).any (·.1)) || false) = false; rw [hpl]; rfl) T.fi (Calls.evalArgs_plain (thn hpa fun us s1 ⟨vs', H1, J3, r1, L1, h1, e1, qk⟩ => ?_))
    refine ⟨met_P J3 (h1.get e1), ?_⟩
    show wpAny _ _ (call (Value.ref h'.objs.size) us) _ _ _
    have hsp : toSp sp (.ref a :: vs') H1 (up fun _ L2 => GSs X rest D η L2) (fun c d H' => upW X W c d (vals η) H') := ⟨L1, _, _, h1, qk, fun _ L' _ h' q => ⟨L', h', q⟩, fun _ _ L' _ h' q => ⟨η, L', hN, rfl, h', q⟩⟩
    refine wpAny_call (call_met J3 (h1.get e1) (codeAny_mono (R _ X.stack s1 H1 (.ref a :: us) (.ref a :: vs') _ _ (hr.mono hjk) J3.env0 (.cons rfl r1) hsp) fun r s' hq => ?_))
    cases r with
    | error e => exact passAt tk (vals η) pins H1 _ e s' J3 hq
    | ok fl =>
      cases fl with
      | ret w =>
        obtain ⟨v, H', J4, rv, L2, h2, qf⟩ := J3.after hq
        exact AtSs.any (qf hN H' h2) pins s' J4
      | next => exact hq.elim
      | brk => exact hq.elim
      | cont => exact hq.elim
  · rcases kk with kk | kk
    · have z := kk.symm.trans hka
      cases z
    · have z := kk.symm.trans hka
      cases z
end
/-- what such a method lets out is taken -/
theorem tk_sup {P : Program} {w : World} {K : PySem.W.Frag} {mg : Str → Option Value} {base : Heap} {N : List Str} {x q : Str} {st : Stmt} {cc c f : Addr} {A : Around} {outer : List Env} {s : Shared} {H : Hp} {E0 : XK} {E : XL} (he : ∀ c d L' H', Has H' L' → E c d L' → E0 c d H') :
    Tk (cxS (L2.CX P w) P w K mg base N x q st cc c f A outer s H E0) (fun c d _ L' => drpE E c d L') :=
  (takes_of rfl rfl rfl rfl).imp fun c d σ H' ⟨η, L', _, _, h', M, sb, z⟩ => he c d M H' (sb _ h') z
section
variable {X : Cx} {CX : CXT} {j k : Nat} {C g a b dx dy : Addr} {fs gs : List (Str × V)} {sp : SpL} {El : XL} {L : Lg} {Q : QV} {y : V} {T : String} {r : Bool}
theorem gc_isKO (ky : Knd L y T) (e : PySem.W.kitOne X.K (.type T) (.ref C) = some r) (h : Q (.bl r) L) : GC X (.builtin "isinstance") [y, .ref C] L Q := GC.of call_isi fun H hH => ⟨y, .ref C, .type T, .ref C, r, rfl, .own C, ky.ty H hH, e, L, hH, h⟩
end
def GJs (X : Cx) (es : List Expr) (η : En) (acc : Str) (L : Lg) (Q : Str → Lg → Prop) : Prop := match es with
  | [] => Q acc L
  | e :: r => GE X e η L fun x L1 => ∃ y : Str, x = .str y ∧ (acc ++ y).length ≤ sizeLine ∧ GJs X r η (acc ++ y) L1 Q
section
variable {X : Cx} {η : En} {L : Lg} {Q : QV} {e : Expr} {pos : Pos}
theorem GJs.to : ∀ {es : List Expr} {acc : Str} {L : Lg} {Q : Str → Lg → Prop} {Q' : Str → Hp → Prop}, GJs X es η acc L Q → X.N = names η → ∀ {H : Hp}, Has H L → (∀ v L1 H1, Has H1 L1 → Q v L1 → Q' v H1) → tJs (es.map (WE X)) acc (vals η) H Q'
  | [], acc, L, Q, Q', h, hN, H, hH, m => m _ _ _ hH h
  | e :: r, acc, L, Q, Q', h, hN, H, hH, m => GE.then h hN hH fun x L1 H1 h1 ⟨y, ey, z, q⟩ => ⟨y, ey, z, GJs.to q hN h1 m⟩
end
end G
set_option Elab.async false
set_option linter.all false
set_option maxRecDepth 100000
set_option maxHeartbeats 4000000
namespace PySem.W
open PySem PySem.Calls PyProof.Rows
end PySem.W
namespace G
open PySem PySem.Spec PyProof.Rows L2
/-- one entry's place -/
theorem Swap.lens {p : Addr} {o : HO} {L M : Lg} (s : Swap p o L M) : ∃ f : HO → Lg, f o = M ∧ (∀ o', Swap p o' L (f o')) ∧ ∀ o1 o2, plain o1 = true → Swap p o2 (f o1) (f o2) := by
  induction s with
  | @here u L pl => exact ⟨fun o => (p, o) :: L, rfl, fun _ => .here pl, fun _ _ h => .here h⟩
  | @there e L M s ih =>
    obtain ⟨f, a, b, c⟩ := ih
    exact ⟨fun o => e :: f o, congrArg (e :: ·) a, fun o => .there (b o), fun o1 o2 h => .there (c o1 o2 h)⟩
section
variable {X : Cx} {η : En} {L : Lg} {Q : QV} {j k : Nat} {x a : Str} {st : Stmt} {Ng : List Str} {params : Arguments} {body : Expr} {scope : Scope} {p lpos pos : Pos} {c P : Addr}
/-- the same, where the def that gets the lambda may have laid more by then -/
theorem ge_lamcallM {AM : Lg → QV} {EM : Lg → XL} (F : Df X.K X.mg x st) (S : FnScope Ng [a] (defScope st)) (hb : ∀ (kV doc pm : Value) (an : Option Addr) (cdv ct : Value) (us : List Value), us.length = [a].length → bindArgs (PySem.W.fnOf x x (defArgs st) (defBody st) (defScope st) .none kV doc pm an cdv ct) ⟨us, []⟩ = pure ([a].zip us))
    (hl : 1 ≤ Ng.length) (TB : LamX.TabB X.base X.mg c P) (hcode : X.env.code = .ref c) (mT : (P, tabM (X.env.qual ++ "<lambda>")) ∈ L) (hr : RoomG (k + 2) X.A)
    (hS : LamX.LamS X.env.scope scope) (lam : ∀ M, (∀ e ∈ L, e ∈ M) → LamOk X scope body η k M (AM M) (EM M))
    (heard : ∀ (Z : Cx) (g f : Addr) (cdv : Value) (s : Shared) (H : Hp) (E0 : XK), Z = cx0 X.prog X.w X.K X.mg X.base Ng x (defScope st) g cdv X.A X.stack s H E0 → Z.N.Nodup → RoomG (k + 1) Z.A → (∀ M, (∀ e ∈ L, e ∈ M) → Act Z a f M (AM M) (EM M)) → GSs Z (defBody st) (bodyD Q) (begun Ng [.ref f]) L)
    (hdef : defaultsOf params X.env = ([], []) := by rfl) (hbind : ∀ (q : Str) (cl : List (Str × Addr)) (pm cv ctv : Value), bindArgs (PySem.W.kla_fn "<lambda>" q params body scope cl pm cv ctv) ⟨[], []⟩ = pure [] := by intros; rfl) (hg : Gl X x := by rfl)
    (hdb : (x == ("__debug__" : Str)) = false := by decide) (hd : (a == ("__debug__" : Str)) = false := by decide) (hcd : (a == ("__classdict__" : Str)) = false := by decide) :
    GE X (.Call (.Name x p) [.Lambda params body scope lpos] [] pos) η L Q := fun hN H hH pins s I => by
  obtain ⟨g, fd, hm, F⟩ := F
  obtain ⟨oc, od, kV, doc, pm, an, cdv, ct, osl, rfl, lk, hcg⟩ := F.ex
  refine wpAny_Call_Name_kw (ld_glob I hg hm ?_ hdb)
  refine PySem.W.callWith_K (h₀ := X.base) I.ok.mod.kin F.kp ?_ (by rfl) (by rfl)
  show wpAny _ _ (spliced ((false, eval (.Lambda params body scope lpos) X.env) :: backTo pos (starEach [] X.env))) _ _ s
  refine Calls.spliced_cons (lam_made I TB hcode (holds_tab (hH.2 _ mT)) hdef (hS.has I.ok) fun f c' pm' ctv H1 s1 ps I1 gr hP1 ht1 hc1 T1 hf hfn hfr => ?_)
  have hH1 := has_made hH mT gr T1
  refine Calls.spliced_nil ⟨I1.kIn, ?_⟩
  have rc : codeAny (model X.prog X.w) X.A (.call (.ref g) ⟨[.ref f], []⟩) (CR CX0 X.stack X.prog X.w H1 s1 (up Q) fun _ _ _ => False) s1 := by
    refine LamX.run_ofS (CX := CX0) (N := Ng) (ps := [a]) (us := [.ref f]) (vs := [.ref f]) lk hcg S hr.toRoom I1.env0 (.of_eq (hb kV doc pm an cdv ct [.ref f] rfl)) (.cons rfl .nil) rfl fun hr2 => ?_
    let Z : Cx := cx0 X.prog X.w X.K X.mg X.base Ng x (defScope st) g cdv X.A X.stack s1 H1 (fun _ _ _ => False)
    have act : ∀ M, (∀ e ∈ L, e ∈ M) → Act Z a f M (AM M) (EM M) := fun M hM pn xe W θ p1 p2 tk hW hat hNθ HZ hHZ pinsZ sZ IZ => by
      obtain ⟨i, i1, i2⟩ := hat.idx
      have va : Vis (trX Z pn xe).env.scope a := (S.par a (List.mem_singleton.mpr rfl)).elim .inl fun z => .inr (.inl z)
      refine wpAny_Call_Name_kw (thn ((pe_var (X := trX Z pn xe) (pos := p1) (i := i) (by rw [hNθ]; exact i1) va hd hcd).run pinsZ sZ (vals θ) HZ (fun v H2 => v = .ref f ∧ H2 = HZ) IZ ⟨.ref f, i2, rfl, rfl⟩) fun u s2 ⟨v, H2, I2, r2, q2⟩ => ?_)
      obtain ⟨ev, eH⟩ := q2
      subst ev
      rw [eH] at I2
      obtain rfl : u = Value.ref f := r2
      have un : Un (frs X.stack) [] H1 HZ s1.heap s2.heap := I2.base
      have of2 : s2.heap.get? f = some (PySem.W.kla_obj "<lambda>" (X.env.qual ++ "<lambda>") params body scope (cloFrom X.env.cells scope.names []) pm' c' ctv) := un.keep f _ hf hfn hfr (fun z => nomatch (show f ∈ ([] : List Addr) from z))
      refine PySem.W.callWith_F0 ⟨_, _, _, _, of2⟩ ?_
      -- the code object still stands
      obtain ⟨more, hP2⟩ := un.tbls P ps hP1
      obtain ⟨ps2, hP3, ht3, ha3⟩ := holds_tab (hHZ.2 _ (hM _ mT))
      have eps : ps2 = ps ++ more := by
        have z := hP3.symm.trans hP2
        exact HO.tbl.inj (Option.some.inj z)
      obtain ⟨c2, e2, hco⟩ := ha3 lpos (.ref c') (by rw [eps, Array.toList_append]; exact among_left _ _ rfl ht1 hc1)
      cases e2
      obtain ⟨⟨oc2, vs2, t2, hoc, hdc, hvc⟩, _, _⟩ := I2.hok c' _ hco
      have rcl : codeAny (model X.prog X.w) (trX Z pn xe).A (.call (.ref f) ⟨[], []⟩) (CR (L2.CX X.prog X.w) (trX Z pn xe).stack X.prog X.w HZ s2 (up (AM M)) (upX (EM M))) s2 := by
        refine PySem.W.kla_callFunE hr2.depth of2 rfl hS.co hS.gen rfl ⟨c', oc2, vs2, t2, rfl, hoc, hdc, hvc⟩ ?_
        rw [hbind]
        refine wpAny_pure (wpAny_newFunctionEnv (fun y hy => (hS.own y hy).2) (fun y hy => absurd hy (by simp)) (fun h₁ hns hsb => ⟨I2.nolimit.fresh _ hsb, ?_⟩) hS.kind)
        show codeAny _ _ (.expr body (LamX.lamEnv X scope s2.heap.objs.size f c')) _ _
        have kp : ∀ b o, s2.heap.get? b = some o → h₁.get? b = some o := fun b o e => hsb.extBut b o (Nat.ne_of_lt (Heap.lt_size e)) (Heap.get?_push_of_some _ e)
        have J := LamX.lam_start2 (tk := s2.toks + ([] : List (Str × Value)).length) (E := upX (EM M)) (f := f) (c' := c') I1 hS I2.env0 hr2.hd un hns kp
        have rb : RoomG k ((trX Z pn xe).A.deeper (LamX.lamEnv X scope s2.heap.objs.size f c')) := ⟨hr2.deeper _, guard_deeper (guard_deeper hr.gd)⟩
        have tkb : Tk (LamX.lamCx X (trX Z pn xe).A (trX Z pn xe).stack s2 HZ (upX (EM M)) scope f c') (fun c d _ L' => EM M c d L') := (takes_of rfl rfl rfl rfl).imp fun c d σ H' ⟨η', L', _, _, h', z⟩ => ⟨L', h', z⟩
        refine PySem.W.kla_codeExpr (wpAny_mono (lam M hM (trX Z pn xe).A (trX Z pn xe).stack s2 HZ (upX (EM M)) f c' rb tkb hN HZ hHZ [] _ J) (fun v s' hq => ?_) fun e s' hq => hq)
        obtain ⟨w', H', J', rv, q⟩ := hq
        exact ⟨w', H', J'.os, J'.bare, J'.base, J'.hok, rv, q⟩
      refine wpAny_call (codeAny_mono rcl fun r s' hq => ?_)
      cases r with
      | error e => exact tk e s' (XE.of_call (E := upX (EM M)) I2 (fun cls d H' ⟨L', h', z⟩ => ⟨θ, L', hNθ, rfl, h', hW _ _ _ z⟩) hq)
      | ok fl =>
        cases fl with
        | ret u => exact I2.after hq
        | next => exact False.elim hq
        | brk => exact False.elim hq
        | cont => exact False.elim hq
    exact ⟨WSs _ (defBody st), PSs.nox pss_W, body_end (X := Z) (vs := [.ref f]) hl (fun v L' H' h' q => ⟨L', h', q⟩) hH1 (heard Z g f cdv s1 H1 _ rfl S.nd ⟨hr2, guard_deeper hr.gd⟩ act)⟩
  refine wpAny_call (codeAny_mono rc fun r s2 hq => ?_)
  cases r with
  | error e => exact (show False from hq).elim
  | ok fl =>
    cases fl with
    | ret u => exact I1.after hq
    | next => exact False.elim hq
    | brk => exact False.elim hq
    | cont => exact False.elim hq
end
end G
set_option Elab.async false
set_option linter.all false
set_option maxRecDepth 100000
set_option maxHeartbeats 4000000
namespace PySem.HandSPX
open Builtin Builtin.ObjectAttr
end PySem.HandSPX
set_option Elab.async false
set_option linter.all false
set_option maxRecDepth 100000
set_option maxHeartbeats 4000000
namespace G
open PySem PySem.Spec PyProof.Rows L2 NdefX
section
variable {X : Cx} {η : En} {L : Lg} {Q : QV} {a C D dd : Addr} {fs : List (Str × V)} {c v : V} {cv : Value} {b : Bool} {n : Str}
/-- an error object in the ledger, of one class -/
inductive ErO (C : Addr) (a : Addr) (L : Lg) : Prop
  | own {dd : Addr} {fs : List (Str × V)} (m : (a, exo a C (some dd)) ∈ L) (md : (dd, exd dd fs) ∈ L) : ErO C a L
  | bare (m : (a, ExO (.ref C) a) ∈ L) : ErO C a L
theorem ErO.mono {L M : Lg} (h : ErO C a L) (s : ∀ e ∈ L, e ∈ M) : ErO C a M := by
  cases h with
  | own m md => exact .own (s _ m) (s _ md)
  | bare m => exact .bare (s _ m)
end
end G
set_option Elab.async false
set_option linter.all false
set_option maxRecDepth 100000
set_option maxHeartbeats 4000000
namespace G
open PySem PySem.Spec PyProof.Rows L2
/-- v is the value d, read without sys.modules -/
def RdS (L : Lg) (v : V) (d : PyData) : Prop := ∀ (X : Cx) (pins : List (Addr × Obj)) (σ : L2.St) (H : Hp) (s : Shared) (u : Value), Has H L → Inv X pins σ H s → RelV v u → ∃ as, Reads s.heap u d as ∧ sysModules ∉ as
section
variable {L : Lg} {v : V} {d : PyData} {p : Addr} {x : Str} {i : Int} {vs : List V} {ds : List PyData}
theorem RdS.rd (h : RdS L v d) : Rd L v d := fun X pins σ H s u hH I r => by
  obtain ⟨as, q, n⟩ := h X pins σ H s u hH I r
  exact ⟨as, q, fun _ => n⟩
theorem RdS.sub {M : Lg} (s : Sub L M) (h : RdS L v d) : RdS M v d := fun X pins σ H s' u hH I r => h X pins σ H s' u (s H hH) I r
/-- values in a row -/
inductive RdA (L : Lg) : List V → List PyData → Prop
  | nil : RdA L [] []
  | cons {v : V} {d : PyData} {vs : List V} {ds : List PyData} (h : RdS L v d) (r : RdA L vs ds) : RdA L (v :: vs) (d :: ds)
theorem RdA.run {X : Cx} {pins : List (Addr × Obj)} {σ : L2.St} {H : Hp} {s : Shared} (hH : Has H L) (I : Inv X pins σ H s) : ∀ {vs : List V} {ds : List PyData} {us : List Value}, RdA L vs ds → Vals vs us → ∃ as, ReadsAll s.heap us ds as ∧ sysModules ∉ as
  | _, _, _, .nil, .nil => ⟨[], .nil, by simp⟩
  | _, _, _, .cons h r, .cons q t => by
    obtain ⟨as, a1, a2⟩ := h X pins σ H s _ hH I q
    obtain ⟨bs, b1, b2⟩ := r.run hH I t
    exact ⟨as ++ bs, .cons a1 b1, by simp [a2, b2]⟩
end
/-- a value that is shown, alone or in a list -/
structure OddS (L : Lg) (v : V) (d : PyData) : Prop where
  o : Odd L v d
  r : RdS L v d
  dp : d.depth ≤ 10
theorem OddS.drop {L : Lg} {v : V} {d : PyData} {a : Addr × HO} (h : OddS L v d) : OddS (a :: L) v d := ⟨h.o.drop, h.r.sub Sub.drop, h.dp⟩
end G
set_option Elab.async false
set_option linter.all false
set_option maxRecDepth 100000
set_option maxHeartbeats 4000000
namespace G
open PySem PySem.Spec PyProof.Rows L2
section
variable {X : Cx} {L : Lg} {Q : QV} {q : Addr}
theorem gc_anyB {bs : List Bool} (hc : X.calm = true) (m : (q, HO.lst (bs.map V.bl)) ∈ L) (h : Q (.bl (bs.any id)) L) : GC X (.builtin "any") [.ref q] L Q := GC.of (cr_any hc) fun H hH => ⟨q, bs, rfl, sql hH m, L, hH, h⟩
theorem gc_allB {bs : List Bool} (hc : X.calm = true) (m : (q, HO.lst (bs.map V.bl)) ∈ L) (h : Q (.bl (bs.all id)) L) : GC X (.builtin "all") [.ref q] L Q := GC.of (cr_all hc) fun H hH => ⟨q, bs, rfl, sql hH m, L, hH, h⟩
theorem gc_sumI {ns : List Int} (hc : X.calm = true) (m : (q, HO.lst (ns.map V.int)) ∈ L) (h : Q (.int ns.sum) L) : GC X (.builtin "sum") [.ref q] L Q := GC.of (cr_sum hc) fun H hH => ⟨q, ns, rfl, sql hH m, L, hH, h⟩
theorem gc_max2 {i j : Int} (hc : X.calm = true) (h : Q (.int (if j > i then j else i)) L) : GC X (.builtin "max") [.int i, .int j] L Q := GC.of (call_max2 hc) fun H hH => ⟨i, j, rfl, L, hH, h⟩
/-- the pair at an address -/
def keyP (ps : List Pr2) : V → Int × Int
  | .ref a => ((ps.find? fun e => e.1 == a).map (·.2)).getD (0, 0)
  | _ => (0, 0)
theorem keyP_at {ps : List Pr2} {H : Hp} (hH : Has H L) (ht : ∀ e ∈ ps, (e.1, HO.tup [.int e.2.1, .int e.2.2]) ∈ L) {e : Pr2} (he : e ∈ ps) : keyP ps (.ref e.1) = e.2 := by
  have f : ∃ e', ps.find? (fun e' => e'.1 == e.1) = some e' := by
    cases z : ps.find? (fun e' => e'.1 == e.1) with
    | some e' => exact ⟨e', rfl⟩
    | none =>
      have := List.find?_eq_none.mp z e he
      simp at this
  obtain ⟨e', z⟩ := f
  have m' := List.mem_of_find?_eq_some z
  have k' : e'.1 = e.1 := by
    have := List.find?_some z
    simpa using this
  have h1 := hH.get (ht e he)
  have h2 := hH.get (ht e' m')
  rw [k', h1] at h2
  show ((ps.find? fun e' => e'.1 == e.1).map (·.2)).getD (0, 0) = e.2
  rw [z]
  show e'.2 = e.2
  have t := Option.some.inj h2
  injection t with t
  injection t with t1 t2
  injection t2 with t2 _
  exact Prod.ext (V.int.inj t1).symm (V.int.inj t2).symm
/-- sorted of pairs -/
theorem gc_sortedP {ps : List Pr2} (m : (q, HO.lst (ps.map fun e => V.ref e.1)) ∈ L) (ht : ∀ e ∈ ps, (e.1, HO.tup [.int e.2.1, .int e.2.2]) ∈ L)
    (h : ∀ (qs : List Pr2) p, qs.Perm ps → (qs.map (·.2)).Pairwise le2 → Q (.ref p) ((p, .lst (qs.map fun e => V.ref e.1)) :: L)) : GC X (.builtin "sorted") [.ref q] L Q :=
  GC.of cr_sortedPO fun H hH => ⟨q, _, keyP ps, rfl, sql hH m, fun x hx => by
    obtain ⟨e, he, rfl⟩ := List.mem_map.mp hx
    refine ⟨e.1, rfl, ?_⟩
    rw [keyP_at hH ht he]
    exact hH.get (ht e he), fun ys p srt stb hp => by
    obtain ⟨qs, hq, rfl⟩ : ∃ qs : List Pr2, qs.Perm ps ∧ ys = qs.map fun e => V.ref e.1 := by
      clear h
      have pm := stb.perm
      clear stb srt
      generalize e1 : (ps.map fun e => V.ref e.1) = zs at pm
      clear m
      have key : ∀ (ys zs : List V), ys.Perm zs → ∀ ps : List Pr2, (ps.map fun e => V.ref e.1) = zs → ∃ qs : List Pr2, qs.Perm ps ∧ ys = qs.map fun e => V.ref e.1 := fun ys zs pm => by
        induction pm with
        | nil => exact fun ps e => ⟨[], by rw [List.map_eq_nil_iff.mp e], rfl⟩
        | cons x _ ih =>
          intro ps e
          obtain ⟨a, r, rfl, e2, e3⟩ := List.map_eq_cons_iff.mp e
          obtain ⟨qs, h1, h2⟩ := ih r e3
          exact ⟨a :: qs, h1.cons a, by rw [h2, ← e2]; rfl⟩
        | swap x y l =>
          intro ps e
          obtain ⟨a, r, rfl, e2, e3⟩ := List.map_eq_cons_iff.mp e
          obtain ⟨b, s, rfl, e4, e5⟩ := List.map_eq_cons_iff.mp e3
          exact ⟨b :: a :: s, .swap _ _ _, by rw [← e2, ← e4, ← e5]; rfl⟩
        | trans _ _ ih1 ih2 =>
          intro ps e
          obtain ⟨qs, h1, h2⟩ := ih2 ps e
          obtain ⟨rs, h3, h4⟩ := ih1 qs h2.symm
          exact ⟨rs, h3.trans h1, h4⟩
      exact key ys zs pm ps e1
    refine ⟨_, hH.new hp, h qs p hq ?_⟩
    rw [List.pairwise_map]
    have s2 : qs.Pairwise fun x y => SrtO.lexB (keyP ps (.ref y.1)) (keyP ps (.ref x.1)) = false := List.pairwise_map.mp srt
    refine s2.imp_of_mem fun {a b} ha hb z => ?_
    rw [keyP_at hH ht (hq.mem_iff.mp ha), keyP_at hH ht (hq.mem_iff.mp hb)] at z
    have := SrtO.lexB_no.mp z
    unfold le2
    omega⟩
end
theorem bt_any : bootBuiltins "any" = some (.builtin "any") := by decide +kernel
theorem bt_all : bootBuiltins "all" = some (.builtin "all") := by decide +kernel
theorem bt_sum : bootBuiltins "sum" = some (.builtin "sum") := by decide +kernel
theorem bt_max : bootBuiltins "max" = some (.builtin "max") := by decide +kernel
section
variable {X : Cx} {η : En} {L : Lg} {Q : QV} {e : Expr} {es : List Expr} {pos p : Pos}
theorem gb_any (B : Bi X.mg) (h : GA X (e :: es) η L fun xs L1 => GC X (.builtin "any") xs L1 Q) (hg : Gl X "any" := by rfl) (he : starEach (e :: es) X.env = (false, eval e X.env) :: starEach es X.env := by rfl) (hpl : (backTo pos (starEach es X.env)).any (·.1) = false := by rfl) :
    GE X (.Call (.Name "any" p) (e :: es) [] pos) η L Q := ge_B B.any bt_any h hg (by decide) (by decide) he hpl
theorem gb_all (B : Bi X.mg) (h : GA X (e :: es) η L fun xs L1 => GC X (.builtin "all") xs L1 Q) (hg : Gl X "all" := by rfl) (he : starEach (e :: es) X.env = (false, eval e X.env) :: starEach es X.env := by rfl) (hpl : (backTo pos (starEach es X.env)).any (·.1) = false := by rfl) :
    GE X (.Call (.Name "all" p) (e :: es) [] pos) η L Q := ge_B B.all bt_all h hg (by decide) (by decide) he hpl
theorem gb_sum (B : Bi X.mg) (h : GA X (e :: es) η L fun xs L1 => GC X (.builtin "sum") xs L1 Q) (hg : Gl X "sum" := by rfl) (he : starEach (e :: es) X.env = (false, eval e X.env) :: starEach es X.env := by rfl) (hpl : (backTo pos (starEach es X.env)).any (·.1) = false := by rfl) :
    GE X (.Call (.Name "sum" p) (e :: es) [] pos) η L Q := ge_B B.sum bt_sum h hg (by decide) (by decide) he hpl
theorem gb_max (B : Bi X.mg) (h : GA X (e :: es) η L fun xs L1 => GC X (.builtin "max") xs L1 Q) (hg : Gl X "max" := by rfl) (he : starEach (e :: es) X.env = (false, eval e X.env) :: starEach es X.env := by rfl) (hpl : (backTo pos (starEach es X.env)).any (·.1) = false := by rfl) :
    GE X (.Call (.Name "max" p) (e :: es) [] pos) η L Q := ge_B B.max bt_max h hg (by decide) (by decide) he hpl
end
theorem cut_front {ms : List V} {l : V} : cutV (ms ++ [l]) none (some (-1)) = ms := by
  unfold cutV
  have e1 : HT.sIx (ms ++ [l]).length 0 none = 0 := rfl
  have e2 : HT.sIx (ms ++ [l]).length (ms ++ [l]).length (some (-1)) = ms.length := by
    show (if (-1 : Int) < 0 then ((-1 : Int) + ((ms ++ [l]).length : Int)).toNat else min (-1 : Int).toNat (ms ++ [l]).length) = _
    rw [if_pos (by decide), List.length_append, List.length_singleton]
    omega
  rw [e1, e2, List.drop_zero, Nat.sub_zero, List.take_left]
theorem cut_from {xs : List V} {k : Nat} (h : k ≤ xs.length) : cutV xs (some (k : Int)) none = xs.drop k := by
  unfold cutV
  rw [HT.sIx_nat, HT.sIx_none, Nat.min_eq_left h]
  exact List.take_of_length_le (by rw [List.length_drop]; exact Nat.le_refl _)
theorem cut_to {xs : List V} {k : Nat} (h : k ≤ xs.length) : cutV xs none (some (k : Int)) = xs.take k := by
  unfold cutV
  rw [HT.sIx_nat, HT.sIx_none, Nat.min_eq_left h, List.drop_zero, Nat.sub_zero]
theorem cut_mid {ms : List V} {l : V} {k : Nat} (h : k ≤ ms.length) : cutV (ms ++ [l]) (some (k : Int)) (some (-1)) = ms.drop k := by
  unfold cutV
  have e2 : HT.sIx (ms ++ [l]).length (ms ++ [l]).length (some (-1)) = ms.length := by
    show (if (-1 : Int) < 0 then ((-1 : Int) + ((ms ++ [l]).length : Int)).toNat else min (-1 : Int).toNat (ms ++ [l]).length) = _
    rw [if_pos (by decide), List.length_append, List.length_singleton]
    omega
  rw [HT.sIx_nat, e2, Nat.min_eq_left (by rw [List.length_append]; omega), List.drop_append_of_le_length h]
  exact List.take_left' (by rw [List.length_drop])
theorem eqvP2 (p q : Int × Int) : PyData.eqv (P2 p) (P2 q) = decide (p = q) := by
  have e : PyData.eqv (P2 p) (P2 q) = (decide (p.1 = q.1) && decide (p.2 = q.2)) := by
    simp only [PyData.eqv, PyData.eqvAll, Bool.and_true]
    rfl
  rw [e]
  obtain ⟨a, b⟩ := p
  obtain ⟨c, d⟩ := q
  by_cases h : a = c <;> by_cases k : b = d <;> simp [h, k]
theorem eqvPs : ∀ ns ms : List (Int × Int), PyData.eqvAll (ns.map P2) (ms.map P2) = decide (ns = ms)
  | [], [] => by simp [PyData.eqvAll]
  | [], m :: r => by simp [PyData.eqvAll]
  | n :: r, [] => by simp [PyData.eqvAll]
  | n :: r, m :: q => by
    have e := eqvPs r q
    rw [List.map_cons, List.map_cons, PyData.eqvAll, eqvP2, e]
    by_cases h : n = m <;> by_cases k : r = q <;> simp [h, k]
theorem layPs : ∀ ns : List (Int × Int), PyData.canLayAll0 (ns.map P2) = true
  | [] => by simp [PyData.canLayAll0]
  | n :: r => by
    have e := layPs r
    simp [PyData.canLayAll0, PyData.canLay0, e]
theorem depthPs (ns : List (Int × Int)) : PyData.depthAll (ns.map P2) ≤ 1 := depth2 ns
theorem shapedPL (ns : List (Int × Int)) : SeqAt.shaped (.list (ns.map P2)) = true := by
  have a := depthPs ns
  have b := layPs ns
  simp [SeqAt.shaped, PyData.canLay0, PyData.depth, b]
  omega
theorem shapedPT (ns : List (Int × Int)) : SeqAt.shaped (.tuple (ns.map P2)) = true := by
  have a := depthPs ns
  have b := layPs ns
  simp [SeqAt.shaped, PyData.canLay0, PyData.depth, b]
  omega
section
variable {X : Cx} {L : Lg} {Q : QV} {j : Nat} {p q : Addr} {xs ys : List V} {ps qs : List Pr2}
abbrev PrL (ps : List Pr2) (L : Lg) : Prop := ∀ e ∈ ps, (e.1, HO.tup [.int e.2.1, .int e.2.2]) ∈ L
theorem dl_prL (m : (p, HO.lst xs) ∈ L) (e : xs = ps.map fun e => V.ref e.1) (h : PrL ps L) : Dl L (.ref p) (.list ((ps.map (·.2)).map P2)) := dl_lst m (e ▸ dls_prs h)
theorem dl_prT (m : (p, HO.tup xs) ∈ L) (e : xs = ps.map fun e => V.ref e.1) (h : PrL ps L) : Dl L (.ref p) (.tuple ((ps.map (·.2)).map P2)) := dl_tup m (e ▸ dls_prs h)
theorem go_eqPL (hr : RoomG j X.A) (m1 : (p, HO.lst xs) ∈ L) (m2 : (q, HO.lst ys) ∈ L) (e1 : xs = ps.map fun e => V.ref e.1) (e2 : ys = qs.map fun e => V.ref e.1) (h1 : PrL ps L) (h2 : PrL qs L) (h : Q (.bl (decide (ps.map (·.2) = qs.map (·.2)))) L) : GOp X (compareOp .Eq) (.ref p) (.ref q) L Q :=
  go_eqD hr.toRoom (dl_prL m1 e1 h1) (dl_prL m2 e2 h2) (shapedPL _) (shapedPL _) (by
    have e : PyData.eqv (.list ((ps.map (·.2)).map P2)) (.list ((qs.map (·.2)).map P2)) = PyData.eqvAll ((ps.map (·.2)).map P2) ((qs.map (·.2)).map P2) := by simp [PyData.eqv]
    rw [e, eqvPs]
    exact h)
theorem go_nePL (hr : RoomG j X.A) (m1 : (p, HO.lst xs) ∈ L) (m2 : (q, HO.lst ys) ∈ L) (e1 : xs = ps.map fun e => V.ref e.1) (e2 : ys = qs.map fun e => V.ref e.1) (h1 : PrL ps L) (h2 : PrL qs L) (h : Q (.bl (!decide (ps.map (·.2) = qs.map (·.2)))) L) : GOp X (compareOp .NotEq) (.ref p) (.ref q) L Q :=
  go_neD hr.toRoom (dl_prL m1 e1 h1) (dl_prL m2 e2 h2) (shapedPL _) (shapedPL _) (by
    have e : PyData.eqv (.list ((ps.map (·.2)).map P2)) (.list ((qs.map (·.2)).map P2)) = PyData.eqvAll ((ps.map (·.2)).map P2) ((qs.map (·.2)).map P2) := by simp [PyData.eqv]
    rw [e, eqvPs]
    exact h)
theorem go_eqPT (hr : RoomG j X.A) (m1 : (p, HO.tup xs) ∈ L) (m2 : (q, HO.tup ys) ∈ L) (e1 : xs = ps.map fun e => V.ref e.1) (e2 : ys = qs.map fun e => V.ref e.1) (h1 : PrL ps L) (h2 : PrL qs L) (h : Q (.bl (decide (ps.map (·.2) = qs.map (·.2)))) L) : GOp X (compareOp .Eq) (.ref p) (.ref q) L Q :=
  go_eqD hr.toRoom (dl_prT m1 e1 h1) (dl_prT m2 e2 h2) (shapedPT _) (shapedPT _) (by
    have e : PyData.eqv (.tuple ((ps.map (·.2)).map P2)) (.tuple ((qs.map (·.2)).map P2)) = PyData.eqvAll ((ps.map (·.2)).map P2) ((qs.map (·.2)).map P2) := by simp [PyData.eqv]
    rw [e, eqvPs]
    exact h)
/-- a row of pairs and the empty list -/
theorem go_nePN (hr : RoomG j X.A) (m1 : (p, HO.lst xs) ∈ L) (m2 : (q, HO.lst []) ∈ L) (e1 : xs = ps.map fun e => V.ref e.1) (h1 : PrL ps L) (h : Q (.bl (!ps.isEmpty)) L) : GOp X (compareOp .NotEq) (.ref p) (.ref q) L Q :=
  go_nePL (ps := ps) (qs := []) hr m1 m2 e1 rfl h1 (fun _ z => nomatch z) (by
    rw [show decide (ps.map (·.2) = ([] : List Pr2).map (·.2)) = ps.isEmpty by cases ps <;> simp]
    exact h)
end
/-- the pairs at addresses -/
abbrev prV (ps : List Pr2) : List V := ps.map fun e => V.ref e.1
def Prs2 (ps : List Pr2) (L : Lg) : Prop := ∀ e ∈ ps, (e.1, HO.tup [.int e.2.1, .int e.2.2]) ∈ L
theorem Prs2.mono {ps : List Pr2} {L M : Lg} (h : Prs2 ps L) (s : ∀ e ∈ L, e ∈ M) : Prs2 ps M := fun e he => s _ (h e he)
theorem Prs2.snoc {ps : List Pr2} {e : Pr2} {L : Lg} (h : Prs2 ps L) (k : (e.1, HO.tup [.int e.2.1, .int e.2.2]) ∈ L) : Prs2 (ps ++ [e]) L := fun x hx => by
  rcases List.mem_append.mp hx with hx | hx
  · exact h x hx
  · rw [List.mem_singleton.mp hx]
    exact k
theorem GG.nd {X : Cx} {tg : Expr} {v : V} {η : En} {L : Lg} {Q : En → Lg → Prop} (h : (L.map (·.1)).Nodup → GG X tg v η L Q) : GG X tg v η L Q := fun hN H hH => h hH.1 hN H hH
theorem filter_listA {α : Type} {xs : List α} {t : α → Bool} {β : Type} {g : α → β} {p : Nat → Bool} {h : Nat → β} (hp : ∀ i v, xs[i]? = some v → p i = t v ∧ h i = g v) : ((List.range xs.length).filter p).map h = (xs.filter t).map g := by
  have key : ∀ k, k ≤ xs.length → ((List.range k).filter p).map h = ((xs.take k).filter t).map g := fun k => by
    induction k with
    | zero => intro _; rfl
    | succ k ih =>
      intro hk
      have e : xs[k]? = some xs[k] := List.getElem?_eq_getElem (by omega)
      obtain ⟨a, b⟩ := hp k _ e
      rw [List.range_succ, List.filter_append, List.map_append, ih (by omega), List.take_succ, e, List.filter_append, List.map_append]
      congr 1
      show (List.filter p [k]).map h = (List.filter t [xs[k]]).map g
      by_cases z : t xs[k] = true
      · rw [List.filter_cons_of_pos (by rw [a]; exact z), List.filter_cons_of_pos z]
        show [h k] = [g xs[k]]
        rw [b]
      · rw [List.filter_cons_of_neg (by rw [a]; exact z), List.filter_cons_of_neg z]
        rfl
  have z := key xs.length (Nat.le_refl _)
  rw [List.take_length] at z
  exact z
theorem prV_at {ps : List Pr2} {i : Nat} {x : V} (h : (prV ps)[i]? = some x) : ∃ e, ps[i]? = some e ∧ V.ref e.1 = x := by
  unfold prV at h
  rw [List.getElem?_map] at h
  exact Option.map_eq_some_iff.mp h
theorem prV_len {ps : List Pr2} : (prV ps).length = ps.length := List.length_map ..
section
variable {X : Cx} {L : Lg} {elt : Expr} {ifs : List Expr} {scope : Scope} {f : V → En} {R : V → Lg → Prop} {q : Addr} {o : HO} {ps : List Pr2} {t : Pr2 → Bool} {g : Pr2 → V} {pl : Pr2 → HO}
def pr0 : Pr2 := (0, 0, 0)
theorem pure_rowPr (mq : (q, o) ∈ L) (hl : ps.length ≤ 1000000) (ht : ∀ e ∈ ps, TurnP X scope ifs elt L (f (.ref e.1)) (t e) (g e)) (h : ∀ D, R (.ref D) ((D, .lst ((ps.filter t).map g)) :: L)) : PureL X scope ifs elt (stOne f) R ⟨(prV ps).length, fun M => (q, o) ∈ M, itemAt (prV ps)⟩ L := by
  refine ⟨fun i => t (ps.getD i pr0), fun i => g (ps.getD i pr0), ⟨by show (prV ps).length ≤ _; rw [prV_len]; exact hl, fun M h => h _ mq, fun i x E D acc M hi ⟨hx, hE⟩ _ s => ?_⟩, fun D => ?_⟩
  · subst hE
    obtain ⟨e, he, rfl⟩ := prV_at hx
    have k := turnP_use (st := stOne f) (ht e (List.mem_of_getElem? he)) s
    have e2 : ps.getD i pr0 = e := by rw [List.getD_eq_getElem?_getD, he]; rfl
    rw [e2]
    exact k
  · have z := filter_listA (xs := ps) (t := t) (g := g) (p := fun i => t (ps.getD i pr0)) (h := fun i => g (ps.getD i pr0)) fun i v e => by
      have e2 : ps.getD i pr0 = v := by rw [List.getD_eq_getElem?_getD, e]; rfl
      rw [e2]
      exact ⟨rfl, rfl⟩
    show R (.ref D) ((D, .lst (((List.range (prV ps).length).filter _).map _)) :: L)
    rw [prV_len, z]
    exact h D
theorem fresh_rowPr (mq : (q, o) ∈ L) (hl : ps.length ≤ 1000000) (ht : ∀ e ∈ ps, ∀ N, (∀ x ∈ L, x ∈ N) → TurnF X scope ifs elt N (f (.ref e.1)) (t e) (pl e)) (r : ∀ D es, es.map (·.2) = (ps.filter t).map pl → R (.ref D) ((D, .lst (refs es)) :: (es ++ L))) : FreshL X scope ifs elt (stOne f) R ⟨(prV ps).length, fun M => (q, o) ∈ M, itemAt (prV ps)⟩ L := by
  have z := filter_listA (xs := ps) (t := t) (g := pl) (p := fun i => t (ps.getD i pr0)) (h := fun i => pl (ps.getD i pr0)) fun i v e => by
    have e2 : ps.getD i pr0 = v := by rw [List.getD_eq_getElem?_getD, e]; rfl
    rw [e2]
    exact ⟨rfl, rfl⟩
  refine fresh_rowO (p := fun i => t (ps.getD i pr0)) (pl := fun i => pl (ps.getD i pr0)) mq (by rw [prV_len]; exact hl) (fun i v N hx hN => ?_) fun D es he => r D es ?_
  · obtain ⟨e, he, rfl⟩ := prV_at hx
    have e2 : ps.getD i pr0 = e := by rw [List.getD_eq_getElem?_getD, he]; rfl
    rw [e2]
    exact ht e (List.mem_of_getElem? he) N hN
  · rw [he, prV_len, z]
end
section
variable {X : Cx} {L : Lg} {elt : Expr} {ifs : List Expr} {scope : Scope} {g : V → V → En} {R : V → Lg → Prop} {q r : Addr} {xs ys : List V} {p : Nat → Bool} {pl : Nat → HO}
theorem fresh_zip (mq : (q, HO.lst xs) ∈ L) (mr : (r, HO.lst ys) ∈ L) (hl : xs.length ≤ 1000000) (ht : ∀ i x y N, xs[i]? = some x → ys[i]? = some y → (∀ e ∈ L, e ∈ N) → TurnF X scope ifs elt N (g x y) (p i) (pl i)) (h : ∀ D es, es.map (·.2) = ((List.range (min xs.length ys.length)).filter p).map pl → R (.ref D) ((D, .lst (refs es)) :: (es ++ L))) :
    FreshL X scope ifs elt (stTwo g) R ⟨min xs.length ys.length, fun M => (q, HO.lst xs) ∈ M ∧ (r, HO.lst ys) ∈ M, itemPr (fun i => xs[i]?) (fun i => ys[i]?)⟩ L := by
  refine ⟨p, pl, ⟨Nat.le_trans (Nat.min_le_left _ _) hl, fun M h => ⟨h _ mq, h _ mr⟩, fun i x E N M hi it nd hN s => ?_⟩, h⟩
  obtain ⟨T, a, b, rfl, rfl, ea, eb⟩ := it
  exact ⟨T, a, b, rfl, mem0, turnF_use (ht i a b N ea eb hN) (s.trans Sub.drop)⟩
end
/-- the first of what is picked -/
theorem filter_head {n : Nat} {p : Nat → Bool} {i : Nat} {t : List Nat} (h : (List.range n).filter p = i :: t) : i < n ∧ p i = true ∧ ∀ j, j < i → p j = false := by
  have mi : i ∈ (List.range n).filter p := by rw [h]; exact List.mem_cons_self
  obtain ⟨a, b⟩ := List.mem_filter.mp mi
  refine ⟨List.mem_range.mp a, b, fun j hj => ?_⟩
  cases z : p j with
  | false => rfl
  | true =>
    have mj : j ∈ (List.range n).filter p := List.mem_filter.mpr ⟨List.mem_range.mpr (by have := List.mem_range.mp a; omega), z⟩
    have pw : ((List.range n).filter p).Pairwise (· < ·) := List.Pairwise.filter p List.pairwise_lt_range
    rw [h] at mj pw
    rcases List.mem_cons.mp mj with e | m
    · omega
    · have := (List.pairwise_cons.mp pw).1 j m
      omega
end G
set_option Elab.async false
set_option linter.all false
set_option maxRecDepth 100000
set_option maxHeartbeats 4000000
namespace G
open PySem PySem.Spec PyProof.Rows L2 ClX
/-- C.m is a staticmethod: its record at p, its def at g -/
structure CSta (K : PySem.W.Frag) (C : Addr) (mc : Value) (m : Str) (p g : Addr) : Prop where
  r : CRead K C mc
  at_ : PySem.W.findCls K (.ref C) mc m = some (.get (.builtin "staticmethod.__get__") (.ref p) .none (.ref C))
  rc : ∃ rest, PySem.W.recIn K p "staticmethod" = some (.ref g :: rest)
  kp : PySem.W.keepIn K (.ref g) = true
section
variable {X : Cx} {η : En} {L : Lg} {Q : QV} {o e : Expr} {es : List Expr} {kws : List Keyword} {pos pos' : Pos} {C p g : Addr} {mc : Value} {m : Str} {pl : Sem Bool} {φ : List V → Lg → Prop}
theorem getsta_ok {pins : List (Addr × Obj)} {σ : L2.St} {H : Hp} {s : Shared} {A : Around} {E : Value → Shared → Prop} {Q : Value × List Value → Shared → Prop} (I : Inv X pins σ H s) (k : CSta X.K C mc m p g)
    (h : ∀ s', Inv X pins σ H s' → Q (.ref g, []) s') : wpAny (model X.prog X.w) A (getMethod (.ref C) m pl) Q E s := by
  refine PySem.W.method_cls I.kIn k.r.ga ?_
  obtain ⟨rest, hp⟩ := k.rc
  refine PySem.W.cls_bind I.kIn k.r.rd k.at_ ?_
  refine wpAny_call (PySem.W.sm_get (s := { s with toks := s.toks + 1 }) I.kIn hp (PySem.W.handed_on rfl ?_))
  exact h _ (I.tok _)
/-- C.m(e, ..) -/
theorem ge_sta (k : CSta X.K C mc m p g) (F : X.N = names η → GF X η g argsP φ Q) (h : GE X o η L fun x L1 => x = .ref C ∧ GA X (e :: es) η L1 φ)
    (hst : starEach (e :: es) X.env = (false, eval e X.env) :: starEach es X.env := by rfl) (hpl : (backTo pos (starEach es X.env)).any (·.1) = false := by rfl)
    (ht : eval (.Call (.Attribute o m pos') (e :: es) [] pos) X.env = (do
      let ov ← eval o X.env
      standAt pos'.atName
      let (f, first) ← holding [ov] (getMethod ov m pl)
      callWith pos f first (backTo pos (starEach (e :: es) X.env)) (backToKw pos (keywordEach [] X.env))) := by rfl) : GE X (.Call (.Attribute o m pos') (e :: es) [] pos) η L Q := fun hN H hH pins s I => by
  refine PySem.W.methodCall_KW (pl := pl) (thn (h hN H hH pins s I) fun u s1 ⟨x, H1, I1, rx, L1, h1, ex, q⟩ => ?_) ht
  subst ex
  obtain rfl : u = Value.ref C := rx
  refine getsta_ok I1 k fun s2 I2 => ?_
  refine PySem.W.callWith_K (first := []) (h₀ := X.base) I.ok.mod.kin k.kp (thn (q hN H1 h1 pos pins s2 I2) fun us s3 ⟨vs, H2, I3, r, L2, h2, q2⟩ => ⟨I3.kIn, ?_⟩) hst hpl
  exact F hN pins s3 H2 us vs L2 h2 I3 r q2
end
end G
set_option Elab.async false
set_option linter.all false
set_option maxRecDepth 100000
set_option maxHeartbeats 4000000
namespace PySem.W
open PySem PySem.Calls PySem.Spec PyProof.Rows Builtin
section
variable {prog : Program} {w : World} {M : Model} {A : Around} {E : Value → Shared → Prop} {s : Shared} {K : Frag} {x C f : Addr} {ox : Obj} {odd : Option Obj} {v : Value}
theorem g_contains {Q : Bool → Shared → Prop} (X : K.In s.heap) (I : InstAt s.heap x ox C odd) (hs : findIn K (.ref C) "__contains__" = some (some (.ref f))) (hf : isFn K (.ref f) = true)
    (h : wpAny M A (call (.ref f) [.ref x, v]) (fun r s' => wpAny M A (truthy r) Q E s') E s) : wpAny M A (contains (.ref x) v) Q E s := by
  unfold contains
  refine wpAny_holding (wpAny_bind (wpAny_bind (I.type.here ((looks_findIn X hs).here ?_))))
  rw [if_neg (by simp)]
  exact wpAny_bind (unlessNone_K X I hs hf h)
end
end PySem.W
namespace G
open PySem PySem.Spec PyProof.Rows L2 ItX
section
variable {X : Cx} {CX : CXT} {j k : Nat} {C g a dx : Addr} {fs : List (Str × V)} {sp : SpL} {El : XL} {L : Lg} {Q : QV} {y : V}
/-- y in o, by an own __contains__ that tells True or False -/
theorem go_inM (hs : PySem.W.findIn X.K (.ref C) "__contains__" = some (some (.ref g))) (hf : PySem.W.isFn X.K (.ref g) = true) (F : RunG X.prog X.w X.K X.mg X.base CX k g argsP (toSp sp)) (hr : RoomG j X.A) (hx : Passes CX X (upX El)) (ma : (a, HO.ins C dx fs) ∈ L)
    (h : sp [.ref a, y] L (fun v L' => ∃ b, v = .bl b ∧ Q (.bl b) L') El) (hjk : k ≤ j := by decide) : GOp X (compareOp .In) y (.ref a) L Q := fun pins s σ H v u hH I rv ru => by
  obtain rfl : u = Value.ref a := ru
  obtain ⟨oe, od, J⟩ := ins_inst I hH ma
  refine wpAny_bind (PySem.W.g_contains I.kIn J hs hf (wpAny_mono (run_G (args := argsP) (us := [.ref a, v]) (vs := [.ref a, y]) F (hr.mono hjk) hx I (.cons rfl (.cons rv .nil)) (up_sp hH h)) (fun r s' hq => ?_) fun _ _ z => z))
  obtain ⟨z, H', I', rz, L', h', b, ez, q⟩ := hq
  subst ez
  obtain rfl : r = Value.bool b := rz
  exact wpAny_of_eq (a := b) (by rfl) (wpAny_pure ⟨.bl b, H', I', rfl, L', h', q⟩)
end
theorem dls_bools {L : Lg} : ∀ {bs : List Bool}, Dls L (bs.map V.bl) (bs.map PyData.bool)
  | [] => dls_nil
  | _ :: _ => dls_cons dl_bl dls_bools
theorem depthBools : ∀ ns : List Bool, PyData.depthAll (ns.map PyData.bool) = 0
  | [] => by simp [PyData.depthAll]
  | n :: r => by
    have e := depthBools r
    simp [PyData.depthAll, PyData.depth, e]
theorem layBools : ∀ ns : List Bool, PyData.canLayAll0 (ns.map PyData.bool) = true
  | [] => by simp [PyData.canLayAll0]
  | n :: r => by
    have e := layBools r
    simp [PyData.canLayAll0, PyData.canLay0, e]
theorem shapedB (ns : List Bool) : SeqAt.shaped (.list (ns.map PyData.bool)) = true := by
  have a := depthBools ns
  have b := layBools ns
  simp [SeqAt.shaped, PyData.canLay0, PyData.depth, a, b]
theorem eqvBools : ∀ ns ms : List Bool, PyData.eqvAll (ns.map PyData.bool) (ms.map PyData.bool) = decide (ns = ms)
  | [], [] => by simp [PyData.eqvAll]
  | [], m :: r => by simp [PyData.eqvAll]
  | n :: r, [] => by simp [PyData.eqvAll]
  | n :: r, m :: q => by
    have e := eqvBools r q
    simp [PyData.eqvAll, PyData.eqv, e]
    by_cases h : n = m <;> by_cases k : r = q <;> simp [h, k]
theorem eqvBL (ns ms : List Bool) : PyData.eqv (.list (ns.map PyData.bool)) (.list (ms.map PyData.bool)) = decide (ns = ms) := by
  rw [← eqvBools]
  simp [PyData.eqv]
theorem go_eqBL {X : Cx} {L : Lg} {Q : QV} {j : Nat} {p q : Addr} {xs ys : List V} {ns ms : List Bool} (hr : RoomG j X.A) (m1 : (p, HO.lst xs) ∈ L) (m2 : (q, HO.lst ys) ∈ L) (e1 : xs = ns.map V.bl) (e2 : ys = ms.map V.bl) (h : Q (.bl (decide (ns = ms))) L) : GOp X (compareOp .Eq) (.ref p) (.ref q) L Q := by
  subst e1
  subst e2
  exact go_eqD hr.toRoom (dl_lst m1 dls_bools) (dl_lst m2 dls_bools) (shapedB ns) (shapedB ms) (by rw [eqvBL]; exact h)
theorem go_neBL {X : Cx} {L : Lg} {Q : QV} {j : Nat} {p q : Addr} {xs ys : List V} {ns ms : List Bool} (hr : RoomG j X.A) (m1 : (p, HO.lst xs) ∈ L) (m2 : (q, HO.lst ys) ∈ L) (e1 : xs = ns.map V.bl) (e2 : ys = ms.map V.bl) (h : Q (.bl (!decide (ns = ms))) L) : GOp X (compareOp .NotEq) (.ref p) (.ref q) L Q := by
  subst e1
  subst e2
  exact go_neD hr.toRoom (dl_lst m1 dls_bools) (dl_lst m2 dls_bools) (shapedB ns) (shapedB ms) (by rw [eqvBL]; exact h)
theorem inV_ints {i : Int} : ∀ {ns : List Int}, inV (.int i) (ns.map V.int) = decide (i ∈ ns)
  | [] => rfl
  | n :: r => by
    have ih := inV_ints (i := i) (ns := r)
    unfold inV at ih ⊢
    rw [List.map_cons, List.any_cons, ih]
    have e : eqV (V.int n) (V.int i) = decide (n = i) := by
      first
        | rfl
        | (simp [eqV])
    rw [e]
    by_cases h : n = i
    · simp [h]
    · have h' : ¬ i = n := fun z => h z.symm
      simp [h, h']
theorem flat_ints : ∀ {ns : List Int}, (ns.map V.int).all flatV = true
  | [] => rfl
  | n :: r => by
    rw [List.map_cons, List.all_cons, flat_ints (ns := r)]
    rfl
section
variable {X : Cx} {L : Lg} {Q : QV} {q : Addr} {i : Int} {ns : List Int}
theorem go_inI (m : (q, HO.lst (ns.map V.int)) ∈ L) (h : Q (.bl (decide (i ∈ ns))) L) : GOp X (compareOp .In) (.int i) (.ref q) L Q := GOp.of op_in_seq fun H hH => ⟨q, _, rfl, .inl (sql hH m), rfl, flat_ints, L, hH, by rw [inV_ints]; exact h⟩
end
end G
namespace G
open PySem PySem.Spec PyProof.Rows L2
end G
set_option Elab.async false
set_option linter.all false
set_option maxRecDepth 100000
set_option maxHeartbeats 4000000
namespace PySem.W
open PySem PySem.Calls PySem.Spec PyProof.Rows Builtin
end PySem.W
namespace G
open PySem PySem.Spec PyProof.Rows L2
end G
set_option Elab.async false
set_option linter.all false
set_option maxRecDepth 100000
set_option maxHeartbeats 4000000
namespace PySem.W
open PySem PySem.Calls PySem.Spec PyProof.Rows Builtin
end PySem.W
namespace G
open PySem PySem.Spec PyProof.Rows L2
end G
set_option Elab.async false
set_option linter.all false
set_option maxRecDepth 100000
set_option maxHeartbeats 4000000
namespace G
open PySem PySem.Spec PyProof.Rows L2
theorem GI.nd {X : Cx} {tg iter : Expr} {η : En} {L : Lg} {Q : Src → Lg → Prop} (h : GI X tg iter η L fun S L1 => (L1.map (·.1)).Nodup → Q S L1) : GI X tg iter η L Q := fun hN H hH pins s I =>
  wpAny_mono (h hN H hH pins s I) (fun v s1 z => wpAny_mono z (fun itv s2 ⟨it, fp, tn, J, H1, ev, I2, T, t0, f2, L1, S, k1, ok, q⟩ => ⟨it, fp, tn, J, H1, ev, I2, T, t0, f2, L1, S, k1, ok, q k1.1⟩) fun _ _ z => z) fun _ _ z => z
theorem GI.sub {X : Cx} {tg iter : Expr} {η : En} {L M : Lg} {Q : Src → Lg → Prop} (s : Sub M L) (h : GI X tg iter η M Q) : GI X tg iter η L Q := fun hN H hH => h hN H (s.has H hH)
section
variable {X : Cx} {η : En} {L : Lg} {elt iter tg tg1 iter1 : Expr} {scope : Scope} {pos p1 p2 p3 p4 : Pos} {x y z w : Str} {f : V → En} {Q : QV}
/-- each row's values stand for data -/
inductive Reps {α : Type} (R : V → α → Prop) : List V → List α → Prop
  | nil : Reps R [] []
  | cons {v : V} {a : α} {vs : List V} {as : List α} : R v a → Reps R vs as → Reps R (v :: vs) (a :: as)
theorem Reps.imp {α : Type} {R R' : V → α → Prop} (m : ∀ v a, R v a → R' v a) : ∀ {vs : List V} {as : List α}, Reps R vs as → Reps R' vs as
  | _, _, .nil => .nil
  | _, _, .cons k t => .cons (m _ _ k) (t.imp m)
theorem Reps.len {α : Type} {R : V → α → Prop} : ∀ {vs : List V} {as : List α}, Reps R vs as → vs.length = as.length
  | _, _, .nil => rfl
  | _, _, .cons _ t => by rw [List.length_cons, List.length_cons, t.len]
theorem Reps.get {α : Type} {R : V → α → Prop} : ∀ {vs : List V} {as : List α} {i : Nat} {v : V}, Reps R vs as → vs[i]? = some v → ∃ a, as[i]? = some a ∧ R v a
  | _, _, _, _, .nil, e => by simp at e
  | _, _, 0, _, .cons r _, e => by simp at e; subst e; exact ⟨_, rfl, r⟩
  | _, _, i + 1, x, .cons _ t, e => by
    obtain ⟨u, h1, h2⟩ := t.get (i := i) (v := x) (by simpa using e)
    exact ⟨u, by simpa using h1, h2⟩
end
end G
set_option Elab.async false
set_option linter.all false
set_option maxRecDepth 100000
set_option maxHeartbeats 4000000
namespace G
open PySem PySem.Spec PyProof.Rows L2
end G
set_option Elab.async false
set_option linter.all false
set_option maxRecDepth 100000
set_option maxHeartbeats 4000000
namespace G
open PySem PySem.Spec PyProof.Rows L2
end G
set_option Elab.async false
set_option linter.all false
set_option maxRecDepth 100000
set_option maxHeartbeats 4000000
namespace L2
open PySem PySem.Spec PyProof.Rows
end L2
namespace G
open PySem PySem.Spec PyProof.Rows L2
end G
set_option Elab.async false
set_option linter.all false
set_option maxRecDepth 100000
set_option maxHeartbeats 4000000
namespace G
open PySem PySem.Spec PyProof.Rows L2
end G
set_option Elab.async false
set_option linter.all false
set_option maxRecDepth 100000
set_option maxHeartbeats 4000000
namespace L2
open PySem PySem.Spec PyProof.Rows
/-- n items, the step above 0 -/
def RgB (i j c : Int) (n : Nat) : Prop := 0 < c ∧ c.natAbs.log2 < 9000 ∧ Builtin.Range.rangeSize i j c = n
end L2
namespace G
open PySem PySem.Spec PyProof.Rows L2
/-- how many are from i on and below j, by a step -/
def stepsN (i j c : Int) : Nat := if i < j then ((j - i - 1) / c).toNat + 1 else 0
theorem RgB.of {i j c : Int} (c0 : 0 < c) (cb : c.natAbs.log2 < 9000) : RgB i j c (stepsN i j c) := by
  refine ⟨c0, cb, ?_⟩
  unfold Builtin.Range.rangeSize stepsN
  rw [if_pos c0]
  split
  · have := Int.ediv_nonneg (a := j - i - 1) (b := c) (by omega) (by omega)
    omega
  · rfl
end G
set_option Elab.async false
set_option linter.all false
set_option maxRecDepth 100000
set_option maxHeartbeats 4000000
namespace G
open PySem PySem.Spec PyProof.Rows L2
theorem map_at {α : Type} {as : List α} {val : α → V} {i : Nat} {x : V} (h : (as.map val)[i]? = some x) : ∃ a, as[i]? = some a ∧ val a = x := by
  rw [List.getElem?_map] at h
  exact Option.map_eq_some_iff.mp h
section
variable {X : Cx} {L : Lg} {elt : Expr} {ifs : List Expr} {scope : Scope} {f : V → En} {f3 : V → V → V → En} {R : V → Lg → Prop} {q : Addr} {o : HO} {α : Type} {as : List α} {val : α → V} {t : α → Bool} {g : α → V} {pl : α → HO}
/-- the n-th of a list, told -/
def gotA {α β : Type} (as : List α) (h : α → β) (d : β) (i : Nat) : β := ((as[i]?).map h).getD d
theorem gotA_at {α β : Type} {as : List α} {h : α → β} {d : β} {i : Nat} {a : α} (e : as[i]? = some a) : gotA as h d i = h a := by
  unfold gotA
  rw [e]
  rfl
theorem gotA_all {α β : Type} {as : List α} {t : α → Bool} {h : α → β} {d : β} : ((List.range as.length).filter (gotA as t false)).map (gotA as h d) = (as.filter t).map h :=
  filter_listA fun i v e => ⟨gotA_at e, gotA_at e⟩
theorem pure_rowA (mq : (q, o) ∈ L) (hl : as.length ≤ 1000000) (ht : ∀ a ∈ as, TurnP X scope ifs elt L (f (val a)) (t a) (g a)) (h : ∀ D, R (.ref D) ((D, .lst ((as.filter t).map g)) :: L)) : PureL X scope ifs elt (stOne f) R ⟨(as.map val).length, fun M => (q, o) ∈ M, itemAt (as.map val)⟩ L := by
  refine ⟨gotA as t false, gotA as g .non, ⟨by show (as.map val).length ≤ _; rw [List.length_map]; exact hl, fun M h => h _ mq, fun i x E D acc M hi ⟨hx, hE⟩ _ s => ?_⟩, fun D => ?_⟩
  · subst hE
    obtain ⟨a, he, rfl⟩ := map_at hx
    have k := turnP_use (st := stOne f) (ht a (List.mem_of_getElem? he)) s
    rw [gotA_at he, gotA_at he]
    exact k
  · show R (.ref D) ((D, .lst (((List.range (as.map val).length).filter _).map _)) :: L)
    rw [List.length_map, gotA_all]
    exact h D
end
end G
set_option Elab.async false
set_option linter.all false
set_option maxRecDepth 100000
set_option maxHeartbeats 4000000
namespace G
open PySem PySem.Spec PyProof.Rows L2
section
variable {X : Cx} {CX : CXT} {j k : Nat} {C g : Addr} {sp : SpL} {El : XL} {η : En} {L : Lg} {Q : QV} {m : Str} {e o : Expr} {es : List Expr} {kws : List Keyword} {pos pos' : Pos} {pl : Sem Bool}
/-- o.m(k = ..) -/
theorem ge_methK {ks : List Str} (F : RunG X.prog X.w X.K X.mg X.base CX k g (argsK 1 ks) (toSp sp)) (hm : Meth X.K C m g) (c : Cls X.K C) (hr : RoomG j X.A) (hx : Passes CX X (upX El)) (h : GE X o η L fun x L1 => ∃ a dx fs, x = .ref a ∧ (a, HO.ins C dx fs) ∈ L1 ∧ fs.lookup m = none ∧ GK X kws η L1 fun vs L2 => sp (.ref a :: vs) L2 Q El) (hjk : k ≤ j := by decide)
    (hks : (backToKw pos (keywordEach kws X.env)).filterMap (·.1) = ks := by rfl) (hall : (backToKw pos (keywordEach kws X.env)).all (·.1.isSome) = true := by rfl) (hpl : ((backTo pos (starEach [] X.env)).any (·.1) || (backToKw pos (keywordEach kws X.env)).any (·.1.isNone)) = false := by rfl)
    (ht : eval (.Call (.Attribute o m pos') [] kws pos) X.env = (do
      let ov ← eval o X.env
      standAt pos'.atName
      let (f, first) ← holding [ov] (getMethod ov m pl)
      callWith pos f first (backTo pos (starEach [] X.env)) (backToKw pos (keywordEach kws X.env))) := by rfl) : GE X (.Call (.Attribute o m pos') [] kws pos) η L Q := fun hN H hH pins s I => by
  refine PySem.W.methodCall_KW (pl := pl) (thn (h hN H hH pins s I) fun u s1 ⟨x, H1, I1, rx, L1, h1, a, dx, fs, ex, ea, l, q⟩ => ?_) ht
  subst ex
  obtain rfl : u = Value.ref a := rx
  refine getmeth_ok I1 (h1.get ea) c hm l ?_
  refine PySem.W.callWith_KW0 (first := [.ref a]) (h₀ := X.base) I.ok.mod.kin hm.kp hall (thn (GK.run (Q := fun vs L2 => sp (.ref a :: vs) L2 Q El) q hN pos pins s1 H1 h1 I1) fun ws s3 ⟨zs, H2, I3, r2, L2, h2, q2⟩ => ⟨I3.kIn, ?_⟩) hpl
  rw [hks]
  exact run_G (args := argsK 1 ks) (us := .ref a :: ws) (vs := .ref a :: zs) F (hr.mono hjk) hx I3 (.cons rfl r2) (up_sp h2 q2)
end
end G
set_option Elab.async false
set_option linter.all false
set_option maxRecDepth 100000
set_option maxHeartbeats 4000000
namespace G
open PySem PySem.Spec PyProof.Rows L2
end G
set_option Elab.async false
set_option linter.all false
set_option maxRecDepth 100000
set_option maxHeartbeats 4000000
namespace G
open PySem PySem.Spec PyProof.Rows L2
class St (P : Prop) (P' : outParam Prop) : Prop where
  to : P' → P
class AtI (x : Str) (v : outParam V) (η : En) : Prop where
  h : At x v η
instance (priority := high) atiH {x : Str} {v : V} {η : En} : AtI x v ((x, some v) :: η) := ⟨.here⟩
instance (priority := low) atiT {x : Str} {v : V} {e : Str × Option V} {η : En} [a : AtI x v η] : AtI x v (e :: η) := ⟨.there a.h⟩
class MemI (p : Addr) (o : outParam HO) (L : Lg) : Prop where
  h : (p, o) ∈ L
instance (priority := high) memiH {p : Addr} {o : HO} {L : Lg} : MemI p o ((p, o) :: L) := ⟨mem0⟩
instance (priority := low) memiT {p : Addr} {o : HO} {e : Addr × HO} {L : Lg} [m : MemI p o L] : MemI p o (e :: L) := ⟨memS m.h⟩
class NStar (e : Expr) : Prop where
  h : ∀ es env, starEach (e :: es) env = (false, eval e env) :: starEach es env
instance {a b} : NStar (.Name a b) := ⟨fun _ _ => rfl⟩
instance {a b c} : NStar (.Constant a b c) := ⟨fun _ _ => rfl⟩
instance {a b c d} : NStar (.BinOp a b c d) := ⟨fun _ _ => rfl⟩
instance {a b c} : NStar (.UnaryOp a b c) := ⟨fun _ _ => rfl⟩
instance {a b c} : NStar (.BoolOp a b c) := ⟨fun _ _ => rfl⟩
instance {a b c d} : NStar (.Compare a b c d) := ⟨fun _ _ => rfl⟩
instance {a b c d} : NStar (.Call a b c d) := ⟨fun _ _ => rfl⟩
instance {a b c} : NStar (.Attribute a b c) := ⟨fun _ _ => rfl⟩
instance {a b c} : NStar (.Subscript a b c) := ⟨fun _ _ => rfl⟩
instance {a b c} : NStar (.Tuple a b c) := ⟨fun _ _ => rfl⟩
instance {a b} : NStar (.List a b) := ⟨fun _ _ => rfl⟩
instance {a b c d} : NStar (.IfExp a b c d) := ⟨fun _ _ => rfl⟩
instance {a b c} : NStar (.NamedExpr a b c) := ⟨fun _ _ => rfl⟩
instance {a b c d} : NStar (.Lambda a b c d) := ⟨fun _ _ => rfl⟩
instance {a b c} : NStar (.Dict a b c) := ⟨fun _ _ => rfl⟩
instance {a b c} : NStar (.Set a b c) := ⟨fun _ _ => rfl⟩
instance {a b c d} : NStar (.ListComp a b c d) := ⟨fun _ _ => rfl⟩
instance {a b c d} : NStar (.SetComp a b c d) := ⟨fun _ _ => rfl⟩
instance {a b c d f} : NStar (.DictComp a b c d f) := ⟨fun _ _ => rfl⟩
instance {a b c d} : NStar (.GeneratorExp a b c d) := ⟨fun _ _ => rfl⟩
instance {a b} : NStar (.JoinedStr a b) := ⟨fun _ _ => rfl⟩
instance {a b c d} : NStar (.FormattedValue a b c d) := ⟨fun _ _ => rfl⟩
class NMark (op : CmpOp) (b : Expr) : Prop where
  h : behindInMarks op b = false
instance {op a b} : NMark op (.Name a b) := ⟨rfl⟩
instance {op a b c} : NMark op (.Constant a b c) := ⟨rfl⟩
instance {op a b c d} : NMark op (.BinOp a b c d) := ⟨rfl⟩
instance {op a b c} : NMark op (.UnaryOp a b c) := ⟨rfl⟩
instance {op a b c d} : NMark op (.Call a b c d) := ⟨rfl⟩
instance {op a b c} : NMark op (.Attribute a b c) := ⟨rfl⟩
instance {op a b c} : NMark op (.Subscript a b c) := ⟨rfl⟩
instance {op a b c} : NMark op (.Tuple a b c) := ⟨rfl⟩
instance {op a b} : NMark op (.List a b) := ⟨rfl⟩
instance {op a b c} : NMark op (.NamedExpr a b c) := ⟨rfl⟩
instance {op a b c d} : NMark op (.Lambda a b c d) := ⟨rfl⟩
instance {op a b c} : NMark op (.Dict a b c) := ⟨rfl⟩
instance {op a b c d} : NMark op (.ListComp a b c d) := ⟨rfl⟩
instance {op a b c d} : NMark op (.SetComp a b c d) := ⟨rfl⟩
instance {op a b c d f} : NMark op (.DictComp a b c d f) := ⟨rfl⟩
instance {op a b c d} : NMark op (.GeneratorExp a b c d) := ⟨rfl⟩
instance {op a b} : NMark op (.JoinedStr a b) := ⟨rfl⟩
instance {op a b c d} : NMark op (.FormattedValue a b c d) := ⟨rfl⟩
instance {op a b c} : NMark op (.BoolOp a b c) := ⟨rfl⟩
instance {op a b c d} : NMark op (.Compare a b c d) := ⟨rfl⟩
instance {op a b c d} : NMark op (.IfExp a b c d) := ⟨rfl⟩
section
variable {X : Cx} {η : En} {L : Lg} {Q : QV} {a b c e : Expr} {pos : Pos}
instance {i : Int} {j} : St (GE X (.Constant (.int i) j pos) η L Q) (Q (.int i) L) := ⟨ge_int⟩
instance {i : Bool} {j} : St (GE X (.Constant (.bool i) j pos) η L Q) (Q (.bl i) L) := ⟨ge_bl⟩
instance {j} : St (GE X (.Constant .none j pos) η L Q) (Q .non L) := ⟨ge_non⟩
instance {i : Str} {j} : St (GE X (.Constant (.str i) j pos) η L Q) (Q (.str i) L) := ⟨ge_str⟩
instance {op : Operator} : St (GE X (.BinOp a op b pos) η L Q) (GE X a η L fun x L1 => GE X b η L1 fun y L2 => GOp X (binaryOp op) x y L2 Q) := ⟨ge_bin⟩
instance {op : UnaryOp} : St (GE X (.UnaryOp op a pos) η L Q) (GE X a η L fun x L1 => GUn X (unaryOp op) x L1 Q) := ⟨ge_un⟩
instance (priority := high) : St (GE X (.UnaryOp .Not a pos) η L Q) (GE X a η L fun x L1 => ∃ k, x = .bl k ∧ Q (.bl (!k)) L1) := ⟨ge_not⟩
instance {op : CmpOp} [m : NMark op b] : St (GE X (.Compare a [op] [b] pos) η L Q) (GE X a η L fun x L1 => GE X b η L1 fun y L2 => GOp X (compareOp op) x y L2 Q) := ⟨fun h => ge_cmp h m.h⟩
instance {op : BoolOp} : St (GE X (.BoolOp op [a] pos) η L Q) (GE X a η L Q) := ⟨ge_one⟩
instance {rest : List Expr} : St (GE X (.BoolOp .And (a :: b :: rest) pos) η L Q) (GE X a η L fun x L1 => ∃ k, x = .bl k ∧ if k = true then GE X (.BoolOp .And (b :: rest) pos) η L1 Q else Q (.bl false) L1) := ⟨ge_and⟩
instance {rest : List Expr} : St (GE X (.BoolOp .Or (a :: b :: rest) pos) η L Q) (GE X a η L fun x L1 => ∃ k, x = .bl k ∧ if k = true then Q (.bl true) L1 else GE X (.BoolOp .Or (b :: rest) pos) η L1 Q) := ⟨ge_or⟩
instance : St (GE X (.IfExp c a b pos) η L Q) (GT X c η L fun k L1 => if k = true then GE X a η L1 Q else GE X b η L1 Q) := ⟨ge_if⟩
instance {es : List Expr} {x1} : St (GE X (.Tuple es x1 pos) η L Q) (GA X es η L fun xs L1 => xs.length ≤ sizeLine ∧ ∀ p, Q (.ref p) ((p, .tup xs) :: L1)) := ⟨ge_tup⟩
instance {es : List Expr} : St (GE X (.List es pos) η L Q) (GA X es η L fun xs L1 => xs.length ≤ sizeLine ∧ ∀ p, Q (.ref p) ((p, .lst xs) :: L1)) := ⟨ge_lst⟩
instance {Q : List V → Lg → Prop} : St (GA X [] η L Q) (Q [] L) := ⟨ga_nil⟩
instance {es : List Expr} {Q : List V → Lg → Prop} [n : NStar e] : St (GA X (e :: es) η L Q) (GE X e η L fun x L1 => GA X es η L1 fun xs L2 => Q (x :: xs) L2) := ⟨fun h => ga_cons h (n.h _ _)⟩
instance {i j : Int} : St (GOp X (binaryOp .Add) (.int i) (.int j) L Q) (Q (.int (i + j)) L) := ⟨go_add⟩
instance {i j : Int} : St (GOp X (binaryOp .Sub) (.int i) (.int j) L Q) (Q (.int (i - j)) L) := ⟨go_sub⟩
instance {i j : Int} : St (GOp X (compareOp .Lt) (.int i) (.int j) L Q) (Q (.bl (decide (i < j))) L) := ⟨go_lt⟩
instance {i j : Int} : St (GOp X (compareOp .LtE) (.int i) (.int j) L Q) (Q (.bl (decide (i ≤ j))) L) := ⟨go_le⟩
instance {i j : Int} : St (GOp X (compareOp .Eq) (.int i) (.int j) L Q) (Q (.bl (decide (i = j))) L) := ⟨go_eq⟩
instance {i j : Int} : St (GOp X (compareOp .Gt) (.int i) (.int j) L Q) (Q (.bl (decide (j < i))) L) := ⟨go_gt⟩
instance {i j : Int} : St (GOp X (compareOp .GtE) (.int i) (.int j) L Q) (Q (.bl (decide (j ≤ i))) L) := ⟨go_ge⟩
instance {i j : Int} : St (GOp X (compareOp .NotEq) (.int i) (.int j) L Q) (Q (.bl (!decide (i = j))) L) := ⟨go_ne⟩
end
section
variable {X : Cx} {η : En} {L : Lg} {Q : Bool → Lg → Prop} {a b c e : Expr} {pos : Pos}
instance {op : CmpOp} [m : NMark op b] : St (GT X (.Compare a [op] [b] pos) η L Q) (GE X a η L fun x L1 => GE X b η L1 fun y L2 => GOp X (compareOp op) x y L2 fun z L3 => ∃ k, z = .bl k ∧ Q k L3) := ⟨fun h => gt_cmp h m.h⟩
instance {op : BoolOp} {es : List Expr} : St (GT X (.BoolOp op es pos) η L Q) (GW X (.BoolOp op es pos) η L Q) := ⟨gt_w⟩
instance : St (GT X (.UnaryOp .Not a pos) η L Q) (GT X a η L fun k L1 => Q (!k) L1) := ⟨gt_not⟩
instance {x : Str} : St (GT X (.Name x pos) η L Q) (GE X (.Name x pos) η L fun x L1 => ∃ k, x = .bl k ∧ Q k L1) := ⟨gt_val⟩
instance {f : Expr} {es ks} : St (GT X (.Call f es ks pos) η L Q) (GE X (.Call f es ks pos) η L fun x L1 => ∃ k, x = .bl k ∧ Q k L1) := ⟨gt_val⟩
instance : St (GW X (.BoolOp .And [a] pos) η L Q) (GT X a η L Q) := ⟨gw_and1⟩
instance : St (GW X (.BoolOp .Or [a] pos) η L Q) (GT X a η L Q) := ⟨gw_or1⟩
instance {rest : List Expr} : St (GW X (.BoolOp .And (a :: b :: rest) pos) η L Q) (GT X a η L fun k L1 => if k = true then GW X (.BoolOp .And (b :: rest) pos) η L1 Q else Q false L1) := ⟨gw_and⟩
instance {rest : List Expr} : St (GW X (.BoolOp .Or (a :: b :: rest) pos) η L Q) (GT X a η L fun k L1 => if k = true then Q true L1 else GW X (.BoolOp .Or (b :: rest) pos) η L1 Q) := ⟨gw_or⟩
end
section
variable {X : Cx} {η : En} {L : Lg} {e : Expr} {pos : Pos} {D : GD}
instance {st : Stmt} {rest : List Stmt} : St (GSs X (st :: rest) D η L) (GS X st { nx := fun θ L1 => GSs X rest D θ L1, rt := D.rt, bk := D.bk, ct := D.ct } η L) := ⟨gss_cons⟩
instance : St (GSs X [] D η L) (D.nx η L) := ⟨gss_nil⟩
instance : St (GS X (.Return (some e) pos) D η L) (GE X e η L D.rt) := ⟨gs_ret⟩
instance : St (GS X (.Return none pos) D η L) (D.rt .non L) := ⟨gs_retN⟩
instance : St (GS X (.Pass pos) D η L) (D.nx η L) := ⟨gs_pass⟩
instance : St (GS X (.Break pos) D η L) (D.bk η L) := ⟨gs_break⟩
instance : St (GS X (.Continue pos) D η L) (D.ct η L) := ⟨gs_continue⟩
instance {Q : En → Lg → Prop} : St (GGs X [] [] η L Q) (Q η L) := ⟨ggs_nil⟩
end
instance {p q : Prop} : St (if true = true then p else q) p := ⟨fun h => h⟩
instance {p q : Prop} : St (if false = true then p else q) q := ⟨fun h => h⟩
instance {p q : Prop} : St (if (!true) = true then p else q) q := ⟨fun h => h⟩
instance {p q : Prop} : St (if (!false) = true then p else q) p := ⟨fun h => h⟩
instance {k : Bool} {q : Bool → Prop} : St (∃ j, V.bl k = .bl j ∧ q j) (q k) := ⟨fun h => ⟨_, rfl, h⟩⟩
/-- the names of a def, as its scope has them -/
def chkN (N : List Str) (sc : Scope) : Bool := N.all fun x => (sc.names.lookup x == some .local || sc.names.lookup x == some .cell) && !(x == ("__debug__" : Str)) && !(x == ("__classdict__" : Str))
class OkL (sc : Scope) (M : outParam (List Str)) : Prop where
  k : chkN M sc = true
class InS (x : Str) (M : List Str) : Prop where
  h : x ∈ M
instance (priority := high) insH {x : Str} {M : List Str} : InS x (x :: M) := ⟨mem0⟩
instance (priority := low) insT {x y : Str} {M : List Str} [i : InS x M] : InS x (y :: M) := ⟨memS i.h⟩
class NdI (N : List Str) : Prop where
  n : N.Nodup
class VisX (X : Cx) : Prop where
  n : X.N.Nodup
  f : ∀ x, X.fn x = true
  c : X.calm = true
class OkX (X : Cx) (x : Str) : Prop where
  l : Loc X.env.scope x
  d : (x == ("__debug__" : Str)) = false ∧ (x == ("__classdict__" : Str)) = false
theorem chkN_at {N : List Str} {sc : Scope} (h : chkN N sc = true) {x : Str} (m : x ∈ N) : Loc sc x ∧ (x == ("__debug__" : Str)) = false ∧ (x == ("__classdict__" : Str)) = false := by
  have := List.all_eq_true.mp h x m
  simp only [Bool.and_eq_true, Bool.or_eq_true, beq_iff_eq, Bool.not_eq_true'] at this
  exact ⟨this.1.1, this.1.2, this.2⟩
instance {P : Program} {w : World} {K : PySem.W.Frag} {mg : Str → Option Value} {base : Heap} {N : List Str} {x : Str} {sc : Scope} {f : Addr} {cdv : Value} {A : Around} {outer : List Env} {s : Shared} {H : Hp} {E0 : XK} [k : NdI N] : VisX (cx0 P w K mg base N x sc f cdv A outer s H E0) := ⟨k.n, fun _ => rfl, rfl⟩
instance {P : Program} {w : World} {K : PySem.W.Frag} {mg : Str → Option Value} {base : Heap} {N : List Str} {x : Str} {sc : Scope} {f : Addr} {cdv : Value} {A : Around} {outer : List Env} {s : Shared} {H : Hp} {E0 : XK} {y : Str} {M : List Str} [k : OkL sc M] [i : InS y M] : OkX (cx0 P w K mg base N x sc f cdv A outer s H E0) y := ⟨(chkN_at k.k i.h).1, (chkN_at k.k i.h).2⟩
class PutFI (x : Str) (η : En) (f : outParam (V → En)) : Prop where
  h : PutF x η f
instance (priority := high) putfiH {x : Str} {o : Option V} {η : En} : PutFI x ((x, o) :: η) (fun v => (x, some v) :: η) := ⟨.here⟩
instance (priority := low) putfiT {x : Str} {e : Str × Option V} {η : En} {f : V → En} [p : PutFI x η f] : PutFI x (e :: η) (fun v => e :: f v) := ⟨.there p.h⟩
class PutI (x : Str) (v : V) (η : En) (θ : outParam En) : Prop where
  h : Put x v η θ
instance (priority := high) putiH {x : Str} {v : V} {o : Option V} {η : En} : PutI x v ((x, o) :: η) ((x, some v) :: η) := ⟨.here⟩
instance (priority := low) putiT {x : Str} {v : V} {e : Str × Option V} {η θ : En} [p : PutI x v η θ] : PutI x v (e :: η) (e :: θ) := ⟨.there p.h⟩
class NSwap (e : Expr) : Prop where
  h : ∀ t l env, swapsWith e t l env = pure false
instance {a b} : NSwap (.Name a b) := ⟨fun _ _ _ => rfl⟩
instance {a b c} : NSwap (.Constant a b c) := ⟨fun _ _ _ => rfl⟩
instance {a b c d} : NSwap (.BinOp a b c d) := ⟨fun _ _ _ => rfl⟩
instance {a b c} : NSwap (.UnaryOp a b c) := ⟨fun _ _ _ => rfl⟩
instance {a b c} : NSwap (.BoolOp a b c) := ⟨fun _ _ _ => rfl⟩
instance {a b c d} : NSwap (.Compare a b c d) := ⟨fun _ _ _ => rfl⟩
instance {a b c d} : NSwap (.Call a b c d) := ⟨fun _ _ _ => rfl⟩
instance {a b c} : NSwap (.Attribute a b c) := ⟨fun _ _ _ => rfl⟩
instance {a b c} : NSwap (.Subscript a b c) := ⟨fun _ _ _ => rfl⟩
instance {a b c} : NSwap (.Tuple a b c) := ⟨fun _ _ _ => rfl⟩
instance {a b} : NSwap (.List a b) := ⟨fun _ _ _ => rfl⟩
instance {a b c d} : NSwap (.IfExp a b c d) := ⟨fun _ _ _ => rfl⟩
instance {a b c} : NSwap (.NamedExpr a b c) := ⟨fun _ _ _ => rfl⟩
instance {a b c d} : NSwap (.Lambda a b c d) := ⟨fun _ _ _ => rfl⟩
instance {a b c} : NSwap (.Dict a b c) := ⟨fun _ _ _ => rfl⟩
instance {a b c} : NSwap (.Set a b c) := ⟨fun _ _ _ => rfl⟩
instance {a b c d} : NSwap (.GeneratorExp a b c d) := ⟨fun _ _ _ => rfl⟩
instance {a b} : NSwap (.JoinedStr a b) := ⟨fun _ _ _ => rfl⟩
instance {a b c d} : NSwap (.FormattedValue a b c d) := ⟨fun _ _ _ => rfl⟩
class PIx (e : Expr) : Prop where
  h : PlainIx e
instance {a b} : PIx (.Name a b) := ⟨fun _ _ => rfl⟩
instance {a b c} : PIx (.Constant a b c) := ⟨fun _ _ => rfl⟩
instance {a b c d} : PIx (.BinOp a b c d) := ⟨fun _ _ => rfl⟩
instance {a b c} : PIx (.UnaryOp a b c) := ⟨fun _ _ => rfl⟩
instance {a b c} : PIx (.BoolOp a b c) := ⟨fun _ _ => rfl⟩
instance {a b c d} : PIx (.Compare a b c d) := ⟨fun _ _ => rfl⟩
instance {a b c d} : PIx (.Call a b c d) := ⟨fun _ _ => rfl⟩
instance {a b c} : PIx (.Attribute a b c) := ⟨fun _ _ => rfl⟩
instance {a b c} : PIx (.Subscript a b c) := ⟨fun _ _ => rfl⟩
instance {a b c} : PIx (.Tuple a b c) := ⟨fun _ _ => rfl⟩
instance {a b} : PIx (.List a b) := ⟨fun _ _ => rfl⟩
instance {a b c d} : PIx (.IfExp a b c d) := ⟨fun _ _ => rfl⟩
instance {a b c} : PIx (.NamedExpr a b c) := ⟨fun _ _ => rfl⟩
instance {a b c d} : PIx (.Lambda a b c d) := ⟨fun _ _ => rfl⟩
instance {a b c} : PIx (.Dict a b c) := ⟨fun _ _ => rfl⟩
instance {a b c} : PIx (.Set a b c) := ⟨fun _ _ => rfl⟩
instance {a b c d} : PIx (.ListComp a b c d) := ⟨fun _ _ => rfl⟩
instance {a b c d} : PIx (.SetComp a b c d) := ⟨fun _ _ => rfl⟩
instance {a b c d f} : PIx (.DictComp a b c d f) := ⟨fun _ _ => rfl⟩
instance {a b c d} : PIx (.GeneratorExp a b c d) := ⟨fun _ _ => rfl⟩
instance {a b} : PIx (.JoinedStr a b) := ⟨fun _ _ => rfl⟩
instance {a b c d} : PIx (.FormattedValue a b c d) := ⟨fun _ _ => rfl⟩
class NBase (e : Expr) : Prop where
  h : ∀ n env, attributeBase e n env (eval e env) = eval e env
instance {a b} : NBase (.Name a b) := ⟨fun _ _ => rfl⟩
instance {a b c} : NBase (.Attribute a b c) := ⟨fun _ _ => rfl⟩
instance {a b c} : NBase (.Subscript a b c) := ⟨fun _ _ => rfl⟩
class NTgt (e : Expr) : Prop where
  h : ∀ ts env, assignEach (e :: ts) env = (false, assign e env) :: assignEach ts env
instance {a b} : NTgt (.Name a b) := ⟨fun _ _ => rfl⟩
instance {a b c} : NTgt (.Attribute a b c) := ⟨fun _ _ => rfl⟩
instance {a b c} : NTgt (.Subscript a b c) := ⟨fun _ _ => rfl⟩
instance {a b c} : NTgt (.Tuple a b c) := ⟨fun _ _ => rfl⟩
class NTgts (es : List Expr) : Prop where
  h : ∀ env, (assignEach es env).length = es.length ∧ (assignEach es env).findIdx? (·.1) = none
instance : NTgts [] := ⟨fun _ => ⟨rfl, rfl⟩⟩
instance {e : Expr} {es : List Expr} [a : NTgt e] [b : NTgts es] : NTgts (e :: es) := ⟨fun env => by
  have := b.h env
  rw [a.h]
  exact ⟨by simp [this.1], by simp [List.findIdx?_cons, this.2]⟩⟩
class SLen {α β : Type} (xs : List α) (es : List β) : Prop where
  h : xs.length = es.length
instance {α β : Type} : SLen ([] : List α) ([] : List β) := ⟨rfl⟩
instance {α β : Type} {x : α} {xs : List α} {y : β} {ys : List β} [a : SLen xs ys] : SLen (x :: xs) (y :: ys) := ⟨by simp [a.h]⟩
section
variable {X : Cx} {η : En} {L : Lg} {Q : QV} {a b e : Expr} {pos : Pos} {D : GD}
instance {x : Str} {v : V} [k : OkX X x] [t : AtI x v η] : St (GE X (.Name x pos) η L Q) (Q v L) := ⟨fun q => ge_var t.h q (k.l.elim .inl fun z => .inr (.inl z)) k.d.1 k.d.2⟩
instance [i : PIx b] : St (GE X (.Subscript a b pos) η L Q) (GE X a η L fun x L1 => GE X b η L1 fun y L2 => GIx X x y L2 Q) := ⟨fun h => ge_ix h i.h⟩
instance {n : Str} [i : NBase e] : St (GE X (.Attribute e n pos) η L Q) (GE X e η L fun x L1 => GAt X n x L1 Q) := ⟨fun h => ge_attr h (i.h _ _)⟩
instance {x : Str} {f : V → En} {pos' : Pos} [k : VisX X] [o : OkX X x] [p : PutFI x η f] [s : NSwap e] : St (GS X (.Assign [.Name x pos'] e pos) D η L) (GE X e η L fun v L1 => D.nx (f v) L1) := ⟨fun h => gs_set p.h h k.n o.l (s.h _ _ _) (.inl (k.f x))⟩
instance [s : NSwap e] : St (GS X (.Expr e pos) D η L) (GE X e η L fun x L1 => D.nx η L1) := ⟨fun h => gs_expr h (s.h _ _ _)⟩
instance {x : Str} {y : V} {f : V → En} {pos' : Pos} {op : Operator} [k : VisX X] [o : OkX X x] [t : AtI x y η] [p : PutFI x η f] : St (GS X (.AugAssign (.Name x pos') op e pos) D η L) (GE X e η L fun z L1 => GIp X op y z L1 fun w L2 => D.nx (f w) L2) := ⟨fun h => gs_aug t.h p.h h k.n o.l (.inl (k.f x))⟩
instance {x : Str} {v : V} {θ : En} {Q : En → Lg → Prop} [k : VisX X] [o : OkX X x] [p : PutI x v η θ] : St (GG X (.Name x pos) v η L Q) (Q θ L) := ⟨fun h => gg_name p.h h k.n o.l (.inl (k.f x))⟩
instance {v : V} {ts : List Expr} {vs : List V} {Q : En → Lg → Prop} [n : NTgt e] : St (GGs X (e :: ts) (v :: vs) η L Q) (GG X e v η L fun θ L1 => GGs X ts vs θ L1 Q) := ⟨fun h => ggs_cons h (by rw [n.h]; rfl)⟩
instance {es : List Expr} {k : Nat} {p : Addr} {xs : List V} {Q : En → Lg → Prop} [v : VisX X] [m : MemI p (.tup xs) L] [n : NTgts es] [s : SLen xs es] : St (GG X (.Tuple es k pos) (.ref p) η L Q) (GGs X es xs η L Q) := ⟨fun h => gg_tup m.h h s.h v.c (n.h _).1 (n.h _).2⟩
instance {i j : Int} : St (GIp X .Add (.int i) (.int j) L Q) (Q (.int (i + j)) L) := ⟨gp_add⟩
instance {i j : Int} : St (GIp X .Sub (.int i) (.int j) L Q) (Q (.int (i - j)) L) := ⟨gp_sub⟩
instance {i : Int} : St (GUn X (unaryOp .USub) (.int i) L Q) (Q (.int (-i)) L) := ⟨gu_neg⟩
instance : St (GOp X (compareOp .Is) .non .non L Q) (Q (.bl true) L) := ⟨isN_non⟩
instance : St (GOp X (compareOp .IsNot) .non .non L Q) (Q (.bl false) L) := ⟨notN_non⟩
instance {i : Int} : St (GOp X (compareOp .Is) (.int i) .non L Q) (Q (.bl false) L) := ⟨isN_int⟩
instance {i : Int} : St (GOp X (compareOp .IsNot) (.int i) .non L Q) (Q (.bl true) L) := ⟨notN_int⟩
instance {i : Addr} : St (GOp X (compareOp .Is) (.ref i) .non L Q) (Q (.bl false) L) := ⟨isN_ref⟩
instance {i : Addr} : St (GOp X (compareOp .IsNot) (.ref i) .non L Q) (Q (.bl true) L) := ⟨notN_ref⟩
end
instance {i : Int} {q : Int → Prop} : St (∃ j, V.int i = .int j ∧ q j) (q i) := ⟨fun h => ⟨_, rfl, h⟩⟩
instance {i : Addr} {q : Addr → Prop} : St (∃ j, V.ref i = .ref j ∧ q j) (q i) := ⟨fun h => ⟨_, rfl, h⟩⟩
instance {a : V} {q : V → Prop} : St (∃ v, [a] = [v] ∧ q v) (q a) := ⟨fun h => ⟨_, rfl, h⟩⟩
instance {a b : V} {q : V → V → Prop} : St (∃ v w, [a, b] = [v, w] ∧ q v w) (q a b) := ⟨fun h => ⟨_, _, rfl, h⟩⟩
instance {a b c : V} {q : V → V → V → Prop} : St (∃ u v w, [a, b, c] = [u, v, w] ∧ q u v w) (q a b c) := ⟨fun h => ⟨_, _, _, rfl, h⟩⟩
class NSt (t e : Expr) : Prop where
  h : ∀ env, swappedStores [t] e env = pure none
instance {ts k p a b} : NSt (.Tuple ts k p) (.Name a b) := ⟨fun _ => rfl⟩
instance {ts k p a b c} : NSt (.Tuple ts k p) (.Constant a b c) := ⟨fun _ => rfl⟩
instance {ts k p a b c d} : NSt (.Tuple ts k p) (.BinOp a b c d) := ⟨fun _ => rfl⟩
instance {ts k p a b c} : NSt (.Tuple ts k p) (.UnaryOp a b c) := ⟨fun _ => rfl⟩
instance {ts k p a b c} : NSt (.Tuple ts k p) (.BoolOp a b c) := ⟨fun _ => rfl⟩
instance {ts k p a b c d} : NSt (.Tuple ts k p) (.Compare a b c d) := ⟨fun _ => rfl⟩
instance {ts k p a b c d} : NSt (.Tuple ts k p) (.Call a b c d) := ⟨fun _ => rfl⟩
instance {ts k p a b c} : NSt (.Tuple ts k p) (.Attribute a b c) := ⟨fun _ => rfl⟩
instance {ts k p a b c} : NSt (.Tuple ts k p) (.Subscript a b c) := ⟨fun _ => rfl⟩
instance {ts k p a b} : NSt (.Tuple ts k p) (.List a b) := ⟨fun _ => rfl⟩
instance {ts k p a b c d} : NSt (.Tuple ts k p) (.IfExp a b c d) := ⟨fun _ => rfl⟩
instance {u v p e} : NSt (.Subscript u v p) e := ⟨fun _ => by cases e <;> rfl⟩
class NAsg (t : Expr) : Prop where
  h : ∀ env, (assignEach [t] env).map (·.2) = [assign t env]
instance {ts k p} : NAsg (.Tuple ts k p) := ⟨fun _ => rfl⟩
instance {u v p} : NAsg (.Subscript u v p) := ⟨fun _ => rfl⟩
instance {X : Cx} {η : En} {L : Lg} {t e : Expr} {pos : Pos} {D : GD} [s : NSwap e] [n : NSt t e] [a : NAsg t] : St (GS X (.Assign [t] e pos) D η L) (GE X e η L fun v L1 => GG X t v η L1 D.nx) := ⟨fun h => gs_asg h (s.h _ _ _) (n.h _) (a.h _)⟩
/-- a step by a built-in's name -/
class StB (P : Prop) (mg : outParam (Str → Option Value)) (C P' : outParam Prop) : Prop where
  to : Bi mg → C → P' → P
section
variable {X : Cx} {η : En} {L : Lg} {Q : QV} {e : Expr} {es : List Expr} {pos p : Pos}
instance [n : NStar e] : StB (GE X (.Call (.Name "len" p) (e :: es) [] pos) η L Q) X.mg (Gl X "len" ∧ (backTo pos (starEach es X.env)).any (·.1) = false) (GA X (e :: es) η L fun xs L1 => GC X (.builtin "len") xs L1 Q) := ⟨fun B c h => gb_len B h c.1 (n.h _ _) c.2⟩
instance [n : NStar e] : StB (GE X (.Call (.Name "abs" p) (e :: es) [] pos) η L Q) X.mg (Gl X "abs" ∧ (backTo pos (starEach es X.env)).any (·.1) = false) (GA X (e :: es) η L fun xs L1 => GC X (.builtin "abs") xs L1 Q) := ⟨fun B c h => gb_abs B h c.1 (n.h _ _) c.2⟩
instance [n : NStar e] : StB (GE X (.Call (.Name "min" p) (e :: es) [] pos) η L Q) X.mg (Gl X "min" ∧ (backTo pos (starEach es X.env)).any (·.1) = false) (GA X (e :: es) η L fun xs L1 => GC X (.builtin "min") xs L1 Q) := ⟨fun B c h => gb_min B h c.1 (n.h _ _) c.2⟩
instance [n : NStar e] : StB (GE X (.Call (.Name "max" p) (e :: es) [] pos) η L Q) X.mg (Gl X "max" ∧ (backTo pos (starEach es X.env)).any (·.1) = false) (GA X (e :: es) η L fun xs L1 => GC X (.builtin "max") xs L1 Q) := ⟨fun B c h => gb_max B h c.1 (n.h _ _) c.2⟩
instance [n : NStar e] : StB (GE X (.Call (.Name "sum" p) (e :: es) [] pos) η L Q) X.mg (Gl X "sum" ∧ (backTo pos (starEach es X.env)).any (·.1) = false) (GA X (e :: es) η L fun xs L1 => GC X (.builtin "sum") xs L1 Q) := ⟨fun B c h => gb_sum B h c.1 (n.h _ _) c.2⟩
instance [n : NStar e] : StB (GE X (.Call (.Name "sorted" p) (e :: es) [] pos) η L Q) X.mg (Gl X "sorted" ∧ (backTo pos (starEach es X.env)).any (·.1) = false) (GA X (e :: es) η L fun xs L1 => GC X (.builtin "sorted") xs L1 Q) := ⟨fun B c h => gb_sorted B h c.1 (n.h _ _) c.2⟩
instance [n : NStar e] : StB (GE X (.Call (.Name "any" p) (e :: es) [] pos) η L Q) X.mg (Gl X "any" ∧ (backTo pos (starEach es X.env)).any (·.1) = false) (GA X (e :: es) η L fun xs L1 => GC X (.builtin "any") xs L1 Q) := ⟨fun B c h => gb_any B h c.1 (n.h _ _) c.2⟩
instance [n : NStar e] : StB (GE X (.Call (.Name "all" p) (e :: es) [] pos) η L Q) X.mg (Gl X "all" ∧ (backTo pos (starEach es X.env)).any (·.1) = false) (GA X (e :: es) η L fun xs L1 => GC X (.builtin "all") xs L1 Q) := ⟨fun B c h => gb_all B h c.1 (n.h _ _) c.2⟩
instance [n : NStar e] : StB (GE X (.Call (.Name "isinstance" p) (e :: es) [] pos) η L Q) X.mg (Gl X "isinstance" ∧ (backTo pos (starEach es X.env)).any (·.1) = false) (GA X (e :: es) η L fun xs L1 => GC X (.builtin "isinstance") xs L1 Q) := ⟨fun B c h => gb_isinstance B h c.1 (n.h _ _) c.2⟩
instance [n : NStar e] : StB (GE X (.Call (.Name "int" p) (e :: es) [] pos) η L Q) X.mg (Gl X "int" ∧ (backTo pos (starEach es X.env)).any (·.1) = false) (GA X (e :: es) η L fun xs L1 => GC X (.type "int") xs L1 Q) := ⟨fun B c h => gb_int B h c.1 (n.h _ _) c.2⟩
instance [n : NStar e] : StB (GE X (.Call (.Name "list" p) (e :: es) [] pos) η L Q) X.mg (Gl X "list" ∧ (backTo pos (starEach es X.env)).any (·.1) = false) (GA X (e :: es) η L fun xs L1 => GC X (.type "list") xs L1 Q) := ⟨fun B c h => gb_list B h c.1 (n.h _ _) c.2⟩
instance [n : NStar e] : StB (GE X (.Call (.Name "tuple" p) (e :: es) [] pos) η L Q) X.mg (Gl X "tuple" ∧ (backTo pos (starEach es X.env)).any (·.1) = false) (GA X (e :: es) η L fun xs L1 => GC X (.type "tuple") xs L1 Q) := ⟨fun B c h => gb_tuple B h c.1 (n.h _ _) c.2⟩
instance [n : NStar e] : StB (GE X (.Call (.Name "bool" p) (e :: es) [] pos) η L Q) X.mg (Gl X "bool" ∧ (backTo pos (starEach es X.env)).any (·.1) = false) (GA X (e :: es) η L fun xs L1 => GC X (.type "bool") xs L1 Q) := ⟨fun B c h => gb_bool B h c.1 (n.h _ _) c.2⟩
instance [n : NStar e] : StB (GE X (.Call (.Name "str" p) (e :: es) [] pos) η L Q) X.mg (Gl X "str" ∧ (backTo pos (starEach es X.env)).any (·.1) = false) (GA X (e :: es) η L fun xs L1 => GC X (.type "str") xs L1 Q) := ⟨fun B c h => gb_str B h c.1 (n.h _ _) c.2⟩
instance : StB (GE X (.Name "int" pos) η L Q) X.mg (Gl X "int" ∧ 0 = 0) (Q (.ty "int") L) := ⟨fun B c q => gv_int B q c.1⟩
instance : StB (GE X (.Name "bool" pos) η L Q) X.mg (Gl X "bool" ∧ 0 = 0) (Q (.ty "bool") L) := ⟨fun B c q => gv_bool B q c.1⟩
instance : StB (GE X (.Name "tuple" pos) η L Q) X.mg (Gl X "tuple" ∧ 0 = 0) (Q (.ty "tuple") L) := ⟨fun B c q => gv_tuple B q c.1⟩
instance : StB (GE X (.Name "list" pos) η L Q) X.mg (Gl X "list" ∧ 0 = 0) (Q (.ty "list") L) := ⟨fun B c q => gv_list B q c.1⟩
instance : StB (GE X (.Name "str" pos) η L Q) X.mg (Gl X "str" ∧ 0 = 0) (Q (.ty "str") L) := ⟨fun B c q => gv_str B q c.1⟩
instance : StB (GE X (.Name "ValueError" pos) η L Q) X.mg (Gl X "ValueError" ∧ 0 = 0) (Q (.ty "ValueError") L) := ⟨fun B c q => gv_ValueError B q c.1⟩
instance : StB (GE X (.Name "LookupError" pos) η L Q) X.mg (Gl X "LookupError" ∧ 0 = 0) (Q (.ty "LookupError") L) := ⟨fun B c q => gv_LookupError B q c.1⟩
instance {i : Int} : St (GC X (.type "int") [.int i] L Q) (Q (.int i) L) := ⟨gc_int⟩
instance {k : Bool} : St (GC X (.type "int") [.bl k] L Q) (Q (.int (if k = true then 1 else 0)) L) := ⟨gc_intB⟩
instance {i : Int} : St (GC X (.builtin "abs") [.int i] L Q) (Q (.int i.natAbs) L) := ⟨gc_abs⟩
instance {i j : Int} [v : VisX X] : St (GC X (.builtin "min") [.int i, .int j] L Q) (Q (.int (if j < i then j else i)) L) := ⟨gc_min2 v.c⟩
instance {i j : Int} [v : VisX X] : St (GC X (.builtin "max") [.int i, .int j] L Q) (Q (.int (if j > i then j else i)) L) := ⟨gc_max2 v.c⟩
instance {q : Addr} {xs : List V} [m : MemI q (.lst xs) L] : St (GC X (.builtin "len") [.ref q] L Q) (Q (.int xs.length) L) := ⟨gc_lenL m.h⟩
instance {q : Addr} {xs : List V} [m : MemI q (.tup xs) L] : St (GC X (.builtin "len") [.ref q] L Q) (Q (.int xs.length) L) := ⟨gc_lenT m.h⟩
theorem isE (h : GE X e η L Q) : GE X e η L Q := h
theorem isC {f : Value} {xs : List V} (h : GC X f xs L Q) : GC X f xs L Q := h
theorem isIx {x y : V} (h : GIx X x y L Q) : GIx X x y L Q := h
theorem isAt {n : Str} {x : V} (h : GAt X n x L Q) : GAt X n x L Q := h
theorem isS {st : Stmt} {D : GD} (h : GS X st D η L) : GS X st D η L := h
theorem isT {Q : Bool → Lg → Prop} (h : GT X e η L Q) : GT X e η L Q := h
theorem isA {Q : List V → Lg → Prop} (h : GA X es η L Q) : GA X es η L Q := h
theorem isSt {o i v : V} {Q : Lg → Prop} (h : GSt X o i v L Q) : GSt X o i v L Q := h
theorem isG {v : V} {Q : En → Lg → Prop} (h : GG X e v η L Q) : GG X e v η L Q := h
end
end G
set_option Elab.async false
set_option linter.all false
set_option maxRecDepth 100000
set_option maxHeartbeats 4000000
namespace G
open PySem PySem.Spec PyProof.Rows L2
end G
set_option Elab.async false
set_option linter.all false
set_option maxRecDepth 100000
set_option maxHeartbeats 4000000
namespace G
open PySem PySem.Spec PyProof.Rows L2
/-- a tuple that stands in the program's heap -/
def TupK (K : PySem.W.Frag) (a : Addr) (xs : List V) : Prop := ∃ (o : Obj) (its : Array Value) (n : Nat), K.lookup a = some o ∧ o.cls = .type "tuple" ∧ o.data = .seq its n ∧ its.size ≤ sizeLine ∧ Vals xs its.toList
theorem TupK.sq {K : PySem.W.Frag} {a : Addr} {xs : List V} (h : TupK K a xs) (H : Hp) : SqT K H a xs := .inr h
/-- the constant (1, ((0, 0),)) -/
structure EvT (K : PySem.W.Frag) (mg : Str → Option Value) (x : Str) where
  e : Addr
  r : Addr
  p : Addr
  at_ : mg x = some (.ref e)
  te : TupK K e [.int 1, .ref r]
  tr : TupK K r [.ref p]
  tp : TupK K p [.int 0, .int 0]
theorem EvT.dp {K : PySem.W.Frag} {mg : Str → Option Value} {x : Str} (T : EvT K mg x) (H : Hp) : Dp K H (.ref T.e) (.tuple [.int 1, .tuple [.tuple [.int 0, .int 0]]]) :=
  .tup (T.te.sq H) (.cons (.int 1) (.cons (.tup (T.tr.sq H) (.cons (.tup (T.tp.sq H) (.cons (.int 0) (.cons (.int 0) .nil))) .nil)) .nil))
end G
set_option Elab.async false
set_option linter.all false
set_option maxRecDepth 100000
set_option maxHeartbeats 4000000
namespace L2
open PySem PySem.Spec PyProof.Rows
end L2
namespace G
open PySem PySem.Spec PyProof.Rows L2
end G
set_option Elab.async false
set_option linter.all false
set_option maxRecDepth 100000
set_option maxHeartbeats 4000000
namespace G
open PySem PySem.Spec PyProof.Rows L2
end G
set_option Elab.async false
set_option linter.all false
set_option maxRecDepth 100000
set_option maxHeartbeats 4000000
namespace PySem.W
open PySem PySem.Calls PySem.Spec PyProof.Rows Builtin
end PySem.W
namespace G
open PySem PySem.Spec PyProof.Rows L2
end G
set_option Elab.async false
set_option linter.all false
set_option maxRecDepth 100000
set_option maxHeartbeats 4000000
namespace G
open PySem PySem.Spec PyProof.Rows L2
end G
set_option Elab.async false
set_option linter.all false
set_option maxRecDepth 100000
set_option maxHeartbeats 4000000
namespace PySem.SeqAt
open AutoSeq1 (wpAny_loadPart')
open MeetsSeq MeetsSeq2 MeetsSeq3 SeqRoads2
end PySem.SeqAt
namespace G
open PySem PySem.Spec PyProof.Rows L2
end G
set_option Elab.async false
set_option linter.all false
set_option maxRecDepth 100000
set_option maxHeartbeats 4000000
namespace G
open PySem PySem.Spec PyProof.Rows L2
end G
set_option Elab.async false
set_option linter.all false
set_option maxRecDepth 100000
set_option maxHeartbeats 4000000
namespace G
open PySem PySem.Spec PyProof.Rows L2
end G
set_option Elab.async false
set_option linter.all false
set_option maxRecDepth 100000
set_option maxHeartbeats 4000000
namespace G
open PySem PySem.Spec PyProof.Rows L2
end G
set_option Elab.async false
set_option linter.all false
set_option maxRecDepth 100000
set_option maxHeartbeats 4000000
namespace G
open PySem PySem.Spec PyProof.Rows L2
end G
set_option Elab.async false
set_option linter.all false
set_option maxRecDepth 100000
set_option maxHeartbeats 4000000
namespace G
open PySem PySem.Spec PyProof.Rows L2
section
variable {X : Cx} {j k : Nat} {η : En} {L : Lg} {x : Str} {e : Expr} {pos p1 p2 : Pos} {sp : SpL} {W : XW}
/-- an error of the class C with these fields is let out, whatever stands beside it -/
def telX (C : Addr) (fs : List (Str × V)) (E : XL) (L : Lg) : Prop := ∀ (d : Addr) (M : Lg), Sub ((d, HO.xd fs) :: L) M → E (.ref C) (some d) M
theorem telX.sub {C : Addr} {fs : List (Str × V)} {E : XL} {L L' : Lg} (h : telX C fs E L) (s : Sub L L') : telX C fs E L' := fun d M k => h d M (Sub.trans (Sub.cons s) k)
end
end G
set_option Elab.async false
set_option linter.all false
set_option maxRecDepth 100000
set_option maxHeartbeats 4000000
namespace G
open PySem PySem.Spec PyProof.Rows L2
end G
set_option Elab.async false
set_option linter.all false
set_option maxRecDepth 100000
set_option maxHeartbeats 4000000
namespace PySem.W
open PySem PySem.Calls PySem.Spec PyProof.Rows Builtin
end PySem.W
namespace G
open PySem PySem.Spec PyProof.Rows L2
section
variable {X : Cx} {CX : CXT} {j k : Nat} {C g a b dx dy : Addr} {fs gs : List (Str × V)} {sp : SpL} {El : XL} {L : Lg} {Q : QV} {op : Operator} {i : Int} {y : V} {T : String}
/-- an error let out by a call is let out here: with it, the rules for own methods and operators serve callees that raise -/
theorem passTk (tk : Tk X fun c d _ L' => El c d L') : Passes (L2.CX X.prog X.w) X (upX El) := fun pins σ H s e s' I c =>
  tk e s' (XE.of_call I (fun cls d H' ⟨L', h', q⟩ => ⟨X.N.zip σ, L', by
    unfold names
    rw [List.map_fst_zip (Nat.le_of_eq I.len.symm)], by
    unfold vals
    rw [List.map_snd_zip (Nat.le_of_eq I.len)], h', q⟩) c)
end
end G
set_option Elab.async false
set_option linter.all false
set_option maxRecDepth 100000
set_option maxHeartbeats 4000000
namespace PySem.W
open PySem PySem.Calls PyProof.Rows
end PySem.W
namespace G
open PySem PySem.Spec PyProof.Rows L2
end G
set_option Elab.async false
set_option linter.all false
set_option maxRecDepth 100000
set_option maxHeartbeats 4000000
namespace G
open PySem PySem.Spec PyProof.Rows L2
/-- a dict that stands still -/
abbrev dO (od : Obj) (kvs : List (Key × V)) : HO := .frz od (.dK kvs)
theorem paired_imp {α β : Type} {F G : α → β → Prop} (m : ∀ a b, F a b → G a b) : ∀ {l₁ : List α} {l₂ : List β}, Paired F l₁ l₂ → Paired G l₁ l₂
  | _, _, .nil => .nil
  | _, _, .cons a t => .cons (m _ _ a) (paired_imp m t)
section
variable {X : Cx} {η : En} {L : Lg} {Q : QV} {a : Addr} {kvs : List (Key × V)} {od : Obj}
theorem gc_dictP {ps : List Addr} (hc : X.calm = true) (m : (a, HO.lst (ps.map V.ref)) ∈ L) (hp : Paired (fun p kv => (p, HO.tup [kV kv.1, kv.2]) ∈ L) ps kvs)
    (h : ∀ q od, Q (.ref q) ((q, dO od (mergeK [] kvs)) :: L)) : GC X (.type "dict") [.ref a] L Q := fun pins s σ H us hH I r => by
  refine wpAny_mono (call_dictP hc pins s σ H _ us (fun v H' => ∃ q, v = .ref q ∧ H q = none ∧ H' = upd H q (.dK (mergeK [] kvs))) I r ⟨a, ps, kvs, rfl, sql hH m, paired_imp (fun _ _ z => sqt hH z) hp, fun p hp => ⟨p, rfl, hp, rfl⟩⟩) (fun v s' z => ?_) fun _ _ z => z
  obtain ⟨x, H', I', rv, q, ex, hq, eH⟩ := z
  subst ex
  subst eH
  obtain ⟨od, I2⟩ := I'.lock (d := q) upd_same True.intro
  rw [upd_upd] at I2
  exact ⟨.ref q, _, I2, rv, _, hH.new hq, h q od⟩
theorem gi_dict {j : Nat} {k : Key} {v : V} (hr : RoomG j X.A) (m : (a, dO od kvs) ∈ L) (l : valV kvs k = some v) (q : Q v L) : GIx X (.ref a) (kV k) L Q := fun value slice pins s σ H ov iv hH I ro ri hs => by
  obtain rfl : ov = Value.ref a := ro
  have g : DGet H a (kV k) (some v) := .inl ⟨kvs, k, .inr ⟨od, hH.get m⟩, rfl, l.symm⟩
  exact tail_any (dict_typeIs I g) PySem.F.slot_dict_getitem.lookup (d_getItem (hu_of hr.toRoom) I g ri fun w' s3 I3 rw' => ⟨v, H, I3, rw', L, hH, q⟩) hs
theorem gi_dictI {j : Nat} {k : Int} {v : V} (hr : RoomG j X.A) (m : (a, dO od kvs) ∈ L) (l : valV kvs (.inl k) = some v) (q : Q v L) : GIx X (.ref a) (.int k) L Q := gi_dict (k := .inl k) hr m l q
theorem gi_keys {tg e : Expr} {Q : Src → Lg → Prop} (h : GE X e η L fun v L1 => ∃ q od kvs, v = .ref q ∧ (q, dO od kvs) ∈ L1 ∧ Q ⟨kvs.length, fun M => (q, dO od kvs) ∈ M, itemAt (kvs.map fun e => kV e.1)⟩ L1) : GI X tg e η L Q := fun hN H hH =>
  WI.of (pi_keys pe_W) (h.then hN hH fun v L1 H1 k1 ⟨q, od, kvs, ev, m, z⟩ => ⟨q, od, ev, .inl ⟨kvs, k1.get m, L1, _, k1, SrcOk.of walk_keys (fun H M hM k => hM.get k) (fun i H x H' M _ hM _ y => by
    obtain ⟨e, k, v, g, ex⟩ := y
    subst e
    subst ex
    exact ⟨[], ⟨by rw [List.getElem?_map, g]; rfl, rfl⟩, hM⟩), z⟩⟩)
/-- the keys are integers -/
abbrev kvI (u : Int → V) (ds : List Int) : List (Key × V) := ds.map fun d => (.inl d, u d)
theorem gi_keysI {tg e : Expr} {u : Int → V} {ds : List Int} {Q : Src → Lg → Prop} (h : GE X e η L fun v L1 => ∃ q od, v = .ref q ∧ (q, dO od (kvI u ds)) ∈ L1 ∧ Q ⟨(ds.map V.int).length, fun M => (q, dO od (kvI u ds)) ∈ M, itemAt (ds.map V.int)⟩ L1) : GI X tg e η L Q :=
  gi_keys (h.imp fun v L1 ⟨q, od, ev, m, z⟩ => ⟨q, od, kvI u ds, ev, m, by
    have e1 : (kvI u ds).length = (ds.map V.int).length := by rw [List.length_map, List.length_map]
    have e2 : (kvI u ds).map (fun e => kV e.1) = ds.map V.int := by rw [List.map_map]; rfl
    rw [e1, e2]
    exact z⟩)
theorem bt_dict : bootBuiltins "dict" = some (.type "dict") := by decide +kernel
theorem gb_dict {e : Expr} {es : List Expr} {p pos : Pos} (B : Bi X.mg) (h : GA X (e :: es) η L fun xs L1 => GC X (.type "dict") xs L1 Q) (hg : Gl X "dict" := by rfl) (he : starEach (e :: es) X.env = (false, eval e X.env) :: starEach es X.env := by rfl) (hpl : (backTo pos (starEach es X.env)).any (·.1) = false := by rfl) :
    GE X (.Call (.Name "dict" p) (e :: es) [] pos) η L Q := ge_Y B.dict bt_dict h hg (by decide) (by decide) he hpl
end
/-- pairs laid by a comprehension, for dict(..) -/
theorem es_keys {α : Type} {f : α → Key × V} : ∀ {es : Lg} {ds : List α}, es.map (·.2) = ds.map (fun d => HO.tup [kV (f d).1, (f d).2]) → ∃ ps : List Addr, refs es = ps.map V.ref ∧ ps.length = ds.length ∧ Paired (fun p kv => (p, HO.tup [kV kv.1, kv.2]) ∈ es) ps (ds.map f)
  | [], [], _ => ⟨[], rfl, rfl, .nil⟩
  | [], _ :: _, h => by cases h
  | _ :: _, [], h => by cases h
  | e :: es, d :: ds, h => by
    obtain ⟨h1, h2⟩ := List.cons.inj h
    obtain ⟨ps, r, l, p⟩ := es_keys (f := f) h2
    refine ⟨e.1 :: ps, ?_, by rw [List.length_cons, List.length_cons, l], .cons ?_ (paired_imp (fun _ _ z => List.mem_cons_of_mem _ z) p)⟩
    · show V.ref e.1 :: refs es = V.ref e.1 :: ps.map V.ref
      rw [r]
    · have h1 : e.2 = HO.tup [kV (f d).1, (f d).2] := h1
      rw [← h1]
      exact List.mem_cons_self
theorem nodup_kvI {u : Int → V} {ds : List Int} (h : ds.Nodup) : ((kvI u ds).map (·.1)).Nodup := by
  rw [List.map_map]
  exact List.Pairwise.map _ (fun a b n z => n (Sum.inl.inj z)) h
/-- no key twice: all stand as they were given -/
theorem merge_snoc : ∀ (more kvs : List (Key × V)), ((kvs ++ more).map (·.1)).Nodup → mergeK kvs more = kvs ++ more
  | [], kvs, _ => by
    rw [List.append_nil]
    rfl
  | e :: more, kvs, h => by
    have n : valV kvs e.1 = none := by
      cases g : valV kvs e.1 with
      | none => rfl
      | some x =>
        exfalso
        unfold valV at g
        obtain ⟨y, hy, -⟩ := Option.map_eq_some_iff.mp g
        have z1 := List.find?_some hy
        have z2 := List.mem_of_find?_eq_some hy
        rw [List.map_append, List.nodup_append] at h
        exact h.2.2 y.1 (List.mem_map.mpr ⟨y, z2, rfl⟩) e.1 (by simp) (by simpa using z1)
    show mergeK (putK kvs e.1 e.2) more = _
    rw [putK_new e.2 n]
    have := merge_snoc more (kvs ++ [e]) (by rw [List.append_assoc]; exact h)
    rw [List.append_assoc] at this
    exact this
theorem merge_nodup {kvs : List (Key × V)} (h : (kvs.map (·.1)).Nodup) : mergeK [] kvs = kvs := merge_snoc kvs [] h
theorem valV_of {α : Type} {f : α → Key × V} : ∀ {ds : List α}, ((ds.map f).map (·.1)).Nodup → ∀ d ∈ ds, valV (ds.map f) (f d).1 = some (f d).2
  | [], _, d, hd => by cases hd
  | e :: ds, h, d, hd => by
    rw [List.map_cons, List.map_cons] at h
    have n := List.nodup_cons.mp h
    rw [List.map_cons]
    by_cases c : (f e).1 = (f d).1
    · rw [valV_pos c]
      rcases List.mem_cons.mp hd with rfl | hd
      · rfl
      · exfalso
        refine n.1 ?_
        rw [c]
        exact List.mem_map.mpr ⟨f d, List.mem_map.mpr ⟨d, hd, rfl⟩, rfl⟩
    · rw [valV_neg c]
      rcases List.mem_cons.mp hd with rfl | hd
      · exact absurd rfl c
      · exact valV_of n.2 d hd
end G
set_option Elab.async false
set_option linter.all false
set_option maxRecDepth 100000
set_option maxHeartbeats 4000000
namespace PySem.W
open PySem PySem.Calls PyProof.Rows
section
variable {prog : Program} {w : World} {A : Around} {E : Value → Shared → Prop} {s : Shared} {K : Frag} {x C f : Addr} {ox : Obj} {od : Option Obj} {v : Value} {T id : String}
theorem g_tryUp {Q : Option Value → Shared → Prop} (slot : Slot T (cmpInfo .Eq).2.1 id) (hT : s.TypeIs v T) (h : wpAny (model prog w) A (call (.builtin id) [v, .ref x]) (fun u s' => u = .notImplemented ∧ Q none s') E s) : wpAny (model prog w) A (tryCompare v "__eq__" (.ref x)) Q E s := by
  unfold tryCompare
  refine wpAny_bind (wpAny_callSpecialIfBound?_slot hT slot (wpAny_mono h (fun u s' hu => ?_) fun _ _ e => e))
  obtain ⟨rfl, q⟩ := hu
  exact wpAny_pure q
theorem g_eqBack {Q : Value → Shared → Prop} (hu : A.units < cLine) (X : K.In s.heap) (I : InstAt s.heap x ox C od) (hv : oneThing? .Eq v (.ref x) = none) (hT : s.TypeIs v T) (sub : subIn K (.ref C) (.type T) = some false)
    (up : ∀ Q : Option Value → Shared → Prop, Q none s → wpAny (model prog w) A (tryCompare v "__eq__" (.ref x)) Q E s)
    (hs : findIn K (.ref C) "__eq__" = some (some (.ref f))) (hf : isFn K (.ref f) = true) (h : wpAny (model prog w) A (call (.ref f) [.ref x, v]) (fun v s' => ∃ r, v = .bool r ∧ Q (.bool r) s') E s) : wpAny (model prog w) A (richCompare .Eq v (.ref x)) Q E s := by
  have one : wpAny (model prog w) A (tryCompare (.ref x) "__eq__" v) (fun r s' => ∃ v, r = some v ∧ Q v s') E s := by
    unfold tryCompare
    refine wpAny_bind (ifBound_K X I hs hf (wpAny_mono h (fun v s' hv => ?_) fun _ _ e => e))
    obtain ⟨r, rfl, q⟩ := hv
    exact wpAny_pure ⟨_, rfl, q⟩
  unfold richCompare
  simp only [hv]
  refine wpAny_holding (wpAny_bind (wpAny_cRoomFor hu ?_))
  refine wpAny_bind (wpAny_typeOf hT (wpAny_bind (I.type.here ?_)))
  split
  · refine wpAny_bind ((looks_subIn X sub).here ?_)
    simp only [Bool.false_eq_true, if_false]
    refine wpAny_bind (up _ ?_)
    simp only [Bool.not_false, if_true]
    refine wpAny_bind (wpAny_mono one (fun r s' z => ?_) fun _ _ e => e)
    obtain ⟨v, rfl, hq⟩ := z
    first
      | exact wpAny_pure hq
      | exact wpAny_bind (wpAny_pure hq)
  · rename_i q
    simp at q
end
section
variable {prog : Program} {w : World} {A : Around} {E : Value → Shared → Prop} {s : Shared} {K : Frag} {x C : Addr} {ox : Obj} {od : Option Obj} {Q : Option Value → Shared → Prop}
theorem g_notInst {T : String} {Q : Bool → Shared → Prop} (X : K.In s.heap) (I : InstAt s.heap x ox C od) (sub : subIn K (.ref C) (.type T) = some false) (q : Q false s) : wpAny (model prog w) A (isInstance (.ref x) (.type T)) Q E s := by
  simp only [isInstance]
  exact wpAny_bind (I.type.here ((looks_subIn X sub).here q))
theorem g_upNone (q : Q none s) : wpAny (model prog w) A (tryCompare .none "__eq__" (.ref x)) Q E s := by
  refine g_tryUp F.slot_NoneType_eq (typeIs_none s) (wpAny_call_entry F.slot_NoneType_eq (typeIs_none s) F.entry_NoneType_eq ?_ (F.args_NoneType_eq_2 _ _))
  exact wpAny_pure ⟨_, rfl, rfl, q⟩
theorem g_upList {a : Addr} (hT : s.TypeIs (.ref a) "list") (X : K.In s.heap) (I : InstAt s.heap x ox C od) (sub : subIn K (.ref C) (.type "list") = some false) (q : Q none s) : wpAny (model prog w) A (tryCompare (.ref a) "__eq__" (.ref x)) Q E s := by
  refine g_tryUp F.slot_list_eq hT (wpAny_call_entry F.slot_list_eq hT F.entry_list_eq ?_ (F.args_list_eq_2 _ _))
  show wpAny _ _ (isInstance (.ref x) (.type "list") >>= _) _ _ s
  refine wpAny_bind (g_notInst X I sub ?_)
  exact wpAny_pure ⟨_, rfl, rfl, q⟩
theorem g_upTuple {a : Addr} (hT : s.TypeIs (.ref a) "tuple") (X : K.In s.heap) (I : InstAt s.heap x ox C od) (sub : subIn K (.ref C) (.type "tuple") = some false) (q : Q none s) : wpAny (model prog w) A (tryCompare (.ref a) "__eq__" (.ref x)) Q E s := by
  refine g_tryUp F.slot_tuple_eq hT (wpAny_call_entry F.slot_tuple_eq hT F.entry_tuple_eq ?_ (F.args_tuple_eq_2 _ _))
  show wpAny _ _ (isInstance (.ref x) (.type "tuple") >>= _) _ _ s
  refine wpAny_bind (g_notInst X I sub ?_)
  exact wpAny_pure ⟨_, rfl, rfl, q⟩
theorem g_upDict {a : Addr} (hT : s.TypeIs (.ref a) "dict") (X : K.In s.heap) (I : InstAt s.heap x ox C od) (sub : subIn K (.ref C) (.type "dict") = some false) (q : Q none s) : wpAny (model prog w) A (tryCompare (.ref a) "__eq__" (.ref x)) Q E s := by
  refine g_tryUp F.slot_dict_eq hT (wpAny_call_entry F.slot_dict_eq hT F.entry_dict_eq ?_ (F.args_dict_eq_2 _ _))
  show wpAny _ _ (isInstance (.ref x) (.type "dict") >>= _) _ _ s
  refine wpAny_bind (g_notInst X I sub ?_)
  exact wpAny_bind (wpAny_rule (wpAny_pure ⟨_, rfl, rfl, q⟩))
theorem g_upStr {z : Str} {t : Tok} {dx : Addr} (hx : s.heap.get? x = some (instObj C dx)) (q : Q none s) : wpAny (model prog w) A (tryCompare (.str z t) "__eq__" (.ref x)) Q E s := by
  refine g_tryUp F.slot_str_eq (typeIs_str s z t) (wpAny_call_entry F.slot_str_eq (typeIs_str s z t) F.entry_str_eq ?_ (F.args_str_eq_2 _ _))
  show wpAny _ _ (asStr? (.ref x) >>= _) _ _ s
  refine wpAny_bind (wpAny_bind (wpAny_load hx ?_))
  refine wpAny_pure ?_
  exact wpAny_bind (wpAny_rule (wpAny_pure ⟨_, rfl, rfl, q⟩))
theorem g_upInt {i : Int} {t : Tok} {dx : Addr} (hx : s.heap.get? x = some (instObj C dx)) (q : Q none s) : wpAny (model prog w) A (tryCompare (.int i t) "__eq__" (.ref x)) Q E s := by
  refine g_tryUp F.slot_int_eq (typeIs_int s i t) (wpAny_call_entry F.slot_int_eq (typeIs_int s i t) F.entry_int_eq ?_ (F.args_int_eq_2 _ _))
  show wpAny _ _ (asInt? (.ref x) >>= _) _ _ s
  refine wpAny_bind (wpAny_bind (wpAny_load hx ?_))
  refine wpAny_pure ?_
  exact wpAny_bind (wpAny_rule (wpAny_pure ⟨_, rfl, rfl, q⟩))
theorem g_upBool {b : Bool} {dx : Addr} (hx : s.heap.get? x = some (instObj C dx)) (q : Q none s) : wpAny (model prog w) A (tryCompare (.bool b) "__eq__" (.ref x)) Q E s := by
  refine g_tryUp F.slot_bool_eq (PySem.typeIs_bool s b) (wpAny_call_entry F.slot_bool_eq (PySem.typeIs_bool s b) F.entry_int_eq ?_ (F.args_int_eq_2 _ _))
  show wpAny _ _ (asInt? (.ref x) >>= _) _ _ s
  refine wpAny_bind (wpAny_bind (wpAny_load hx ?_))
  refine wpAny_pure ?_
  exact wpAny_bind (wpAny_rule (wpAny_pure ⟨_, rfl, rfl, q⟩))
end
end PySem.W
namespace G
open PySem PySem.Spec PyProof.Rows L2
section
variable {X : Cx} {CX : CXT} {j k : Nat} {C g a dx : Addr} {fs : List (Str × V)} {sp : SpL} {El : XL} {L : Lg} {Q : QV} {y : V} {T : String}
theorem go_eqBack (T' : OwnEq X.K C g) (F : RunG X.prog X.w X.K X.mg X.base CX k g argsP (toSp sp)) (hr : RoomG j X.A) (hx : Passes CX X (upX El)) (ma : (a, HO.ins C dx fs) ∈ L) (ky : Knd L y T) (sub : PySem.W.subIn X.K (.ref C) (.type T) = some false)
    (h : sp [.ref a, y] L (fun v L' => ∃ r, v = .bl r ∧ Q (.bl r) L') El) (hjk : k ≤ j := by decide) : GOp X (compareOp .Eq) y (.ref a) L Q := fun pins s σ H v u hH I ry rx => by
  obtain rfl : u = Value.ref a := rx
  obtain ⟨oa, da, J⟩ := ins_inst I hH ma
  have hob := (I.hok a _ (hH.get ma)).2.2.2.1
  have fin : wpAny (model X.prog X.w) X.A (call (.ref g) [.ref a, v]) (fun v s' => ∃ r, v = .bool r ∧ EP X pins σ (up Q) (.bool r) s') X.xe s := by
    refine wpAny_mono (run_G (args := argsP) (us := [.ref a, v]) (vs := [.ref a, y]) F (hr.mono hjk) hx I (.cons rfl (.cons ry .nil)) (up_sp hH h)) (fun r s' z => ?_) fun _ _ z => z
    obtain ⟨v, H', I', rv, L', h', r0, ev, q⟩ := z
    subst ev
    obtain rfl : r = Value.bool r0 := rv
    exact ⟨r0, rfl, .bl r0, H', I', rfl, L', h', q⟩
  show wpAny (model X.prog X.w) X.A (richCompare .Eq v (.ref a)) _ _ _
  cases ky with
  | non =>
    obtain rfl : v = Value.none := ry
    exact PySem.W.g_eqBack hr.toRoom.units0 I.kIn J rfl (typeIs_none s) sub (fun _ q => PySem.W.g_upNone q) T'.at_ T'.fn fin
  | @bl b =>
    obtain rfl : v = Value.bool b := ry
    exact PySem.W.g_eqBack hr.toRoom.units0 I.kIn J rfl (PySem.typeIs_bool s b) sub (fun _ q => PySem.W.g_upBool hob q) T'.at_ T'.fn fin
  | int =>
    obtain ⟨t, rfl⟩ := ry
    exact PySem.W.g_eqBack hr.toRoom.units0 I.kIn J rfl (typeIs_int s _ t) sub (fun _ q => PySem.W.g_upInt hob q) T'.at_ T'.fn fin
  | str =>
    obtain ⟨t, rfl⟩ := ry
    exact PySem.W.g_eqBack hr.toRoom.units0 I.kIn J rfl (typeIs_str s _ t) sub (fun _ q => PySem.W.g_upStr hob q) T'.at_ T'.fn fin
  | @lst p xs m =>
    obtain rfl : v = Value.ref p := ry
    obtain ⟨_, its, n, _, e⟩ := I.hok p _ (hH.get m)
    have hT : s.TypeIs (.ref p) "list" := ⟨_, e, rfl⟩
    exact PySem.W.g_eqBack hr.toRoom.units0 I.kIn J (by simp only [oneThing_ref]) hT sub (fun _ q => PySem.W.g_upList hT I.kIn J sub q) T'.at_ T'.fn fin
  | @tup p xs m =>
    obtain rfl : v = Value.ref p := ry
    obtain ⟨_, its, _, e⟩ := I.hok p _ (hH.get m)
    exact PySem.W.g_eqBack hr.toRoom.units0 I.kIn J (by simp only [oneThing_ref]) e.typeIs sub (fun _ q => PySem.W.g_upTuple e.typeIs I.kIn J sub q) T'.at_ T'.fn fin
  | @dct p kvs m =>
    obtain rfl : v = Value.ref p := ry
    obtain ⟨_, _, _, _, e⟩ := I.hok p _ (hH.get m)
    exact PySem.W.g_eqBack hr.toRoom.units0 I.kIn J (by simp only [oneThing_ref]) e.typeIs sub (fun _ q => PySem.W.g_upDict e.typeIs I.kIn J sub q) T'.at_ T'.fn fin
end
end G
set_option Elab.async false
set_option linter.all false
set_option maxRecDepth 100000
set_option maxHeartbeats 4000000
namespace G
open PySem PySem.Spec PyProof.Rows L2
section
variable {X : Cx} {L : Lg} {elt : Expr} {scope : Scope} {f : V → En} {S : Src} {u : Nat → V} {Q : QV} {p c D : Addr} {ns : List Int} {n m k : Int} {R : Lg}
theorem lc_drawsG (P : Nat → Int → Prop) (hit : ∀ i x E, i < S.n → S.item i x E → x = u i ∧ E = []) (kp : ∀ M, (∀ e ∈ R, e ∈ M) → S.keep M) (hN : S.n ≤ 100000) (hL : Sub ((p, penO c n m) :: (c, celO ns) :: R) L) (n0 : 0 ≤ n) (m0 : 0 ≤ m) (k0 : 0 ≤ k) (nk : n + k * S.n ≤ 100000 - k)
    (turn : ∀ i, i < S.n → ∀ n m R', (∀ e ∈ R, e ∈ R') → 0 ≤ n → n + k ≤ 100000 → 0 ≤ m → AllBlk X scope fun B => GE B elt (f (u i)) ((p, penO c n m) :: (c, celO ns) :: R') fun v M' => ∃ j n' m', v = .int j ∧ P i j ∧ 0 ≤ n' ∧ n' ≤ n + k ∧ 0 ≤ m' ∧ Sub ((p, penO c n' m') :: (c, celO ns) :: R') M')
    (q : ∀ (js : List Int) (n' m' : Int), js.length = S.n → (∀ i j, js[i]? = some j → P i j) → 0 ≤ n' → n' ≤ n + k * S.n → 0 ≤ m' → Q (.ref D) ((D, .lst (js.map V.int)) :: (p, penO c n' m') :: (c, celO ns) :: R)) :
    ∃ Pv, LcS X scope [] elt S D L (fun v M k => k (f v) M) Pv (drp Q) := by
  refine ⟨fun i M => ∃ js n' m', Sub ((p, penO c n' m') :: (c, celO ns) :: (D, .lst (js.map V.int)) :: R) M ∧ js.length = i ∧ (∀ i j, js[i]? = some j → P i j) ∧ 0 ≤ n' ∧ n' ≤ n + k * i ∧ 0 ≤ m', ⟨[], n, m, ?_, rfl, fun _ _ z => by simp at z, n0, by omega, m0⟩, fun i M _ nd ⟨js, n', m', sb, _⟩ => ?_, ?_, ?_⟩
  · exact rot3'.trans (Sub.cons hL)
  · exact kp M fun e he => (sb.to nd).2 _ (by simp [he])
  · rintro i x E M hi ix _ ⟨js, n1, m1, sb, hl, hP, a0, a1, a2⟩
    obtain ⟨rfl, rfl⟩ := hit i x E hi ix
    intro s1 H1 C1 cl1 fp1
    refine gts_nil ?_
    dsimp only
    refine ite_t ?_
    intro s2 H2 C2 cl2 fp2
    have ki : k * ((i : Nat) : Int) + k ≤ k * (S.n : Int) := by
      have := Int.mul_le_mul_of_nonneg_left (show ((i : Nat) : Int) + 1 ≤ (S.n : Int) by omega) k0
      rw [Int.mul_add, Int.mul_one] at this
      exact this
    refine GE.sub sb (GE.nd ((turn i hi n1 m1 _ (fun e h => List.mem_cons_of_mem _ h) a0 (by omega) a2 s2 H2 C2 cl2 fp2).imp fun v M' ⟨j, n', m', ev, pj, b0, b1, b2, s3⟩ nd => ?_))
    subst ev
    have s4 : Sub ((D, .lst (js.map V.int)) :: (p, penO c n' m') :: (c, celO ns) :: R) M' := rot3.trans s3
    have m2 := (s4.to nd).2 _ List.mem_cons_self
    obtain ⟨M3, sw⟩ := Swap.ex (o := .lst (js.map V.int ++ [V.int j])) (u := .lst (js.map V.int)) rfl m2
    refine ⟨_, M3, m2, ?_, sw, js ++ [j], n', m', ?_, by rw [List.length_append, hl]; rfl, fun y z hy => ?_, b0, ?_, b2⟩
    · rw [List.length_map, hl, sizeLine_eq]
      omega
    · have z := rot3'.trans (s4.swap sw)
      rw [List.map_append]
      exact z
    · rcases Nat.lt_or_ge y js.length with h | h
      · rw [List.getElem?_append_left h] at hy
        exact hP y z hy
      · rw [List.getElem?_append_right h] at hy
        obtain ⟨e1, e2⟩ : y - js.length = 0 ∧ j = z := by
          cases hk : y - js.length with
          | zero => rw [hk] at hy; exact ⟨rfl, Option.some.inj hy⟩
          | succ t => rw [hk] at hy; simp at hy
        rw [← e2, show y = i by omega]
        exact pj
    · rw [Int.natCast_add, Int.mul_add]
      show n' ≤ n + (k * (i : Int) + k * 1)
      omega
  · rintro M ⟨js, n', m', sb, hl, hP, a0, a1, a2⟩
    exact ⟨_, rot3.trans sb, q js n' m' hl hP a0 a1 a2⟩
end
end G
local macro_rules | `(tactic| tm_at "g_at") => `(tactic| first | with_reducible apply G.At.here | (with_reducible apply G.At.there; tm_at "g_at"))
local macro_rules | `(tactic| tm_at "g_put") => `(tactic| first | with_reducible apply G.PutF.here | (with_reducible apply G.PutF.there; tm_at "g_put"))
local macro_rules | `(tactic| tm_at "g_pv") => `(tactic| first | with_reducible apply G.Put.here | (with_reducible apply G.Put.there; tm_at "g_pv"))
local macro_rules | `(tactic| tm_at "g_mem") => `(tactic| first | with_reducible apply G.mem0 | (with_reducible apply G.memS; tm_at "g_mem") | (with_reducible apply G.memR; tm_at "g_mem") | with_reducible assumption)
local macro_rules | `(tactic| tm_at "g_memd") => `(tactic| first | apply G.mem0 | (apply G.memS; tm_at "g_memd") | (with_reducible apply G.memR; tm_at "g_memd"))
local macro_rules | `(tactic| tm_at "g_swap") => `(tactic| first | ((with_reducible apply G.Swap.here); rfl) | with_reducible assumption | ((with_reducible apply G.Swap.there); tm_at "g_swap") | ((with_reducible apply G.Swap.right); tm_at "g_swap"))
local macro_rules | `(tactic| tm_at "g_sub") => `(tactic| first | with_reducible apply G.Sub.refl | (refine G.Sub.trans ?_ G.Sub.drop; tm_at "g_sub"))
local macro_rules | `(tactic| tm_at "g_subl") => `(tactic| first | with_reducible exact List.Sublist.refl _ | with_reducible apply List.Sublist.cons_cons | with_reducible apply List.Sublist.cons)
local macro_rules | `(tactic| tm_at "g_end") => `(tactic| (refine G.Sub.sublist ?_; repeat (first | with_reducible exact List.Sublist.refl _ | with_reducible apply List.Sublist.cons_cons | with_reducible apply List.Sublist.cons | with_reducible apply G.subl_app)))
local macro_rules | `(tactic| tm_at "g_br") => `(tactic| first | with_reducible apply G.br0 | with_reducible apply G.br1 | with_reducible apply G.br2 | with_reducible apply G.br3 | with_reducible apply G.br4 | with_reducible apply G.br5 | with_reducible apply G.br6)
local macro_rules | `(tactic| tm_at "g_len") => `(tactic| (intro vs L Q E h; repeat (first | (obtain ⟨e, _⟩ := h; subst e; rfl) | (obtain ⟨_, h⟩ := h))))
local macro_rules | `(tactic| tm_at "g_size") => `(tactic| first | exact G.sz1 | exact G.sz2 | exact G.sz3 | exact G.sz_le (n := 0) (by decide) | exact G.sz_le (n := 4) (by decide) | exact G.sz_le (n := 5) (by decide) | exact G.sz_le (n := 6) (by decide) | exact G.sz_le (n := 7) (by decide) | exact G.sz_le (n := 8) (by decide) | exact G.sz_le (by first | decide | omega | (simp only [List.length_append, List.length_cons, List.length_nil, List.length_map]; omega)))
/-- all steps but a test's -/
local macro_rules | `(tactic| tm_at "f_e") => `(tactic| first
  | ((with_reducible show G.GE _ (PySem.Expr.Call (PySem.Expr.Attribute _ "append" _) _ _ _) _ _ _); refine G.ge_append ?_)
  | ((with_reducible show G.GE _ (PySem.Expr.Compare _ [_, _] _ _) _ _ _); refine G.ge_chain ?_)
  | ((with_reducible show G.GE _ (PySem.Expr.Subscript _ (PySem.Expr.Slice _ _ none _) _) _ _ _); refine G.ge_sliceL ?_)
  | ((with_reducible show G.GE _ (PySem.Expr.Name _ _) _ _ _); refine G.ge_var (by tm_at "g_at") ?_)
  | ((with_reducible show G.GE _ (PySem.Expr.Dict [] [] _) _ _ _); refine G.ge_dict0 (fun p => ?_))
  | ((with_reducible show G.GE _ (PySem.Expr.Compare _ _ _ _) _ _ _); refine G.ge_cmp ?_)
  | ((with_reducible show G.GE _ (PySem.Expr.Subscript _ _ _) _ _ _); refine G.ge_ix ?_)
  | ((with_reducible show G.GE _ (PySem.Expr.Attribute _ _ _) _ _ _); refine G.ge_attr ?_))
local macro_rules | `(tactic| tm_at "f_t") => `(tactic| first
  | ((with_reducible show G.GT _ (PySem.Expr.Compare _ [_, _] _ _) _ _ _); refine G.gt_chain ?_)
  | ((with_reducible show G.GT _ (PySem.Expr.Compare _ _ _ _) _ _ _); refine G.gt_cmp ?_)
  | refine G.gt_val ?_)
local macro_rules | `(tactic| tm_at "f_s") => `(tactic| first
  | ((with_reducible show G.GS _ (PySem.Stmt.Assign [PySem.Expr.Name _ _] _ _) _ _ _); refine G.gs_set (by tm_at "g_put") ?_)
  | ((with_reducible show G.GS _ (PySem.Stmt.Assign [PySem.Expr.Tuple [PySem.Expr.Name _ _, PySem.Expr.Name _ _] _ _] (PySem.Expr.Tuple _ _ _) _) _ _ _); refine G.gs_par (by tm_at "g_put") (fun _ => by tm_at "g_put") ?_)
  | ((with_reducible show G.GS _ (PySem.Stmt.Assign [PySem.Expr.Tuple [PySem.Expr.Name _ _, PySem.Expr.Name _ _, PySem.Expr.Name _ _] _ _] (PySem.Expr.Tuple _ _ _) _) _ _ _); refine G.gs_par3 (by tm_at "g_put") (fun _ => by tm_at "g_put") (fun _ _ => by tm_at "g_put") ?_)
  | ((with_reducible show G.GS _ (PySem.Stmt.Assign [PySem.Expr.Attribute _ _ _] _ _) _ _ _); refine G.gs_fld ?_)
  | ((with_reducible show G.GS _ (PySem.Stmt.Assign _ _ _) _ _ _); refine G.gs_asg ?_)
  | ((with_reducible show G.GS _ (PySem.Stmt.AugAssign _ _ _ _) _ _ _); refine G.gs_aug (by tm_at "g_at") (by tm_at "g_put") ?_)
  | ((with_reducible show G.GS _ (PySem.Stmt.Expr _ _) _ _ _); refine G.gs_expr ?_))
local macro_rules | `(tactic| tm_at "f_c") => `(tactic| first
  | ((with_reducible show G.GC _ (PySem.Value.builtin "len") _ _ _); first | refine G.gc_lenL (by tm_at "g_mem") ?_ | refine G.gc_lenT (by tm_at "g_mem") ?_)
  | ((with_reducible show G.GC _ (PySem.Value.builtin "min") [L2.V.int _, L2.V.int _] _ _); refine G.gc_min2 rfl ?_)
  | ((with_reducible show G.GC _ (PySem.Value.builtin "max") [L2.V.int _, L2.V.int _] _ _); refine G.gc_max2 rfl ?_))
local macro_rules | `(tactic| tm_at "f_g") => `(tactic| first
  | ((with_reducible show G.GG _ (PySem.Expr.Name _ _) _ _ _ _); refine G.gg_name (by tm_at "g_pv") ?_)
  | ((with_reducible show G.GG _ (PySem.Expr.Tuple _ _ _) _ _ _ _); refine G.gg_tup (by tm_at "g_mem") ?_)
  | ((with_reducible show G.GG _ (PySem.Expr.Subscript _ _ _) _ _ _ _); refine G.gg_sub ?_))
local macro_rules | `(tactic| tm_at "f_st") => `(tactic| first
  | refine G.gst_30 (by tm_at "g_mem") (by tm_at "g_swap") ?_
  | refine G.gst_31 (by tm_at "g_mem") (by tm_at "g_swap") ?_
  | refine G.gst_32 (by tm_at "g_mem") (by tm_at "g_swap") ?_)
local macro_rules | `(tactic| tm_at "f_i") => `(tactic| first
  | ((with_reducible show ∃ _, _ = _ ∧ _); with_reducible refine ⟨_, rfl, ?_⟩)
  | ((with_reducible show ∃ _ _, _ = _ ∧ _ ∈ _ ∧ _); refine ⟨_, _, rfl, (by tm_at "g_mem"), ?_⟩)
  | ((with_reducible show ∃ _ _, _ ∈ _ ∧ _ < _ ∧ _); refine ⟨_, _, (by tm_at "g_mem"), (by exact G.sz_lt (by simp only [List.length_append, List.length_cons, List.length_nil, List.length_map]; omega)), (by tm_at "g_swap"), ?_⟩)
  | ((with_reducible show ∃ _ _, _ = _ ∧ _); with_reducible refine ⟨_, _, rfl, ?_⟩)
  | ((with_reducible show ∃ _ _ _, _ = _ ∧ _); with_reducible refine ⟨_, _, _, rfl, ?_⟩))
local macro_rules | `(tactic| tm_at "f_a") => `(tactic| first
  | ((with_reducible show G.GA _ (PySem.Expr.Starred _ _ :: _) _ _ _); refine G.ga_star ?_)
  | refine G.ga_cons ?_)
local macro_rules | `(tactic| tm_at "f_k") => `(tactic| first
  | ((with_reducible show G.GK _ (_ :: _) _ _ _); refine G.gk_cons ?_)
  | ((with_reducible show G.GK _ [] _ _ _); refine G.gk_nil ?_)
  | ((with_reducible show G.GGs _ (_ :: _) _ _ _ _); refine G.ggs_cons ?_))
local macro_rules | `(tactic| tm_at "f1") => `(tactic| first
  | ((with_reducible apply G.isE); tm_at "f_e")
  | ((with_reducible apply G.isS); tm_at "f_s")
  | ((with_reducible apply G.isAt); refine G.gat_fldA (by tm_at "g_mem") (by assumption) (by assumption) (by exact rfl) ?_)
  | ((with_reducible apply G.isIx); first | refine G.gi_lst (by tm_at "g_mem") (by exact rfl) ?_ | refine G.gi_tup (by tm_at "g_mem") (by exact rfl) ?_)
  | ((with_reducible apply G.isT); tm_at "f_t")
  | ((with_reducible apply G.isC); tm_at "f_c")
  | ((with_reducible apply G.isG); tm_at "f_g")
  | ((with_reducible apply G.isA); tm_at "f_a")
  | ((with_reducible apply G.isSt); tm_at "f_st")
  | tm_at "f_i"
  | tm_at "f_k")
local macro_rules | `(tactic| tm_at "gx1") => `(tactic| first
  | refine G.St.to ?_
  | ((with_reducible show _ ∧ _); refine ⟨(by tm_at "g_size"), fun p => ?_⟩)
  | refine G.StB.to (by assumption) ⟨rfl, rfl⟩ ?_
  | tm_at "f1")
local macro_rules | `(tactic| tm_at "g1") => `(tactic| first
  | refine G.St.to ?_
  | with_reducible apply G.gs_if
  | ((with_reducible show _ ∧ _); refine ⟨(by tm_at "g_size"), fun p => ?_⟩)
  | refine G.StB.to (by assumption) ⟨rfl, rfl⟩ ?_
  | tm_at "f1")
local macro_rules | `(tactic| tm_at "g") => `(tactic| repeat (tm_at "g1"; try dsimp only [G.bodyD]))
local macro_rules | `(tactic| tm_at "gx") => `(tactic| repeat (tm_at "gx1"; try dsimp only [G.bodyD]))
local macro_rules | `(tactic| tm_at "g_rot") => `(tactic| first | with_reducible apply G.Sub.refl | (with_reducible apply G.rotStep; tm_at "g_rot") | (with_reducible apply G.rotApp; tm_at "g_rot"))
/-- what a draw is shown of; then intro d n m d0 d1 a0 a1 a2 -/
local macro_rules | `(tactic| tm_at "g_dr") => `(tactic| refine ⟨_, _, _, _, _, _, _, rfl, by tm_at "g_rot", by assumption, by omega, by omega, by omega, by omega, by omega, ?_⟩)
local macro_rules | `(tactic| tm_at "g_draw") => `(tactic| (refine G.ge_call (El := G.NoX) (by assumption) (by assumption) G.passA ?_; tm_at "g"; tm_at "g_dr"))
/-- what a pick is shown of; then intro k x n m hx a0 a1 a2 -/
local macro_rules | `(tactic| tm_at "g_pk") => `(tactic| refine ⟨_, _, _, _, _, _, _, _, rfl, by tm_at "g_rot", by tm_at "g_mem", by assumption, by first | exact Nat.le_of_ble_eq_true rfl | (simp only [List.length_append, List.length_cons, List.length_nil, List.length_map]; omega), by first | exact Nat.le_of_ble_eq_true rfl | (simp only [List.length_append, List.length_cons, List.length_nil, List.length_map]; omega), by omega, by omega, by omega, ?_⟩)
namespace T
open PySem PySem.Spec PyProof.Rows L2 G
def top (i : Nat) : Stmt := PySem.Challenge.pw_wheelreach_k24_differences_parted.main.body.getD i (.Pass ⟨0, 0, 0, 0⟩)
abbrev s_BadNumber_init : Stmt := clsAt (top 3) 0
abbrev N_BadNumber_init : List Str := ["self", "value", "__class__"]
theorem sc_BadNumber_init : NdefX.NScope N_BadNumber_init ["self", "value"] ["__class__"] (defScope s_BadNumber_init) := NdefX.nscope_by (by decide +kernel)
abbrev s_BadLot_init : Stmt := clsAt (top 4) 0
abbrev N_BadLot_init : List Str := ["self", "part", "__class__"]
theorem sc_BadLot_init : NdefX.NScope N_BadLot_init ["self", "part"] ["__class__"] (defScope s_BadLot_init) := NdefX.nscope_by (by decide +kernel)
abbrev s_BadWheel_init : Stmt := clsAt (top 5) 0
abbrev N_BadWheel_init : List Str := ["self", "part", "__class__"]
theorem sc_BadWheel_init : NdefX.NScope N_BadWheel_init ["self", "part"] ["__class__"] (defScope s_BadWheel_init) := NdefX.nscope_by (by decide +kernel)
abbrev s_BadValue_init : Stmt := clsAt (top 6) 0
abbrev N_BadValue_init : List Str := ["self", "value", "__class__"]
theorem sc_BadValue_init : NdefX.NScope N_BadValue_init ["self", "value"] ["__class__"] (defScope s_BadValue_init) := NdefX.nscope_by (by decide +kernel)
abbrev s_BadText_init : Stmt := clsAt (top 7) 0
abbrev N_BadText_init : List Str := ["self", "line", "word", "__class__"]
theorem sc_BadText_init : NdefX.NScope N_BadText_init ["self", "line", "word"] ["__class__"] (defScope s_BadText_init) := NdefX.nscope_by (by decide +kernel)
abbrev s_NoPlace_init : Stmt := clsAt (top 9) 0
abbrev N_NoPlace_init : List Str := ["self", "at", "__class__"]
theorem sc_NoPlace_init : NdefX.NScope N_NoPlace_init ["self", "at"] ["__class__"] (defScope s_NoPlace_init) := NdefX.nscope_by (by decide +kernel)
abbrev s_TooMany_init : Stmt := clsAt (top 10) 0
abbrev N_TooMany_init : List Str := ["self", "what", "most", "__class__"]
theorem sc_TooMany_init : NdefX.NScope N_TooMany_init ["self", "what", "most"] ["__class__"] (defScope s_TooMany_init) := NdefX.nscope_by (by decide +kernel)
abbrev s_Lot_init : Stmt := clsAt (top 46) 1
abbrev N_Lot_init : List Str := ["self", "period", "runs", "found", "least", "run"]
theorem sc_Lot_init : FnScope N_Lot_init ["self", "period", "runs"] (defScope s_Lot_init) := ⟨rfl, rfl, rfl, by decide +kernel, rfl, by decide +kernel, by decide +kernel⟩
instance : G.NdI N_Lot_init := ⟨sc_Lot_init.nd⟩
instance : G.OkL (defScope s_Lot_init) ["self", "period", "runs", "found", "least"] := ⟨by decide +kernel⟩
abbrev s_Lot_every : Stmt := clsAt (top 46) 2
abbrev N_Lot_every : List Str := []
theorem sc_Lot_every : FnScope N_Lot_every [] (defScope s_Lot_every) := ⟨rfl, rfl, rfl, by decide +kernel, rfl, by decide +kernel, by decide +kernel⟩
instance : G.NdI N_Lot_every := ⟨sc_Lot_every.nd⟩
instance : G.OkL (defScope s_Lot_every) [] := ⟨by decide +kernel⟩
abbrev s_Lot_none : Stmt := clsAt (top 46) 3
abbrev N_Lot_none : List Str := []
theorem sc_Lot_none : FnScope N_Lot_none [] (defScope s_Lot_none) := ⟨rfl, rfl, rfl, by decide +kernel, rfl, by decide +kernel, by decide +kernel⟩
instance : G.NdI N_Lot_none := ⟨sc_Lot_none.nd⟩
instance : G.OkL (defScope s_Lot_none) [] := ⟨by decide +kernel⟩
abbrev s_Lot_around : Stmt := clsAt (top 46) 4
abbrev N_Lot_around : List Str := ["period", "play"]
theorem sc_Lot_around : FnScope N_Lot_around ["period", "play"] (defScope s_Lot_around) := ⟨rfl, rfl, rfl, by decide +kernel, rfl, by decide +kernel, by decide +kernel⟩
instance : G.NdI N_Lot_around := ⟨sc_Lot_around.nd⟩
instance : G.OkL (defScope s_Lot_around) ["period", "play"] := ⟨by decide +kernel⟩
abbrev s_Lot_len : Stmt := clsAt (top 46) 7
abbrev N_Lot_len : List Str := ["self"]
theorem sc_Lot_len : FnScope N_Lot_len ["self"] (defScope s_Lot_len) := ⟨rfl, rfl, rfl, by decide +kernel, rfl, by decide +kernel, by decide +kernel⟩
instance : G.NdI N_Lot_len := ⟨sc_Lot_len.nd⟩
instance : G.OkL (defScope s_Lot_len) ["self"] := ⟨by decide +kernel⟩
abbrev s_Lot_iter : Stmt := clsAt (top 46) 8
abbrev N_Lot_iter : List Str := ["self"]
theorem sc_Lot_iter : FnScope N_Lot_iter ["self"] (defScope s_Lot_iter) := ⟨rfl, rfl, rfl, by decide +kernel, rfl, by decide +kernel, by decide +kernel⟩
instance : G.NdI N_Lot_iter := ⟨sc_Lot_iter.nd⟩
instance : G.OkL (defScope s_Lot_iter) ["self"] := ⟨by decide +kernel⟩
abbrev s_Lot_contains : Stmt := clsAt (top 46) 10
abbrev N_Lot_contains : List Str := ["self", "value"]
theorem sc_Lot_contains : FnScope N_Lot_contains ["self", "value"] (defScope s_Lot_contains) := ⟨rfl, rfl, rfl, by decide +kernel, rfl, by decide +kernel, by decide +kernel⟩
instance : G.NdI N_Lot_contains := ⟨sc_Lot_contains.nd⟩
instance : G.OkL (defScope s_Lot_contains) ["self", "value"] := ⟨by decide +kernel⟩
abbrev s_Lot_eq : Stmt := clsAt (top 46) 11
abbrev N_Lot_eq : List Str := ["self", "other"]
theorem sc_Lot_eq : FnScope N_Lot_eq ["self", "other"] (defScope s_Lot_eq) := ⟨rfl, rfl, rfl, by decide +kernel, rfl, by decide +kernel, by decide +kernel⟩
instance : G.NdI N_Lot_eq := ⟨sc_Lot_eq.nd⟩
instance : G.OkL (defScope s_Lot_eq) ["self", "other"] := ⟨by decide +kernel⟩
abbrev s_Lot_at_least : Stmt := clsAt (top 46) 22
abbrev N_Lot_at_least : List Str := ["self", "n", "left", "at"]
theorem sc_Lot_at_least : FnScope N_Lot_at_least ["self", "n"] (defScope s_Lot_at_least) := ⟨rfl, rfl, rfl, by decide +kernel, rfl, by decide +kernel, by decide +kernel⟩
instance : G.NdI N_Lot_at_least := ⟨sc_Lot_at_least.nd⟩
instance : G.OkL (defScope s_Lot_at_least) ["self", "n", "left", "at"] := ⟨by decide +kernel⟩
abbrev s_Wheel_init : Stmt := clsAt (top 68) 1
abbrev N_Wheel_init : List Str := ["self", "period", "back", "ahead"]
theorem sc_Wheel_init : FnScope N_Wheel_init ["self", "period", "back", "ahead"] (defScope s_Wheel_init) := ⟨rfl, rfl, rfl, by decide +kernel, rfl, by decide +kernel, by decide +kernel⟩
instance : G.NdI N_Wheel_init := ⟨sc_Wheel_init.nd⟩
instance : G.OkL (defScope s_Wheel_init) ["self", "period", "back", "ahead"] := ⟨by decide +kernel⟩
abbrev s_Wheel_play : Stmt := clsAt (top 68) 4
abbrev N_Wheel_play : List Str := ["self"]
theorem sc_Wheel_play : FnScope N_Wheel_play ["self"] (defScope s_Wheel_play) := ⟨rfl, rfl, rfl, by decide +kernel, rfl, by decide +kernel, by decide +kernel⟩
instance : G.NdI N_Wheel_play := ⟨sc_Wheel_play.nd⟩
instance : G.OkL (defScope s_Wheel_play) ["self"] := ⟨by decide +kernel⟩
abbrev s_Wheel_never_parts : Stmt := clsAt (top 68) 5
abbrev N_Wheel_never_parts : List Str := ["self"]
theorem sc_Wheel_never_parts : FnScope N_Wheel_never_parts ["self"] (defScope s_Wheel_never_parts) := ⟨rfl, rfl, rfl, by decide +kernel, rfl, by decide +kernel, by decide +kernel⟩
instance : G.NdI N_Wheel_never_parts := ⟨sc_Wheel_never_parts.nd⟩
instance : G.OkL (defScope s_Wheel_never_parts) ["self"] := ⟨by decide +kernel⟩
abbrev s_Wheel_near : Stmt := clsAt (top 68) 6
abbrev N_Wheel_near : List Str := ["self"]
theorem sc_Wheel_near : FnScope N_Wheel_near ["self"] (defScope s_Wheel_near) := ⟨rfl, rfl, rfl, by decide +kernel, rfl, by decide +kernel, by decide +kernel⟩
instance : G.NdI N_Wheel_near := ⟨sc_Wheel_near.nd⟩
instance : G.OkL (defScope s_Wheel_near) ["self"] := ⟨by decide +kernel⟩
abbrev s_Wheel_is_mark : Stmt := clsAt (top 68) 7
abbrev N_Wheel_is_mark : List Str := ["self", "mark"]
theorem sc_Wheel_is_mark : FnScope N_Wheel_is_mark ["self", "mark"] (defScope s_Wheel_is_mark) := ⟨rfl, rfl, rfl, by decide +kernel, rfl, by decide +kernel, by decide +kernel⟩
instance : G.NdI N_Wheel_is_mark := ⟨sc_Wheel_is_mark.nd⟩
instance : G.OkL (defScope s_Wheel_is_mark) ["self", "mark"] := ⟨by decide +kernel⟩
abbrev s_Wheel_shown_by : Stmt := clsAt (top 68) 10
abbrev N_Wheel_shown_by : List Str := ["self", "mark"]
theorem sc_Wheel_shown_by : FnScope N_Wheel_shown_by ["self", "mark"] (defScope s_Wheel_shown_by) := ⟨rfl, rfl, rfl, by decide +kernel, rfl, by decide +kernel, by decide +kernel⟩
instance : G.NdI N_Wheel_shown_by := ⟨sc_Wheel_shown_by.nd⟩
instance : G.OkL (defScope s_Wheel_shown_by) ["self", "mark"] := ⟨by decide +kernel⟩
abbrev s_Wheel_does_part : Stmt := clsAt (top 68) 11
abbrev N_Wheel_does_part : List Str := ["self", "d"]
theorem sc_Wheel_does_part : FnScope N_Wheel_does_part ["self", "d"] (defScope s_Wheel_does_part) := ⟨rfl, rfl, rfl, by decide +kernel, rfl, by decide +kernel, by decide +kernel⟩
instance : G.NdI N_Wheel_does_part := ⟨sc_Wheel_does_part.nd⟩
instance : G.OkL (defScope s_Wheel_does_part) ["self", "d"] := ⟨by decide +kernel⟩
abbrev s_Even_init : Stmt := clsAt (top 69) 0
abbrev N_Even_init : List Str := ["self", "period", "slip", "__class__"]
theorem sc_Even_init : NdefX.NScope N_Even_init ["self", "period", "slip"] ["__class__"] (defScope s_Even_init) := NdefX.nscope_by (by decide +kernel)
abbrev s_Exact_init : Stmt := clsAt (top 70) 0
abbrev N_Exact_init : List Str := ["self", "period", "__class__"]
theorem sc_Exact_init : NdefX.NScope N_Exact_init ["self", "period"] ["__class__"] (defScope s_Exact_init) := NdefX.nscope_by (by decide +kernel)
abbrev s_Lagging_init : Stmt := clsAt (top 71) 0
abbrev N_Lagging_init : List Str := ["self", "period", "lag", "__class__"]
theorem sc_Lagging_init : NdefX.NScope N_Lagging_init ["self", "period", "lag"] ["__class__"] (defScope s_Lagging_init) := NdefX.nscope_by (by decide +kernel)
abbrev s_Grid_init : Stmt := clsAt (top 72) 1
abbrev N_Grid_init : List Str := ["self", "period", "__class__"]
theorem sc_Grid_init : NdefX.NScope N_Grid_init ["self", "period"] ["__class__"] (defScope s_Grid_init) := NdefX.nscope_by (by decide +kernel)
abbrev s_is_whole : Stmt := top 12
abbrev N_is_whole : List Str := ["value"]
theorem sc_is_whole : FnScope N_is_whole ["value"] (defScope s_is_whole) := ⟨rfl, rfl, rfl, by decide +kernel, rfl, by decide +kernel, by decide +kernel⟩
instance : G.NdI N_is_whole := ⟨sc_is_whole.nd⟩
instance : G.OkL (defScope s_is_whole) ["value"] := ⟨by decide +kernel⟩
abbrev s_need_whole : Stmt := top 13
abbrev N_need_whole : List Str := ["value"]
theorem sc_need_whole : FnScope N_need_whole ["value"] (defScope s_need_whole) := ⟨rfl, rfl, rfl, by decide +kernel, rfl, by decide +kernel, by decide +kernel⟩
instance : G.NdI N_need_whole := ⟨sc_need_whole.nd⟩
instance : G.OkL (defScope s_need_whole) ["value"] := ⟨by decide +kernel⟩
abbrev s_need_above : Stmt := top 14
abbrev N_need_above : List Str := ["value"]
theorem sc_need_above : FnScope N_need_above ["value"] (defScope s_need_above) := ⟨rfl, rfl, rfl, by decide +kernel, rfl, by decide +kernel, by decide +kernel⟩
instance : G.NdI N_need_above := ⟨sc_need_above.nd⟩
instance : G.OkL (defScope s_need_above) ["value"] := ⟨by decide +kernel⟩
abbrev s_apart : Stmt := top 18
abbrev N_apart : List Str := ["d", "period", "gap"]
theorem sc_apart : FnScope N_apart ["d", "period"] (defScope s_apart) := ⟨rfl, rfl, rfl, by decide +kernel, rfl, by decide +kernel, by decide +kernel⟩
instance : G.NdI N_apart := ⟨sc_apart.nd⟩
instance : G.OkL (defScope s_apart) ["d", "period", "gap"] := ⟨by decide +kernel⟩
abbrev s_is_run : Stmt := top 21
abbrev N_is_run : List Str := ["value"]
theorem sc_is_run : FnScope N_is_run ["value"] (defScope s_is_run) := ⟨rfl, rfl, rfl, by decide +kernel, rfl, by decide +kernel, by decide +kernel⟩
instance : G.NdI N_is_run := ⟨sc_is_run.nd⟩
instance : G.OkL (defScope s_is_run) ["value"] := ⟨by decide +kernel⟩
abbrev s_length_of : Stmt := top 22
abbrev N_length_of : List Str := ["run"]
theorem sc_length_of : FnScope N_length_of ["run"] (defScope s_length_of) := ⟨rfl, rfl, rfl, by decide +kernel, rfl, by decide +kernel, by decide +kernel⟩
instance : G.NdI N_length_of := ⟨sc_length_of.nd⟩
instance : G.OkL (defScope s_length_of) ["run"] := ⟨by decide +kernel⟩
abbrev s_place_among : Stmt := top 23
abbrev N_place_among : List Str := ["row", "value", "low", "high", "middle"]
theorem sc_place_among : FnScope N_place_among ["row", "value"] (defScope s_place_among) := ⟨rfl, rfl, rfl, by decide +kernel, rfl, by decide +kernel, by decide +kernel⟩
instance : G.NdI N_place_among := ⟨sc_place_among.nd⟩
instance : G.OkL (defScope s_place_among) ["row", "value", "low", "high", "middle"] := ⟨by decide +kernel⟩
abbrev s_melted : Stmt := top 32
abbrev N_melted : List Str := ["runs", "found", "run"]
theorem sc_melted : FnScope N_melted ["runs"] (defScope s_melted) := ⟨rfl, rfl, rfl, by decide +kernel, rfl, by decide +kernel, by decide +kernel⟩
instance : G.NdI N_melted := ⟨sc_melted.nd⟩
instance : G.OkL (defScope s_melted) ["runs", "found", "run"] := ⟨by decide +kernel⟩
abbrev s_closed_round : Stmt := top 33
abbrev N_closed_round : List Str := ["period", "runs", "many", "end"]
theorem sc_closed_round : FnScope N_closed_round ["period", "runs"] (defScope s_closed_round) := ⟨rfl, rfl, rfl, by decide +kernel, rfl, by decide +kernel, by decide +kernel⟩
instance : G.NdI N_closed_round := ⟨sc_closed_round.nd⟩
instance : G.OkL (defScope s_closed_round) ["period", "runs", "many", "end"] := ⟨by decide +kernel⟩
abbrev s_maximal : Stmt := top 34
abbrev N_maximal : List Str := ["period", "runs", "moved", "found", "run"]
theorem sc_maximal : FnScope N_maximal ["period", "runs"] (defScope s_maximal) := ⟨rfl, rfl, rfl, by decide +kernel, rfl, by decide +kernel, by decide +kernel⟩
instance : G.NdI N_maximal := ⟨sc_maximal.nd⟩
instance : G.OkL (defScope s_maximal) ["period", "runs", "moved", "found"] := ⟨by decide +kernel⟩
abbrev s_least_form : Stmt := top 35
abbrev N_least_form : List Str := ["period", "runs", "many", "nexts", "row", "turns", "few", "run", "later", "turn", "pair"]
theorem sc_least_form : FnScope N_least_form ["period", "runs"] (defScope s_least_form) := ⟨rfl, rfl, rfl, by decide +kernel, rfl, by decide +kernel, by decide +kernel⟩
instance : G.NdI N_least_form := ⟨sc_least_form.nd⟩
instance : G.OkL (defScope s_least_form) ["period", "runs", "many", "nexts", "row", "turns", "few"] := ⟨by decide +kernel⟩
abbrev s_need_integer : Stmt := top 44
abbrev N_need_integer : List Str := ["value"]
theorem sc_need_integer : FnScope N_need_integer ["value"] (defScope s_need_integer) := ⟨rfl, rfl, rfl, by decide +kernel, rfl, by decide +kernel, by decide +kernel⟩
instance : G.NdI N_need_integer := ⟨sc_need_integer.nd⟩
instance : G.OkL (defScope s_need_integer) ["value"] := ⟨by decide +kernel⟩
abbrev s_need_few : Stmt := top 45
abbrev N_need_few : List Str := ["many"]
theorem sc_need_few : FnScope N_need_few ["many"] (defScope s_need_few) := ⟨rfl, rfl, rfl, by decide +kernel, rfl, by decide +kernel, by decide +kernel⟩
instance : G.NdI N_need_few := ⟨sc_need_few.nd⟩
instance : G.OkL (defScope s_need_few) ["many"] := ⟨by decide +kernel⟩
abbrev s_need_part : Stmt := top 65
abbrev N_need_part : List Str := ["value", "least", "part"]
theorem sc_need_part : FnScope N_need_part ["value", "least", "part"] (defScope s_need_part) := ⟨rfl, rfl, rfl, by decide +kernel, rfl, by decide +kernel, by decide +kernel⟩
instance : G.NdI N_need_part := ⟨sc_need_part.nd⟩
instance : G.OkL (defScope s_need_part) ["value", "least", "part"] := ⟨by decide +kernel⟩
abbrev s_law_pen : Stmt := top 75
abbrev N_law_pen : List Str := ["_law_script"]
theorem sc_law_pen : FnScope N_law_pen ["_law_script"] (defScope s_law_pen) := ⟨rfl, rfl, rfl, by decide +kernel, rfl, by decide +kernel, by decide +kernel⟩
instance : G.NdI N_law_pen := ⟨sc_law_pen.nd⟩
instance : G.OkL (defScope s_law_pen) ["_law_script"] := ⟨by decide +kernel⟩
abbrev s_law_draw : Stmt := top 76
abbrev N_law_draw : List Str := ["_law_pen_here", "_law_many", "_law_digit", "_law_begun", "_law_raw", "_law_great", "_law_stirred"]
theorem sc_law_draw : FnScope N_law_draw ["_law_pen_here", "_law_many"] (defScope s_law_draw) := ⟨rfl, rfl, rfl, by decide +kernel, rfl, by decide +kernel, by decide +kernel⟩
instance : G.NdI N_law_draw := ⟨sc_law_draw.nd⟩
instance : G.OkL (defScope s_law_draw) ["_law_pen_here", "_law_many", "_law_digit", "_law_begun", "_law_raw", "_law_great", "_law_stirred"] := ⟨by decide +kernel⟩
abbrev s_law_pick : Stmt := top 77
abbrev N_law_pick : List Str := ["_law_pen_here", "_law_some"]
theorem sc_law_pick : FnScope N_law_pick ["_law_pen_here", "_law_some"] (defScope s_law_pick) := ⟨rfl, rfl, rfl, by decide +kernel, rfl, by decide +kernel, by decide +kernel⟩
instance : G.NdI N_law_pick := ⟨sc_law_pick.nd⟩
instance : G.OkL (defScope s_law_pick) ["_law_pen_here", "_law_some"] := ⟨by decide +kernel⟩
abbrev s_law_heard : Stmt := top 78
abbrev N_law_heard : List Str := ["_law_ask", "_law_raised", "_law_told", "error"]
theorem sc_law_heard : FnScope N_law_heard ["_law_ask"] (defScope s_law_heard) := ⟨rfl, rfl, rfl, by decide +kernel, rfl, by decide +kernel, by decide +kernel⟩
instance : G.NdI N_law_heard := ⟨sc_law_heard.nd⟩
instance : G.OkL (defScope s_law_heard) ["_law_ask", "_law_raised", "_law_told", "error"] := ⟨by decide +kernel⟩
abbrev s_law_wheel : Stmt := top 79
abbrev N_law_wheel : List Str := ["_law_pen_here", "_law_most", "_law_period", "_law_kind", "_law_slip"]
theorem sc_law_wheel : FnScope N_law_wheel ["_law_pen_here", "_law_most"] (defScope s_law_wheel) := ⟨rfl, rfl, rfl, by decide +kernel, rfl, by decide +kernel, by decide +kernel⟩
instance : G.NdI N_law_wheel := ⟨sc_law_wheel.nd⟩
instance : G.OkL (defScope s_law_wheel) ["_law_pen_here", "_law_most", "_law_period", "_law_kind", "_law_slip"] := ⟨by decide +kernel⟩
abbrev s_law_of : Stmt := top 80
abbrev N_law_of : List Str := ["_law_plain", "_law_period", "_law_back", "_law_ahead", "_law_trusted"]
theorem sc_law_of : FnScope N_law_of ["_law_plain"] (defScope s_law_of) := ⟨rfl, rfl, rfl, by decide +kernel, rfl, by decide +kernel, by decide +kernel⟩
instance : G.NdI N_law_of := ⟨sc_law_of.nd⟩
instance : G.OkL (defScope s_law_of) ["_law_plain", "_law_period", "_law_back", "_law_ahead", "_law_trusted"] := ⟨by decide +kernel⟩
abbrev s_law_marks : Stmt := top 81
abbrev N_law_marks : List Str := ["_law_plain", "_law_value", "_law_slip"]
theorem sc_law_marks : FnScope N_law_marks ["_law_plain", "_law_value"] (defScope s_law_marks) := ⟨rfl, rfl, rfl, by decide +kernel, rfl, by decide +kernel, by decide +kernel⟩
instance : G.NdI N_law_marks := ⟨sc_law_marks.nd⟩
instance : G.OkL (defScope s_law_marks) ["_law_plain", "_law_value"] := ⟨by decide +kernel⟩
abbrev s_law_parts : Stmt := top 82
abbrev N_law_parts : List Str := ["_law_plain", "_law_value", "_law_d", "_law_there", "_law_mark"]
theorem sc_law_parts : FnScope N_law_parts ["_law_plain", "_law_value", "_law_d"] (defScope s_law_parts) := ⟨rfl, rfl, rfl, by decide +kernel, rfl, by decide +kernel, by decide +kernel⟩
instance : G.NdI N_law_parts := ⟨sc_law_parts.nd⟩
instance : G.OkL (defScope s_law_parts) ["_law_plain", "_law_value", "_law_d", "_law_there"] := ⟨by decide +kernel⟩
abbrev s_law_right : Stmt := top 83
abbrev N_law_right : List Str := ["_law_pen_here", "_law_plain", "_law_made", "_law_value", "_law_due", "_law_near", "_law_far", "_law_odd", "_law_d"]
theorem sc_law_right : FnScope N_law_right ["_law_pen_here", "_law_plain"] (defScope s_law_right) := ⟨rfl, rfl, rfl, by decide +kernel, rfl, by decide +kernel, by decide +kernel⟩
instance : G.NdI N_law_right := ⟨sc_law_right.nd⟩
instance : G.OkL (defScope s_law_right) ["_law_pen_here", "_law_plain", "_law_made", "_law_value", "_law_due", "_law_near", "_law_far", "_law_odd"] := ⟨by decide +kernel⟩
abbrev s_law : Stmt := top 84
abbrev N_law : List Str := ["_law_script", "_law_pen_here", "_law_turn", "_law_hundred", "_law_wide", "_law_play", "_law_some", "_law_shown", "_law_d", "_law_value"]
theorem sc_law : FnScope N_law ["_law_script"] (defScope s_law) := ⟨rfl, rfl, rfl, by decide +kernel, rfl, by decide +kernel, by decide +kernel⟩
instance : G.NdI N_law := ⟨sc_law.nd⟩
instance : G.OkL (defScope s_law) ["_law_script", "_law_pen_here", "_law_turn", "_law_hundred", "_law_wide", "_law_play", "_law_some", "_law_shown"] := ⟨by decide +kernel⟩
namespace Lt
abbrev Rn := Int × Int
/-- n lies in one of the runs, moved by whole rounds -/
def In (p : Int) (rs : List Rn) (n : Int) : Prop := ∃ r ∈ rs, ∃ z : Int, r.1 ≤ n + p * z ∧ n + p * z ≤ r.2
/-- the cases of a whole round -/
theorem rnd {p z : Int} (hp : 0 < p) : z = 0 ∧ p * z = 0 ∨ z = 1 ∧ p * z = p ∨ z = -1 ∧ p * z = -p ∨ 2 ≤ z ∧ 2 * p ≤ p * z ∨ z ≤ -2 ∧ p * z ≤ -(2 * p) := by
  rcases (show z = 0 ∨ z = 1 ∨ z = -1 ∨ 2 ≤ z ∨ z ≤ -2 by omega) with rfl | rfl | rfl | h | h
  · simp
  · simp
  · simp
  · refine .inr (.inr (.inr (.inl ⟨h, ?_⟩)))
    have := Int.mul_le_mul_of_nonneg_left h (Int.le_of_lt hp)
    omega
  · refine .inr (.inr (.inr (.inr ⟨h, ?_⟩)))
    have := Int.mul_le_mul_of_nonneg_left h (Int.le_of_lt hp)
    omega
theorem in_mod {p : Int} (hp : 0 < p) {r : Rn} (h : r.1 ≤ r.2) (n : Int) : ((n - r.1) % p ≤ r.2 - r.1) ↔ ∃ z : Int, r.1 ≤ n + p * z ∧ n + p * z ≤ r.2 := by
  have e := Int.mul_ediv_add_emod (n - r.1) p
  have m0 := Int.emod_nonneg (n - r.1) (show p ≠ 0 by omega)
  have m1 := Int.emod_lt_of_pos (n - r.1) hp
  constructor
  · intro k
    refine ⟨-((n - r.1) / p), ?_, ?_⟩
    · rw [Int.mul_neg]
      omega
    · rw [Int.mul_neg]
      omega
  · rintro ⟨z, h1, h2⟩
    have e2 : (n - r.1) % p = (n + p * z - r.1) % p := by
      rw [show n + p * z - r.1 = (n - r.1) + p * z by omega, Int.add_mul_emod_self_left]
    have e3 := Int.mul_ediv_add_emod (n + p * z - r.1) p
    have e4 := Int.mul_nonneg (Int.le_of_lt hp) (Int.ediv_nonneg (show 0 ≤ n + p * z - r.1 by omega) (Int.le_of_lt hp))
    omega
structure NF (w p : Int) (rs : List Rn) : Prop where
  le : ∀ r ∈ rs, r.1 ≤ r.2
  wd : ∀ r ∈ rs, w ≤ r.1 ∧ r.1 < w + p
  ap : rs.Pairwise fun r s => r.2 + 1 < s.1
  cl : ∀ r ∈ rs, ∀ s ∈ rs, r.2 + 1 < s.1 + p
section
variable {w p : Int} {rs ss : List Rn}
/-- two of the runs: the same, or apart -/
theorem pair_or {α : Type} {R : α → α → Prop} {l : List α} (h : l.Pairwise R) {a b : α} (ha : a ∈ l) (hb : b ∈ l) : a = b ∨ R a b ∨ R b a := by
  induction h with
  | nil => cases ha
  | cons hx _ ih =>
    rcases List.mem_cons.mp ha with ea | ha
    · rcases List.mem_cons.mp hb with eb | hb
      · exact .inl (ea.trans eb.symm)
      · exact .inr (.inl (ea ▸ hx _ hb))
    · rcases List.mem_cons.mp hb with eb | hb
      · exact .inr (.inr (eb ▸ hx _ ha))
      · exact ih ha hb
theorem NF.two (h : NF w p rs) {r s : Rn} (hr : r ∈ rs) (hs : s ∈ rs) : r = s ∨ r.2 + 1 < s.1 ∨ s.2 + 1 < r.1 := pair_or h.ap hr hs
theorem NF.pos (h : NF w p rs) {r : Rn} (hr : r ∈ rs) : 0 < p := by have := h.wd r hr; omega
theorem NF.before (h : NF w p rs) {r : Rn} (hr : r ∈ rs) : ¬ In p rs (r.1 - 1) := by
  rintro ⟨s, hs, z, h1, h2⟩
  have hp := h.pos hr
  have a := h.wd r hr
  have b := h.wd s hs
  have c := h.le r hr
  have d := h.le s hs
  have e := h.cl r hr s hs
  have f := h.cl s hs r hr
  rcases rnd (z := z) hp with ⟨_, k⟩ | ⟨_, k⟩ | ⟨_, k⟩ | ⟨_, k⟩ | ⟨_, k⟩ <;> rcases h.two hr hs with g | g | g <;> first | (subst g; omega) | omega
theorem NF.behind (h : NF w p rs) {r : Rn} (hr : r ∈ rs) : ¬ In p rs (r.2 + 1) := by
  rintro ⟨s, hs, z, h1, h2⟩
  have hp := h.pos hr
  have a := h.wd r hr
  have b := h.wd s hs
  have c := h.le r hr
  have d := h.le s hs
  have e := h.cl r hr s hs
  have f := h.cl s hs r hr
  rcases rnd (z := z) hp with ⟨_, k⟩ | ⟨_, k⟩ | ⟨_, k⟩ | ⟨_, k⟩ | ⟨_, k⟩ <;> rcases h.two hr hs with g | g | g <;> first | (subst g; omega) | omega
theorem NF.mem_of (_h : NF w p rs) {r : Rn} (hr : r ∈ rs) {n : Int} (h1 : r.1 ≤ n) (h2 : n ≤ r.2) : In p rs n := ⟨r, hr, 0, by rw [Int.mul_zero]; omega⟩
/-- a run, told by the members alone -/
def IsRun (w p : Int) (S : Int → Prop) (r : Rn) : Prop := (w ≤ r.1 ∧ r.1 < w + p) ∧ r.1 ≤ r.2 ∧ (∀ n, r.1 ≤ n → n ≤ r.2 → S n) ∧ ¬ S (r.1 - 1) ∧ ¬ S (r.2 + 1)
theorem NF.isRun (h : NF w p rs) {r : Rn} (hr : r ∈ rs) : IsRun w p (In p rs) r := ⟨h.wd r hr, h.le r hr, fun _ a b => h.mem_of hr a b, h.before hr, h.behind hr⟩
/-- a member lies in one run, moved by rounds -/
theorem NF.of_begin (h : NF w p rs) {b : Int} (hw : w ≤ b ∧ b < w + p) (hb : In p rs b) (hn : ¬ In p rs (b - 1)) : ∃ r ∈ rs, r.1 = b := by
  obtain ⟨s, hs, z, h1, h2⟩ := hb
  have hp := h.pos hs
  have a := h.wd s hs
  have d := h.le s hs
  have c := h.cl s hs s hs
  have e : s.1 = b + p * z := by
    rcases (show s.1 = b + p * z ∨ s.1 < b + p * z by omega) with e | e
    · exact e
    · exact absurd ⟨s, hs, z, by omega, by omega⟩ hn
  refine ⟨s, hs, ?_⟩
  rcases rnd (z := z) hp with ⟨_, k⟩ | ⟨_, k⟩ | ⟨_, k⟩ | ⟨_, k⟩ | ⟨_, k⟩ <;> omega
theorem NF.isRun_iff (h : NF w p rs) (r : Rn) : r ∈ rs ↔ IsRun w p (In p rs) r := by
  refine ⟨fun hr => h.isRun hr, fun ⟨hw, hle, hin, hb, ha⟩ => ?_⟩
  obtain ⟨s, hs, e⟩ := h.of_begin hw (hin r.1 (Int.le_refl _) hle) hb
  have d := h.le s hs
  have e2 : r.2 = s.2 := by
    rcases Int.lt_trichotomy r.2 s.2 with k | k | k
    · exact absurd (h.mem_of hs (show s.1 ≤ r.2 + 1 by omega) (by omega)) ha
    · exact k
    · exact absurd (hin (s.2 + 1) (by omega) (by omega)) (h.behind hs)
  have : r = s := Prod.ext e.symm e2
  rw [this]
  exact hs
theorem NF.lt (h : NF w p rs) : rs.Pairwise fun r s => r.1 < s.1 := by
  refine h.ap.imp_of_mem fun {r s} hr _ k => ?_
  have := h.le r hr
  omega
theorem sorted_ext : ∀ {rs ss : List Rn}, (rs.Pairwise fun r s => r.1 < s.1) → (ss.Pairwise fun r s => r.1 < s.1) → (∀ r, r ∈ rs ↔ r ∈ ss) → rs = ss := fun {rs ss} a b k => by
  have nd : ∀ {l : List Rn}, (l.Pairwise fun r s => r.1 < s.1) → l.Nodup := fun h => h.imp fun {x y} z e => by rw [e] at z; omega
  refine List.Perm.eq_of_pairwise (le := fun r s => r.1 < s.1) (fun x y _ _ h1 h2 => by omega) a b ((List.perm_ext_iff_of_nodup (nd a) (nd b)).mpr k)
/-- such a form is one alone -/
theorem NF.unique (h : NF w p rs) (k : NF w p ss) (e : ∀ n, In p rs n ↔ In p ss n) : rs = ss := by
  refine sorted_ext h.lt k.lt fun r => ?_
  rw [h.isRun_iff, k.isRun_iff, show In p rs = In p ss from funext fun n => propext (e n)]
end
structure Ch (m : Nat) (p : Int) (B E : Nat → Int) : Prop where
  pos : 0 < m
  be : ∀ i, B i ≤ E i
  ap : ∀ i, E i + 1 < B (i + 1)
  pB : ∀ i, B (i + m) = B i + p
  pE : ∀ i, E (i + m) = E i + p
  b0 : 0 ≤ B 0
  bl : B (m - 1) < p
def Per (S : Int → Prop) (k : Int) : Prop := ∀ n, S (n + k) ↔ S n
theorem Per.nmul {S : Int → Prop} {k : Int} (h : Per S k) : ∀ (c : Nat) (n : Int), S (n + k * (c : Int)) ↔ S n
  | 0, n => by simp
  | c + 1, n => by
    have e := h (n + k * (c : Int))
    have ih := h.nmul c n
    rw [show n + k * ((c + 1 : Nat) : Int) = n + k * (c : Int) + k by rw [Int.natCast_add, Int.mul_add]; omega]
    exact e.trans ih
theorem Per.mul {S : Int → Prop} {k : Int} (h : Per S k) (c : Int) (n : Int) : S (n + k * c) ↔ S n := by
  rcases Int.le_total 0 c with h0 | h0
  · have := h.nmul c.toNat n
    rw [Int.toNat_of_nonneg h0] at this
    exact this
  · have := h.nmul (-c).toNat (n + k * c)
    rw [Int.toNat_of_nonneg (show 0 ≤ -c by omega), show n + k * c + k * -c = n by rw [Int.mul_neg]; omega] at this
    exact this.symm
section
variable {m : Nat} {p : Int} {B E : Nat → Int}
/-- what lies in a chain -/
def InC (p : Int) (B E : Nat → Int) (n : Int) : Prop := ∃ (i : Nat) (z : Int), B i ≤ n + p * z ∧ n + p * z ≤ E i
theorem Ch.lt1 (h : Ch m p B E) (i : Nat) : B i < B (i + 1) := by
  have := h.be i
  have := h.ap i
  omega
theorem Ch.mono (h : Ch m p B E) {i j : Nat} (k : i ≤ j) : B i ≤ B j := by
  induction k with
  | refl => exact Int.le_refl _
  | step _ ih => exact Int.le_trans ih (Int.le_of_lt (h.lt1 _))
theorem Ch.smono (h : Ch m p B E) {i j : Nat} (k : i < j) : B i < B j := by
  have := h.lt1 i
  have := h.mono (show i + 1 ≤ j from k)
  omega
theorem Ch.inj (h : Ch m p B E) {i j : Nat} (e : B i = B j) : i = j := by
  rcases Nat.lt_trichotomy i j with k | k | k
  · have := h.smono k
    omega
  · exact k
  · have := h.smono k
    omega
theorem Ch.apart (h : Ch m p B E) {i j : Nat} (k : i < j) : E i + 1 < B j := by
  have := h.ap i
  have := h.mono (show i + 1 ≤ j from k)
  omega
theorem Ch.p0 (h : Ch m p B E) : 0 < p := by
  have := h.b0
  have := h.bl
  have := h.mono (Nat.zero_le (m - 1))
  omega
theorem Ch.pBm (h : Ch m p B E) (i : Nat) : ∀ c : Nat, B (i + m * c) = B i + p * c ∧ E (i + m * c) = E i + p * c
  | 0 => by simp
  | c + 1 => by
    obtain ⟨a, b⟩ := h.pBm i c
    have e : i + m * (c + 1) = i + m * c + m := by rw [Nat.mul_add]; omega
    rw [e, h.pB, h.pE, a, b, Int.natCast_add, Int.mul_add]
    omega
/-- moved by whole rounds: a place in the chain -/
theorem Ch.place (h : Ch m p B E) {n : Int} (hn : InC p B E n) : ∃ c0 : Nat, ∀ c : Nat, c0 ≤ c → ∃ i, m ≤ i ∧ B i ≤ n + p * c ∧ n + p * c ≤ E i := by
  obtain ⟨i, z, h1, h2⟩ := hn
  refine ⟨z.toNat + 1, fun c hc => ?_⟩
  obtain ⟨d, hd⟩ : ∃ d : Nat, (c : Int) = z + d := ⟨(c - z).toNat, by omega⟩
  obtain ⟨a, b⟩ := h.pBm i d
  refine ⟨i + m * d, ?_, ?_, ?_⟩
  · have : 1 ≤ d := by omega
    have := Nat.mul_le_mul_left m this
    omega
  · rw [a, hd, Int.mul_add]
    omega
  · rw [b, hd, Int.mul_add]
    omega
/-- alike behind a shift of t runs -/
def Rot (B E : Nat → Int) (t : Nat) (q : Int) : Prop := ∀ i, B (i + t) = B i + q ∧ E (i + t) = E i + q
theorem Ch.per_rot (h : Ch m p B E) {t : Nat} {q : Int} (ht : t ≤ m) (r : Rot B E t q) : Per (InC p B E) q := fun n => by
  constructor
  · intro k
    obtain ⟨c0, k⟩ := h.place k
    obtain ⟨i, hi, h1, h2⟩ := k c0 (Nat.le_refl _)
    obtain ⟨a, b⟩ := r (i - t)
    rw [Nat.sub_add_cancel (by omega)] at a b
    exact ⟨i - t, c0, by omega, by omega⟩
  · rintro ⟨i, z, h1, h2⟩
    obtain ⟨a, b⟩ := r i
    exact ⟨i + t, z, by omega, by omega⟩
/-- a begin within a round -/
theorem Ch.begins (h : Ch m p B E) {b : Int} (hb : InC p B E b) (hn : ¬ InC p B E (b - 1)) (h0 : B 0 ≤ b) : ∃ i, B i = b := by
  obtain ⟨c0, k⟩ := h.place hb
  obtain ⟨i, hi, h1, h2⟩ := k c0 (Nat.le_refl _)
  have e : B i = b + p * c0 := by
    rcases (show B i = b + p * c0 ∨ B i < b + p * c0 by omega) with e | e
    · exact e
    · exact absurd ⟨i, c0, by omega, by omega⟩ hn
  -- i lies c0 rounds in
  have e0 := (h.pBm 0 c0).1
  rw [Nat.zero_add] at e0
  have le : m * c0 ≤ i := by
    rcases Nat.lt_or_ge i (m * c0) with k | k
    · have := h.smono k
      omega
    · exact k
  refine ⟨i - m * c0, ?_⟩
  have e1 := (h.pBm (i - m * c0) c0).1
  rw [Nat.sub_add_cancel le] at e1
  omega
theorem Ch.no_before (h : Ch m p B E) (i : Nat) : ¬ InC p B E (B i - 1) := fun hn => by
  obtain ⟨c0, k⟩ := h.place hn
  obtain ⟨j, hj, h1, h2⟩ := k c0 (Nat.le_refl _)
  have e := (h.pBm i c0).1
  rcases Nat.lt_or_ge j (i + m * c0) with k | k
  · have := h.apart k
    omega
  · have := h.mono k
    omega
theorem Ch.no_behind (h : Ch m p B E) (i : Nat) : ¬ InC p B E (E i + 1) := fun hn => by
  obtain ⟨c0, k⟩ := h.place hn
  obtain ⟨j, hj, h1, h2⟩ := k c0 (Nat.le_refl _)
  have e := (h.pBm i c0).2
  have e' := (h.pBm i c0).1
  rcases Nat.lt_trichotomy j (i + m * c0) with k | k | k
  · have := h.apart k
    have := h.be i
    have := h.be (i + m * c0)
    omega
  · subst k
    omega
  · have := h.apart k
    omega
theorem Ch.mem (_h : Ch m p B E) {i : Nat} {n : Int} (h1 : B i ≤ n) (h2 : n ≤ E i) : InC p B E n := ⟨i, 0, by rw [Int.mul_zero]; omega, by rw [Int.mul_zero]; omega⟩
/-- a period of the members moves the chain -/
theorem Ch.rot_per (h : Ch m p B E) {q : Int} (hq : 0 < q) (k : Per (InC p B E) q) : ∃ t : Nat, 0 < t ∧ Rot B E t q := by
  -- where the first run goes
  have up : ∀ i, ∃ j, B j = B i + q := fun i => h.begins ((k (B i)).mpr (h.mem (Int.le_refl _) (h.be i))) (fun z => h.no_before i ((k (B i - 1)).mp (by rw [show B i - 1 + q = B i + q - 1 by omega]; exact z))) (by have := h.mono (Nat.zero_le i); omega)
  have ends : ∀ {i j : Nat}, B j = B i + q → E j = E i + q := fun {i j} e => by
    rcases Int.lt_trichotomy (E j) (E i + q) with a | a | a
    · refine absurd ((k (E j + 1 - q)).mpr (h.mem (i := i) ?_ ?_)) ?_
      · have := h.be j
        omega
      · omega
      · rw [show E j + 1 - q + q = E j + 1 by omega]
        exact h.no_behind j
    · exact a
    · refine absurd ((k (E i + 1)).mp (h.mem (i := j) ?_ ?_)) (h.no_behind i)
      · have := h.be i
        omega
      · omega
  obtain ⟨t, ht⟩ := up 0
  have t0 : 0 < t := by
    rcases Nat.eq_zero_or_pos t with rfl | z
    · omega
    · exact z
  refine ⟨t, t0, fun i => ?_⟩
  have main : B (i + t) = B i + q := by
    induction i with
    | zero => rw [Nat.zero_add]; exact ht
    | succ i ih =>
      obtain ⟨j, hj⟩ := up (i + 1)
      -- j is the next one behind i + t
      have l1 := h.lt1 i
      have j1 : i + t < j := by
        rcases Nat.lt_or_ge (i + t) j with z | z
        · exact z
        · have := h.mono z
          omega
      rcases Nat.eq_or_lt_of_le (show i + t + 1 ≤ j from j1) with e | e
      · rw [show i + 1 + t = i + t + 1 by omega, e]
        exact hj
      · -- a run between: it comes of one between
        exfalso
        have m1 := h.lt1 (i + t)
        have m2 := h.smono e
        have eE := ends ih
        have ea := h.ap (i + t)
        -- its begin less q is a begin between those of i and i + 1
        have nb := h.no_before (i + t + 1)
        have hb : InC p B E (B (i + t + 1) - q) := (k _).mp (by rw [show B (i + t + 1) - q + q = B (i + t + 1) by omega]; exact h.mem (Int.le_refl _) (h.be _))
        have hn : ¬ InC p B E (B (i + t + 1) - q - 1) := fun z => nb ((show B (i + t + 1) - q - 1 + q = B (i + t + 1) - 1 by omega) ▸ (k _).mpr z)
        obtain ⟨x, hx⟩ := h.begins hb hn (by have := h.mono (Nat.zero_le i); omega)
        have x1 : i < x := by
          rcases Nat.lt_or_ge i x with z | z
          · exact z
          · have := h.mono z
            omega
        have x2 : x < i + 1 := by
          rcases Nat.lt_or_ge x (i + 1) with z | z
          · exact z
          · have := h.mono z
            omega
        omega
  exact ⟨main, ends main⟩
theorem Rot.mul {t : Nat} {q : Int} (r : Rot B E t q) (i : Nat) : ∀ c : Nat, B (i + t * c) = B i + q * c ∧ E (i + t * c) = E i + q * c
  | 0 => by simp
  | c + 1 => by
    obtain ⟨a, b⟩ := r.mul i c
    have e : i + t * (c + 1) = i + t * c + t := by rw [Nat.mul_add]; omega
    rw [e, (r _).1, (r _).2, a, b, Int.natCast_add, Int.mul_add]
    omega
end
/-- the form of a set of integers: its least period, its runs in a round -/
structure Form (S : Int → Prop) (q : Int) (few : List Rn) : Prop where
  pos : 0 < q
  per : Per S q
  least : ∀ k, 0 < k → Per S k → q ≤ k
  runs : ((∀ n, S n) ∧ few = [(0, 0)]) ∨ (NF 0 q few ∧ ∀ n, In q few n ↔ S n)
theorem NF.not_all {w p : Int} {rs : List Rn} (h : NF w p rs) : ¬ ∀ n, In p rs n := fun k => by
  cases rs with
  | nil =>
    obtain ⟨r, hr, _⟩ := k 0
    cases hr
  | cons r rs => exact h.behind List.mem_cons_self (k _)
theorem Form.unique {S : Int → Prop} {q q' : Int} {f f' : List Rn} (h : Form S q f) (k : Form S q' f') : q = q' ∧ f = f' := by
  have e : q = q' := Int.le_antisymm (h.least _ k.pos k.per) (k.least _ h.pos h.per)
  subst e
  refine ⟨rfl, ?_⟩
  rcases h.runs with ⟨a, b⟩ | ⟨a, b⟩
  · rcases k.runs with ⟨c, d⟩ | ⟨c, d⟩
    · rw [b, d]
    · exact absurd (fun n => (d n).mpr (a n)) c.not_all
  · rcases k.runs with ⟨c, d⟩ | ⟨c, d⟩
    · exact absurd (fun n => (b n).mpr (c n)) a.not_all
    · exact a.unique c fun n => (b n).trans (d n).symm
/-- there is a least period -/
theorem least_per {S : Int → Prop} : ∀ (b : Nat) (k : Int), 0 < k → k ≤ b → Per S k → ∃ q, 0 < q ∧ Per S q ∧ ∀ k', 0 < k' → Per S k' → q ≤ k'
  | 0, k, h0, h1, _ => by omega
  | b + 1, k, h0, h1, hk => by
    by_cases z : ∃ k' : Int, 0 < k' ∧ k' ≤ b ∧ Per S k'
    · obtain ⟨k', a, c, d⟩ := z
      exact least_per b k' a c d
    · refine ⟨k, h0, hk, fun k' a c => ?_⟩
      rcases Int.lt_or_le k' k with e | e
      · exact absurd ⟨k', a, by omega, c⟩ z
      · exact e
/-- it divides each period -/
theorem least_dvd {S : Int → Prop} {q p : Int} (q0 : 0 < q) (hq : Per S q) (ql : ∀ k', 0 < k' → Per S k' → q ≤ k') (hp : Per S p) : q ∣ p := by
  have e := Int.mul_ediv_add_emod p q
  have m0 := Int.emod_nonneg p (show q ≠ 0 by omega)
  have m1 := Int.emod_lt_of_pos p q0
  rcases Int.lt_or_eq_of_le m0 with z | z
  · have r : Per S (p % q) := fun n => by
      have a := hq.mul (p / q) (n + p % q)
      rw [show n + p % q + q * (p / q) = n + p by omega] at a
      exact a.symm.trans (hp n)
    have := ql _ z r
    omega
  · exact Int.dvd_of_emod_eq_zero z.symm
section
variable {p : Int} {rs : List Rn}
/-- the begins and ends of the runs, on and on -/
def bOf (p : Int) (rs : List Rn) (i : Nat) : Int := (rs.getD (i % rs.length) (0, 0)).1 + p * ((i / rs.length : Nat) : Int)
def eOf (p : Int) (rs : List Rn) (i : Nat) : Int := (rs.getD (i % rs.length) (0, 0)).2 + p * ((i / rs.length : Nat) : Int)
theorem getD_mem {α : Type} {l : List α} {i : Nat} {d : α} (h : i < l.length) : l.getD i d ∈ l ∧ l[i]? = some (l.getD i d) := by
  rw [List.getD_eq_getElem?_getD, List.getElem?_eq_getElem h]
  exact ⟨List.getElem_mem h, rfl⟩
theorem bOf_lt {i : Nat} (h : i < rs.length) : bOf p rs i = (rs.getD i (0, 0)).1 ∧ eOf p rs i = (rs.getD i (0, 0)).2 := by
  unfold bOf eOf
  rw [Nat.mod_eq_of_lt h, Nat.div_eq_of_lt h]
  simp
theorem bOf_add (h : 0 < rs.length) (i : Nat) : bOf p rs (i + rs.length) = bOf p rs i + p ∧ eOf p rs (i + rs.length) = eOf p rs i + p := by
  unfold bOf eOf
  rw [Nat.add_mod_right, Nat.add_div_right _ h, Int.natCast_succ, Int.mul_add]
  omega
theorem NF.ch (h : NF 0 p rs) (ne : rs ≠ []) : Ch rs.length p (bOf p rs) (eOf p rs) := by
  have pos : 0 < rs.length := List.length_pos_iff.mpr ne
  have sr := h.ap
  refine ⟨pos, fun i => ?_, fun i => ?_, fun i => (bOf_add pos i).1, fun i => (bOf_add pos i).2, ?_, ?_⟩
  · have m := (getD_mem (d := ((0, 0) : Rn)) (Nat.mod_lt i pos)).1
    have := h.le _ m
    unfold bOf eOf
    omega
  · have a := Nat.mod_lt i pos
    have ma := getD_mem (d := ((0, 0) : Rn)) a
    rcases Nat.lt_or_ge (i % rs.length + 1) rs.length with k | k
    · have mb := getD_mem (d := ((0, 0) : Rn)) k
      have e1 : (i + 1) % rs.length = i % rs.length + 1 := by
        have z2 := Nat.div_add_mod i rs.length
        rw [show i + 1 = rs.length * (i / rs.length) + (i % rs.length + 1) by omega, Nat.mul_add_mod, Nat.mod_eq_of_lt k]
      have e2 : (i + 1) / rs.length = i / rs.length := by
        have z1 := Nat.div_add_mod (i + 1) rs.length
        have z2 := Nat.div_add_mod i rs.length
        have z3 : rs.length * ((i + 1) / rs.length) = rs.length * (i / rs.length) := by omega
        exact Nat.eq_of_mul_eq_mul_left pos z3
      unfold bOf eOf
      rw [e1, e2]
      have ap := List.pairwise_iff_getElem.mp sr (i % rs.length) (i % rs.length + 1) a k (Nat.lt_succ_self _)
      rw [List.getD_eq_getElem?_getD, List.getD_eq_getElem?_getD, List.getElem?_eq_getElem a, List.getElem?_eq_getElem k]
      show rs[i % rs.length].2 + _ + 1 < rs[i % rs.length + 1].1 + _
      omega
    · have z1 := Nat.div_add_mod (i + 1) rs.length
      have z2 := Nat.div_add_mod i rs.length
      have e0 : i + 1 = rs.length * (i / rs.length + 1) := by
        rw [Nat.mul_add]
        omega
      have e1 : (i + 1) % rs.length = 0 := by rw [e0, Nat.mul_mod_right]
      have e2 : (i + 1) / rs.length = i / rs.length + 1 := by rw [e0, Nat.mul_div_cancel_left _ pos]
      unfold bOf eOf
      rw [e1, e2]
      have mb := getD_mem (d := ((0, 0) : Rn)) pos
      have := h.cl _ ma.1 _ mb.1
      rw [Int.natCast_succ, Int.mul_add]
      omega
  · rw [(bOf_lt pos).1]
    exact (h.wd _ (getD_mem pos).1).1
  · have k : rs.length - 1 < rs.length := by omega
    rw [(bOf_lt k).1]
    have := (h.wd _ (getD_mem (d := ((0, 0) : Rn)) k).1).2
    omega
theorem in_ch (ne : rs ≠ []) (n : Int) : In p rs n ↔ InC p (bOf p rs) (eOf p rs) n := by
  have pos : 0 < rs.length := List.length_pos_iff.mpr ne
  constructor
  · rintro ⟨r, hr, z, h1, h2⟩
    obtain ⟨i, hi, rfl⟩ := List.mem_iff_getElem.mp hr
    have e : rs.getD i (0, 0) = rs[i] := by rw [List.getD_eq_getElem?_getD, List.getElem?_eq_getElem hi]; rfl
    refine ⟨i, z, ?_, ?_⟩
    · rw [(bOf_lt hi).1, e]
      exact h1
    · rw [(bOf_lt hi).2, e]
      exact h2
  · rintro ⟨i, z, h1, h2⟩
    unfold bOf at h1
    unfold eOf at h2
    refine ⟨_, (getD_mem (d := ((0, 0) : Rn)) (Nat.mod_lt i pos)).1, z - ((i / rs.length : Nat) : Int), ?_, ?_⟩
    · rw [Int.mul_sub]
      omega
    · rw [Int.mul_sub]
      omega
/-- a run's length, and how far it is to the next one's begin -/
def fR (p : Int) (rs : List Rn) (i : Nat) : Int × Int := (eOf p rs i - bOf p rs i + 1, bOf p rs (i + 1) - bOf p rs i)
theorem fR_add (h : 0 < rs.length) (i : Nat) : fR p rs (i + rs.length) = fR p rs i := by
  unfold fR
  rw [show i + rs.length + 1 = i + 1 + rs.length by omega, (bOf_add h i).1, (bOf_add h i).2, (bOf_add h (i + 1)).1]
  congr 1 <;> omega
theorem fR_mul (h : 0 < rs.length) (i : Nat) : ∀ c, fR p rs (i + rs.length * c) = fR p rs i
  | 0 => by simp
  | c + 1 => by rw [show i + rs.length * (c + 1) = i + rs.length * c + rs.length by rw [Nat.mul_add]; omega, fR_add h, fR_mul h i c]
theorem fR_mod (h : 0 < rs.length) (i : Nat) : fR p rs (i % rs.length) = fR p rs i := by
  have e := Nat.mod_add_div i rs.length
  have := fR_mul (p := p) h (i % rs.length) (i / rs.length)
  rw [e] at this
  exact this.symm
/-- the row of all runs -/
def rowOf (p : Int) (rs : List Rn) : List (Int × Int) := (List.range rs.length).map (fR p rs)
theorem rowOf_len : (rowOf p rs).length = rs.length := by simp [rowOf]
theorem rowOf_get {i : Nat} (h : i < rs.length) : (rowOf p rs)[i]? = some (fR p rs i) := by
  unfold rowOf
  rw [List.getElem?_map, List.getElem?_range h]
  rfl
/-- turned by t, an item -/
theorem turned_get {α : Type} {l : List α} {t i : Nat} (ht : t ≤ l.length) (hi : i < l.length) : (l.drop t ++ l.take t)[i]? = l[(i + t) % l.length]? := by
  rcases Nat.lt_or_ge i (l.length - t) with k | k
  · rw [List.getElem?_append_left (by rw [List.length_drop]; exact k), List.getElem?_drop, Nat.add_comm t i, Nat.mod_eq_of_lt (by omega)]
  · rw [List.getElem?_append_right (by rw [List.length_drop]; exact k), List.length_drop, List.getElem?_take]
    have e : (i + t) % l.length = i - (l.length - t) := by
      rw [show i + t = (i - (l.length - t)) + l.length by omega, Nat.add_mod_right, Nat.mod_eq_of_lt (by omega)]
    rw [e, if_pos (by omega)]
theorem turned_len {α : Type} {l : List α} {t : Nat} (ht : t ≤ l.length) : (l.drop t ++ l.take t).length = l.length := by
  rw [List.length_append, List.length_drop, List.length_take]
  omega
theorem turned_iff {α : Type} {l : List α} {t : Nat} (ht : t ≤ l.length) : l.drop t ++ l.take t = l ↔ ∀ i, i < l.length → l[(i + t) % l.length]? = l[i]? := by
  constructor
  · intro e i hi
    rw [← turned_get ht hi, e]
  · intro h
    refine List.ext_getElem? fun i => ?_
    rcases Nat.lt_or_ge i l.length with k | k
    · rw [turned_get ht k, h i k]
    · rw [List.getElem?_eq_none (by rw [turned_len ht]; exact k), List.getElem?_eq_none k]
/-- the row turned by t is the row: the chain is alike behind t runs -/
theorem row_turned (ne : rs ≠ []) {t : Nat} (ht : t ≤ rs.length) : (rowOf p rs).drop t ++ (rowOf p rs).take t = rowOf p rs ↔ Rot (bOf p rs) (eOf p rs) t (bOf p rs t - bOf p rs 0) := by
  have pos : 0 < rs.length := List.length_pos_iff.mpr ne
  rw [turned_iff (by rw [rowOf_len]; exact ht), rowOf_len]
  constructor
  · intro h
    have f : ∀ i, fR p rs (i + t) = fR p rs i := fun i => by
      have k := h (i % rs.length) (Nat.mod_lt i pos)
      rw [rowOf_get (Nat.mod_lt _ pos), rowOf_get (Nat.mod_lt _ pos), Nat.mod_add_mod] at k
      have k := Option.some.inj k
      rw [fR_mod pos, fR_mod pos] at k
      exact k
    have main : ∀ i, bOf p rs (i + t) = bOf p rs i + (bOf p rs t - bOf p rs 0) := fun i => by
      induction i with
      | zero => rw [Nat.zero_add]; omega
      | succ i ih =>
        have k := congrArg Prod.snd (f i)
        unfold fR at k
        dsimp only at k
        rw [show i + 1 + t = i + t + 1 by omega]
        omega
    refine fun i => ⟨main i, ?_⟩
    have k := congrArg Prod.fst (f i)
    unfold fR at k
    dsimp only at k
    have := main i
    omega
  · intro r i hi
    rw [rowOf_get (Nat.mod_lt _ pos), rowOf_get hi, fR_mod pos]
    unfold fR
    rw [show i + t + 1 = i + 1 + t by omega, (r i).1, (r i).2, (r (i + 1)).1]
    congr 2 <;> omega
/-- the gaps of the first runs -/
theorem row_sum {t : Nat} (ht : t ≤ rs.length) : (((rowOf p rs).take t).map (·.2)).sum = bOf p rs t - bOf p rs 0 := by
  induction t with
  | zero => simp
  | succ t ih =>
    have k := ih (by omega)
    rw [List.take_succ, rowOf_get (by omega), List.map_append, List.sum_append, k]
    simp [fR]
    omega
/-- THE RULE: the least turn of the row gives the least form -/
theorem least_form {t : Nat} (h : NF 0 p rs) (ne : rs ≠ []) (t1 : 1 ≤ t) (t2 : t ≤ rs.length) (td : rs.length % t = 0) (tr : (rowOf p rs).drop t ++ (rowOf p rs).take t = rowOf p rs)
    (tm : ∀ s, 1 ≤ s → s < t → rs.length % s = 0 → (rowOf p rs).drop s ++ (rowOf p rs).take s ≠ rowOf p rs) : Form (In p rs) ((((rowOf p rs).take t).map (·.2)).sum) (rs.take t) := by
  have pos : 0 < rs.length := List.length_pos_iff.mpr ne
  have C := h.ch ne
  have eS : In p rs = InC p (bOf p rs) (eOf p rs) := funext fun n => propext (in_ch ne n)
  have R := (row_turned ne t2).mp tr
  rw [row_sum t2]
  obtain ⟨q, eq⟩ : ∃ q, q = bOf p rs t - bOf p rs 0 := ⟨_, rfl⟩
  rw [← eq] at R ⊢
  have q0 : 0 < q := by
    have := C.smono (show 0 < t from t1)
    omega
  have hq : Per (In p rs) q := by
    rw [eS]
    exact C.per_rot t2 R
  obtain ⟨c, hc⟩ : ∃ c, rs.length = t * c := ⟨rs.length / t, by
    have := Nat.div_add_mod rs.length t
    omega⟩
  have qc : p = q * c := by
    have e1 := (R.mul 0 c).1
    rw [Nat.zero_add, ← hc] at e1
    have e2 := C.pB 0
    rw [Nat.zero_add] at e2
    omega
  have hp0 := C.p0
  have pp : Per (In p rs) p := fun n => ⟨fun ⟨r, hr, z, h1, h2⟩ => ⟨r, hr, z + 1, by rw [Int.mul_add]; omega, by rw [Int.mul_add]; omega⟩, fun ⟨r, hr, z, h1, h2⟩ => ⟨r, hr, z - 1, by rw [Int.mul_sub]; omega, by rw [Int.mul_sub]; omega⟩⟩
  have blt : bOf p rs (t - 1) < q := by
    have e := (R (rs.length - 1)).1
    have e2 := C.pB (t - 1)
    rw [show rs.length - 1 + t = t - 1 + rs.length by omega] at e
    have := C.bl
    omega
  have lt_of : ∀ r ∈ rs.take t, ∃ i, i < t ∧ r.1 = bOf p rs i ∧ r.2 = eOf p rs i ∧ r ∈ rs := fun r hr => by
    obtain ⟨i, hi, rfl⟩ := List.mem_iff_getElem.mp hr
    rw [List.length_take] at hi
    have hi2 : i < rs.length := by omega
    refine ⟨i, by omega, ?_, ?_, List.mem_of_mem_take hr⟩
    · rw [(bOf_lt hi2).1, List.getElem_take, List.getD_eq_getElem?_getD, List.getElem?_eq_getElem hi2]
      rfl
    · rw [(bOf_lt hi2).2, List.getElem_take, List.getD_eq_getElem?_getD, List.getElem?_eq_getElem hi2]
      rfl
  refine ⟨q0, hq, fun k k0 hk => ?_, .inr ⟨⟨fun r hr => h.le r (List.mem_of_mem_take hr), fun r hr => ?_, h.ap.sublist (List.take_sublist _ _), fun r hr s hs => ?_⟩, fun n => ?_⟩⟩
  · -- the least period of all comes of a turn, too
    obtain ⟨k0', a0, a1, a2⟩ := least_per k.toNat k k0 (by omega) hk
    have dv := least_dvd a0 a1 a2 pp
    obtain ⟨u, hu⟩ := dv
    rw [eS] at a1
    obtain ⟨s, s0, sr⟩ := C.rot_per a0 a1
    have u0 : 0 < u := by
      rcases Int.lt_or_le 0 u with z | z
      · exact z
      · have := Int.mul_le_mul_of_nonneg_left z (Int.le_of_lt a0)
        omega
    have eu : (u.toNat : Int) = u := Int.toNat_of_nonneg (by omega)
    have es : s * u.toNat = rs.length := by
      have e1 := (sr.mul 0 u.toNat).1
      have e2 := C.pB 0
      rw [Nat.zero_add] at e1 e2
      rw [eu] at e1
      exact C.inj (by omega)
    have sl : s ≤ rs.length := by
      rw [← es]
      exact Nat.le_mul_of_pos_right s (by omega)
    have es0 : bOf p rs s = bOf p rs 0 + k0' := by
      have := (sr 0).1
      rw [Nat.zero_add] at this
      exact this
    have st : t ≤ s := by
      rcases Nat.lt_or_ge s t with z | z
      · refine absurd ((row_turned ne sl).mpr ?_) (tm s s0 z ?_)
        · rw [show bOf p rs s - bOf p rs 0 = k0' by omega]
          exact sr
        · rw [← es, Nat.mul_mod_right]
      · exact z
    have := C.mono st
    have := a2 k k0 hk
    omega
  · obtain ⟨i, hi, e1, -, hm⟩ := lt_of r hr
    have := (h.wd r hm).1
    have := C.mono (show i ≤ t - 1 by omega)
    omega
  · obtain ⟨i, hi, e1, e2, hm⟩ := lt_of r hr
    obtain ⟨j, hj, e3, e4, hm2⟩ := lt_of s hs
    have := C.apart (show i < j + t by omega)
    have := (R j).1
    omega
  · constructor
    · rintro ⟨r, hr, z, h1, h2⟩
      exact (hq.mul z n).mp ⟨r, List.mem_of_mem_take hr, 0, by rw [Int.mul_zero]; omega, by rw [Int.mul_zero]; omega⟩
    · intro hn
      rw [eS] at hn
      obtain ⟨i, z, h1, h2⟩ := hn
      obtain ⟨a, b⟩ := R.mul (i % t) (i / t)
      rw [Nat.mod_add_div] at a b
      have hit := Nat.mod_lt i (show t > 0 from t1)
      have hi2 : i % t < rs.length := by omega
      have m := getD_mem (d := ((0, 0) : Rn)) hi2
      refine ⟨rs.getD (i % t) (0, 0), ?_, c * z - ((i / t : Nat) : Int), ?_, ?_⟩
      · refine List.mem_iff_getElem?.mpr ⟨i % t, ?_⟩
        rw [List.getElem?_take, if_pos hit]
        exact m.2
      · rw [← (bOf_lt (p := p) hi2).1, Int.mul_sub, ← Int.mul_assoc, ← qc]
        omega
      · rw [← (bOf_lt (p := p) hi2).2, Int.mul_sub, ← Int.mul_assoc, ← qc]
        omega
end
end Lt
namespace Lt
def Cov (rs : List Rn) (n : Int) : Prop := ∃ r ∈ rs, r.1 ≤ n ∧ n ≤ r.2
def mstep (acc : List Rn) (x : Rn) : List Rn := match acc.getLast? with
  | none => acc ++ [x]
  | some l => if x.1 ≤ l.2 + 1 then acc.dropLast ++ [(l.1, if l.2 < x.2 then x.2 else l.2)] else acc ++ [x]
theorem mstep_nil (x : Rn) : mstep [] x = [x] := rfl
theorem mstep_snoc (ms : List Rn) (l x : Rn) : mstep (ms ++ [l]) x = if x.1 ≤ l.2 + 1 then ms ++ [(l.1, if l.2 < x.2 then x.2 else l.2)] else ms ++ [l] ++ [x] := by
  unfold mstep
  rw [List.getLast?_append]
  simp
structure Melt (rs ms : List Rn) : Prop where
  le : ∀ r ∈ ms, r.1 ≤ r.2
  ap : ms.Pairwise fun r s => r.2 + 1 < s.1
  cov : ∀ n, Cov ms n ↔ Cov rs n
  of : ∀ r ∈ ms, ∃ s ∈ rs, s.1 = r.1
theorem Melt.nil : Melt [] [] := ⟨(fun _ h => by cases h), List.Pairwise.nil, (fun _ => Iff.rfl), (fun _ h => by cases h)⟩
theorem cov_snoc {rs : List Rn} {x : Rn} {n : Int} : Cov (rs ++ [x]) n ↔ Cov rs n ∨ (x.1 ≤ n ∧ n ≤ x.2) := by
  constructor
  · rintro ⟨r, hr, h⟩
    rcases List.mem_append.mp hr with hr | hr
    · exact .inl ⟨r, hr, h⟩
    · rw [List.mem_singleton.mp hr] at h
      exact .inr h
  · rintro (⟨r, hr, h⟩ | h)
    · exact ⟨r, List.mem_append_left _ hr, h⟩
    · exact ⟨x, List.mem_append_right _ (List.mem_singleton.mpr rfl), h⟩
theorem Melt.step {rs ms : List Rn} {x : Rn} (h : Melt rs ms) (hx : x.1 ≤ x.2) (hs : ∀ r ∈ rs, r.1 ≤ x.1) : Melt (rs ++ [x]) (mstep ms x) := by
  rcases List.eq_nil_or_concat ms with rfl | ⟨m, l, rfl⟩
  · rw [mstep_nil]
    refine ⟨fun r hr => by rw [List.mem_singleton.mp hr]; exact hx, List.pairwise_singleton _ _, fun n => ?_, fun r hr => ⟨x, List.mem_append_right _ (List.mem_singleton.mpr rfl), by rw [List.mem_singleton.mp hr]⟩⟩
    rw [cov_snoc, ← h.cov n]
    constructor
    · rintro ⟨r, hr, k⟩
      rw [List.mem_singleton.mp hr] at k
      exact .inr k
    · rintro (⟨r, hr, _⟩ | k)
      · cases hr
      · exact ⟨x, List.mem_singleton.mpr rfl, k⟩
  · rw [List.concat_eq_append] at h ⊢
    rw [mstep_snoc]
    have hl : l ∈ m ++ [l] := List.mem_append_right _ (List.mem_singleton.mpr rfl)
    have lle := h.le l hl
    obtain ⟨s0, hs0, e0⟩ := h.of l hl
    have lx := hs s0 hs0
    obtain ⟨ap1, -, ap2⟩ := List.pairwise_append.mp h.ap
    have ap3 : ∀ r ∈ m, r.2 + 1 < l.1 := fun r hr => ap2 r hr l (List.mem_singleton.mpr rfl)
    by_cases c : x.1 ≤ l.2 + 1
    · rw [if_pos c]
      refine ⟨fun r hr => ?_, ?_, fun n => ?_, fun r hr => ?_⟩
      · rcases List.mem_append.mp hr with hr | hr
        · exact h.le r (List.mem_append_left _ hr)
        · rw [List.mem_singleton.mp hr]
          dsimp only
          split <;> omega
      · refine List.pairwise_append.mpr ⟨ap1, List.pairwise_singleton _ _, fun r hr s hs => ?_⟩
        rw [List.mem_singleton.mp hs]
        exact ap3 r hr
      · rw [cov_snoc, cov_snoc, ← h.cov n, cov_snoc]
        dsimp only
        constructor
        · rintro (k | k)
          · exact .inl (.inl k)
          · split at k <;> omega
        · rintro ((k | k) | k)
          · exact .inl k
          · refine .inr ?_
            split <;> omega
          · refine .inr ?_
            split <;> omega
      · rcases List.mem_append.mp hr with hr | hr
        · obtain ⟨s, hs, e⟩ := h.of r (List.mem_append_left _ hr)
          exact ⟨s, List.mem_append_left _ hs, e⟩
        · rw [List.mem_singleton.mp hr]
          exact ⟨s0, List.mem_append_left _ hs0, e0⟩
    · rw [if_neg c]
      refine ⟨fun r hr => ?_, ?_, fun n => ?_, fun r hr => ?_⟩
      · rcases List.mem_append.mp hr with hr | hr
        · exact h.le r hr
        · rw [List.mem_singleton.mp hr]
          exact hx
      · refine List.pairwise_append.mpr ⟨h.ap, List.pairwise_singleton _ _, fun r hr s hs => ?_⟩
        rw [List.mem_singleton.mp hs]
        rcases List.mem_append.mp hr with hr | hr
        · have := ap3 r hr
          omega
        · rw [List.mem_singleton.mp hr]
          omega
      · rw [cov_snoc (rs := m ++ [l]), cov_snoc (rs := rs), h.cov n]
      · rcases List.mem_append.mp hr with hr | hr
        · obtain ⟨s, hs, e⟩ := h.of r hr
          exact ⟨s, List.mem_append_left _ hs, e⟩
        · exact ⟨x, List.mem_append_right _ (List.mem_singleton.mpr rfl), by rw [List.mem_singleton.mp hr]⟩
/-- melted runs, which begin in a round, and the last one's end as it goes round -/
structure Clo (p : Int) (ms : List Rn) (l : Rn) (k : Nat) (e : Int) : Prop where
  kl : k ≤ ms.length
  el : l.2 ≤ e
  all : ∀ r ∈ ms.take k, r.2 + p ≤ e
  cov : ∀ n, l.2 < n → n ≤ e → ∃ r ∈ ms.take k, r.1 + p ≤ n ∧ n ≤ r.2 + p
theorem Clo.zero {p : Int} {ms : List Rn} {l : Rn} : Clo p ms l 0 l.2 := ⟨Nat.zero_le _, Int.le_refl _, fun r hr => by simp at hr, fun n a b => by omega⟩
theorem Clo.step {p : Int} {ms : List Rn} {l r : Rn} {k : Nat} {e : Int} (h : Clo p ms l k e) (hr : ms[k]? = some r) (c : r.1 + p ≤ e + 1) : Clo p ms l (k + 1) (if e < r.2 + p then r.2 + p else e) := by
  have kl : k < ms.length := (List.getElem?_eq_some_iff.mp hr).1
  have et : ms.take (k + 1) = ms.take k ++ [r] := by rw [List.take_succ, hr]; rfl
  refine ⟨kl, ?_, fun s hs => ?_, fun n a b => ?_⟩
  · have := h.el
    split <;> omega
  · rw [et] at hs
    rcases List.mem_append.mp hs with hs | hs
    · have := h.all s hs
      split <;> omega
    · rw [List.mem_singleton.mp hs]
      split <;> omega
  · rw [et]
    rcases Int.lt_or_le e n with z | z
    · refine ⟨r, List.mem_append_right _ (List.mem_singleton.mpr rfl), by omega, ?_⟩
      split at b <;> omega
    · obtain ⟨s, hs, q⟩ := h.cov n a z
      exact ⟨s, List.mem_append_left _ hs, q⟩
/-- where it ends -/
theorem Clo.done {p : Int} {ms : List Rn} {l : Rn} {k : Nat} {e : Int} (h : Clo p ms l k e) (le : ∀ r ∈ ms ++ [l], r.1 ≤ r.2) (ap : (ms ++ [l]).Pairwise fun r s => r.2 + 1 < s.1) (wd : ∀ r ∈ ms ++ [l], 0 ≤ r.1 ∧ r.1 < p)
    (out : ∀ r, ms[k]? = some r → e + 1 < r.1 + p) : (p ≤ e - l.1 + 1 → ∀ n, In p (ms ++ [l]) n) ∧ (e - l.1 + 1 < p → NF 0 p (ms.drop k ++ [(l.1, e)]) ∧ ∀ n, In p (ms.drop k ++ [(l.1, e)]) n ↔ In p (ms ++ [l]) n) := by
  have hl : l ∈ ms ++ [l] := List.mem_append_right _ (List.mem_singleton.mpr rfl)
  have lle := le l hl
  have lwd := wd l hl
  have le1 := h.el
  obtain ⟨ap1, -, ap2⟩ := List.pairwise_append.mp ap
  have ap3 : ∀ r ∈ ms, r.2 + 1 < l.1 := fun r hr => ap2 r hr l (List.mem_singleton.mpr rfl)
  have back : ∀ n, In p (ms.drop k ++ [(l.1, e)]) n → In p (ms ++ [l]) n := fun n ⟨r, hr, z, h1, h2⟩ => by
    rcases List.mem_append.mp hr with hr | hr
    · exact ⟨r, List.mem_append_left _ (List.mem_of_mem_drop hr), z, h1, h2⟩
    · rw [List.mem_singleton.mp hr] at h1 h2
      rcases Int.lt_or_le l.2 (n + p * z) with c | c
      · obtain ⟨s, hs, q1, q2⟩ := h.cov _ c h2
        exact ⟨s, List.mem_append_left _ (List.mem_of_mem_take hs), z - 1, by rw [Int.mul_sub]; omega, by rw [Int.mul_sub]; omega⟩
      · exact ⟨l, hl, z, h1, c⟩
  refine ⟨fun far n => ?_, fun near => ⟨⟨fun r hr => ?_, fun r hr => ?_, ?_, fun r hr s hs => ?_⟩, fun n => ⟨back n, ?_⟩⟩⟩
  · have m0 := Int.emod_nonneg (n - l.1) (show p ≠ 0 by omega)
    have m1 := Int.emod_lt_of_pos (n - l.1) (show 0 < p by omega)
    have e1 := Int.mul_ediv_add_emod (n - l.1) p
    refine back n ⟨(l.1, e), List.mem_append_right _ (List.mem_singleton.mpr rfl), -((n - l.1) / p), ?_, ?_⟩
    · rw [Int.mul_neg]
      dsimp only
      omega
    · rw [Int.mul_neg]
      dsimp only
      omega
  · rcases List.mem_append.mp hr with hr | hr
    · exact le r (List.mem_append_left _ (List.mem_of_mem_drop hr))
    · rw [List.mem_singleton.mp hr]
      dsimp only
      omega
  · rw [Int.zero_add]
    rcases List.mem_append.mp hr with hr | hr
    · exact wd r (List.mem_append_left _ (List.mem_of_mem_drop hr))
    · rw [List.mem_singleton.mp hr]
      exact lwd
  · refine List.pairwise_append.mpr ⟨ap1.sublist (List.drop_sublist _ _), List.pairwise_singleton _ _, fun r hr s hs => ?_⟩
    rw [List.mem_singleton.mp hs]
    exact ap3 r (List.mem_of_mem_drop hr)
  · rcases List.mem_append.mp hr with hr | hr
    · have a := ap3 r (List.mem_of_mem_drop hr)
      rcases List.mem_append.mp hs with hs | hs
      · have := (wd s (List.mem_append_left _ (List.mem_of_mem_drop hs))).1
        omega
      · rw [List.mem_singleton.mp hs]
        dsimp only
        omega
    · rw [List.mem_singleton.mp hr]
      dsimp only
      rcases List.mem_append.mp hs with hs | hs
      · obtain ⟨i, hi, rfl⟩ := List.mem_iff_getElem.mp hs
        rw [List.length_drop] at hi
        have hk : k < ms.length := by omega
        have o := out _ (List.getElem?_eq_getElem hk)
        rw [List.getElem_drop]
        rcases Nat.eq_zero_or_pos i with rfl | z
        · simp only [Nat.add_zero]
          exact o
        · have q := List.pairwise_iff_getElem.mp ap1 k (k + i) hk (by omega) (by omega)
          have := le _ (List.mem_append_left [l] (List.getElem_mem hk))
          omega
      · rw [List.mem_singleton.mp hs]
        dsimp only
        omega
  · rintro ⟨r, hr, z, h1, h2⟩
    rcases List.mem_append.mp hr with hr | hr
    · rw [← List.take_append_drop k ms] at hr
      rcases List.mem_append.mp hr with hr | hr
      · have a := h.all r hr
        have w := (wd r (List.mem_append_left _ (List.mem_of_mem_take hr))).1
        exact ⟨(l.1, e), List.mem_append_right _ (List.mem_singleton.mpr rfl), z + 1, by rw [Int.mul_add]; dsimp only; omega, by rw [Int.mul_add]; dsimp only; omega⟩
      · exact ⟨r, List.mem_append_left _ hr, z, h1, h2⟩
    · rw [List.mem_singleton.mp hr] at h1 h2
      exact ⟨(l.1, e), List.mem_append_right _ (List.mem_singleton.mpr rfl), z, h1, by dsimp only; omega⟩
/-- runs with their begins brought into the round -/
def into (p : Int) (r : Rn) : Rn := (r.1 % p, r.1 % p + (r.2 - r.1 + 1) - 1)
theorem in_into {p : Int} {rs ms : List Rn} (h : ∀ m, m ∈ ms ↔ ∃ r ∈ rs, m = into p r) (n : Int) : In p ms n ↔ In p rs n := by
  constructor
  · rintro ⟨m, hm, z, h1, h2⟩
    obtain ⟨r, hr, rfl⟩ := (h m).mp hm
    have e := Int.mul_ediv_add_emod r.1 p
    unfold into at h1 h2
    dsimp only at h1 h2
    exact ⟨r, hr, z + r.1 / p, by rw [Int.mul_add]; omega, by rw [Int.mul_add]; omega⟩
  · rintro ⟨r, hr, z, h1, h2⟩
    have e := Int.mul_ediv_add_emod r.1 p
    refine ⟨into p r, (h _).mpr ⟨r, hr, rfl⟩, z - r.1 / p, ?_, ?_⟩
    · unfold into
      dsimp only
      rw [Int.mul_sub]
      omega
    · unfold into
      dsimp only
      rw [Int.mul_sub]
      omega
theorem in_cov {p : Int} {rs ms : List Rn} (h : ∀ n, Cov ms n ↔ Cov rs n) (n : Int) : In p ms n ↔ In p rs n :=
  ⟨fun ⟨r, hr, z, h1, h2⟩ => by
    obtain ⟨s, hs, k⟩ := (h _).mp ⟨r, hr, h1, h2⟩
    exact ⟨s, hs, z, k⟩, fun ⟨r, hr, z, h1, h2⟩ => by
    obtain ⟨s, hs, k⟩ := (h _).mpr ⟨r, hr, h1, h2⟩
    exact ⟨s, hs, z, k⟩⟩
theorem in_long {p : Int} {rs : List Rn} {r : Rn} (hp : 0 < p) (hr : r ∈ rs) (h : p ≤ r.2 - r.1 + 1) (n : Int) : In p rs n := by
  have m0 := Int.emod_nonneg (n - r.1) (show p ≠ 0 by omega)
  have m1 := Int.emod_lt_of_pos (n - r.1) hp
  have e1 := Int.mul_ediv_add_emod (n - r.1) p
  refine ⟨r, hr, -((n - r.1) / p), ?_, ?_⟩
  · rw [Int.mul_neg]
    omega
  · rw [Int.mul_neg]
    omega
/-- what maximal gives: a whole round, or the form of the round -/
def Mx (p : Int) (rs res : List Rn) : Prop := (res = [(0, p - 1)] ∧ ∀ n, In p rs n) ∨ (NF 0 p res ∧ ∀ n, In p res n ↔ In p rs n)
theorem Mx.full_or {p : Int} {rs res : List Rn} (h : Mx p rs res) {r : Rn} (hr : r ∈ res) : p ≤ r.2 - r.1 + 1 ↔ ∀ n, In p rs n := by
  rcases h with ⟨a, b⟩ | ⟨a, b⟩
  · rw [a] at hr
    rw [List.mem_singleton.mp hr]
    exact ⟨fun _ => b, fun _ => by dsimp only; omega⟩
  · have := a.cl r hr r hr
    exact ⟨fun _ => by omega, fun k => absurd (fun n => (b n).mpr (k n)) a.not_all⟩
theorem form_none {p : Int} {rs : List Rn} (h : Mx p rs []) : Form (In p rs) 1 [] := by
  rcases h with ⟨a, _⟩ | ⟨a, b⟩
  · cases a
  · have no : ∀ n, ¬ In p rs n := fun n k => by
      obtain ⟨r, hr, _⟩ := (b n).mpr k
      cases hr
    have nf : NF 0 1 [] := ⟨(fun r hr => by cases hr), (fun r hr => by cases hr), List.Pairwise.nil, (fun r hr => by cases hr)⟩
    refine ⟨by decide, fun n => ⟨fun k => absurd k (no _), fun k => absurd k (no _)⟩, fun k h0 _ => by omega, .inr ⟨nf, fun n => ⟨fun k => ?_, fun k => absurd k (no _)⟩⟩⟩
    obtain ⟨r, hr, _⟩ := k
    cases hr
theorem form_all {S : Int → Prop} (h : ∀ n, S n) : Form S 1 [(0, 0)] := ⟨by decide, fun n => ⟨fun _ => h _, fun _ => h _⟩, fun k h0 _ => by omega, .inl ⟨h, rfl⟩⟩
theorem form_of {p : Int} {rs res : List Rn} (h : Mx p rs res) {r : Rn} {t : List Rn} (e : res = r :: t) (n : r.2 - r.1 + 1 < p) : NF 0 p res ∧ In p res = In p rs := by
  rcases h with ⟨a, _⟩ | ⟨a, b⟩
  · rw [e] at a
    cases a
    dsimp only at n
    omega
  · exact ⟨a, funext fun n => propext (b n)⟩
end Lt
namespace Lt
theorem near_in {p k n : Int} (p0 : 0 < p) : In p [(-k, k)] n ↔ n % p ≤ k ∨ (0 - n) % p ≤ k := by
  have l0 : 0 ≤ n % p := Int.emod_nonneg _ (by omega)
  have l1 : n % p < p := Int.emod_lt_of_pos _ p0
  have m0 : 0 ≤ (0 - n) % p := Int.emod_nonneg _ (by omega)
  have m1 : (0 - n) % p < p := Int.emod_lt_of_pos _ p0
  have e1 : n % p + p * (n / p) = n := Int.emod_add_mul_ediv n p
  have e2 : (0 - n) % p + p * ((0 - n) / p) = 0 - n := Int.emod_add_mul_ediv (0 - n) p
  constructor
  · rintro ⟨r, hr, z, z1, z2⟩
    obtain rfl := List.mem_singleton.mp hr
    dsimp only at z1 z2
    by_cases c : 0 ≤ n + p * z
    · left
      have : (n + p * z) % p = n % p := Int.add_mul_emod_self_left n p z
      have h2 : (n + p * z) % p ≤ n + p * z := by
        have a := Int.emod_add_mul_ediv (n + p * z) p
        have b : 0 ≤ p * ((n + p * z) / p) := Int.mul_nonneg (by omega) (Int.ediv_nonneg c (by omega))
        omega
      omega
    · right
      have : (0 - n + p * (-z)) % p = (0 - n) % p := Int.add_mul_emod_self_left (0 - n) p (-z)
      rw [Int.mul_neg] at this
      have h2 : (0 - n + -(p * z)) % p ≤ 0 - n + -(p * z) := by
        have a := Int.emod_add_mul_ediv (0 - n + -(p * z)) p
        have b : 0 ≤ p * ((0 - n + -(p * z)) / p) := Int.mul_nonneg (by omega) (Int.ediv_nonneg (by omega) (by omega))
        omega
      omega
  · rintro (h | h)
    · refine ⟨_, List.mem_singleton.mpr rfl, -(n / p), ?_, ?_⟩
      · dsimp only
        rw [Int.mul_neg]
        omega
      · dsimp only
        rw [Int.mul_neg]
        omega
    · refine ⟨_, List.mem_singleton.mpr rfl, (0 - n) / p, ?_, ?_⟩
      · dsimp only
        omega
      · dsimp only
        omega
/-- near everywhere -/
theorem near_all {p k : Int} (p0 : 0 < p) (k0 : 0 ≤ k) : (∀ n, In p [(-k, k)] n) ↔ p ≤ 2 * k + 1 := by
  constructor
  · intro h
    by_cases c : p ≤ 2 * k + 1
    · exact c
    · exfalso
      obtain ⟨r, hr, z, z1, z2⟩ := h (k + 1)
      obtain rfl := List.mem_singleton.mp hr
      dsimp only at z1 z2
      rcases rnd (z := z) p0 with ⟨-, y⟩ | ⟨-, y⟩ | ⟨-, y⟩ | ⟨-, y⟩ | ⟨-, y⟩ <;> omega
  · intro h n
    exact in_long p0 (List.mem_singleton.mpr rfl) (by dsimp only; omega) n
end Lt
namespace Lt
structure Fnd (S : Int → Bool) (i : Int) (rs : List Rn) : Prop where
  all : ∀ r ∈ rs, 0 ≤ r.1 ∧ r.1 < i ∧ r.1 ≤ r.2 ∧ (∀ n, r.1 ≤ n → n ≤ r.2 → S n = true) ∧ S (r.1 - 1) = false ∧ S (r.2 + 1) = false
  ex : ∀ b, 0 ≤ b → b < i → S b = true → S (b - 1) = false → ∃ r ∈ rs, r.1 = b
  srt : rs.Pairwise fun r s => r.1 < s.1
theorem Fnd.nil {S : Int → Bool} : Fnd S 0 [] := ⟨(fun r h => by cases h), (fun b h0 h1 => by omega), List.Pairwise.nil⟩
end Lt
namespace Lt
def cnt (S : Int → Bool) (a : Int) : Nat → Nat
  | 0 => 0
  | n + 1 => cnt S a n + if S (a + n) = true then 1 else 0
section
variable {S : Int → Bool}
theorem cnt_add (a : Int) (m : Nat) : ∀ n, cnt S a (m + n) = cnt S a m + cnt S (a + m) n
  | 0 => rfl
  | n + 1 => by
    have ih := cnt_add a m n
    show cnt S a (m + n) + (if S (a + ((m + n : Nat) : Int)) = true then 1 else 0) = cnt S a m + (cnt S (a + m) n + if S (a + m + n) = true then 1 else 0)
    rw [ih, show a + ((m + n : Nat) : Int) = a + m + n by omega]
    omega
theorem cnt_shift {q : Nat} (hq : Per (fun n => S n = true) (q : Int)) (a : Int) : cnt S (a + 1) q = cnt S a q := by
  have e1 := cnt_add (S := S) a 1 q
  have e2 := cnt_add (S := S) a q 1
  rw [Nat.add_comm 1 q, e2] at e1
  have k : S (a + q) = S a := Bool.eq_iff_iff.mpr (hq a)
  have c1 : cnt S a 1 = if S a = true then 1 else 0 := by
    show 0 + (if S (a + ((0 : Nat) : Int)) = true then 1 else 0) = _
    rw [show a + ((0 : Nat) : Int) = a by omega]
    omega
  have c2 : cnt S (a + q) 1 = if S a = true then 1 else 0 := by
    show 0 + (if S (a + q + ((0 : Nat) : Int)) = true then 1 else 0) = _
    rw [show a + (q : Int) + ((0 : Nat) : Int) = a + q by omega, k]
    omega
  rw [c1, c2] at e1
  have : a + ((1 : Nat) : Int) = a + 1 := rfl
  rw [this] at e1
  omega
theorem cnt_round {q : Nat} (hq : Per (fun n => S n = true) (q : Int)) (a : Int) : ∀ d : Nat, cnt S (a + d) q = cnt S a q
  | 0 => by rw [show a + ((0 : Nat) : Int) = a by omega]
  | d + 1 => by rw [show a + ((d + 1 : Nat) : Int) = a + d + 1 by omega, cnt_shift hq, cnt_round hq a d]
theorem cnt_mul {q : Nat} (hq : Per (fun n => S n = true) (q : Int)) (a : Int) : ∀ u : Nat, cnt S a (q * u) = cnt S a q * u
  | 0 => by simp [cnt]
  | u + 1 => by
    rw [Nat.mul_add, Nat.mul_one, cnt_add, cnt_mul hq a u, cnt_round hq a (q * u), Nat.mul_add, Nat.mul_one]
theorem cnt_all {a : Int} {n : Nat} (h : ∀ i : Nat, i < n → S (a + i) = true) : cnt S a n = n := by
  induction n with
  | zero => rfl
  | succ n ih =>
    show cnt S a n + _ = n + 1
    rw [ih fun i hi => h i (by omega), h n (by omega), if_pos rfl]
theorem cnt_none {a : Int} {n : Nat} (h : ∀ i : Nat, i < n → S (a + i) = false) : cnt S a n = 0 := by
  induction n with
  | zero => rfl
  | succ n ih =>
    show cnt S a n + _ = 0
    rw [ih fun i hi => h i (by omega), h n (by omega), if_neg Bool.false_ne_true]
theorem cnt_filter (p : Nat) : ((List.range p).filter fun i : Nat => S (i : Int)).length = cnt S 0 p := by
  induction p with
  | zero => rfl
  | succ p ih =>
    rw [List.range_succ, List.filter_append, List.length_append, ih]
    show _ = cnt S 0 p + _
    rw [show (0 : Int) + p = p by omega]
    cases z : S (p : Int) with
    | true => rw [List.filter_cons_of_pos (by exact z), if_pos rfl]; rfl
    | false => rw [List.filter_cons_of_neg (by rw [z]; exact Bool.false_ne_true), if_neg Bool.false_ne_true]; rfl
end
section
variable {m : Nat} {p : Int} {B E : Nat → Int}
theorem Ch.emono (h : Ch m p B E) {i j : Nat} (k : i ≤ j) : E i ≤ E j := by
  rcases Nat.eq_or_lt_of_le k with e | k
  · rw [e]
    exact Int.le_refl _
  · have := h.apart k
    have := h.be j
    omega
/-- nothing lies between two runs -/
theorem Ch.between (h : Ch m p B E) {i : Nat} {n : Int} (h1 : E i < n) (h2 : n < B (i + 1)) : ¬ InC p B E n := fun k => by
  obtain ⟨c0, k⟩ := h.place k
  obtain ⟨j, hj, k1, k2⟩ := k c0 (Nat.le_refl _)
  have e1 := (h.pBm i c0).2
  have e2 := (h.pBm (i + 1) c0).1
  rcases Nat.lt_or_ge (i + m * c0) j with z | z
  · have := h.mono (show i + 1 + m * c0 ≤ j by omega)
    omega
  · have := h.emono z
    omega
theorem Ch.count (h : Ch m p B E) {S : Int → Bool} (hS : ∀ n, S n = true ↔ InC p B E n) : ∀ i : Nat, (cnt S (B 0) (B i - B 0).toNat : Int) = ((List.range i).map fun j => E j - B j + 1).sum
  | 0 => by simp [cnt]
  | i + 1 => by
    have ih := h.count hS i
    have a := h.mono (Nat.zero_le i)
    have b := h.be i
    have c := h.ap i
    have e : (B (i + 1) - B 0).toNat = (B i - B 0).toNat + ((E i - B i + 1).toNat + (B (i + 1) - E i - 1).toNat) := by omega
    rw [e, cnt_add, cnt_add, List.range_succ, List.map_append, List.sum_append, ← ih]
    have e1 : B 0 + (((B i - B 0).toNat : Nat) : Int) = B i := by omega
    rw [e1]
    have c1 : cnt S (B i) (E i - B i + 1).toNat = (E i - B i + 1).toNat := cnt_all fun j hj => (hS _).mpr (h.mem (i := i) (by omega) (by omega))
    have c2 : cnt S (B i + (((E i - B i + 1).toNat : Nat) : Int)) (B (i + 1) - E i - 1).toNat = 0 := cnt_none fun j hj => by
      have n := h.between (i := i) (n := B i + (((E i - B i + 1).toNat : Nat) : Int) + j) (by omega) (by omega)
      cases z : S (B i + (((E i - B i + 1).toNat : Nat) : Int) + j) with
      | false => rfl
      | true => exact absurd ((hS _).mp z) n
    rw [c1, c2]
    simp
    omega
end
/-- the size of the least form, against the members of any round -/
theorem Form.size {S : Int → Bool} {q : Int} {few : List Rn} {p : Nat} (h : Form (fun n => S n = true) q few) (hp : 0 < p) (pp : Per (fun n => S n = true) (p : Int)) :
    (few.map fun r => r.2 - r.1 + 1).sum * (p : Int) = (((List.range p).filter fun i : Nat => S (i : Int)).length : Int) * q := by
  obtain ⟨q', rfl⟩ : ∃ q' : Nat, q = (q' : Int) := ⟨q.toNat, by have := h.pos; omega⟩
  obtain ⟨u, hu⟩ := least_dvd h.pos h.per h.least pp
  have q0 := h.pos
  have u0 : 0 < u := by
    rcases Int.lt_or_le 0 u with z | z
    · exact z
    · have := Int.mul_le_mul_of_nonneg_left z (Int.le_of_lt q0)
      omega
  obtain ⟨u', rfl⟩ : ∃ u' : Nat, u = (u' : Int) := ⟨u.toNat, by omega⟩
  have e0 : p = q' * u' := by
    have : ((p : Nat) : Int) = ((q' * u' : Nat) : Int) := by rw [hu, Int.natCast_mul]
    omega
  have key : (cnt S 0 q' : Int) = (few.map fun r => r.2 - r.1 + 1).sum := by
    rcases h.runs with ⟨a, b⟩ | ⟨a, b⟩
    · have q1 : (q' : Int) ≤ 1 := h.least 1 (by omega) fun n => ⟨fun _ => a _, fun _ => a _⟩
      have e : q' = 1 := by omega
      subst e
      rw [b, cnt_all fun i _ => a _]
      rfl
    · by_cases ne : few = []
      · subst ne
        have : cnt S 0 q' = 0 := cnt_none fun i _ => by
          cases z : S (0 + (i : Int)) with
          | false => rfl
          | true =>
            obtain ⟨r, hr, _⟩ := (b _).mpr z
            cases hr
        rw [this]
        rfl
      · have C := a.ch ne
        have hS : ∀ n, S n = true ↔ InC (q' : Int) (bOf q' few) (eOf q' few) n := fun n => (b n).symm.trans (in_ch ne n)
        have z := C.count hS few.length
        have e1 := C.pB 0
        rw [Nat.zero_add] at e1
        rw [show (bOf (q' : Int) few few.length - bOf (q' : Int) few 0).toNat = q' by omega] at z
        have b0 := C.b0
        have e2 := cnt_round (S := S) h.per 0 (bOf (q' : Int) few 0).toNat
        rw [show (0 : Int) + (((bOf (q' : Int) few 0).toNat : Nat) : Int) = bOf (q' : Int) few 0 by omega] at e2
        rw [← e2, z]
        congr 1
        refine List.ext_getElem? fun i => ?_
        rw [List.getElem?_map, List.getElem?_map]
        rcases Nat.lt_or_ge i few.length with k | k
        · rw [List.getElem?_range k, (getD_mem (d := ((0, 0) : Rn)) k).2]
          simp only [Option.map_some, (bOf_lt (p := (q' : Int)) k).1, (bOf_lt (p := (q' : Int)) k).2]
        · rw [List.getElem?_eq_none (by rw [List.length_range]; exact k), List.getElem?_eq_none k]
          rfl
  rw [cnt_filter, e0, cnt_mul h.per, ← key, Int.natCast_mul, Int.natCast_mul, Int.mul_comm (q' : Int) u', ← Int.mul_assoc]
end Lt
namespace Lt
def wd (k : Int) (r : Rn) : Rn := (r.1 * k, r.2 * k + k - 1)
end Lt
section
variable {P : Program} {w : World} {K : PySem.W.Frag} {mg : Str → Option Value} {base : Heap}
theorem fn_law_pen (B : Bi mg) (F : Df K mg "_law_pen" s_law_pen) : Fn P w K mg base CX0 "_law_pen" 1 (fun vs L Q _ => ∃ (a : Addr) (ns : List Int), vs = [.ref a] ∧ InL K L a (ns.map V.int) ∧ ∀ p c ms, ms.length ≤ 63 → Q (.ref p) ((p, penO c 0 0) :: (c, celO ms) :: L)) := by
  refine fn_plain F sc_law_pen (fun _ _ _ _ _ _ us hl => match us, hl with | [_], _ => rfl) (by decide) (by tm_at "g_len") ?_
  intro X f cdv A outer s H E0 L vs Q E hX nd hr h
  subst hX
  obtain ⟨a, ns, rfl, hi, q⟩ := h
  show GSs _ (defBody s_law_pen) (bodyD Q) [("_law_script", some (.ref a))] L
  refine gss_cons ?_
  tm_at "g"
  refine ⟨a, ns.map V.int, rfl, ?_⟩
  show GE _ _ _ _ _
  tm_at "g"
  refine ⟨hi, fun q1 => ?_⟩
  obtain ⟨ms, hm, em⟩ := cut63 (ns := ns)
  rw [em]
  tm_at "g"
  refine gc_list mem0 fun c => ?_
  tm_at "g"

  exact ⟨_, Sub.sublist (((List.sublist_cons_self _ _).cons_cons _).cons_cons _), q _ c ms hm⟩
theorem fn_law_draw (B : Bi mg) (F : Df K mg "_law_draw" s_law_draw) : Fn P w K mg base CX0 "_law_draw" 1 spDraw := by
  refine fn_plain F sc_law_draw (fun _ _ _ _ _ _ us hl => match us, hl with | [_, _], _ => rfl) (by decide) (by tm_at "g_len") ?_
  intro X f cdv A outer s H E0 L vs Q E hX nd hr h
  subst hX
  obtain ⟨p, c, ns, n, m, many, R, rfl, sb, h63, k1, k2, n0, n1, m0, q⟩ := h
  refine GSs.sub sb ?_
  show GSs _ (defBody s_law_draw) (bodyD Q) [("_law_pen_here", some (.ref p)), ("_law_many", some (.int many)), ("_law_digit", none), ("_law_begun", none), ("_law_raw", none), ("_law_great", none), ("_law_stirred", none)] _
  refine gss_cons ?_
  tm_at "g"
  refine ite_d (fun hm => ?_) (fun hm => ?_)
  · tm_at "g"
    refine go_modR k1 fun d d0 d1 => ?_
    tm_at "g"
    refine go_divS k1 k2 ?_
    tm_at "g"
    exact ⟨_, Sub.refl, q d n (m / many) d0 d1 n0 (by omega) (Int.ediv_nonneg m0 (by omega))⟩
  tm_at "g"
  refine go_mulS (.inl (by decide)) ?_
  tm_at "gx"
  refine GS.cut (fun θ M => ∃ r : Int, θ = ([("_law_pen_here", some (.ref p)), ("_law_many", some (.int many)), ("_law_digit", none), ("_law_begun", some (.int n)), ("_law_raw", some (.int r)), ("_law_great", none), ("_law_stirred", none)] : En) ∧ Sub ((p, penO c (n + 1) m) :: (c, celO ns) :: R) M) ?_ ?_
  · tm_at "g"
    refine go_neD (d := .list (ns.map PyData.int)) (e := .list ([].map PyData.int)) hr.toRoom (dl_lst (by tm_at "g_mem") dls_ints) (dl_lst (by tm_at "g_mem") dls_nil) (shapedL _) (shapedL _) ?_
    rw [eqvL]
    tm_at "g"
    refine ite_n (fun hz => ?_) (fun hz => ?_)
    · tm_at "g"
      have hp : 0 < (ns.length : Int) := by
        cases ns with
        | nil => exact absurd rfl hz
        | cons a r => rw [List.length_cons]; omega
      rw [List.length_map]
      refine go_modR hp fun d d0 d1 => ?_
      obtain ⟨k, rfl⟩ : ∃ k : Nat, d = (k : Int) := ⟨d.toNat, by omega⟩
      have hk : k < ns.length := by omega
      refine gi_lst (by tm_at "g_mem") (atI_nat (v := .int ns[k]) (by rw [List.getElem?_map, List.getElem?_eq_getElem hk] <;> rfl)) ?_
      tm_at "g"
      tm_at "g_sub"
    · tm_at "g"
      tm_at "g_sub"
  rintro θ M ⟨raw, rfl, hs⟩
  refine GSs.sub hs ?_
  tm_at "gx"
  refine gs_if (GT.imp (Q := fun k M => M = (p, penO c (n + 1) m) :: (c, celO ns) :: R ∧ (k = true → 1000000000000000000 ≤ (raw.natAbs : Int))) ?_ ?_)
  · tm_at "g"
    refine ite_d (fun _ => ?_) (fun _ => ⟨rfl, fun z => nomatch z⟩)
    tm_at "g"
    refine go_powL (r := 1000000000000000000) ⟨by decide, by decide, by decide⟩ (by decide) ?_
    tm_at "g"
    exact ⟨rfl, fun z => of_decide_eq_true z⟩
  rintro k M ⟨rfl, hk⟩
  refine ite_b (fun e => ?_) (fun e => ?_)
  · have hr1 := hk e
    tm_at "g"
    refine go_powL (r := 1000000000000000000) ⟨by decide, by decide, by decide⟩ (by decide) ?_
    tm_at "g"
    refine go_mulS (.inl (by decide)) ?_
    tm_at "g"
    have g0 : 0 ≤ 2 * ((raw.natAbs : Int) - 1000000000000000000) + (if (decide (raw < 0)) = true then 1 else 0) := by split <;> omega
    refine go_divS k1 k2 ?_
    tm_at "g"
    refine go_modR k1 fun d d0 d1 => ?_
    tm_at "g"
    exact ⟨_, Sub.refl, q d (n + 1) _ d0 d1 (by omega) (by omega) (Int.ediv_nonneg g0 (by omega))⟩
  tm_at "g"
  refine go_modR (by decide) fun a a0 a1 => ?_
  tm_at "g"
  refine go_mulS (.inl (by decide)) ?_
  tm_at "g"
  refine go_powR ⟨by decide, by decide, by omega⟩ fun b => ?_
  tm_at "g"
  refine go_modR (by decide) fun s s0 s1 => ?_
  tm_at "g"
  refine go_mulS (.inl (by decide)) ?_
  tm_at "g"
  have b1 := bnd (t := 2 * n + 1125) (B := 200000 + 1125) s0 (Int.le_of_lt s1) (by omega) (by omega)
  refine go_mulS (.inl (by omega)) ?_
  tm_at "g"
  refine go_mulS (.inl (by decide)) ?_
  tm_at "g"
  have b2 := bnd (s := 44161 * n) (t := n) (A := 44161 * 100000) (B := 100000) (by omega) (by omega) n0 n1
  refine go_mulS (.inl (by omega)) ?_
  tm_at "g"
  refine go_powR ⟨by decide, by decide, by omega⟩ fun b => ?_
  tm_at "g"
  refine go_modR (by decide) fun s' s0' s1' => ?_
  tm_at "g"
  refine go_divS (by decide) (by decide) ?_
  tm_at "g"
  refine go_modR k1 fun d d0 d1 => ?_
  tm_at "g"
  exact ⟨_, Sub.refl, q d (n + 1) m d0 d1 (by omega) (by omega) m0⟩
end
section
variable {P : Program} {w : World} {K : PySem.W.Frag} {mg : Str → Option Value} {base : Heap} {C : Addr}
theorem fn_law_pick (B : Bi mg) (F : Df K mg "_law_pick" s_law_pick) (D1 : Fn P w K mg base CX0 "_law_draw" 1 spDraw) : Fn P w K mg base CX0 "_law_pick" 2 spPick := by
  refine fn_plain F sc_law_pick (fun _ _ _ _ _ _ us hl => match us, hl with | [_, _], _ => rfl) (by decide) (by tm_at "g_len") ?_
  intro X f cdv A outer s H E0 L vs Q E hX nd hr h
  subst hX
  obtain ⟨p, c, q, ns, xs, n, m, R, rfl, sb, mq, h63, l0, l1, n0, n1, m0, qq⟩ := h
  refine GSs.sub sb ?_
  show GSs _ (defBody s_law_pick) (bodyD Q) [("_law_pen_here", some (.ref p)), ("_law_some", some (.ref q))] _
  refine gss_cons ?_
  tm_at "g"
  refine ge_call (El := NoX) D1 hr passA ?_
  tm_at "g"
  refine ⟨p, c, ns, n, m, xs.length, R, rfl, Sub.refl, h63, by omega, by omega, n0, n1, m0, fun d n' m' d0 d1 a0 a1 a2 => ?_⟩
  obtain ⟨k, rfl⟩ : ∃ k : Nat, d = (k : Int) := ⟨d.toNat, by omega⟩
  have hk : k < xs.length := by omega
  refine gi_lst (memS (memS mq)) (atI_nat (v := xs[k]) (List.getElem?_eq_getElem hk)) ?_
  tm_at "g"
  exact ⟨_, Sub.refl, qq k _ n' m' (List.getElem?_eq_getElem hk) a0 a1 a2⟩
end
section
open Lt
/-- is_whole of an integer -/
def spWholeI : SpL := fun vs L Q _ => ∃ i : Int, vs = [.int i] ∧ Q (.bl true) L
def spIsRun : SpL := fun vs L Q _ => ∃ (t : Addr) (a b : Int), vs = [.ref t] ∧ (t, HO.tup [.int a, .int b]) ∈ L ∧ Q (.bl (decide (a ≤ b))) L
def spLen : SpL := fun vs L Q _ => ∃ (t : Addr) (a b : Int), vs = [.ref t] ∧ (t, HO.tup [.int a, .int b]) ∈ L ∧ Q (.int (b - a + 1)) L
/-- a row of runs as a new list -/
def NewRows (R : List Rn → Prop) (L : Lg) (Q : QV) : Prop := ∀ (f : Addr) (ps : List Pr2) (M : Lg), Sub L M → (f, HO.lst (prV ps)) ∈ M → Prs2 ps M → R (ps.map (·.2)) → Q (.ref f) M
def spMelted : SpL := fun vs L Q _ => ∃ (r : Addr) (ps : List Pr2), vs = [.ref r] ∧ (r, HO.lst (prV ps)) ∈ L ∧ Prs2 ps L ∧ ps.length ≤ 100000 ∧ (∀ e ∈ ps, e.2.1 ≤ e.2.2) ∧ (ps.map (·.2)).Pairwise le2 ∧ NewRows (fun rs => Melt (ps.map (·.2)) rs ∧ rs.length ≤ ps.length) L Q
variable {P : Program} {w : World} {K : PySem.W.Frag} {mg : Str → Option Value} {base : Heap}
theorem fn_is_wholeI (B : Bi mg) (F : Df K mg "is_whole" s_is_whole) : Fn P w K mg base CX0 "is_whole" 1 spWholeI := by
  refine fn_plain F sc_is_whole (fun _ _ _ _ _ _ us hl => match us, hl with | [_], _ => rfl) (by decide) (by tm_at "g_len") ?_
  intro X f cdv A outer s H E0 L vs Q E hX nd hr h
  subst hX
  obtain ⟨i, rfl, q⟩ := h
  show GSs _ (defBody s_is_whole) (bodyD Q) [("value", some (.int i))] L
  refine gss_cons ?_
  tm_at "g"
  refine gc_isK .int kb_int_int ?_
  tm_at "g"
  refine gc_isK .int kb_int_bool ?_
  tm_at "g"
  exact ⟨_, Sub.refl, q⟩
theorem fn_is_run (B : Bi mg) (F : Df K mg "is_run" s_is_run) (D1 : Fn P w K mg base CX0 "is_whole" 1 spWholeI) : Fn P w K mg base CX0 "is_run" 2 spIsRun := by
  refine fn_plain F sc_is_run (fun _ _ _ _ _ _ us hl => match us, hl with | [_], _ => rfl) (by decide) (by tm_at "g_len") ?_
  intro X f cdv A outer s H E0 L vs Q E hX nd hr h
  subst hX
  obtain ⟨t, a, b, rfl, m, q⟩ := h
  show GSs _ (defBody s_is_run) (bodyD Q) [("value", some (.ref t))] L
  refine gss_cons ?_
  tm_at "g"
  refine gc_isK (.tup m) kb_tuple_tuple ?_
  tm_at "g"
  rw [show (!decide ((([.int a, .int b] : List V).length : Int) = 2)) = false from rfl]
  tm_at "g"
  refine ge_call (El := NoX) D1 hr passA ?_
  tm_at "g"
  refine ⟨a, rfl, ?_⟩
  tm_at "g"
  refine ge_call (El := NoX) D1 hr passA ?_
  tm_at "g"
  refine ⟨b, rfl, ?_⟩
  tm_at "g"
  exact ⟨_, Sub.refl, q⟩
theorem fn_length_of (F : Df K mg "length_of" s_length_of) : Fn P w K mg base CX0 "length_of" 1 spLen := by
  refine fn_plain F sc_length_of (fun _ _ _ _ _ _ us hl => match us, hl with | [_], _ => rfl) (by decide) (by tm_at "g_len") ?_
  intro X f cdv A outer s H E0 L vs Q E hX nd hr h
  subst hX
  obtain ⟨t, a, b, rfl, m, q⟩ := h
  show GSs _ (defBody s_length_of) (bodyD Q) [("run", some (.ref t))] L
  refine gss_cons ?_
  tm_at "g"
  exact ⟨_, Sub.refl, q⟩
theorem fn_melted (B : Bi mg) (F : Df K mg "melted" s_melted) : Fn P w K mg base CX0 "melted" 1 spMelted := by
  refine fn_plain F sc_melted (fun _ _ _ _ _ _ us hl => match us, hl with | [_], _ => rfl) (by decide) (by tm_at "g_len") ?_
  intro X f cdv A outer s H E0 L vs Q E hX nd hr h
  subst hX
  obtain ⟨r, ps, rfl, m, hp, hl, hle, hs, q⟩ := h
  show GSs _ (defBody s_melted) (bodyD Q) [("runs", some (.ref r)), ("found", none), ("run", none)] L
  refine gss_cons ?_
  tm_at "g"
  refine gs_for (gi_list ?_)
  tm_at "g"
  refine ⟨fun i θ M => ∃ (g : Addr) (qs : List Pr2) (u : Option V), θ = ([("runs", some (.ref r)), ("found", some (.ref g)), ("run", u)] : En) ∧ Sub L M ∧ (g, HO.lst (prV qs)) ∈ M ∧ Prs2 qs M ∧ Melt ((ps.take i).map (·.2)) (qs.map (·.2)) ∧ qs.length ≤ i, ?_, ?_, ?_, ?_⟩
  · exact ⟨_, [], none, rfl, Sub.drop, mem0, fun e h => (nomatch h), Melt.nil, Nat.zero_le _⟩
  · exact fun i θ M hi nd ⟨g, qs, u, _, sb, _⟩ => (sb.to nd).2 _ m
  · rintro i x E1 θ M hi ⟨hx, rfl⟩ ⟨g, qs, u, rfl, sb, mg', hq, hm, hn⟩
    obtain ⟨e, he, rfl⟩ : ∃ e, ps[i]? = some e ∧ V.ref e.1 = x := by
      have hx : (prV ps)[i]? = some x := hx
      unfold prV at hx
      rw [List.getElem?_map] at hx
      exact Option.map_eq_some_iff.mp hx
    have em := List.mem_of_getElem? he
    have hle1 := hle e em
    have il : i < ps.length := (List.getElem?_eq_some_iff.mp he).1
    dsimp only [List.nil_append]
    have et : (ps.take (i + 1)).map (·.2) = (ps.take i).map (·.2) ++ [e.2] := by
      rw [List.take_succ, he, List.map_append]
      rfl
    have srt : ∀ r ∈ (ps.take i).map (·.2), r.1 ≤ e.2.1 := fun r hr' => by
      have e2 : (ps.map (·.2)) = (ps.take i).map (·.2) ++ (ps.drop i).map (·.2) := by rw [← List.map_append, List.take_append_drop]
      rw [e2] at hs
      have := (List.pairwise_append.mp hs).2.2 r hr' e.2 (List.mem_map.mpr ⟨e, List.mem_iff_getElem?.mpr ⟨0, by rw [List.getElem?_drop]; exact he⟩, rfl⟩)
      unfold le2 at this
      omega
    have step := hm.step hle1 srt
    rw [← et] at step
    refine GG.nd fun ndM => ?_
    have me : (e.1, HO.tup [.int e.2.1, .int e.2.2]) ∈ M := (sb.to ndM).2 _ (hp e em)
    refine gg_name (by tm_at "g_pv") ?_
    tm_at "g"
    refine go_nePN (ps := qs) hr (by tm_at "g_mem") (by tm_at "g_mem") rfl (Prs2.mono hq fun _ => memS) ?_
    rcases List.eq_nil_or_concat qs with rfl | ⟨ms, l, rfl⟩
    · refine ⟨false, rfl, ite_f ?_⟩
      tm_at "g"
      have mg0 : (g, HO.lst []) ∈ M := mg'
      refine ⟨g, [], rfl, .inr (by tm_at "g_mem"), ?_⟩
      tm_at "g"
      refine ⟨_, [e], _, rfl, Sub.trans sb (by tm_at "g_end"), mem0, ?_, ?_, by show 1 ≤ i + 1; omega⟩
      · intro x hx
        rw [List.mem_singleton.mp hx]
        tm_at "g_mem"
      · exact step
    · rw [List.concat_eq_append] at *
      have mg2 : (g, HO.lst (prV ms ++ [V.ref l.1])) ∈ M := by
        unfold prV at mg' ⊢
        rw [List.map_append] at mg'
        exact mg'
      have ml := hq l (List.mem_append_right _ (List.mem_singleton.mpr rfl))
      have qm : Prs2 ms M := fun x hx => hq x (List.mem_append_left _ hx)
      rw [show (ms ++ [l]).isEmpty = false by cases ms <;> rfl]
      rw [List.map_append] at step
      have step2 := step
      rw [show List.map (fun x : Pr2 => x.2) [l] = [l.2] from rfl, mstep_snoc] at step2
      tm_at "g"
      refine gi_lst (by exact memS mg2) (atI_last _ _) ?_
      tm_at "g"
      refine ite_d (fun c => ?_) (fun c => ?_)
      · rw [if_pos c] at step2
        tm_at "g"
        refine ⟨g, prV ms ++ [V.ref l.1], rfl, ?_⟩
        show GE _ _ _ _ _
        tm_at "g"
        refine ⟨fun H hH => sql hH (memS mg2), fun q1 => ?_⟩
        rw [show (-1 : Int) = -1 from rfl, cut_front]
        refine ⟨q1, _, rfl, .inr mem0, ?_⟩
        tm_at "g"
        refine gi_lst (by exact memS (memS mg2)) (atI_last _ _) ?_
        tm_at "g"
        refine gi_lst (by exact memS (memS mg2)) (atI_last _ _) ?_
        tm_at "g"
        rename_i tp
        have nl : ms.length + 1 ≤ i := by
          rw [List.length_append] at hn
          exact hn
        refine ⟨szL (by unfold prV; simp only [List.length_append, List.length_map, List.length_cons, List.length_nil]; omega), fun f2 => ?_⟩
        tm_at "g"
        refine ⟨f2, ms ++ [(tp, (l.2.1, if l.2.2 < e.2.2 then e.2.2 else l.2.2))], _, rfl, Sub.trans sb (by tm_at "g_end"), by unfold prV; rw [List.map_append]; exact mem0, ?_, ?_, ?_⟩
        · refine Prs2.snoc (qm.mono fun x hx => by tm_at "g_mem") ?_
          tm_at "g_mem"
        · rw [List.map_append]
          exact step2
        · rw [List.length_append]
          show ms.length + 1 ≤ i + 1
          omega
      · rw [if_neg c] at step2
        tm_at "g"
        refine ⟨g, prV ms ++ [V.ref l.1], rfl, .inr (memS mg2), ?_⟩
        tm_at "g"
        have nl : ms.length + 1 ≤ i := by
          rw [List.length_append] at hn
          exact hn
        refine ⟨szL (by unfold prV; simp only [List.length_append, List.length_map, List.length_cons, List.length_nil]; omega), fun f2 => ?_⟩
        tm_at "g"
        refine ⟨f2, ms ++ [l] ++ [e], _, rfl, Sub.trans sb (by tm_at "g_end"), by unfold prV; rw [List.map_append, List.map_append]; exact mem0, ?_, ?_, ?_⟩
        · refine Prs2.snoc (hq.mono fun x hx => by tm_at "g_mem") ?_
          tm_at "g_mem"
        · rw [List.map_append, List.map_append]
          exact step2
        · simp only [List.length_append, List.length_cons, List.length_nil]
          omega
  · rintro θ M ⟨g, qs, u, rfl, sb, mg', hq, hm, hn⟩
    tm_at "g"
    have hn : qs.length ≤ (prV ps).length := hn
    unfold prV at hn
    rw [List.length_map] at hn
    refine ⟨_, Sub.refl, q g qs M sb mg' hq ⟨?_, ?_⟩⟩
    · have e : ps.take (prV ps).length = ps := List.take_of_length_le (by unfold prV; rw [List.length_map]; exact Nat.le_refl _)
      have hm : Melt ((ps.take (prV ps).length).map (·.2)) (qs.map (·.2)) := hm
      rw [e] at hm
      exact hm
    · rw [List.length_map]
      exact hn
end
section
open Lt
variable {P : Program} {w : World} {K : PySem.W.Frag} {mg : Str → Option Value} {base : Heap}
/-- what the closing of a round gives -/
def Closed (p : Int) (all : List Rn) (b : Int) (rs : List Rn) : Prop := ∃ m e, rs = m ++ [(b, e)] ∧ (p ≤ e - b + 1 → ∀ n, In p all n) ∧ (e - b + 1 < p → NF 0 p rs ∧ ∀ n, In p rs n ↔ In p all n) ∧ rs.length ≤ all.length
def spClosed : SpL := fun vs L Q _ => ∃ (p : Int) (r : Addr) (ms : List Pr2) (l : Pr2), vs = [.int p, .ref r] ∧ (r, HO.lst (prV ms ++ [V.ref l.1])) ∈ L ∧ Prs2 (ms ++ [l]) L ∧ ms.length ≤ 100000 ∧
  (∀ r ∈ (ms.map (·.2)) ++ [l.2], r.1 ≤ r.2) ∧ ((ms.map (·.2)) ++ [l.2]).Pairwise (fun r s => r.2 + 1 < s.1) ∧ (∀ r ∈ (ms.map (·.2)) ++ [l.2], 0 ≤ r.1 ∧ r.1 < p) ∧ NewRows (Closed p ((ms.map (·.2)) ++ [l.2]) l.2.1) L Q
theorem at_prV {ms : List Pr2} {l : Pr2} {k : Nat} {x : Pr2} (h : ms[k]? = some x) : atI (prV ms ++ [V.ref l.1]) (k : Int) = some (.ref x.1) := atI_nat (by
  have hk := (List.getElem?_eq_some_iff.mp h).1
  unfold prV
  rw [List.getElem?_append_left (by rw [List.length_map]; exact hk), List.getElem?_map, h]
  rfl)
theorem fn_closed_round (B : Bi mg) (F : Df K mg "closed_round" s_closed_round) : Fn P w K mg base CX0 "closed_round" 1 spClosed := by
  refine fn_plain F sc_closed_round (fun _ _ _ _ _ _ us hl => match us, hl with | [_, _], _ => rfl) (by decide) (by tm_at "g_len") ?_
  intro X f cdv A outer s H E0 L vs Q E hX nd hr h
  subst hX
  obtain ⟨p, r, ms, l, rfl, m, hp, hl, le, ap, wd, q⟩ := h
  have ml := hp l (List.mem_append_right _ (List.mem_singleton.mpr rfl))
  have lm : (ms.map (·.2)).length = ms.length := List.length_map ..
  show GSs _ (defBody s_closed_round) (bodyD Q) [("period", some (.int p)), ("runs", some (.ref r)), ("many", none), ("end", none)] L
  refine gss_cons ?_
  tm_at "g"
  refine gi_lst m (atI_last _ _) ?_
  tm_at "g"
  have len : ((prV ms ++ [V.ref l.1]).length : Int) = ms.length + 1 := by
    unfold prV
    rw [List.length_append, List.length_map]
    rfl
  refine GS.cut (fun θ M => ∃ (k : Nat) (e : Int), θ = ([("period", some (.int p)), ("runs", some (.ref r)), ("many", some (.int k)), ("end", some (.int e))] : En) ∧ Sub L M ∧ Clo p (ms.map (·.2)) l.2 k e ∧ ∀ x, (ms.map (·.2))[k]? = some x → e + 1 < x.1 + p) ?_ ?_
  · refine gs_while (fun n θ M => ∃ (k : Nat) (e : Int), θ = ([("period", some (.int p)), ("runs", some (.ref r)), ("many", some (.int k)), ("end", some (.int e))] : En) ∧ Sub L M ∧ Clo p (ms.map (·.2)) l.2 k e ∧ n = ms.length - k) ms.length ⟨0, l.2.2, rfl, Sub.refl, .zero, rfl⟩ ?_
    rintro n θ M ⟨k, e, rfl, sb, c, rfl⟩
    refine GT.sub sb ?_
    have kl := c.kl
    rw [lm] at kl
    tm_at "g"
    rw [len]
    refine ite_d (fun z => ?_) (fun z => ?_)
    · have kl2 : k < ms.length := by omega
      obtain ⟨x, hx⟩ : ∃ x, ms[k]? = some x := ⟨_, List.getElem?_eq_getElem kl2⟩
      have mx := hp x (List.mem_append_left _ (List.mem_of_getElem? hx))
      have hx2 : (ms.map (·.2))[k]? = some x.2 := by rw [List.getElem?_map, hx]; rfl
      tm_at "g"
      refine gi_lst (by tm_at "g_mem") (at_prV hx) ?_
      tm_at "g"
      refine ite_d (fun z2 => ?_) (fun z2 => ?_)
      · tm_at "g"
        refine gi_lst (by tm_at "g_mem") (at_prV hx) ?_
        tm_at "g"
        exact ⟨_, by omega, k + 1, _, rfl, Sub.refl, c.step hx2 z2, rfl⟩
      · exact ⟨k, e, rfl, Sub.refl, c, fun y hy => by
          obtain rfl := Option.some.inj (hx2.symm.trans hy)
          omega⟩
    · refine ⟨k, e, rfl, Sub.refl, c, fun y hy => ?_⟩
      have := (List.getElem?_eq_some_iff.mp hy).1
      rw [lm] at this
      omega
  rintro θ M ⟨k, e, rfl, sb, c, out⟩
  refine GSs.sub sb ?_
  have kl := c.kl
  rw [lm] at kl
  tm_at "g"
  refine ⟨r, prV ms ++ [V.ref l.1], rfl, ?_⟩
  show GE _ _ _ _ _
  tm_at "g"
  show GE _ _ _ _ _
  tm_at "g"
  refine ⟨fun H hH => sql hH m, fun q1 => ?_⟩
  rw [cut_mid (by unfold prV; rw [List.length_map]; exact kl)]
  refine ⟨q1, _, rfl, .inr mem0, ?_⟩
  tm_at "g"
  refine gi_lst (by tm_at "g_mem") (atI_last _ _) ?_
  tm_at "g"
  rename_i tp
  refine ⟨szL (by unfold prV; simp only [List.length_append, List.length_drop, List.length_map, List.length_cons, List.length_nil]; omega), fun f2 => ?_⟩
  tm_at "g"
  have d := c.done le ap wd out
  refine ⟨_, Sub.refl, q f2 (ms.drop k ++ [(tp, (l.2.1, e))]) _ (by tm_at "g_end") ?_ ?_ ⟨(ms.map (·.2)).drop k, e, ?_, d.1, ?_, ?_⟩⟩
  · unfold prV
    rw [List.map_append, List.map_drop]
    exact mem0
  · exact Prs2.snoc (fun x hx => memS (memS (memS (hp x (List.mem_append_left _ (List.mem_of_mem_drop hx)))))) (memS mem0)
  · rw [List.map_append, List.map_drop]
    rfl
  · rw [List.map_append, List.map_drop]
    exact d.2
  · simp only [List.length_map, List.length_append, List.length_drop, List.length_cons, List.length_nil]
    omega
end
section
open Lt
variable {P : Program} {w : World} {K : PySem.W.Frag} {mg : Str → Option Value} {base : Heap}
abbrev prO (r : Rn) : HO := .tup [.int r.1, .int r.2]
theorem pairs_of {es : Lg} {ds : List Rn} (h : es.map (·.2) = ds.map prO) : ∃ ps : List Pr2, ps.map (fun e => (e.1, prO e.2)) = es ∧ ps.map (·.2) = ds := es_pairs h
theorem prs_of {ps : List Pr2} {es : Lg} (h : ps.map (fun e => (e.1, prO e.2)) = es) (L : Lg) : Prs2 ps (es ++ L) := fun e he => List.mem_append_left _ (h ▸ List.mem_map.mpr ⟨e, he, rfl⟩)
theorem refs_of {ps : List Pr2} {es : Lg} (h : ps.map (fun e => (e.1, prO e.2)) = es) : refs es = prV ps := by
  subst h
  unfold refs prV
  rw [List.map_map]
  rfl
def spMaximal : SpL := fun vs L Q _ => ∃ (p : Int) (r : Addr) (o : HO) (ps : List Pr2), vs = [.int p, .ref r] ∧ RowO o (prV ps) ∧ (r, o) ∈ L ∧ Prs2 ps L ∧ ps.length ≤ 100000 ∧ 1 ≤ p ∧ (∀ e ∈ ps, e.2.1 ≤ e.2.2) ∧ NewRows (fun rs => Mx p (ps.map (·.2)) rs ∧ rs.length ≤ ps.length) L Q
theorem fn_maximal (B : Bi mg) (F : Df K mg "maximal" s_maximal) (D1 : Fn P w K mg base CX0 "length_of" 1 spLen) (D2 : Fn P w K mg base CX0 "melted" 1 spMelted) (D3 : Fn P w K mg base CX0 "closed_round" 1 spClosed) : Fn P w K mg base CX0 "maximal" 2 spMaximal := by
  refine fn_plain F sc_maximal (fun _ _ _ _ _ _ us hl => match us, hl with | [_, _], _ => rfl) (by decide) (by tm_at "g_len") ?_
  intro X f cdv A outer s H E0 L vs Q E hX nd hr h
  subst hX
  obtain ⟨p, r, o, ps, rfl, ro, m, hp, hl, p1, le, q⟩ := h
  show GSs _ (defBody s_maximal) (bodyD Q) [("period", some (.int p)), ("runs", some (.ref r)), ("moved", none), ("found", none), ("run", none)] L
  refine gss_cons ?_
  tm_at "g"
  refine ge_lcP (by tm_at "g_put") (gi_rowO ro ?_) (show blkC N_maximal (defScope s_maximal) _ [(_, List.idxOf _ N_maximal)] = true by decide +kernel)
  tm_at "g"
  refine ⟨m, ?_⟩
  refine pure_rowPr (t := fun _ => true) (g := fun e => .bl (decide (p ≤ e.2.2 - e.2.1 + 1))) m (by omega) (fun e he D acc s1 H1 C1 cl1 fp1 => ?_) fun D => ?_
  · refine gts_nil ⟨rfl, Sub.refl, fun _ s2 H2 C2 cl2 fp2 => ?_⟩
    tm_at "g"
    refine ge_call (El := NoX) D1 hr passA ?_
    tm_at "g"
    refine ⟨_, _, _, rfl, memS (hp e he), ?_⟩
    tm_at "g"
    exact ⟨rfl, Sub.refl⟩
  rw [List.filter_eq_self.mpr fun _ _ => rfl]
  have eb : ps.map (fun e : Pr2 => V.bl (decide (p ≤ e.2.2 - e.2.1 + 1))) = (ps.map fun e => decide (p ≤ e.2.2 - e.2.1 + 1)).map V.bl := by
    rw [List.map_map]
    rfl
  rw [eb]
  tm_at "g"
  refine gc_anyB (by rfl) mem0 ?_
  refine ⟨_, rfl, ite_b (fun z => ?_) (fun z => ?_)⟩
  · -- a run as long as a round
    obtain ⟨e, he, hz⟩ : ∃ e ∈ ps, p ≤ e.2.2 - e.2.1 + 1 := by
      obtain ⟨b, hb, hz⟩ := List.any_eq_true.mp z
      obtain ⟨e, he, rfl⟩ := List.mem_map.mp hb
      exact ⟨e, he, of_decide_eq_true hz⟩
    tm_at "g"
    rename_i t1 t2
    refine ⟨_, Sub.refl, q t2 [(t1, (0, p - 1))] _ (Sub.drop.trans (Sub.drop.trans Sub.drop)) mem0 ?_ ⟨.inl ⟨rfl, fun n => ?_⟩, ?_⟩⟩
    · intro x hx
      rw [List.mem_singleton.mp hx]
      exact memS mem0
    · exact in_long (r := e.2) (by omega) (List.mem_map.mpr ⟨e, he, rfl⟩) hz n
    · exact List.length_pos_of_mem he
  · have short : ∀ e ∈ ps, e.2.2 - e.2.1 + 1 < p := fun e he => by
      have := List.any_eq_false.mp z (decide (p ≤ e.2.2 - e.2.1 + 1)) (List.mem_map.mpr ⟨e, he, rfl⟩)
      simp at this
      omega
    tm_at "g"
    refine ge_lcF (by tm_at "g_put") (gi_rowO ro ?_) (show blkC N_maximal (defScope s_maximal) _ [(_, List.idxOf _ N_maximal)] = true by decide +kernel)
    tm_at "g"
    refine ⟨memS m, ?_⟩
    refine fresh_rowPr (t := fun _ => true) (pl := fun e => prO (into p e.2)) (memS m) (by omega) (fun e he N hN s1 H1 C1 cl1 fp1 => ?_) fun d2 es hes => ?_
    · have me := hN _ (memS (hp e he))
      refine gts_nil ⟨rfl, Sub.refl, fun _ s2 H2 C2 cl2 fp2 => ?_⟩
      tm_at "g"
      refine go_mod p1 ?_
      tm_at "g"
      refine go_mod p1 ?_
      tm_at "g"
      refine ge_call (El := NoX) D1 hr passA ?_
      tm_at "g"
      refine ⟨_, _, _, rfl, me, ?_⟩
      tm_at "g"
      exact Sub.refl
    rw [List.filter_eq_self.mpr fun _ _ => rfl] at hes
    have hes2 : es.map (·.2) = (ps.map fun e => into p e.2).map prO := by rw [hes, List.map_map]; rfl
    obtain ⟨ms, e1, e2⟩ := pairs_of hes2
    rw [refs_of e1]
    have hm1 := prs_of e1 ((D, .lst ((ps.map fun e => decide (p ≤ e.2.2 - e.2.1 + 1)).map V.bl)) :: L)
    tm_at "g"
    refine gc_sortedP (ps := ms) mem0 (hm1.mono fun _ => memS) fun qs q1 pm srt => ?_
    tm_at "g"
    have hq1 : Prs2 qs ((q1, HO.lst (prV qs)) :: (d2, HO.lst (prV ms)) :: (es ++ (D, .lst ((ps.map fun e => decide (p ≤ e.2.2 - e.2.1 + 1)).map V.bl)) :: L)) := fun x hx => memS (memS (hm1 x (pm.mem_iff.mp hx)))
    have qlen : qs.length = ps.length := by
      have a := pm.length_eq
      have b := congrArg List.length e2
      rw [List.length_map, List.length_map] at b
      omega
    -- the runs, brought into the round
    have same : ∀ y, y ∈ qs.map (·.2) ↔ ∃ r ∈ ps.map (·.2), y = into p r := fun y => by
      have a : y ∈ qs.map (·.2) ↔ y ∈ ms.map (·.2) := (pm.map (·.2)).mem_iff
      rw [a, e2]
      constructor
      · intro h
        obtain ⟨e, he, rfl⟩ := List.mem_map.mp h
        exact ⟨e.2, List.mem_map.mpr ⟨e, he, rfl⟩, rfl⟩
      · rintro ⟨r, h, rfl⟩
        obtain ⟨e, he, rfl⟩ := List.mem_map.mp h
        exact List.mem_map.mpr ⟨e, he, rfl⟩
    refine go_nePN (ps := qs) hr (by tm_at "g_mem") (by tm_at "g_mem") rfl (hq1.mono fun _ => memS) ?_
    have alike : ∀ n, In p (qs.map (·.2)) n ↔ In p (ps.map (·.2)) n := in_into same
    rcases List.eq_nil_or_concat qs with e0 | ⟨q0, ql, e0⟩
    · -- no run at all
      obtain rfl : ps = [] := by
        rw [e0] at qlen
        exact List.length_eq_zero_iff.mp qlen.symm
      subst e0
      refine ⟨false, rfl, ite_f ?_⟩
      tm_at "g"
      rename_i f2 f3
      refine go_nePN (ps := []) (xs := []) hr (by tm_at "g_mem") (by tm_at "g_mem") rfl (fun _ z => nomatch z) ?_
      refine ⟨false, rfl, ite_f ?_⟩
      tm_at "g"
      refine ⟨_, Sub.refl, q f2 [] _ ?_ (by show (f2, HO.lst []) ∈ _; tm_at "g_mem") (fun _ z => nomatch z) ⟨.inr ⟨⟨(fun _ z => nomatch z), (fun _ z => nomatch z), List.Pairwise.nil, (fun _ z => nomatch z)⟩, fun n => Iff.rfl⟩, Nat.le_refl _⟩⟩
      tm_at "g_end"
    · have ne : qs ≠ [] := by
        rw [e0]
        simp
      rw [show qs.isEmpty = false by cases qs with | nil => exact absurd rfl ne | cons _ _ => rfl]
      tm_at "g"
      refine ge_call (El := NoX) D3 hr passA ?_
      tm_at "g"
      refine ge_call (El := NoX) D2 hr passA ?_
      tm_at "g"
      have inR : ∀ y ∈ qs.map (·.2), 0 ≤ y.1 ∧ y.1 < p ∧ y.1 ≤ y.2 := fun y hy => by
        obtain ⟨r0, h0, rfl⟩ := (same y).mp hy
        obtain ⟨e, he, rfl⟩ := List.mem_map.mp h0
        have := le e he
        refine ⟨Int.emod_nonneg _ (by omega), Int.emod_lt_of_pos _ p1, ?_⟩
        show e.2.1 % p ≤ e.2.1 % p + (e.2.2 - e.2.1 + 1) - 1
        omega
      refine ⟨q1, qs, rfl, by tm_at "g_mem", hq1.mono fun _ => memS, by omega, fun e he => (inR e.2 (List.mem_map.mpr ⟨e, he, rfl⟩)).2.2, srt, fun f ms2 M2 sM mf hp2 ⟨melt, hlen2⟩ => ?_⟩
      -- what was melted is not empty
      obtain ⟨mm, l, rfl⟩ : ∃ mm l, ms2 = mm ++ [l] := by
        rcases List.eq_nil_or_concat ms2 with e1 | ⟨mm, l, e1⟩
        · exfalso
          subst e1
          have hl0 : ql ∈ qs := by rw [e0, List.concat_eq_append]; exact List.mem_append_right _ (List.mem_singleton.mpr rfl)
          have k := (melt.cov ql.2.1).mpr ⟨ql.2, List.mem_map.mpr ⟨ql, hl0, rfl⟩, Int.le_refl _, (inR ql.2 (List.mem_map.mpr ⟨ql, hl0, rfl⟩)).2.2⟩
          obtain ⟨z, hz, _⟩ := k
          cases hz
        · exact ⟨mm, l, by rw [e1, List.concat_eq_append]⟩
      have ml2 : (mm ++ [l]).map (·.2) = mm.map (·.2) ++ [l.2] := by rw [List.map_append]; rfl
      rw [ml2] at melt hlen2
      tm_at "g"
      refine ⟨p, f, mm, l, rfl, by unfold prV at mf ⊢; rw [List.map_append] at mf; exact mf, hp2, ?_, melt.le, melt.ap, fun r0 h0 => ?_, fun f3 ps3 M3 s3 m3 hp3 ⟨m', e', hrs, far, near, len3⟩ => ?_⟩
      · rw [List.length_append, List.length_map] at hlen2
        omega
      · obtain ⟨y, hy, e2⟩ := melt.of r0 h0
        have := inR y hy
        omega
      have alike2 : ∀ n, In p (mm.map (·.2) ++ [l.2]) n ↔ In p (ps.map (·.2)) n := fun n => (in_cov melt.cov n).trans (alike n)
      obtain ⟨m3', l3, rfl⟩ : ∃ m3' l3, ps3 = m3' ++ [l3] := by
        rcases List.eq_nil_or_concat ps3 with e1 | ⟨a, b, e1⟩
        · rw [e1] at hrs
          simp at hrs
        · exact ⟨a, b, by rw [e1, List.concat_eq_append]⟩
      have hl3 : l3.2 = (l.2.1, e') := by
        rw [List.map_append] at hrs
        exact (List.cons.inj (List.append_inj' hrs rfl).2).1
      have ml3 := hp3 l3 (List.mem_append_right _ (List.mem_singleton.mpr rfl))
      have m3b : (f3, HO.lst (prV m3' ++ [V.ref l3.1])) ∈ M3 := by
        unfold prV at m3 ⊢
        rw [List.map_append] at m3
        exact m3
      tm_at "g"
      refine go_nePN (ps := m3' ++ [l3]) hr (by tm_at "g_mem") (by tm_at "g_mem") rfl (hp3.mono fun _ => memS) ?_
      rw [show (m3' ++ [l3]).isEmpty = false by cases m3' <;> rfl]
      tm_at "g"
      refine ge_call (El := NoX) D1 hr passA ?_
      tm_at "g"
      refine gi_lst (by exact memS m3b) (atI_last _ _) ?_
      tm_at "g"
      refine ⟨_, _, _, rfl, memS ml3, ?_⟩
      tm_at "g"
      have sL : Sub L M3 := Sub.trans (Sub.trans (by tm_at "g_end") sM) s3
      have ge1 : ps.length ≥ 1 := by
        rw [← qlen]
        exact List.length_pos_iff.mpr ne
      refine ite_d (fun c => ?_) (fun c => ?_)
      · tm_at "g"
        rename_i t1 t2
        rw [hl3] at c
        refine ⟨_, Sub.refl, q t2 [(t1, (0, p - 1))] _ (Sub.trans sL (by tm_at "g_end")) mem0 ?_ ⟨.inl ⟨rfl, fun n => (alike2 n).mp (far c n)⟩, ge1⟩⟩
        intro x hx
        rw [List.mem_singleton.mp hx]
        exact memS mem0
      · tm_at "g"
        rw [hl3] at c
        have nf := near (by omega)
        refine ⟨_, Sub.refl, q f3 (m3' ++ [l3]) _ (Sub.trans sL (by tm_at "g_end")) (by tm_at "g_mem") (hp3.mono fun _ => memS) ⟨.inr ⟨nf.1, fun n => (nf.2 n).trans (alike2 n)⟩, ?_⟩⟩
        omega
end
section
open Lt
variable {P : Program} {w : World} {K : PySem.W.Frag} {mg : Str → Option Value} {base : Heap}
/-- what the least form is told as -/
def spLeast : SpL := fun vs L Q _ => ∃ (p : Int) (r : Addr) (ps : List Pr2) (rs : List Rn), vs = [.int p, .ref r] ∧ (r, HO.lst (prV ps)) ∈ L ∧ Prs2 ps L ∧ ps.length ≤ 10000 ∧ 1 ≤ p ∧ Mx p rs (ps.map (·.2)) ∧
  ∀ (t t2 : Addr) (q : Int) (few : List Pr2) (M : Lg), Sub L M → (t, HO.tup [.int q, .ref t2]) ∈ M → (t2, HO.tup (prV few)) ∈ M → Prs2 few M → Form (In p rs) q (few.map (·.2)) → few.length ≤ ps.length → Q (.ref t) M
theorem next_at {p : Int} {ps : List Pr2} {l : Pr2} {i : Nat} {x : Pr2} (h0 : ps ≠ []) (hl : ∀ e, ps[0]? = some e → l.2.1 = e.2.1 + p) (hi : i < ps.length) (h : (ps.drop 1 ++ [l])[i]? = some x) : x.2.1 = bOf p (ps.map (·.2)) (i + 1) := by
  have pos : 0 < ps.length := List.length_pos_iff.mpr h0
  have ln : (ps.map (·.2)).length = ps.length := List.length_map ..
  rcases Nat.lt_or_ge (i + 1) ps.length with k | k
  · rw [List.getElem?_append_left (by rw [List.length_drop]; omega), List.getElem?_drop, Nat.add_comm 1 i] at h
    rw [(bOf_lt (by rw [ln]; exact k)).1, List.getD_eq_getElem?_getD, List.getElem?_map, h]
    rfl
  · have e : i + 1 = ps.length := by omega
    rw [List.getElem?_append_right (by rw [List.length_drop]; omega), List.length_drop, show i - (ps.length - 1) = 0 by omega] at h
    obtain rfl : l = x := by simpa using h
    have hb := (bOf_add (p := p) (rs := ps.map (·.2)) (by rw [ln]; exact pos) 0).1
    rw [Nat.zero_add, ln] at hb
    rw [e, hb, (bOf_lt (by rw [ln]; exact pos)).1, List.getD_eq_getElem?_getD, List.getElem?_map]
    obtain ⟨e0, he0⟩ : ∃ e, ps[0]? = some e := ⟨_, List.getElem?_eq_getElem pos⟩
    rw [hl e0 he0, he0]
    rfl
theorem fn_least_form (B : Bi mg) (F : Df K mg "least_form" s_least_form) (F1 : Fn P w K mg base CX0 "length_of" 1 spLen) : Fn P w K mg base CX0 "least_form" 2 spLeast := by
  refine fn_plain F sc_least_form (fun _ _ _ _ _ _ us hl => match us, hl with | [_, _], _ => rfl) (by decide) (by tm_at "g_len") ?_
  intro X f cdv A outer s H E0 L vs Q E hX nd hr h
  subst hX
  obtain ⟨p, r, ps, rs, rfl, m, hp, hl, p1, mx, q⟩ := h
  show GSs _ (defBody s_least_form) (bodyD Q) [("period", some (.int p)), ("runs", some (.ref r)), ("many", none), ("nexts", none), ("row", none), ("turns", none), ("few", none), ("run", none), ("later", none), ("turn", none), ("pair", none)] L
  refine gss_cons ?_
  tm_at "g"
  rw [prV_len]
  cases ps with
  | nil =>
    refine ite_d (fun _ => ?_) (fun z => absurd rfl z)
    tm_at "g"
    rename_i t2 t
    exact ⟨_, Sub.refl, q t t2 1 [] _ (Sub.drop.trans Sub.drop) mem0 (memS mem0) (fun _ z => nomatch z) (form_none mx) (Nat.le_refl _)⟩
  | cons e0 pt =>
    have m0 := hp e0 List.mem_cons_self
    refine ite_d (fun z => ?_) (fun _ => ?_)
    · exfalso
      rw [List.length_cons] at z
      omega
    tm_at "g"
    refine ge_call (El := NoX) F1 hr passA ?_
    tm_at "g"
    refine gi_lst m (show atI (V.ref e0.1 :: prV pt) ((0 : Nat) : Int) = _ from atI_nat rfl) ?_
    tm_at "g"
    refine ⟨_, _, _, rfl, m0, ?_⟩
    tm_at "g"
    refine ite_d (fun c => ?_) (fun c => ?_)
    · tm_at "g"
      rename_i t3 t2 t
      have al := (mx.full_or (r := e0.2) List.mem_cons_self).mp c
      refine ⟨_, Sub.refl, q t t2 1 [(t3, (0, 0))] _ (Sub.drop.trans (Sub.drop.trans Sub.drop)) mem0 (memS mem0) ?_ (form_all al) (by simp)⟩
      intro x hx
      rw [List.mem_singleton.mp hx]
      exact memS (memS mem0)
    have c' : e0.2.2 - e0.2.1 + 1 < p := by omega
    obtain ⟨nf, eIn⟩ := form_of mx (r := e0.2) (t := pt.map (·.2)) rfl c'
    have pn : (e0 :: pt) ≠ [] := by simp
    have p00 : (e0 :: pt)[0]? = some e0 := rfl
    generalize e0 :: pt = ps at *
    have pos : 0 < ps.length := List.length_pos_iff.mpr pn
    have ln : (ps.map (·.2)).length = ps.length := List.length_map ..
    have rn : ps.map (·.2) ≠ [] := by
      intro z
      exact pn (List.map_eq_nil_iff.mp z)
    tm_at "g"
    rw [prV_len]
    refine ⟨r, prV ps, rfl, ?_⟩
    show GE _ _ _ _ _
    tm_at "g"
    refine ⟨fun H hH => sql hH m, fun q1 => ?_⟩
    rw [show cutV (prV ps) (some 1) none = (prV ps).drop 1 from cut_from (k := 1) (by rw [prV_len]; omega)]
    refine ⟨q1, _, rfl, .inr mem0, ?_⟩
    tm_at "g"
    refine gi_lst (by tm_at "g_mem") (show atI (prV ps) ((0 : Nat) : Int) = some (.ref e0.1) from atI_nat (by unfold prV; rw [List.getElem?_map, p00]; rfl)) ?_
    tm_at "g"
    rename_i tp
    refine ⟨szL (by simp only [List.length_append, List.length_drop, prV_len, List.length_cons, List.length_nil]; omega), fun nx => ?_⟩
    tm_at "g"
    obtain ⟨nxp, enx⟩ : ∃ nxp : List Pr2, nxp = ps.drop 1 ++ [(tp, (e0.2.1 + p, 0))] := ⟨_, rfl⟩
    have eN : (prV ps).drop 1 ++ [V.ref tp] = prV nxp := by
      rw [enx]
      unfold prV
      rw [List.map_append, List.map_drop]
      rfl
    have nlen : nxp.length = ps.length := by
      rw [enx, List.length_append, List.length_drop, List.length_singleton]
      omega
    rw [eN]
    have hp1 : Prs2 ps ((nx, HO.lst (prV nxp)) :: (tp, HO.tup [.int (e0.2.1 + p), .int 0]) :: (q1, HO.lst ((prV ps).drop 1)) :: L) := fun x hx => memS (memS (memS (hp x hx)))
    have hn1 : Prs2 nxp ((nx, HO.lst (prV nxp)) :: (tp, HO.tup [.int (e0.2.1 + p), .int 0]) :: (q1, HO.lst ((prV ps).drop 1)) :: L) := by
      rw [enx]
      exact Prs2.snoc (fun x hx => memS (memS (memS (hp x (List.mem_of_mem_drop hx))))) (memS mem0)
    refine ge_lcF2 (by tm_at "g_put") (fun _ => by tm_at "g_put") (gi_zip ?_ B.zip) (by decide) (show blkC N_least_form (defScope s_least_form) _ [(_, List.idxOf _ N_least_form), (_, List.idxOf _ N_least_form)] = true by decide +kernel)
    tm_at "g"
    refine ⟨r, nx, prV ps, prV nxp, rfl, by tm_at "g_mem", by tm_at "g_mem", ?_⟩
    refine fresh_zip (p := fun _ => true) (pl := fun i => prO (fR p (ps.map (·.2)) i)) (by tm_at "g_mem") (by tm_at "g_mem") (by rw [prV_len]; omega) (fun i x y N hx hy hN s1 H1 C1 cl1 fp1 => ?_) fun d2 es hes => ?_
    · obtain ⟨e, he, rfl⟩ := prV_at hx
      obtain ⟨la, hla, rfl⟩ := prV_at hy
      have me := hN _ (hp1 e (List.mem_of_getElem? he))
      have mla := hN _ (hn1 la (List.mem_of_getElem? hla))
      have il : i < ps.length := (List.getElem?_eq_some_iff.mp he).1
      have v1 : la.2.1 = bOf p (ps.map (·.2)) (i + 1) := next_at (l := (tp, (e0.2.1 + p, 0))) pn (fun e h => by rw [p00] at h; cases h; rfl) il (by rw [← enx]; exact hla)
      have ge : (ps.map (·.2)).getD i (0, 0) = e.2 := by
        rw [List.getD_eq_getElem?_getD, List.getElem?_map, he]
        rfl
      have v2 : bOf p (ps.map (·.2)) i = e.2.1 := by rw [(bOf_lt (by rw [ln]; exact il)).1, ge]
      have v3 : eOf p (ps.map (·.2)) i = e.2.2 := by rw [(bOf_lt (by rw [ln]; exact il)).2, ge]
      refine gts_nil ⟨rfl, Sub.refl, fun _ s2 H2 C2 cl2 fp2 => ?_⟩
      tm_at "g"
      refine ge_call (El := NoX) F1 hr passA ?_
      tm_at "g"
      refine ⟨_, _, _, rfl, me, ?_⟩
      tm_at "g"
      unfold fR
      rw [v2, v3, ← v1]
      exact Sub.refl
    have hes2 : es.map (·.2) = (rowOf p (ps.map (·.2))).map prO := by
      rw [hes, List.filter_eq_self.mpr fun _ _ => rfl, prV_len, prV_len, nlen, Nat.min_self]
      unfold rowOf
      rw [List.map_map, ln]
      rfl
    obtain ⟨row, r1, r2⟩ := pairs_of hes2
    rw [refs_of r1]
    have hr1 := prs_of r1 ((nx, HO.lst (prV nxp)) :: (tp, HO.tup [.int (e0.2.1 + p), .int 0]) :: (q1, HO.lst ((prV ps).drop 1)) :: L)
    have rlen : row.length = ps.length := by
      have z := congrArg List.length r2
      rw [List.length_map, rowOf_len, ln] at z
      exact z
    tm_at "g"
    refine gs_lcP (by tm_at "g_put") (by tm_at "g_put") (gi_range2 ?_ B.range) (show blkC N_least_form (defScope s_least_form) _ [(_, List.idxOf _ N_least_form)] = true by decide +kernel)
    tm_at "g"
    refine ⟨⟨by decide, by decide, by omega, by omega⟩, ?_⟩
    let rot : Nat → Bool := fun t => decide ((rowOf p (ps.map (·.2))).drop t ++ (rowOf p (ps.map (·.2))).take t = rowOf p (ps.map (·.2)))
    refine pure_fn (p := fun i => decide ((ps.length : Int) % (1 + (i : Int)) = 0) && rot (1 + i)) (g := fun i => .int (1 + (i : Int))) (by omega) (fun i hi D acc s1 H1 C1 cl1 fp1 => ?_) fun d3 => ?_
    · have hi' : i < ps.length := by omega
      show G.GT _ _ _ _ _
      tm_at "g"
      refine go_mod (by omega) ?_
      tm_at "g"
      refine ite_d (fun z => ?_) (fun z => ?_)
      · tm_at "g"
        have ec : (1 + (i : Int)) = ((1 + i : Nat) : Int) := by omega
        refine ⟨d2, prV row, rfl, ?_⟩
        show GE _ _ _ _ _
        tm_at "g"
        refine ⟨fun H hH => sql hH (by tm_at "g_mem"), fun q2 => ?_⟩
        rw [ec, cut_from (by rw [prV_len]; omega)]
        refine ⟨q2, _, rfl, .inr mem0, ?_⟩
        tm_at "g"
        refine ⟨d2, prV row, rfl, ?_⟩
        show GE _ _ _ _ _
        tm_at "g"
        refine ⟨fun H hH => sql hH (by tm_at "g_mem"), fun q3 => ?_⟩
        rw [cut_to (by rw [prV_len]; omega)]
        refine ⟨q3, _, rfl, .inr mem0, ?_⟩
        tm_at "g"
        refine ⟨szL (by simp only [List.length_append, List.length_drop, List.length_take, prV_len, List.length_nil]; omega), fun q4 => ?_⟩
        tm_at "g"
        refine go_eqPL (ps := row.drop (1 + i) ++ row.take (1 + i)) (qs := row) hr mem0 (by tm_at "g_mem") (by unfold prV; rw [List.map_append, List.map_drop, List.map_take, List.append_nil]) rfl (fun x hx => ?_) (fun x hx => ?_) ?_
        · refine memS (memS (memS (memS (memS (hr1 x ?_)))))
          rcases List.mem_append.mp hx with hx | hx
          · exact List.mem_of_mem_drop hx
          · exact List.mem_of_mem_take hx
        · exact memS (memS (memS (memS (memS (hr1 x hx)))))
        rw [List.map_append, List.map_drop, List.map_take, r2]
        refine ⟨_, rfl, ?_, by tm_at "g_end", fun _ s2 H2 C2 cl2 fp2 => ?_⟩
        · rw [← ec, decide_eq_true z, Bool.true_and]
        · tm_at "g"
          exact ⟨rfl, by tm_at "g_end"⟩
      · exact ⟨by rw [decide_eq_false z]; rfl, Sub.refl, fun y => nomatch y⟩
    have en : ((ps.length : Int) + 1 - 1).toNat = ps.length := by omega
    have hcast : ∀ i : Nat, (ps.length : Int) % (1 + (i : Int)) = 0 ↔ ps.length % (1 + i) = 0 := fun i => by
      rw [show (1 + (i : Int)) = ((1 + i : Nat) : Int) by omega, ← Int.natCast_emod]
      omega
    rw [en]
    obtain ⟨i0, rest, hf⟩ : ∃ i0 rest, (List.range ps.length).filter (fun i : Nat => decide ((ps.length : Int) % (1 + (i : Int)) = 0) && rot (1 + i)) = i0 :: rest := by
      cases hz : (List.range ps.length).filter (fun i : Nat => decide ((ps.length : Int) % (1 + (i : Int)) = 0) && rot (1 + i)) with
      | cons a b => exact ⟨a, b, rfl⟩
      | nil =>
        exfalso
        have k := List.filter_eq_nil_iff.mp hz (ps.length - 1) (List.mem_range.mpr (by omega))
        refine k ?_
        rw [Bool.and_eq_true]
        have e1 : 1 + (ps.length - 1) = ps.length := by omega
        refine ⟨decide_eq_true ((hcast _).mpr (by rw [e1, Nat.mod_self])), decide_eq_true ?_⟩
        rw [e1]
        have z : (rowOf p (ps.map (·.2))).length = ps.length := by rw [rowOf_len, ln]
        rw [List.drop_of_length_le (by omega), List.take_of_length_le (by omega), List.nil_append]
    rw [hf]
    obtain ⟨i1, pi0, pm⟩ := filter_head hf
    obtain ⟨pi1, pi2⟩ := Bool.and_eq_true_iff.mp pi0
    have td : ps.length % (1 + i0) = 0 := (hcast i0).mp (of_decide_eq_true pi1)
    have frm : Form (In p (ps.map (·.2))) ((((rowOf p (ps.map (·.2))).take (1 + i0)).map (·.2)).sum) ((ps.map (·.2)).take (1 + i0)) := by
      refine least_form nf rn (by omega) (by rw [ln]; omega) (by rw [ln]; exact td) (of_decide_eq_true pi2) fun s s1 s2 s3 s4 => ?_
      have z := pm (s - 1) (by omega)
      rw [Bool.and_eq_false_iff] at z
      rw [ln] at s3
      have e1 : 1 + (s - 1) = s := by omega
      rcases z with z | z
      · exact of_decide_eq_false z ((hcast _).mpr (by rw [e1]; exact s3))
      · exact of_decide_eq_false z (by rw [e1]; exact s4)
    rw [eIn] at frm
    have ec : (1 + (i0 : Int)) = ((1 + i0 : Nat) : Int) := by omega
    have at0 : atI ((i0 :: rest).map fun i : Nat => V.int (1 + (i : Int))) 0 = some (.int (1 + (i0 : Int))) := show atI _ ((0 : Nat) : Int) = _ from atI_nat rfl
    tm_at "g"
    refine ⟨r, prV ps, rfl, ?_⟩
    show GE _ _ _ _ _
    tm_at "g"
    refine gi_lst (by tm_at "g_mem") at0 ?_
    refine ⟨_, rfl, ?_⟩
    refine ⟨fun H hH => sql hH (by tm_at "g_mem"), fun q5 => ?_⟩
    rw [ec, cut_to (by rw [prV_len]; omega)]
    tm_at "g"
    refine ge_lcP (by tm_at "g_put") (gi_list ?_) (show blkC N_least_form (defScope s_least_form) _ [(_, List.idxOf _ N_least_form)] = true by decide +kernel)
    tm_at "g"
    refine ⟨d2, prV row, rfl, ?_⟩
    show GE _ _ _ _ _
    tm_at "g"
    refine gi_lst (by tm_at "g_mem") at0 ?_
    refine ⟨_, rfl, ?_⟩
    refine ⟨fun H hH => sql hH (by tm_at "g_mem"), fun q6 => ?_⟩
    have eT : (prV row).take (1 + i0) = prV (row.take (1 + i0)) := by
      unfold prV
      rw [List.map_take]
    have eF : (prV ps).take (1 + i0) = prV (ps.take (1 + i0)) := by
      unfold prV
      rw [List.map_take]
    rw [ec, cut_to (by rw [prV_len]; omega), eT, eF]
    refine ⟨q6, _, rfl, mem0, ?_⟩
    refine pure_rowPr (t := fun _ => true) (g := fun e => .int e.2.2) mem0 (by rw [List.length_take]; omega) (fun e he D acc s1 H1 C1 cl1 fp1 => ?_) fun d4 => ?_
    · have me := hr1 e (List.mem_of_mem_take he)
      refine gts_nil ⟨rfl, Sub.refl, fun _ s2 H2 C2 cl2 fp2 => ?_⟩
      tm_at "g"
      exact ⟨rfl, Sub.refl⟩
    rw [List.filter_eq_self.mpr fun _ _ => rfl]
    have eS : (row.take (1 + i0)).map (fun e : Pr2 => V.int e.2.2) = (((rowOf p (ps.map (·.2))).take (1 + i0)).map (·.2)).map V.int := by
      rw [← r2, ← List.map_take, List.map_map, List.map_map]
      rfl
    rw [eS]
    tm_at "g"
    refine gc_sumI (by rfl) mem0 ?_
    tm_at "g"
    refine gc_tupL (by tm_at "g_mem") fun t2 => ?_
    tm_at "g"
    rename_i t1
    rw [← List.map_take] at frm
    refine ⟨_, Sub.refl, q t1 t2 _ (ps.take (1 + i0)) _ (by tm_at "g_end") mem0 (memS mem0) (fun x hx => ?_) frm (by rw [List.length_take]; omega)⟩
    have z := hp1 x (List.mem_of_mem_take hx)
    repeat (first | with_reducible exact z | with_reducible apply memS | with_reducible apply memR)
end
section
open Lt
variable {P : Program} {w : World} {K : PySem.W.Frag} {mg : Str → Option Value} {base : Heap}
abbrev lotO (C dx : Addr) (q : Int) (t : Addr) (s : Int) (ob : Addr) : HO := .ins C dx [("period", .int q), ("runs", .ref t), ("size", .int s), ("own_begins", .ref ob)]
/-- what the class of lots must have for its fields -/
structure LotA (K : PySem.W.Frag) (C : Addr) : Prop where
  c : L2.Cls K C
  n1 : NoAttr K C "period"
  n2 : NoAttr K C "runs"
  n3 : NoAttr K C "size"
  n4 : NoAttr K C "own_begins"
def lens (rs : List Rn) : List Int := rs.map fun r => r.2 - r.1 + 1
/-- a lot in the ledger: its class, its object's dict, its fields -/
structure LotAt (C a dx : Addr) (q : Int) (t : Addr) (few : List Pr2) (ob : Addr) (L : Lg) : Prop where
  o : (a, lotO C dx q t (lens (few.map (·.2))).sum ob) ∈ L
  t : (t, HO.tup (prV few)) ∈ L
  ps : Prs2 few L
  ob : (ob, HO.lst ((few.map fun e => e.2.1).map V.int)) ∈ L
theorem LotAt.mono {C a dx : Addr} {q : Int} {t : Addr} {few : List Pr2} {ob : Addr} {L M : Lg} (h : LotAt C a dx q t few ob L) (s : ∀ e ∈ L, e ∈ M) : LotAt C a dx q t few ob M := ⟨s _ h.o, s _ h.t, h.ps.mono s, s _ h.ob⟩
theorem split_at {M : Lg} {x : Addr × HO} (h : x ∈ M) : ∃ R, M.Perm (x :: R) := by
  obtain ⟨s, t, rfl⟩ := List.append_of_mem h
  exact ⟨s ++ t, List.perm_middle⟩
theorem sub_put {a : Addr} {o : HO} {L0 M R : Lg} (s : Sub ((a, o) :: L0) M) (p : M.Perm ((a, o) :: R)) (o' : HO) : Sub ((a, o') :: L0) ((a, o') :: R) := by
  refine ⟨fun nd => ?_⟩
  have ndM : (M.map (·.1)).Nodup := (p.map _).nodup_iff.mpr nd
  obtain ⟨n1, n2⟩ := s.to ndM
  refine ⟨n1, fun e he => ?_⟩
  rcases List.mem_cons.mp he with rfl | he
  · exact List.mem_cons_self
  · have k := p.mem_iff.mp (n2 e (List.mem_cons_of_mem _ he))
    rcases List.mem_cons.mp k with e1 | k
    · exfalso
      exact (List.nodup_cons.mp n1).1 (List.mem_map.mpr ⟨e, he, by rw [e1]⟩)
    · exact List.mem_cons_of_mem _ k
theorem GSs.nd {X : Cx} {sts : List Stmt} {D : GD} {η : En} {L : Lg} (h : (L.map (·.1)).Nodup → GSs X sts D η L) : GSs X sts D η L := fun hN H hH => h hH.1 hN H hH
def spFew : SpL := fun vs L Q _ => ∃ n : Int, vs = [.int n] ∧ n ≤ 2000 ∧ Q .non L
theorem fn_need_few (F : Df K mg "need_few" s_need_few) {u : Value} (hM : mg "MOST_RUNS" = some u) (rM : RelV (.int 2000) u) : Fn P w K mg base CX0 "need_few" 1 spFew := by
  refine fn_plain F sc_need_few (fun _ _ _ _ _ _ us hl => match us, hl with | [_], _ => rfl) (by decide) (by tm_at "g_len") ?_
  intro X f cdv A outer s H E0 L vs Q E hX nd hr h
  subst hX
  obtain ⟨n, rfl, hn, q⟩ := h
  show GSs _ (defBody s_need_few) (bodyD Q) [("many", some (.int n))] L
  refine gss_cons ?_
  tm_at "g"
  refine gv_con hM rM ?_
  tm_at "g"
  refine ite_d (fun z => absurd z (by omega)) (fun _ => ?_)
  tm_at "g"
  exact ⟨_, Sub.refl, q⟩
/-- Lot.__init__ of a right period and right runs -/
def spLotInit (K : PySem.W.Frag) : SpL := fun vs L Q _ => ∃ (a C dx : Addr) (p : Int) (r : Addr) (ps : List Pr2) (L0 : Lg), vs = [.ref a, .int p, .ref r] ∧ Sub ((a, HO.ins C dx []) :: L0) L ∧ LotA K C ∧ (r, HO.tup (prV ps)) ∈ L0 ∧ Prs2 ps L0 ∧ ps.length ≤ 2000 ∧ 1 ≤ p ∧ (∀ e ∈ ps, e.2.1 ≤ e.2.2) ∧
  ∀ (q : Int) (t : Addr) (few : List Pr2) (ob : Addr) (M R : Lg), M = (a, lotO C dx q t (lens (few.map (·.2))).sum ob) :: R → Sub ((a, lotO C dx q t (lens (few.map (·.2))).sum ob) :: L0) M → LotAt C a dx q t few ob M → Form (In p (ps.map (·.2))) q (few.map (·.2)) → few.length ≤ 2000 → (∀ o, (ob, o) ∉ L0) → Q .non M
theorem run_Lot_init (B : Bi mg) {f : Addr} {fd : FuncData} (F : Fun K "__init__" "Lot.__init__" s_Lot_init f fd) (G1 : Fn P w K mg base CX0 "is_whole" 1 spWholeI) (G2 : Fn P w K mg base CX0 "is_run" 2 spIsRun) (G3 : Fn P w K mg base CX0 "maximal" 2 spMaximal) (G4 : Fn P w K mg base CX0 "need_few" 1 spFew) (G5 : Fn P w K mg base CX0 "least_form" 2 spLeast) (G6 : Fn P w K mg base CX0 "length_of" 1 spLen) :
    RunG P w K mg base CX0 4 f argsP (toSp fun vs L Q E => ∃ ws rest, vs = ws ++ rest ∧ ws.length = 2 ∧ rest.length ≤ sizeLine ∧ ∀ p, spLotInit K (ws ++ [.ref p]) ((p, .tup rest) :: L) Q E) := by
  refine run_starred (ps := ["self", "period"]) F sc_Lot_init (fun _ _ _ _ _ _ us rest hl => match us, hl with | [u, v], _ => by cases rest <;> rfl) (by decide) ?_ (by tm_at "g_len")
  intro X f cdv A outer s H E0 L vs Q E hX nd hr h
  subst hX
  obtain ⟨a, C, dx, p, r, ps, L0, rfl, s0, ⟨c, n1, n2, n3, n4⟩, m, hp, hl, p1, le, q⟩ := h
  with_reducible refine GSs.sub s0 ?_
  show GSs _ (defBody s_Lot_init) (bodyD Q) [("self", some (.ref a)), ("period", some (.int p)), ("runs", some (.ref r)), ("found", none), ("least", none), ("run", none)] _
  refine gss_cons ?_
  tm_at "g"
  refine ge_call (El := NoX) G1 hr passA ?_
  tm_at "g"
  refine ⟨p, rfl, ?_⟩
  tm_at "g"
  refine ite_d (fun z => absurd z (by omega)) (fun _ => ?_)
  tm_at "g"
  refine ge_lcP (by tm_at "g_put") (gi_tuple ?_) (show blkC N_Lot_init (defScope s_Lot_init) _ [(_, List.idxOf _ N_Lot_init)] = true by decide +kernel)
  tm_at "g"
  refine pure_rowPr (t := fun _ => true) (g := fun _ => .bl true) (memS m) (by omega) (fun e he D acc s1 H1 C1 cl1 fp1 => ?_) fun D => ?_
  · refine gts_nil ⟨rfl, Sub.refl, fun _ s2 H2 C2 cl2 fp2 => ?_⟩
    tm_at "g"
    refine ge_call (El := NoX) G2 hr passA ?_
    tm_at "g"
    refine ⟨_, _, _, rfl, memS (memS (hp e he)), ?_⟩
    rw [decide_eq_true (le e he)]
    exact ⟨rfl, Sub.refl⟩
  rw [List.filter_eq_self.mpr fun _ _ => rfl, show ps.map (fun _ : Pr2 => V.bl true) = (ps.map fun _ => true).map V.bl by rw [List.map_map]; rfl]
  tm_at "g"
  refine gc_allB (by rfl) mem0 ?_
  rw [show (ps.map fun _ => true).all id = true by simp]
  tm_at "g"
  refine ge_call (El := NoX) G3 hr passA ?_
  tm_at "g"
  refine ⟨p, r, _, ps, rfl, .inr rfl, memS (memS m), hp.mono fun _ h => memS (memS h), by omega, p1, le, fun f1 ps1 M1 s1 m1 hp1 ⟨mx, len1⟩ => ?_⟩
  rw [List.length_map] at len1
  tm_at "g"
  refine ge_call (El := NoX) G4 hr passA ?_
  tm_at "g"
  rw [prV_len]
  refine ⟨_, rfl, by omega, ?_⟩
  tm_at "g"
  refine ge_call (El := NoX) G5 hr passA ?_
  tm_at "g"
  refine ⟨p, f1, ps1, ps.map (·.2), rfl, m1, hp1, by omega, p1, mx, fun t t2 q' few M2 s2 mt mt2 hfew frm len2 => ?_⟩
  show GSs _ _ _ _ _
  refine GSs.nd fun nd2 => ?_
  have s02 : Sub ((a, HO.ins C dx []) :: L0) M2 := Sub.trans (Sub.trans Sub.drop s1) s2
  obtain ⟨R, pm⟩ := split_at ((s02.to nd2).2 _ List.mem_cons_self)
  have inR : ∀ {b : Addr} {o : HO}, (b, o) ∈ M2 → o ≠ HO.ins C dx [] → (b, o) ∈ R := fun {b o} h ne => by
    rcases List.mem_cons.mp (pm.mem_iff.mp h) with e | h
    · exact absurd (congrArg Prod.snd e) ne
    · exact h
  have rt := inR mt (fun z => nomatch z)
  have rt2 := inR mt2 (fun z => nomatch z)
  have rfew : Prs2 few R := fun e he => inR (hfew e he) (fun z => nomatch z)
  refine GSs.sub (Sub.perm pm.symm) ?_
  clear inR mt mt2 hfew
  tm_at "g"
  refine ⟨a, C, dx, [], (a, HO.ins C dx [("period", .int q')]) :: R, rfl, mem0, c, n1, by decide, .here, ?_⟩
  tm_at "g"
  refine ⟨a, C, dx, _, (a, HO.ins C dx [("period", .int q'), ("runs", .ref t2)]) :: R, rfl, mem0, c, n2, by simp, .here, ?_⟩
  tm_at "g"
  refine ge_lcP (by tm_at "g_put") (gi_tuple ?_) (show blkC N_Lot_init (defScope s_Lot_init) _ [(_, List.idxOf _ N_Lot_init)] = true by decide +kernel)
  tm_at "g"
  refine pure_rowPr (t := fun _ => true) (g := fun e => .int (e.2.2 - e.2.1 + 1)) (memS rt2) (by omega) (fun e he D acc s1 H1 C1 cl1 fp1 => ?_) fun D2 => ?_
  · refine gts_nil ⟨rfl, Sub.refl, fun _ s2 H2 C2 cl2 fp2 => ?_⟩
    tm_at "g"
    refine ge_call (El := NoX) G6 hr passA ?_
    tm_at "g"
    exact ⟨_, _, _, rfl, memS (memS (rfew e he)), rfl, Sub.refl⟩
  rw [List.filter_eq_self.mpr fun _ _ => rfl, show few.map (fun e : Pr2 => V.int (e.2.2 - e.2.1 + 1)) = (lens (few.map (·.2))).map V.int by unfold lens; rw [List.map_map, List.map_map]; rfl]
  tm_at "g"
  refine gc_sumI (by rfl) mem0 ?_
  tm_at "g"
  refine ⟨a, C, dx, _, (D2, HO.lst ((lens (few.map (·.2))).map V.int)) :: (a, HO.ins C dx [("period", .int q'), ("runs", .ref t2), ("size", .int (lens (few.map (·.2))).sum)]) :: R, rfl, memS mem0, c, n3, by simp, .there .here, ?_⟩
  tm_at "g"
  refine GE.nd ?_
  refine ge_lcP (by tm_at "g_put") (gi_tuple ?_) (show blkC N_Lot_init (defScope s_Lot_init) _ [(_, List.idxOf _ N_Lot_init)] = true by decide +kernel)
  tm_at "g"
  refine pure_rowPr (t := fun _ => true) (g := fun e => .int e.2.1) (memS (memS rt2)) (by omega) (fun e he D acc s1 H1 C1 cl1 fp1 => ?_) fun D3 => ?_
  · have me := rfew e he
    refine gts_nil ⟨rfl, Sub.refl, fun _ s2 H2 C2 cl2 fp2 => ?_⟩
    tm_at "g"
    exact ⟨rfl, Sub.refl⟩
  rw [List.filter_eq_self.mpr fun _ _ => rfl, show few.map (fun e : Pr2 => V.int e.2.1) = (few.map fun e => e.2.1).map V.int by rw [List.map_map]; rfl]
  intro nd3
  have fr : ∀ o, (D3, o) ∉ L0 := fun o ho => by
    have n3 := (List.nodup_cons.mp nd3).1
    have h1 := pm.mem_iff.mp ((s02.to nd2).2 _ (memS ho))
    rcases List.mem_cons.mp h1 with e | h2
    · exact n3 (List.mem_map.mpr ⟨(a, HO.ins C dx [("period", .int q'), ("runs", .ref t2), ("size", .int (lens (few.map (·.2))).sum)]), memS mem0, (congrArg Prod.fst e).symm⟩)
    · exact n3 (List.mem_map.mpr ⟨_, memS (memS h2), rfl⟩)
  tm_at "g"
  refine ⟨a, C, dx, _, (D3, HO.lst ((few.map fun e => e.2.1).map V.int)) :: (D2, HO.lst ((lens (few.map (·.2))).map V.int)) :: (a, lotO C dx q' t2 (lens (few.map (·.2))).sum D3) :: R, rfl, memS (memS mem0), c, n4, by simp, .there (.there .here), ?_⟩
  tm_at "g"
  refine ⟨(a, lotO C dx q' t2 (lens (few.map (·.2))).sum D3) :: (D3, HO.lst ((few.map fun e => e.2.1).map V.int)) :: (D2, HO.lst ((lens (few.map (·.2))).map V.int)) :: R, Sub.perm (by exact List.perm_middle (l₁ := [_, _]).symm), q q' t2 few D3 _ _ rfl ?_ ⟨mem0, memS (memS (memS rt2)), rfew.mono fun _ h => memS (memS (memS h)), memS mem0⟩ frm (by omega) fr⟩
  have z := sub_put s02 pm (lotO C dx q' t2 (lens (few.map (·.2))).sum D3)
  exact Sub.trans z (Sub.sublist (List.Sublist.cons_cons _ (List.Sublist.cons _ (List.Sublist.cons _ (List.Sublist.refl _)))))
end
section
open Lt
variable {P : Program} {w : World} {K : PySem.W.Frag} {mg : Str → Option Value} {base : Heap} {C : Addr}
/-- a new lot of the members S -/
def LotR (C : Addr) (S : Int → Prop) (L : Lg) (Q : QV) : Prop := ∀ (x dx : Addr) (q : Int) (t : Addr) (few : List Pr2) (ob : Addr) (M : Lg), Sub L M → LotAt C x dx q t few ob M → Form S q (few.map (·.2)) → few.length ≤ 2000 → Q (.ref x) M
def LotRF (C : Addr) (S : Int → Prop) (L : Lg) (Q : QV) : Prop := ∀ (x dx : Addr) (q : Int) (t : Addr) (few : List Pr2) (ob : Addr) (M : Lg), Sub L M → LotAt C x dx q t few ob M → Form S q (few.map (·.2)) → few.length ≤ 2000 → (∀ o, (ob, o) ∉ L) → Q (.ref x) M
/-- Lot(p, run, ..) -/
theorem gf_lotF {X : Cx} {η : En} {Q : QV} {j : Nat} {fI : Addr} (la : LotA X.K C) (M0 : Mk X.K C fI) (R : RunG X.prog X.w X.K X.mg X.base CX0 4 fI argsP (toSp fun vs L Q E => ∃ ws rest, vs = ws ++ rest ∧ ws.length = 2 ∧ rest.length ≤ sizeLine ∧ ∀ p, spLotInit X.K (ws ++ [.ref p]) ((p, .tup rest) :: L) Q E)) (hr : RoomG j X.A) (hj : 5 ≤ j := by decide) :
    GF X η C argsP (fun vs L => ∃ (p : Int) (ps : List Pr2), vs = .int p :: prV ps ∧ Prs2 ps L ∧ ps.length ≤ 2000 ∧ 1 ≤ p ∧ (∀ e ∈ ps, e.2.1 ≤ e.2.2) ∧ LotRF C (In p (ps.map (·.2))) L Q) Q := fun pins s H us vs L hH I r ⟨p, ps, ev, hp, hl, p1, le, q⟩ => by
  refine gf_make (El := NoX) M0 R (fun _ _ => rfl) hr passA hj pins s H us vs L hH I r fun x dx => ?_
  subst ev
  refine ⟨[.ref x, .int p], prV ps, rfl, rfl, szL (by rw [prV_len]; omega), fun pa => ⟨x, C, dx, p, pa, ps, (pa, .tup (prV ps)) :: (dx, .own x) :: L, rfl, Sub.perm (.swap _ _ _), la, mem0, hp.mono fun _ h => memS (memS h), hl, p1, le, fun q' t few ob M R' _ sM at' frm hl' fr => ⟨rfl, q x dx q' t few ob M ?_ at' frm hl' fun o ho => fr o (memS (memS ho))⟩⟩⟩
  exact Sub.trans (Sub.drop.trans (Sub.drop.trans Sub.drop)) sM
theorem gf_lot {X : Cx} {η : En} {Q : QV} {j : Nat} {fI : Addr} (la : LotA X.K C) (M0 : Mk X.K C fI) (R : RunG X.prog X.w X.K X.mg X.base CX0 4 fI argsP (toSp fun vs L Q E => ∃ ws rest, vs = ws ++ rest ∧ ws.length = 2 ∧ rest.length ≤ sizeLine ∧ ∀ p, spLotInit X.K (ws ++ [.ref p]) ((p, .tup rest) :: L) Q E)) (hr : RoomG j X.A) (hj : 5 ≤ j := by decide) :
    GF X η C argsP (fun vs L => ∃ (p : Int) (ps : List Pr2), vs = .int p :: prV ps ∧ Prs2 ps L ∧ ps.length ≤ 2000 ∧ 1 ≤ p ∧ (∀ e ∈ ps, e.2.1 ≤ e.2.2) ∧ LotR C (In p (ps.map (·.2))) L Q) Q := fun pins s H us vs L hH I r ⟨p, ps, ev, hp, hl, p1, le, q⟩ => gf_lotF la M0 R hr hj pins s H us vs L hH I r ⟨p, ps, ev, hp, hl, p1, le, fun x dx q' t few ob M sM at' frm hl' _ => q x dx q' t few ob M sM at' frm hl'⟩
/-- __eq__ of two lots -/
def spLotEq (C : Addr) : SpL := fun vs L Q _ => ∃ (a b dx dy : Addr) (q : Int) (t : Addr) (few : List Pr2) (ob : Addr) (q2 : Int) (t2 : Addr) (few2 : List Pr2) (ob2 : Addr), vs = [.ref a, .ref b] ∧ LotAt C a dx q t few ob L ∧ LotAt C b dy q2 t2 few2 ob2 L ∧ Q (.bl (decide (q = q2 ∧ few.map (·.2) = few2.map (·.2)))) L
/-- __eq__ of a lot and something else -/
def spLotNeq (K : PySem.W.Frag) (D : Addr) : SpL := fun vs L Q _ => ∃ (a : Addr) (y : V) (T : String), vs = [.ref a, y] ∧ Knd L y T ∧ PySem.W.kitOne K (.type T) (.ref D) = some false ∧ Q (.bl false) L
theorem run_Lot_eq (B : Bi mg) {f : Addr} {fd : FuncData} (F : Fun K "__eq__" "Lot.__eq__" s_Lot_eq f fd) (hC : mg "Lot" = some (.ref C)) (la : LotA K C) (ot : OwnT K C) (kk : PySem.W.kitOne K (.ref C) (.ref C) = some true) : RunG P w K mg base CX0 1 f argsP (toSp (spLotEq C)) := by
  obtain ⟨c, n1, n2, n3, n4⟩ := la
  refine run_plain F sc_Lot_eq argsP id id (fun _ _ r => r) (fun _ _ _ _ _ _ us hl => match us, hl with | [_, _], _ => rfl) (by decide) (by tm_at "g_len") ?_
  intro X f cdv A outer s H E0 L vs Q E hX nd hr h
  subst hX
  obtain ⟨a, b, dx, dy, q', t, few, ob, q2, t2, few2, ob2, rfl, at1, at2, q⟩ := h
  have mo := at1.o
  have mt := at1.t
  have mo2 := at2.o
  have mt2 := at2.t
  show GSs _ (defBody s_Lot_eq) (bodyD Q) [("self", some (.ref a)), ("other", some (.ref b))] L
  refine gss_cons ?_
  tm_at "g"
  refine gv_def hC ?_
  tm_at "g"
  refine gc_isI ot mo2 (.own _) kk ?_
  tm_at "g"
  refine ite_d (fun z => ?_) (fun z => ?_)
  · tm_at "g"
    refine go_eqPT (ps := few) (qs := few2) hr mt mt2 rfl rfl at1.ps at2.ps ?_
    rw [show decide (q' = q2 ∧ few.map (·.2) = few2.map (·.2)) = decide (few.map (·.2) = few2.map (·.2)) by rw [decide_eq_decide]; simp [z]] at q
    exact ⟨_, Sub.refl, q⟩
  · rw [decide_eq_false fun y => z y.1] at q
    exact ⟨_, Sub.refl, q⟩
theorem run_Lot_neq (B : Bi mg) {f : Addr} {fd : FuncData} (F : Fun K "__eq__" "Lot.__eq__" s_Lot_eq f fd) (hC : mg "Lot" = some (.ref C)) : RunG P w K mg base CX0 1 f argsP (toSp (spLotNeq K C)) := by
  refine run_plain F sc_Lot_eq argsP id id (fun _ _ r => r) (fun _ _ _ _ _ _ us hl => match us, hl with | [_, _], _ => rfl) (by decide) (by tm_at "g_len") ?_
  intro X f cdv A outer s H E0 L vs Q E hX nd hr h
  subst hX
  obtain ⟨a, y, T, rfl, ky, kt, q⟩ := h
  show GSs _ (defBody s_Lot_eq) (bodyD Q) [("self", some (.ref a)), ("other", some y)] L
  refine gss_cons ?_
  tm_at "g"
  refine gv_def hC ?_
  tm_at "g"
  refine gc_isKO ky kt ?_
  tm_at "g"
  exact ⟨_, Sub.refl, q⟩
end
section
open Lt
variable {P : Program} {w : World} {K : PySem.W.Frag} {mg : Str → Option Value} {base : Heap} {C : Addr}
/-- whether an integer lies in runs by a period -/
def inB (p : Int) (rs : List Rn) (n : Int) : Bool := rs.any fun r => decide ((n - r.1) % p ≤ r.2 - r.1)
theorem inB_iff {p : Int} {rs : List Rn} (hp : 0 < p) (le : ∀ r ∈ rs, r.1 ≤ r.2) (n : Int) : inB p rs n = true ↔ Lt.In p rs n := by
  unfold inB Lt.In
  rw [List.any_eq_true]
  constructor
  · rintro ⟨r, hr, h⟩
    exact ⟨r, hr, (in_mod hp (le r hr) n).mp (of_decide_eq_true h)⟩
  · rintro ⟨r, hr, h⟩
    exact ⟨r, hr, decide_eq_true ((in_mod hp (le r hr) n).mpr h)⟩
theorem Sh.mono {d : PyData} {n k n' k' : Nat} (h : Sh d n k) (a : n ≤ n') (b : k ≤ k') : Sh d n' k' := ⟨h.s, Nat.le_trans h.dp b, Nat.le_trans h.l a⟩
theorem LotR.up {S : Int → Prop} {L M : Lg} {Q : QV} (h : LotR C S L Q) (s : Sub L M) : LotR C S M Q := fun x dx q t few ob N sN a b c => h x dx q t few ob N (Sub.trans s sN) a b c
theorem LotR.drp {S : Int → Prop} {L : Lg} {Q : QV} (h : LotR C S L Q) : LotR C S L (G.drp Q) := fun x dx q t few ob N sN a b c => ⟨N, Sub.refl, h x dx q t few ob N sN a b c⟩
/-- the pen brought ahead of everything else -/
theorem pen_out {p c : Addr} {n m : Int} {ns : List Int} {R M : Lg} (nd : (M.map (·.1)).Nodup) (s : Sub ((p, penO c n m) :: (c, celO ns) :: R) M) : ∃ R2, M.Perm ((p, penO c n m) :: (c, celO ns) :: R2) ∧ (∀ x ∈ R, x ∈ R2) ∧ ∀ x ∈ M, x = (p, penO c n m) ∨ x ∈ (c, celO ns) :: R2 := by
  obtain ⟨nd1, mem⟩ := s.to nd
  obtain ⟨M1, p1⟩ := split_at (mem _ List.mem_cons_self)
  have ne : (c, celO ns) ≠ (p, penO c n m) := fun e => by
    have := (List.nodup_cons.mp nd1).1
    rw [← e] at this
    exact this List.mem_cons_self
  have mc : (c, celO ns) ∈ M1 := by
    rcases List.mem_cons.mp (p1.mem_iff.mp (mem _ (List.mem_cons_of_mem _ List.mem_cons_self))) with h | h
    · exact absurd h ne
    · exact h
  obtain ⟨M2, p2⟩ := split_at mc
  have p3 := p1.trans (p2.cons _)
  refine ⟨M2, p3, fun x hx => ?_, fun x hx => List.mem_cons.mp (p3.mem_iff.mp hx)⟩
  have hm := p3.mem_iff.mp (mem x (List.mem_cons_of_mem _ (List.mem_cons_of_mem _ hx)))
  have n1 := (List.nodup_cons.mp nd1).1
  have n2 := (List.nodup_cons.mp (List.nodup_cons.mp nd1).2).1
  rcases List.mem_cons.mp hm with rfl | hm
  · exact absurd (List.mem_cons_of_mem _ (List.mem_map.mpr ⟨_, hx, rfl⟩)) n1
  rcases List.mem_cons.mp hm with rfl | hm
  · exact absurd (List.mem_map.mpr ⟨_, hx, rfl⟩) n2
  · exact hm
/-- a lot is none of the pen's -/
theorem LotAt.rest {a dx : Addr} {q : Int} {t : Addr} {few : List Pr2} {ob p c : Addr} {n m : Int} {M N : Lg} (h : LotAt C a dx q t few ob M) (k : ∀ x ∈ M, x = (p, penO c n m) ∨ x ∈ N) : LotAt C a dx q t few ob N := by
  have ne : ∀ {x : Addr × HO}, x ∈ M → x.2 ≠ penO c n m → x ∈ N := fun hx z => (k _ hx).resolve_left fun e => z (by rw [e])
  refine ⟨ne h.o ?_, ne h.t ?_, fun e he => ne (h.ps e he) ?_, ne h.ob ?_⟩
  · exact fun e => by cases e
  · exact fun e => by cases e
  · exact fun e => by cases e
  · intro e
    injection e with e
    cases few with
    | nil => cases e
    | cons _ _ => injection e with e _; cases e
/-- what == of lots wants -/
structure LotEq (P : Program) (w : World) (K : PySem.W.Frag) (mg : Str → Option Value) (base : Heap) (C : Addr) where
  g : Addr
  oe : OwnEq K C g
  run : RunG P w K mg base CX0 1 g argsP (toSp (spLotEq C))
  nf : PySem.W.notFirst K C (.ref C) = true
theorem LotR.of {S : Int → Prop} {L : Lg} {Q : QV} {q0 : Int} {few0 : List Rn} (f0 : Form S q0 few0) (k : ∀ (x dx t : Addr) (few : List Pr2) (ob : Addr) (M : Lg), Sub L M → LotAt C x dx q0 t few ob M → few.map (·.2) = few0 → Q (.ref x) M) : LotR C S L Q := fun x dx q t few ob M s a f _ => by
  obtain ⟨rfl, e⟩ := Form.unique f f0
  exact k x dx t few ob M s a e
end
section
def spInteger : SpL := fun vs L Q _ => ∃ n : Int, vs = [.int n] ∧ Q .non L
end
section
open Lt
variable {P : Program} {w : World} {K : PySem.W.Frag} {mg : Str → Option Value} {base : Heap} {C : Addr}
abbrev InitR (P : Program) (w : World) (K : PySem.W.Frag) (mg : Str → Option Value) (base : Heap) (fI : Addr) : Prop := RunG P w K mg base CX0 4 fI argsP (toSp fun vs L Q E => ∃ ws rest, vs = ws ++ rest ∧ ws.length = 2 ∧ rest.length ≤ sizeLine ∧ ∀ p, spLotInit K (ws ++ [.ref p]) ((p, .tup rest) :: L) Q E)
def spAround (C : Addr) : SpL := fun vs L Q _ => ∃ p k : Int, vs = [.int p, .int k] ∧ 1 ≤ p ∧ 0 ≤ k ∧ LotR C (Lt.In p [(-k, k)]) L Q
theorem run_Lot_around {f fI : Addr} {fd : FuncData} (F : Fun K "around" "Lot.around" s_Lot_around f fd) (args : List Value → Args) (pmV : List V → List V) (pmU : List Value → List Value) (hpm : ∀ vs us, Vals vs us → Vals (pmV vs) (pmU us))
    (hb : ∀ (kV doc pm : Value) (an : Option Addr) (cdv ct : Value) (us : List Value), (pmU us).length = (["period", "play"] : List Str).length → bindArgs (PySem.W.fnOf "around" "Lot.around" (defArgs s_Lot_around) (defBody s_Lot_around) (defScope s_Lot_around) .none kV doc pm an cdv ct) (args us) = pure ((["period", "play"] : List Str).zip (pmU us)))
    (D1 : Fn P w K mg base CX0 "is_whole" 1 spWholeI) (hC : mg "Lot" = some (.ref C)) (la : LotA K C) (M0 : Mk K C fI) (R : InitR P w K mg base fI) :
    RunG P w K mg base CX0 6 f args (fun vs => toSp (spAround C) (pmV vs)) := by
  refine run_plain F sc_Lot_around args pmV pmU hpm hb (by decide) (by tm_at "g_len") ?_
  intro X f cdv A outer s H E0 L vs Q E hX nd hr h
  subst hX
  obtain ⟨p, k, rfl, p1, k0, q⟩ := h
  show GSs _ (defBody s_Lot_around) (bodyD Q) [("period", some (.int p)), ("play", some (.int k))] L
  refine gss_cons ?_
  tm_at "g"
  refine ge_call (El := NoX) D1 hr passA ?_
  tm_at "g"
  refine ⟨p, rfl, ?_⟩
  tm_at "g"
  refine ite_d (fun z => absurd z (by omega)) fun _ => ?_
  tm_at "g"
  refine ge_call (El := NoX) D1 hr passA ?_
  tm_at "g"
  refine ⟨k, rfl, ?_⟩
  tm_at "g"
  refine ite_d (fun z => absurd z (by omega)) fun _ => ?_
  tm_at "g"
  refine ge_callF hC M0.kp (fun _ => gf_lot la M0 R hr) ?_
  tm_at "g"
  rename_i t0
  refine ⟨p, [(t0, (-k, k))], rfl, fun e he => ?_, by simp, p1, fun e he => ?_, ?_⟩
  · rw [List.mem_singleton.mp he]
    exact mem0
  · rw [List.mem_singleton.mp he]
    dsimp only
    omega
  exact LotR.drp (LotR.up q Sub.drop)
end
section
open Lt
variable {P : Program} {w : World} {K : PySem.W.Frag} {mg : Str → Option Value} {base : Heap} {C : Addr}
theorem Lt.Form.le {S : Int → Prop} {q : Int} {f : List Rn} (h : Form S q f) : ∀ r ∈ f, r.1 ≤ r.2 := by
  rcases h.runs with ⟨-, e⟩ | ⟨nf, -⟩
  · subst e
    intro r hr
    rw [List.mem_singleton.mp hr]
    exact Int.le_refl _
  · exact nf.le
/-- the lot at a has the members S -/
structure LotS (C : Addr) (S : Int → Prop) (a : Addr) (L : Lg) : Prop where
  ex : ∃ (dx : Addr) (q : Int) (t : Addr) (few : List Pr2) (ob : Addr), LotAt C a dx q t few ob L ∧ Form S q (few.map (·.2)) ∧ few.length ≤ 2000
theorem LotS.up {S : Int → Prop} {a : Addr} {L M : Lg} (h : LotS C S a L) (u : ∀ e ∈ L, e ∈ M) : LotS C S a M := by
  obtain ⟨dx, q, t, few, ob, x, f, l⟩ := h.ex
  exact ⟨dx, q, t, few, ob, x.mono u, f, l⟩
theorem LotS.of {S U : Int → Prop} {a : Addr} {L : Lg} (h : LotS C S a L) (e : ∀ n, S n ↔ U n) : LotS C U a L := by
  have : S = U := funext fun n => propext (e n)
  rw [← this]
  exact h
/-- a new lot of the members S -/
def LotN (C : Addr) (S : Int → Prop) (L : Lg) (Q : QV) : Prop := ∀ (x : Addr) (M : Lg), Sub L M → LotS C S x M → Q (.ref x) M
theorem LotN.r {S : Int → Prop} {L : Lg} {Q : QV} (h : LotN C S L Q) : LotR C S L Q := fun x dx q t few ob M s a f l => h x M s ⟨dx, q, t, few, ob, a, f, l⟩
theorem LotN.of {S U : Int → Prop} {L : Lg} {Q : QV} (h : LotN C U L Q) (e : ∀ n, S n ↔ U n) : LotN C S L Q := fun x M s k => h x M s (k.of e)
theorem LotN.drp {S : Int → Prop} {L L0 : Lg} {Q : QV} (h : LotN C S L Q) (s : Sub L L0) : LotN C S L0 (G.drp Q) := fun x M s' k => ⟨M, Sub.refl, h x M (Sub.trans s s') k⟩
theorem go_eqL {X : Cx} {j : Nat} {L : Lg} {Q : QV} {S U : Int → Prop} {a b : Addr} (E : LotEq X.prog X.w X.K X.mg X.base C) (hr : RoomG j X.A) (h1 : LotS C S a L) (h2 : LotS C U b L) (e : ∀ n, S n ↔ U n) (q : Q (.bl true) L) (hj : 1 ≤ j := by decide) : GOp X (compareOp .Eq) (.ref a) (.ref b) L Q := by
  obtain ⟨dx, q1, t, few, ob, x, f, l⟩ := h1.ex
  obtain ⟨dy, q2, t2, few2, ob2, y, g, l2⟩ := (h2.of fun n => (e n).symm).ex
  exact go_eqM (El := NoX) E.oe E.run hr passA x.o y.o E.nf ⟨a, b, _, _, q1, t, few, ob, q2, t2, few2, ob2, rfl, x, y, _, rfl, by rw [decide_eq_true (Form.unique f g)]; exact q⟩ hj
end
namespace Lt
/-- k items of a row lie below v -/
def Below (ns : List Int) (v : Int) (k : Nat) : Prop := k ≤ ns.length ∧ (∀ i x, i < k → ns[i]? = some x → x < v) ∧ ∀ i x, k ≤ i → ns[i]? = some x → v ≤ x
/-- the member told by the least form -/
theorem Form.at_least {S : Int → Prop} {q n : Int} {few : List Rn} {k : Nat} (h : Form S q few) (ne : few ≠ []) (b : Below (few.map (·.1)) (n % q + 1) k) :
    ∃ m : Int, (((0 < k ∧ n % q ≤ (few.getD (k - 1) (0, 0)).2) ∨ n % q + q ≤ (few.getD (few.length - 1) (0, 0)).2) → m = n) ∧
      (¬ ((0 < k ∧ n % q ≤ (few.getD (k - 1) (0, 0)).2) ∨ n % q + q ≤ (few.getD (few.length - 1) (0, 0)).2) → m = (if k < few.length then n - n % q + (few.getD k (0, 0)).1 else n - n % q + q + (few.getD 0 (0, 0)).1)) ∧
      S m ∧ n ≤ m ∧ ∀ j, n ≤ j → j < m → ¬ S j := by
  have q0 := h.pos
  have hl : 0 < few.length := List.length_pos_iff.mpr ne
  obtain ⟨kl, lo, hi⟩ := b
  rw [List.length_map] at kl
  have l0 : 0 ≤ n % q := Int.emod_nonneg _ (by omega)
  have l1 : n % q < q := Int.emod_lt_of_pos _ q0
  have nq : n = n % q + q * (n / q) := (Int.emod_add_mul_ediv n q).symm
  have lo' : ∀ i, i < k → (few.getD i (0, 0)).1 ≤ n % q := fun i hi' => by
    have g := (getD_mem (d := ((0, 0) : Rn)) (show i < few.length by omega)).2
    have := lo i (few.getD i (0, 0)).1 hi' (by rw [List.getElem?_map, g]; rfl)
    omega
  have hi2 : ∀ i, k ≤ i → i < few.length → n % q < (few.getD i (0, 0)).1 := fun i h1 h2 => by
    have g := (getD_mem (d := ((0, 0) : Rn)) h2).2
    have := hi i (few.getD i (0, 0)).1 h1 (by rw [List.getElem?_map, g]; rfl)
    omega
  have per : ∀ j, S j ↔ S (j - q * (n / q)) := fun j => by
    have := h.per.mul (-(n / q)) j
    rw [show j + q * -(n / q) = j - q * (n / q) by rw [Int.mul_neg]; rfl] at this
    exact this.symm
  rcases h.runs with ⟨a, e⟩ | ⟨nf, tl⟩
  · refine ⟨n, fun _ => rfl, fun z => absurd ?_ z, a n, Int.le_refl _, fun j h1 h2 => by omega⟩
    subst e
    have q1 : q = 1 := by
      have := h.least 1 (by omega) (fun n => ⟨fun _ => a _, fun _ => a _⟩)
      omega
    subst q1
    have k1 : 0 < k := by
      rcases Nat.eq_zero_or_pos k with z | z
      · have := hi2 0 (by omega) (by simp)
        simp at this
      · exact z
    have kk : k = 1 := by simp at kl; omega
    subst kk
    left
    simp
  · have pos : ∀ i, i < few.length → few.getD i (0, 0) ∈ few := fun i hi' => (getD_mem hi').1
    have apt : ∀ i j, i < j → j < few.length → (few.getD i (0, 0)).2 + 1 < (few.getD j (0, 0)).1 := fun i j hij hj => by
      have := List.pairwise_iff_getElem.mp nf.ap i j (by omega) hj hij
      rw [List.getD_eq_getElem?_getD, List.getD_eq_getElem?_getD, List.getElem?_eq_getElem (by omega), List.getElem?_eq_getElem hj]
      exact this
    by_cases c : (0 < k ∧ n % q ≤ (few.getD (k - 1) (0, 0)).2) ∨ n % q + q ≤ (few.getD (few.length - 1) (0, 0)).2
    · refine ⟨n, fun _ => rfl, fun z => absurd c z, ?_, Int.le_refl _, fun j h1 h2 => by omega⟩
      rw [per n, show n - q * (n / q) = n % q by omega, ← tl]
      rcases c with ⟨k0, c⟩ | c
      · exact ⟨_, pos (k - 1) (by omega), 0, by rw [Int.mul_zero]; have := lo' (k - 1) (by omega); omega, by rw [Int.mul_zero]; omega⟩
      · have w := nf.wd _ (pos (few.length - 1) (by omega))
        exact ⟨_, pos (few.length - 1) (by omega), 1, by rw [Int.mul_one]; omega, by rw [Int.mul_one]; omega⟩
    · refine ⟨_, fun z => absurd z c, fun _ => rfl, ?_⟩
      -- none between
      have none : ∀ l : Int, n % q ≤ l → l < (if k < few.length then (few.getD k (0, 0)).1 else q + (few.getD 0 (0, 0)).1) → ¬ In q few l := by
        rintro l h1 h2 ⟨r, hr, z, z1, z2⟩
        have wr := nf.wd r hr
        have cr := nf.cl r hr
        have le := nf.le r hr
        obtain ⟨i, hi', er⟩ : ∃ i, i < few.length ∧ few.getD i (0, 0) = r := by
          obtain ⟨i, hi', er⟩ := List.getElem_of_mem hr
          exact ⟨i, hi', by rw [List.getD_eq_getElem?_getD, List.getElem?_eq_getElem hi', er]; rfl⟩
        have w0 := nf.wd _ (pos 0 hl)
        have c0 := cr _ (pos 0 hl)
        have i0 : (few.getD 0 (0, 0)).1 ≤ r.1 := by
          rcases Nat.eq_zero_or_pos i with z | z
          · subst z
            rw [er]
            exact Int.le_refl _
          · have := apt 0 i z hi'
            have := nf.le _ (pos 0 hl)
            rw [er] at *
            omega
        have lastr : r.2 ≤ (few.getD (few.length - 1) (0, 0)).2 ∧ (i < few.length - 1 → r.2 < q) := by
          have wl := nf.wd _ (pos (few.length - 1) (by omega))
          have ll := nf.le _ (pos (few.length - 1) (by omega))
          rcases Nat.lt_or_ge i (few.length - 1) with z | z
          · have := apt i (few.length - 1) z (by omega)
            rw [er] at this
            exact ⟨by omega, fun _ => by omega⟩
          · have : i = few.length - 1 := by omega
            subst this
            rw [er]
            exact ⟨Int.le_refl _, fun y => by omega⟩
        have bk : k < few.length → (few.getD k (0, 0)).1 < q := fun y => by have := nf.wd _ (pos k y); omega
        have hk1 : ∀ (_ : 0 < k), (few.getD (k - 1) (0, 0)).2 < n % q := fun y => by
          have : ¬ n % q ≤ (few.getD (k - 1) (0, 0)).2 := fun x => c (.inl ⟨y, x⟩)
          omega
        have hL : (few.getD (few.length - 1) (0, 0)).2 < n % q + q := by
          have : ¬ n % q + q ≤ (few.getD (few.length - 1) (0, 0)).2 := fun x => c (.inr x)
          omega
        have ri : r.1 ≤ n % q → r.2 < n % q := fun y => by
          have ik : i < k := by
            rcases Nat.lt_or_ge i k with x | x
            · exact x
            · have := hi2 i x hi'
              rw [er] at this
              omega
          have h3 := hk1 (by omega)
          rcases Nat.lt_or_ge i (k - 1) with x | x
          · have h4 := apt i (k - 1) x (by omega)
            have h5 := nf.le _ (pos (k - 1) (by omega))
            rw [er] at h4
            omega
          · have : i = k - 1 := by omega
            subst this
            rw [er] at h3
            exact h3
        have rk : n % q < r.1 → (if k < few.length then (few.getD k (0, 0)).1 else q + (few.getD 0 (0, 0)).1) ≤ r.1 ∨ ¬ k < few.length := fun y => by
          have ik : k ≤ i := by
            rcases Nat.lt_or_ge i k with x | x
            · have := lo' i x
              rw [er] at this
              omega
            · exact x
          left
          rw [if_pos (by omega)]
          rcases Nat.lt_or_ge k i with x | x
          · have := apt k i x hi'
            have := nf.le _ (pos k (by omega))
            rw [er] at *
            omega
          · have : k = i := by omega
            subst this
            rw [er]
            exact Int.le_refl _
        have nk : ¬ k < few.length → r.1 ≤ n % q := fun y => by
          have := lo' i (by omega)
          rw [er] at this
          exact this
        by_cases kc : k < few.length
        · rw [if_pos kc] at h2 rk
          have := bk kc
          rcases rnd (z := z) q0 with ⟨-, y⟩ | ⟨-, y⟩ | ⟨-, y⟩ | ⟨-, y⟩ | ⟨-, y⟩ <;> omega
        · rw [if_neg kc] at h2
          have := nk kc
          rcases rnd (z := z) q0 with ⟨-, y⟩ | ⟨-, y⟩ | ⟨-, y⟩ | ⟨-, y⟩ | ⟨-, y⟩ <;> omega
      have fact : n - n % q + (if k < few.length then (few.getD k (0, 0)).1 else q + (few.getD 0 (0, 0)).1) = if k < few.length then n - n % q + (few.getD k (0, 0)).1 else n - n % q + q + (few.getD 0 (0, 0)).1 := by
        split <;> omega
      rw [← fact]
      refine ⟨?_, ?_, fun j h1 h2 => ?_⟩
      · rw [per, ← tl]
        have e : n - n % q + (if k < few.length then (few.getD k (0, 0)).1 else q + (few.getD 0 (0, 0)).1) - q * (n / q) = (if k < few.length then (few.getD k (0, 0)).1 else q + (few.getD 0 (0, 0)).1) := by generalize (if k < few.length then (few.getD k (0, 0)).1 else q + (few.getD 0 (0, 0)).1) = y; omega
        rw [e]
        split
        · rename_i kc
          exact ⟨_, pos k kc, 0, by rw [Int.mul_zero]; omega, by rw [Int.mul_zero]; have := nf.le _ (pos k kc); omega⟩
        · have := nf.le _ (pos 0 hl)
          exact ⟨_, pos 0 hl, -1, by rw [Int.mul_neg, Int.mul_one]; omega, by rw [Int.mul_neg, Int.mul_one]; omega⟩
      · split
        · rename_i kc
          have := hi2 k (Nat.le_refl _) kc
          omega
        · have := nf.wd _ (pos 0 hl)
          omega
      · rw [per, ← tl]
        exact none _ (by omega) (by omega)
end Lt
section
open Lt
variable {P : Program} {w : World} {K : PySem.W.Frag} {mg : Str → Option Value} {base : Heap} {C : Addr}
theorem srt_le {ns : List Int} (h : ns.Pairwise (· ≤ ·)) {i j : Nat} (hij : i ≤ j) {x y : Int} (hx : ns[i]? = some x) (hy : ns[j]? = some y) : x ≤ y := by
  obtain ⟨hi, rfl⟩ := List.getElem?_eq_some_iff.mp hx
  obtain ⟨hj, rfl⟩ := List.getElem?_eq_some_iff.mp hy
  rcases Nat.lt_or_ge i j with z | z
  · exact List.pairwise_iff_getElem.mp h i j hi hj z
  · obtain rfl : i = j := by omega
    exact Int.le_refl _
def spPlace : SpL := fun vs L Q _ => ∃ (r : Addr) (ns : List Int) (v : Int), vs = [.ref r, .int v] ∧ (r, HO.lst (ns.map V.int)) ∈ L ∧ ns.length ≤ 1000000 ∧ ns.Pairwise (· ≤ ·) ∧ ∀ k : Nat, Below ns v k → Q (.int k) L
theorem fn_place_among (B : Bi mg) (F : Df K mg "place_among" s_place_among) : Fn P w K mg base CX0 "place_among" 1 spPlace := by
  refine fn_plain F sc_place_among (fun _ _ _ _ _ _ us hl => match us, hl with | [_, _], _ => rfl) (by decide) (by tm_at "g_len") ?_
  intro X f cdv A outer s H E0 L vs Q E hX nd hr h
  subst hX
  obtain ⟨r, ns, v, rfl, mr, hl, srt, q⟩ := h
  show GSs _ (defBody s_place_among) (bodyD Q) [("row", some (.ref r)), ("value", some (.int v)), ("low", none), ("high", none), ("middle", none)] L
  refine gss_cons ?_
  tm_at "g"
  rw [List.length_map]
  refine GS.cut (fun θ M => ∃ (k : Nat) (u : Option V), θ = ([("row", some (.ref r)), ("value", some (.int v)), ("low", some (.int k)), ("high", some (.int k)), ("middle", u)] : En) ∧ Sub L M ∧ Below ns v k) ?_ ?_
  · refine gs_while (fun n θ M => ∃ (lo hi : Nat) (u : Option V), θ = ([("row", some (.ref r)), ("value", some (.int v)), ("low", some (.int lo)), ("high", some (.int hi)), ("middle", u)] : En) ∧ Sub L M ∧ n = hi - lo ∧ lo ≤ hi ∧ hi ≤ ns.length ∧ (∀ i x, i < lo → ns[i]? = some x → x < v) ∧ ∀ i x, hi ≤ i → ns[i]? = some x → v ≤ x) ns.length ⟨0, ns.length, none, rfl, Sub.refl, rfl, Nat.zero_le _, Nat.le_refl _, fun i x h => by omega, fun i x h e => by
      have := (List.getElem?_eq_some_iff.mp e).1
      omega⟩ ?_
    rintro n θ M ⟨lo, hi, u, rfl, sb, rfl, lh, hn, h1, h2⟩
    refine GT.sub sb ?_
    tm_at "g"
    refine ite_d (fun z => ?_) (fun z => ?_)
    · tm_at "g"
      refine go_divS (by decide) (by decide) ?_
      obtain ⟨m, em⟩ : ∃ m : Nat, ((lo : Int) + (hi : Int)) / 2 = (m : Int) := ⟨(lo + hi) / 2, by omega⟩
      rw [em]
      have ml : m < ns.length := by omega
      have gm : ns[m]? = some (ns.getD m 0) := by rw [List.getD_eq_getElem?_getD, List.getElem?_eq_getElem ml]; rfl
      tm_at "g"
      refine gi_lst mr (at_ints ml) ?_
      tm_at "g"
      refine ite_d (fun y => ?_) (fun y => ?_)
      · tm_at "g"
        exact ⟨hi - (m + 1), by omega, m + 1, hi, _, rfl, Sub.refl, rfl, by omega, hn, fun i x hi' e => by
          have := srt_le srt (show i ≤ m by omega) e gm
          omega, h2⟩
      · tm_at "g"
        exact ⟨m - lo, by omega, lo, m, _, rfl, Sub.refl, rfl, by omega, by omega, h1, fun i x hi' e => by
          have := srt_le srt hi' gm e
          omega⟩
    · obtain rfl : lo = hi := by omega
      exact ⟨lo, u, rfl, Sub.refl, hn, h1, h2⟩
  · rintro θ M ⟨k, u, rfl, sb, bl⟩
    refine GSs.sub sb ?_
    tm_at "g"
    exact ⟨_, Sub.refl, q k bl⟩
end
section
open Lt
variable {P : Program} {w : World} {K : PySem.W.Frag} {mg : Str → Option Value} {base : Heap} {C : Addr}
theorem fn_need_integer (F : Df K mg "need_integer" s_need_integer) (D1 : Fn P w K mg base CX0 "is_whole" 1 spWholeI) : Fn P w K mg base CX0 "need_integer" 2 spInteger := by
  refine fn_plain F sc_need_integer (fun _ _ _ _ _ _ us hl => match us, hl with | [_], _ => rfl) (by decide) (by tm_at "g_len") ?_
  intro X f cdv A outer s H E0 L vs Q E hX nd hr h
  subst hX
  obtain ⟨n, rfl, q⟩ := h
  show GSs _ (defBody s_need_integer) (bodyD Q) [("value", some (.int n))] L
  refine gss_cons ?_
  tm_at "g"
  refine ge_call (El := NoX) D1 hr passA ?_
  tm_at "g"
  refine ⟨n, rfl, ?_⟩
  tm_at "g"
  exact ⟨_, Sub.refl, q⟩
theorem Form.begins {S : Int → Prop} {q : Int} {few : List Rn} (h : Form S q few) : (few.map (·.1)).Pairwise (· ≤ ·) := by
  rcases h.runs with ⟨-, e⟩ | ⟨nf, -⟩
  · subst e
    simp
  · rw [List.pairwise_map]
    exact nf.lt.imp fun h => Int.le_of_lt h
theorem at_prVn {few : List Pr2} {i : Nat} {j : Int} (h : i < few.length) (e : j = (i : Int)) : ∃ x, few[i]? = some x ∧ (few.map (·.2)).getD i (0, 0) = x.2 ∧ x ∈ few ∧ atI (prV few) j = some (.ref x.1) := by
  subst e
  refine ⟨few[i], List.getElem?_eq_getElem h, ?_, List.getElem_mem h, atI_nat ?_⟩
  · rw [List.getD_eq_getElem?_getD, List.getElem?_map, List.getElem?_eq_getElem h]
    rfl
  · rw [show prV few = few.map fun e => V.ref e.1 from rfl, List.getElem?_map, List.getElem?_eq_getElem h]
    rfl
theorem at_prVl {few : List Pr2} (h : few ≠ []) : ∃ x, few[few.length - 1]? = some x ∧ (few.map (·.2)).getD ((few.map (·.2)).length - 1) (0, 0) = x.2 ∧ x ∈ few ∧ atI (prV few) (-1) = some (.ref x.1) := by
  have hl : 0 < few.length := List.length_pos_iff.mpr h
  have h1 : few.length - 1 < few.length := by omega
  refine ⟨few[few.length - 1], List.getElem?_eq_getElem h1, ?_, List.getElem_mem h1, ?_⟩
  · rw [List.length_map, List.getD_eq_getElem?_getD, List.getElem?_map, List.getElem?_eq_getElem h1]
    rfl
  · unfold atI ixN
    rw [if_neg (by decide), if_pos (by rw [prV_len]; omega)]
    show (prV few)[((prV few).length + -1 : Int).toNat]? = _
    rw [prV_len, show ((few.length : Int) + -1).toNat = few.length - 1 by omega, show prV few = few.map fun e => V.ref e.1 from rfl, List.getElem?_map, List.getElem?_eq_getElem h1]
    rfl
/-- at_least -/
def spAtLeast (K : PySem.W.Frag) : SpL := fun vs L Q _ => ∃ (a C dx : Addr) (q n : Int) (t : Addr) (few : List Pr2) (ob : Addr) (S : Int → Prop), vs = [.ref a, .int n] ∧ LotA K C ∧ LotAt C a dx q t few ob L ∧ Form S q (few.map (·.2)) ∧ few ≠ [] ∧ few.length ≤ 10000 ∧ ∀ m : Int, S m → n ≤ m → (∀ j, n ≤ j → j < m → ¬ S j) → Q (.int m) L
theorem body_Lot_at_least (B : Bi mg) (D1 : Fn P w K mg base CX0 "need_integer" 2 spInteger) (D2 : Fn P w K mg base CX0 "place_among" 1 spPlace) : BodyOf P w K mg base N_Lot_at_least "Lot.at_least" s_Lot_at_least 2 (spAtLeast K) := by
  intro X f cdv A outer s H E0 L vs Q E hX nd hr h
  subst hX
  obtain ⟨a, C, dx, q', n, t, few, ob, S, rfl, ⟨c, n1, n2, n3, n4⟩, at1, frm, ne, hl, q⟩ := h
  have mo := at1.o
  have mt := at1.t
  have mb := at1.ob
  have q0 := frm.pos
  show GSs _ (defBody s_Lot_at_least) (bodyD Q) [("self", some (.ref a)), ("n", some (.int n)), ("left", none), ("at", none)] L
  refine gss_cons ?_
  tm_at "g"
  refine ge_call (El := NoX) D1 hr passA ?_
  tm_at "g"
  refine ⟨n, rfl, ?_⟩
  tm_at "g"
  have l0 : 0 < few.length := List.length_pos_iff.mpr ne
  rw [prV_len]
  refine ite_d (fun z => absurd z (by omega)) fun _ => ?_
  tm_at "g"
  refine go_mod q0 ?_
  tm_at "g"
  refine ge_call (El := NoX) D2 hr passA ?_
  tm_at "g"
  have bg := Form.begins frm
  rw [List.map_map] at bg
  refine ⟨ob, few.map fun e => e.2.1, n % q' + 1, rfl, mb, by rw [List.length_map]; omega, bg, fun k bk => ?_⟩
  obtain ⟨m, m1, m2, m3, m4, m5⟩ := Form.at_least (n := n) (k := k) frm (by simpa using ne) (by rw [List.map_map]; exact bk)
  have kl : k ≤ few.length := by have := bk.1; rwa [List.length_map] at this
  obtain ⟨xl, gl, el, xm, al⟩ := at_prVl ne
  have pl := at1.ps xl xm
  rw [el] at m1 m2
  tm_at "g"
  have two : (0 < k ∧ ∃ x, (few.map (·.2)).getD (k - 1) (0, 0) = x.2 ∧ x ∈ few ∧ atI (prV few) ((k : Int) - 1) = some (.ref x.1)) ∨ k = 0 := by
    rcases Nat.eq_zero_or_pos k with z | z
    · exact .inr z
    · obtain ⟨x, gx, ex, xmem, ax⟩ := at_prVn (few := few) (i := k - 1) (j := (k : Int) - 1) (by omega) (by omega)
      exact .inl ⟨z, x, ex, xmem, ax⟩
  have fin : (¬ ((0 < k ∧ n % q' ≤ ((few.map (·.2)).getD (k - 1) (0, 0)).2) ∨ n % q' + q' ≤ xl.2.2)) → (∃ x, (if k < few.length then few[k]? = some x ∧ m = n - n % q' + x.2.1 else few[0]? = some x ∧ m = n - n % q' + q' + x.2.1)) := fun c => by
    have e := m2 c
    rw [List.length_map] at e
    by_cases kc : k < few.length
    · rw [if_pos kc] at e
      obtain ⟨x, gx, ex, -⟩ := at_prVn (few := few) (i := k) kc rfl
      rw [ex] at e
      exact ⟨x, by rw [if_pos kc]; exact ⟨gx, e⟩⟩
    · rw [if_neg kc] at e
      obtain ⟨x, gx, ex, -⟩ := at_prVn (few := few) (i := 0) l0 rfl
      rw [ex] at e
      exact ⟨x, by rw [if_neg kc]; exact ⟨gx, e⟩⟩
  refine ite_b (fun k0 => ?_) (fun k0 => ?_)
  · replace k0 := of_decide_eq_true k0
    obtain ⟨-, x, ex, xmem, ax⟩ := two.resolve_right (by omega)
    rw [ex] at m1 m2 fin
    have px := at1.ps x xmem
    tm_at "g"
    refine gi_tup mt ax ?_
    tm_at "g"
    refine ite_d (fun c1 => ?_) (fun c1 => ?_)
    · tm_at "g"
      refine ⟨_, Sub.refl, ?_⟩
      have e := m1 (.inl ⟨by omega, c1⟩)
      rw [← e]
      exact q m m3 m4 m5
    tm_at "g"
    refine gi_tup mt al ?_
    tm_at "g"
    refine ite_d (fun c2 => ?_) (fun c2 => ?_)
    · tm_at "g"
      refine ⟨_, Sub.refl, ?_⟩
      rw [← m1 (.inr c2)]
      exact q m m3 m4 m5
    obtain ⟨y, ey⟩ := fin (fun z => z.elim (fun u => c1 u.2) c2)
    tm_at "g"
    rw [prV_len]
    refine ite_d (fun c3 => ?_) (fun c3 => ?_)
    · rw [if_pos (by omega)] at ey
      tm_at "g"
      refine gi_lst mb (v := .int y.2.1) (atI_nat (by rw [List.getElem?_map, List.getElem?_map, ey.1]; rfl)) ?_
      tm_at "g"
      refine ⟨_, Sub.refl, ?_⟩
      rw [← ey.2]
      exact q m m3 m4 m5
    · rw [if_neg (by omega)] at ey
      tm_at "g"
      refine gi_lst mb (v := .int y.2.1) (atI_nat (j := 0) (by rw [List.getElem?_map, List.getElem?_map, ey.1]; rfl)) ?_
      tm_at "g"
      refine ⟨_, Sub.refl, ?_⟩
      rw [← ey.2]
      exact q m m3 m4 m5
  · replace k0 := of_decide_eq_false k0
    tm_at "g"
    refine gi_tup mt al ?_
    tm_at "g"
    refine ite_d (fun c2 => ?_) (fun c2 => ?_)
    · tm_at "g"
      refine ⟨_, Sub.refl, ?_⟩
      rw [← m1 (.inr c2)]
      exact q m m3 m4 m5
    obtain ⟨y, ey⟩ := fin (fun z => z.elim (fun u => k0 (by omega)) c2)
    tm_at "g"
    rw [prV_len]
    refine ite_d (fun c3 => ?_) (fun c3 => ?_)
    · rw [if_pos (by omega)] at ey
      tm_at "g"
      refine gi_lst mb (v := .int y.2.1) (atI_nat (by rw [List.getElem?_map, List.getElem?_map, ey.1]; rfl)) ?_
      tm_at "g"
      refine ⟨_, Sub.refl, ?_⟩
      rw [← ey.2]
      exact q m m3 m4 m5
    · rw [if_neg (by omega)] at ey
      tm_at "g"
      refine gi_lst mb (v := .int y.2.1) (atI_nat (j := 0) (by rw [List.getElem?_map, List.getElem?_map, ey.1]; rfl)) ?_
      tm_at "g"
      refine ⟨_, Sub.refl, ?_⟩
      rw [← ey.2]
      exact q m m3 m4 m5
theorem run_Lot_at_least (B : Bi mg) {f : Addr} {fd : FuncData} (F : Fun K "at_least" "Lot.at_least" s_Lot_at_least f fd) (D1 : Fn P w K mg base CX0 "need_integer" 2 spInteger) (D2 : Fn P w K mg base CX0 "place_among" 1 spPlace) : RunG P w K mg base CX0 3 f argsP (toSp (spAtLeast K)) :=
  run_plain F sc_Lot_at_least argsP id id (fun _ _ r => r) (fun _ _ _ _ _ _ us hl => match us, hl with | [_, _], _ => rfl) (by decide) (by tm_at "g_len") (body_Lot_at_least B D1 D2)
end
section
open Lt
variable {P : Program} {w : World} {K : PySem.W.Frag} {mg : Str → Option Value} {base : Heap} {C : Addr}
/-- in -/
def spLotIn (K : PySem.W.Frag) (C : Addr) : SpL := fun vs L Q _ => ∃ (a dx : Addr) (q n : Int) (t : Addr) (few : List Pr2) (ob : Addr) (S : Int → Bool), vs = [.ref a, .int n] ∧ LotA K C ∧ LotAt C a dx q t few ob L ∧ Form (fun n => S n = true) q (few.map (·.2)) ∧ few.length ≤ 10000 ∧ Q (.bl (S n)) L
theorem run_Lot_contains (B : Bi mg) {f g : Addr} {fd : FuncData} (F : Fun K "__contains__" "Lot.__contains__" s_Lot_contains f fd) (D1 : Fn P w K mg base CX0 "is_whole" 1 spWholeI) (hm : Meth K C "at_least" g) (R : RunG P w K mg base CX0 3 g argsP (toSp (spAtLeast K))) :
    RunG P w K mg base CX0 4 f argsP (toSp (spLotIn K C)) := by
  refine run_plain F sc_Lot_contains argsP id id (fun _ _ r => r) (fun _ _ _ _ _ _ us hl => match us, hl with | [_, _], _ => rfl) (by decide) (by tm_at "g_len") ?_
  intro X f cdv A outer s H E0 L vs Q E hX nd hr h
  subst hX
  obtain ⟨a, dx, q', n, t, few, ob, S, rfl, la, at1, frm, hl, q⟩ := h
  obtain ⟨c, n1, n2, n3, n4⟩ := id la
  have mo := at1.o
  have mt := at1.t
  show GSs _ (defBody s_Lot_contains) (bodyD Q) [("self", some (.ref a)), ("value", some (.int n))] L
  refine gss_cons ?_
  tm_at "g"
  refine ge_call (El := NoX) D1 hr passA ?_
  tm_at "g"
  refine ⟨n, rfl, ?_⟩
  tm_at "g"
  rw [prV_len]
  refine ite_d (fun z => ?_) (fun z => ?_)
  · have ne : few ≠ [] := fun y => by rw [y] at z; simp at z
    tm_at "g"
    refine ge_meth (El := NoX) R hm c hr passA ?_
    tm_at "g"
    refine ⟨a, dx, _, rfl, mo, rfl, ?_⟩
    tm_at "g"
    refine ⟨a, C, dx, q', n, t, few, ob, _, rfl, la, at1, frm, ne, hl, fun m m3 m4 m5 => ?_⟩
    tm_at "g"
    refine ⟨_, Sub.refl, ?_⟩
    have e : decide (m = n) = S n := by
      cases hs : S n with
      | true =>
        by_cases y : m = n
        · exact decide_eq_true y
        · exact absurd hs (m5 n (Int.le_refl _) (by omega))
      | false =>
        refine decide_eq_false fun y => ?_
        rw [y, hs] at m3
        cases m3
    rw [e]
    exact q
  · have e : few = [] := by
      cases few with
      | nil => rfl
      | cons a b => exact absurd (by simp) z
    refine ⟨_, Sub.refl, ?_⟩
    have hs : S n = false := by
      rcases frm.runs with ⟨-, y⟩ | ⟨-, y⟩
      · rw [e] at y
        cases y
      · cases hs : S n with
        | false => rfl
        | true =>
          obtain ⟨r, hr', -⟩ := (y n).mpr hs
          rw [e] at hr'
          cases hr'
    rw [hs] at q
    exact q
end
def whole : V → Bool
  | .int _ => true
  | _ => false
theorem kindWhole {L : Lg} {v : V} {T : String} (k : Knd L v T) : ∃ b1 b2, kitB T "int" = some b1 ∧ kitB T "bool" = some b2 ∧ (b1 && !b2) = whole v := by
  cases k with
  | non => exact ⟨false, false, kb_non_int, by decide +kernel, rfl⟩
  | bl => exact ⟨true, true, kb_bool_int, kb_bool_bool, rfl⟩
  | int => exact ⟨true, false, kb_int_int, kb_int_bool, rfl⟩
  | str => exact ⟨false, false, kb_str_int, by decide +kernel, rfl⟩
  | lst m => exact ⟨false, false, kb_list_int, by decide +kernel, rfl⟩
  | tup m => exact ⟨false, false, kb_tuple_int, by decide +kernel, rfl⟩
  | dct m => exact ⟨false, false, kb_dict_int, by decide +kernel, rfl⟩
theorem whole_int {v : V} (h : whole v = true) : ∃ i, v = .int i := by
  cases v with
  | int i => exact ⟨i, rfl⟩
  | _ => cases h
def spIsWhole : SpL := fun vs L Q _ => ∃ v T, vs = [v] ∧ Knd L v T ∧ Q (.bl (whole v)) L
def tells (C : Addr) (n : Str) (v : V) (E : XL) (L : Lg) : Prop := ∀ d, E (.ref C) (some d) ((d, .xd [(n, v)]) :: L)
/-- what a wheel's part must be -/
def okPart (least : Int) : V → Bool
  | .int i => decide (least ≤ i) && decide (i ≤ 1000000000000)
  | _ => false
def spNeedPart (C : Addr) : SpL := fun vs L Q E => ∃ (v : V) (T : String) (least : Int) (part : Str), vs = [v, .int least, .str part] ∧ Knd L v T ∧ (okPart least v = true → Q .non L) ∧ (okPart least v = false → tells C "part" (.str part) E L)
abbrev wO (C dx : Addr) (p b h : V) : HO := .ins C dx [("period", p), ("back", b), ("ahead", h)]
/-- what a wheel's class must have for its fields -/
structure WhA (K : PySem.W.Frag) (C : Addr) : Prop where
  c : L2.Cls K C
  n1 : NoAttr K C "period"
  n2 : NoAttr K C "back"
  n3 : NoAttr K C "ahead"
/-- a wheel's parts are kept, or the first wrong one is told -/
def spWheelInit (K : PySem.W.Frag) (Ce : Addr) : SpL := fun vs L Q E => ∃ (a C dx : Addr) (p b h : V) (Tp Tb Th : String) (M : Lg), vs = [.ref a, p, b, h] ∧ (a, HO.ins C dx []) ∈ L ∧ WhA K C ∧ Knd L p Tp ∧ Knd L b Tb ∧ Knd L h Th ∧ Swap a (wO C dx p b h) L M ∧
  (okPart 2 p = true → okPart 0 b = true → okPart 0 h = true → Q .non M) ∧ (okPart 2 p = false → tells Ce "part" (.str "period") E L) ∧ (okPart 2 p = true → okPart 0 b = false → tells Ce "part" (.str "back") E L) ∧
  (okPart 2 p = true → okPart 0 b = true → okPart 0 h = false → tells Ce "part" (.str "ahead") E L)
section
variable {P : Program} {w : World} {K : PySem.W.Frag} {mg : Str → Option Value} {base : Heap} {C D Ce : Addr}
theorem body_is_whole (B : Bi mg) : BodyOf P w K mg base N_is_whole "is_whole" s_is_whole 0 spIsWhole := by
  intro X f cdv A outer s H E0 L vs Q E hX nd hr h
  subst hX
  obtain ⟨v, T, rfl, k, q⟩ := h
  obtain ⟨b1, b2, h1, h2, h3⟩ := kindWhole k
  show GSs _ (defBody s_is_whole) (bodyD Q) [("value", some v)] L
  refine gss_cons ?_
  tm_at "g"
  refine gc_isK k h1 ?_
  tm_at "g"
  refine ite_b (fun z => ?_) (fun z => ?_)
  · tm_at "g"
    refine gc_isK k h2 ?_
    tm_at "g"
    rw [z] at h3
    rw [← h3] at q
    exact ⟨_, Sub.refl, q⟩
  · rw [z] at h3
    rw [← h3] at q
    exact ⟨_, Sub.refl, q⟩
theorem fn_is_whole (B : Bi mg) (F : Df K mg "is_whole" s_is_whole) : Fn P w K mg base CX0 "is_whole" 1 spIsWhole :=
  fn_plain F sc_is_whole (fun _ _ _ _ _ _ us hl => match us, hl with | [_], _ => rfl) (by decide) (by tm_at "g_len") (body_is_whole B)
theorem fn_need_part (F : Df K mg "need_part" s_need_part) (D1 : Fn P w K mg base CX0 "is_whole" 1 spIsWhole) (T : ErrT P w K mg base "BadWheel" C ["part"]) {u : Value} (hM : mg "MOST" = some u) (rM : RelV (.int 1000000000000) u) : Fn P w K mg base (L2.CX P w) "need_part" 3 (spNeedPart C) := by
  refine fn_raise F sc_need_part (fun _ _ _ _ _ _ us hl => match us, hl with | [_, _, _], _ => rfl) (by decide) (by tm_at "g_len") ?_
  intro X f cdv A outer s H E0 L vs Q E hX nd hr tk h
  subst hX
  obtain ⟨v, T0, least, part, rfl, k, q1, q2⟩ := h
  show GSs _ (defBody s_need_part) (bodyD Q) [("value", some v), ("least", some (.int least)), ("part", some (.str part))] L
  refine gss_cons ?_
  tm_at "g"
  refine ge_call (El := NoX) D1 hr passA ?_
  tm_at "g"
  refine ⟨v, T0, rfl, k, ?_⟩
  cases hw : whole v with
  | true =>
    obtain ⟨i, rfl⟩ := whole_int hw
    tm_at "g"
    refine ite_d (fun z1 => ?_) (fun z1 => ?_)
    · tm_at "g"
      refine gv_con hM rM ?_
      tm_at "g"
      refine ite_n (fun z2 => ?_) (fun z2 => ?_)
      · tm_at "g"
        refine gs_raise tk (gmk_err T.ck hr ?_ (by decide))
        tm_at "g"
        exact ⟨rfl, fun d => ⟨_, Sub.refl, q2 (by show (decide _ && decide _) = _; rw [decide_eq_true z1, decide_eq_false z2]; rfl) d⟩⟩
      · tm_at "g"
        exact ⟨_, Sub.refl, q1 (by show (decide _ && decide _) = _; rw [decide_eq_true z1, decide_eq_true z2]; rfl)⟩
    · tm_at "g"
      refine gs_raise tk (gmk_err T.ck hr ?_ (by decide))
      tm_at "g"
      exact ⟨rfl, fun d => ⟨_, Sub.refl, q2 (by show (decide _ && decide _) = _; rw [decide_eq_false z1]; rfl) d⟩⟩
  | false =>
    tm_at "g"
    refine gs_raise tk (gmk_err T.ck hr ?_ (by decide))
    tm_at "g"
    exact ⟨rfl, fun d => ⟨_, Sub.refl, q2 (by cases v <;> first | rfl | cases hw) d⟩⟩
theorem run_Wheel_initK {args : List Value → Args} (pmV : List V → List V) (pmU : List Value → List Value) (hpm : ∀ vs us, Vals vs us → Vals (pmV vs) (pmU us)) {f : Addr} {fd : FuncData} (F : Fun K "__init__" "Wheel.__init__" s_Wheel_init f fd) (D1 : Fn P w K mg base (L2.CX P w) "need_part" 3 (spNeedPart Ce))
    (hb : ∀ (kV doc pm : Value) (an : Option Addr) (cdv ct : Value) (us : List Value), (pmU us).length = 4 → bindArgs (PySem.W.fnOf "__init__" "Wheel.__init__" (defArgs s_Wheel_init) (defBody s_Wheel_init) (defScope s_Wheel_init) .none kV doc pm an cdv ct) (args us) = pure ((["self", "period", "back", "ahead"] : List Str).zip (pmU us))) : RunG P w K mg base (L2.CX P w) 4 f args (toSp fun vs => spWheelInit K Ce (pmV vs)) := by
  refine run_raise (sp := spWheelInit K Ce) F sc_Wheel_init args pmV pmU hpm hb (by decide) (by tm_at "g_len") ?_
  intro X f cdv A outer s H E0 L vs Q E hX nd hr tk h
  subst hX
  obtain ⟨a, C, dx, p, b, h, Tp, Tb, Th, M, rfl, ma, wa, kp, kb, kh, sw, q, e1, e2, e3⟩ := h
  obtain ⟨lf, rfl, l1, l2⟩ := sw.lens
  show GSs _ (defBody s_Wheel_init) (bodyD Q) [("self", some (.ref a)), ("period", some p), ("back", some b), ("ahead", some h)] L
  refine gss_cons ?_
  tm_at "g"
  refine ge_callX D1 hr tk ?_
  tm_at "g"
  refine ⟨p, Tp, 2, "period", rfl, kp, fun z1 => ?_, fun z d => ⟨_, Sub.refl, e1 z d⟩⟩
  tm_at "g"
  refine ge_callX D1 hr tk ?_
  tm_at "g"
  refine ⟨b, Tb, 0, "back", rfl, kb, fun z2 => ?_, fun z d => ⟨_, Sub.refl, e2 z1 z d⟩⟩
  tm_at "g"
  refine ge_callX D1 hr tk ?_
  tm_at "g"
  refine ⟨h, Th, 0, "ahead", rfl, kh, fun z3 => ?_, fun z d => ⟨_, Sub.refl, e3 z1 z2 z d⟩⟩
  tm_at "g"
  refine ⟨a, C, dx, [], _, rfl, ma, wa.c, wa.n1, (show 0 < 1000 by decide), l1 _, ?_⟩
  tm_at "g"
  refine ⟨a, C, dx, [("period", p)], _, rfl, (l1 _).got, wa.c, wa.n2, (show 1 < 1000 by decide), l2 _ _ rfl, ?_⟩
  tm_at "g"
  refine ⟨a, C, dx, [("period", p), ("back", b)], _, rfl, (l1 _).got, wa.c, wa.n3, (show 2 < 1000 by decide), l2 _ _ rfl, ?_⟩
  tm_at "g"
  exact ⟨_, Sub.refl, q z1 z2 z3⟩
theorem run_Wheel_init {f : Addr} {fd : FuncData} (F : Fun K "__init__" "Wheel.__init__" s_Wheel_init f fd) (D1 : Fn P w K mg base (L2.CX P w) "need_part" 3 (spNeedPart Ce)) : RunG P w K mg base (L2.CX P w) 4 f argsP (toSp (spWheelInit K Ce)) :=
  run_Wheel_initK (args := argsP) id id (fun _ _ r => r) F D1 (fun _ _ _ _ _ _ us hl => match us, hl with | [_, _, _, _], _ => rfl)
end
def spEvenInit (K : PySem.W.Frag) (Ce C0 : Addr) (word : Str) : SpL := fun vs L Q E => ∃ (a dx : Addr) (p b : V) (Tp Tb : String) (M : Lg), vs = [.ref a, p, b] ∧ (a, HO.ins C0 dx []) ∈ L ∧ WhA K C0 ∧ Knd L p Tp ∧ Knd L b Tb ∧ Swap a (wO C0 dx p b (if word = "slip" then b else .int 0)) L M ∧
  (okPart 2 p = true → okPart 0 b = true → Q .non M) ∧ (okPart 2 p = false → tells Ce "part" (.str "period") E L) ∧ (okPart 2 p = true → okPart 0 b = false → tells Ce "part" (.str word) E L)
def spExactInit (K : PySem.W.Frag) (Ce C0 : Addr) : SpL := fun vs L Q E => ∃ (a dx : Addr) (p : V) (Tp : String) (M : Lg), vs = [.ref a, p] ∧ (a, HO.ins C0 dx []) ∈ L ∧ WhA K C0 ∧ Knd L p Tp ∧ Swap a (wO C0 dx p (.int 0) (.int 0)) L M ∧
  (okPart 2 p = true → Q .non M) ∧ (okPart 2 p = false → tells Ce "part" (.str "period") E L)
section
variable {P : Program} {w : World} {K : PySem.W.Frag} {mg : Str → Option Value} {base : Heap} {C D Ce : Addr}
theorem telL {C : Addr} {n : Str} {v : V} {E : XL} {L : Lg} {a : Addr × HO} (h : tells C n v E L) : tells C n v (drpE E) (a :: L) := fun d => ⟨_, Sub.cons Sub.drop, h d⟩
theorem run_Exact_init {f c cc D g C0 : Addr} {fd : FuncData} (F : SupF P K "__init__" "Exact.__init__" s_Exact_init f c cc D fd) (G : RunG P w K mg base (L2.CX P w) 4 g argsP (toSp (spWheelInit K Ce))) (T : SupM K mg C0 D "__init__" g) (args : List Value → Args) (pmV : List V → List V) (pmU : List Value → List Value) (hpm : ∀ vs us, Vals vs us → Vals (pmV vs) (pmU us))
    (hb : ∀ (kV doc pm ct : Value) (an : Option Addr) (us : List Value), (pmU us).length = 2 → bindArgs (PySem.W.fnX "__init__" "Exact.__init__" (defArgs s_Exact_init) (defBody s_Exact_init) (defScope s_Exact_init) [("__class__", cc)] .none kV doc pm an (.ref c) ct) (args us) = pure ((["self", "period"] : List Str).zip (pmU us))) :
    RunG P w K mg base (L2.CX P w) 5 f args (toSp fun vs => spExactInit K Ce C0 (pmV vs)) := by
  refine run_sup (sp := spExactInit K Ce C0) F sc_Exact_init args pmV pmU hpm hb (by tm_at "g_len") (fun vs hl => match vs, hl with | [_, _], _ => rfl) ?_
  intro X A outer s H E0 L vs Q E hX he nd hr h hH hN
  subst hX
  obtain ⟨a, dx, p, Tp, M, rfl, ma, wa, kp, sw, q, e1⟩ := h
  have tk := tk_sup (P := P) (w := w) (K := K) (mg := mg) (base := base) (N := N_Exact_init) (x := "__init__") (q := "Exact.__init__") (st := s_Exact_init) (cc := cc) (c := c) (f := f) (A := A) (outer := outer) (s := s) (H := H) he
  obtain ⟨ar, har, hself⟩ : ∃ ar, (fd.params.posonlyargs ++ fd.params.args).head? = some ar ∧ ar.arg = ("self" : Str) := by
    obtain ⟨_, _, _, _, _, _, _, _, efd, _⟩ := F.ex
    rw [efd]
    exact ⟨_, rfl, rfl⟩
  refine gas_supX (η := ([("self", some (.ref a)), ("period", some p), ("__class__", none)] : En)) (ar := ar) F T rfl rfl rfl har rfl rfl (by rw [hself]; rfl) G hr tk (by rw [hself]; exact .here) ma (fun u => ?_) (by decide) (by decide) rfl rfl rfl rfl rfl hN H hH
  tm_at "g"
  refine ⟨mem0, a, C0, dx, p, .int 0, .int 0, Tp, _, _, _, rfl, memS ma, wa, kp.sub (fun _ => memS), .int, .int, .there sw, fun z1 _ _ => ?_, fun z => telL (e1 z), fun _ z => absurd z (by decide), fun _ _ z => absurd z (by decide)⟩
  tm_at "g"
  exact ⟨_, Sub.drop, q z1⟩
theorem run_Grid_init {f c cc D g C0 : Addr} {fd : FuncData} (F : SupF P K "__init__" "Grid.__init__" s_Grid_init f c cc D fd) (G : RunG P w K mg base (L2.CX P w) 4 g argsP (toSp (spWheelInit K Ce))) (T : SupM K mg C0 D "__init__" g) (args : List Value → Args) (pmV : List V → List V) (pmU : List Value → List Value) (hpm : ∀ vs us, Vals vs us → Vals (pmV vs) (pmU us))
    (hb : ∀ (kV doc pm ct : Value) (an : Option Addr) (us : List Value), (pmU us).length = 2 → bindArgs (PySem.W.fnX "__init__" "Grid.__init__" (defArgs s_Grid_init) (defBody s_Grid_init) (defScope s_Grid_init) [("__class__", cc)] .none kV doc pm an (.ref c) ct) (args us) = pure ((["self", "period"] : List Str).zip (pmU us))) :
    RunG P w K mg base (L2.CX P w) 5 f args (toSp fun vs => spExactInit K Ce C0 (pmV vs)) := by
  refine run_sup (sp := spExactInit K Ce C0) F sc_Grid_init args pmV pmU hpm hb (by tm_at "g_len") (fun vs hl => match vs, hl with | [_, _], _ => rfl) ?_
  intro X A outer s H E0 L vs Q E hX he nd hr h hH hN
  subst hX
  obtain ⟨a, dx, p, Tp, M, rfl, ma, wa, kp, sw, q, e1⟩ := h
  have tk := tk_sup (P := P) (w := w) (K := K) (mg := mg) (base := base) (N := N_Grid_init) (x := "__init__") (q := "Grid.__init__") (st := s_Grid_init) (cc := cc) (c := c) (f := f) (A := A) (outer := outer) (s := s) (H := H) he
  obtain ⟨ar, har, hself⟩ : ∃ ar, (fd.params.posonlyargs ++ fd.params.args).head? = some ar ∧ ar.arg = ("self" : Str) := by
    obtain ⟨_, _, _, _, _, _, _, _, efd, _⟩ := F.ex
    rw [efd]
    exact ⟨_, rfl, rfl⟩
  refine gas_supX (η := ([("self", some (.ref a)), ("period", some p), ("__class__", none)] : En)) (ar := ar) F T rfl rfl rfl har rfl rfl (by rw [hself]; rfl) G hr tk (by rw [hself]; exact .here) ma (fun u => ?_) (by decide) (by decide) rfl rfl rfl rfl rfl hN H hH
  tm_at "g"
  refine ⟨mem0, a, C0, dx, p, .int 0, .int 0, Tp, _, _, _, rfl, memS ma, wa, kp.sub (fun _ => memS), .int, .int, .there sw, fun z1 _ _ => ?_, fun z => telL (e1 z), fun _ z => absurd z (by decide), fun _ _ z => absurd z (by decide)⟩
  tm_at "g"
  exact ⟨_, Sub.drop, q z1⟩
theorem run_Even_init {f c cc D g C0 : Addr} {fd : FuncData} (F : SupF P K "__init__" "Even.__init__" s_Even_init f c cc D fd) (D1 : Fn P w K mg base (L2.CX P w) "need_part" 3 (spNeedPart Ce)) (G : RunG P w K mg base (L2.CX P w) 4 g argsP (toSp (spWheelInit K Ce))) (T : SupM K mg C0 D "__init__" g) (args : List Value → Args) (pmV : List V → List V) (pmU : List Value → List Value) (hpm : ∀ vs us, Vals vs us → Vals (pmV vs) (pmU us))
    (hb : ∀ (kV doc pm ct : Value) (an : Option Addr) (us : List Value), (pmU us).length = 3 → bindArgs (PySem.W.fnX "__init__" "Even.__init__" (defArgs s_Even_init) (defBody s_Even_init) (defScope s_Even_init) [("__class__", cc)] .none kV doc pm an (.ref c) ct) (args us) = pure ((["self", "period", "slip"] : List Str).zip (pmU us))) :
    RunG P w K mg base (L2.CX P w) 5 f args (toSp fun vs => spEvenInit K Ce C0 "slip" (pmV vs)) := by
  refine run_sup (sp := spEvenInit K Ce C0 "slip") F sc_Even_init args pmV pmU hpm hb (by tm_at "g_len") (fun vs hl => match vs, hl with | [_, _, _], _ => rfl) ?_
  intro X A outer s H E0 L vs Q E hX he nd hr h hH hN
  subst hX
  obtain ⟨a, dx, p, b, Tp, Tb, M, rfl, ma, wa, kp, kb, sw, q, e1, e2⟩ := h
  have tk := tk_sup (P := P) (w := w) (K := K) (mg := mg) (base := base) (N := N_Even_init) (x := "__init__") (q := "Even.__init__") (st := s_Even_init) (cc := cc) (c := c) (f := f) (A := A) (outer := outer) (s := s) (H := H) he
  obtain ⟨ar, har, hself⟩ : ∃ ar, (fd.params.posonlyargs ++ fd.params.args).head? = some ar ∧ ar.arg = ("self" : Str) := by
    obtain ⟨_, _, _, _, _, _, _, _, efd, _⟩ := F.ex
    rw [efd]
    exact ⟨_, rfl, rfl⟩
  refine gas_stm (η := ([("self", some (.ref a)), ("period", some p), ("slip", some b), ("__class__", none)] : En)) ?_ hN H hH
  tm_at "g"
  refine ge_callX D1 hr tk ?_
  tm_at "g"
  refine ⟨p, Tp, 2, "period", rfl, kp, fun z1 => ?_, fun z d => ⟨_, Sub.refl, e1 z d⟩⟩
  refine gas_stm ?_
  tm_at "g"
  refine ge_callX D1 hr tk ?_
  tm_at "g"
  refine ⟨b, Tb, 0, "slip", rfl, kb, fun z2 => ?_, fun z d => ⟨_, Sub.refl, e2 z1 z d⟩⟩
  refine gas_supX (ar := ar) F T rfl rfl rfl har rfl rfl (by rw [hself]; rfl) G hr tk (by rw [hself]; exact .here) ma (fun u => ?_)
  tm_at "g"
  refine ⟨mem0, a, C0, dx, p, b, b, Tp, Tb, Tb, _, rfl, memS ma, wa, kp.sub (fun _ => memS), kb.sub (fun _ => memS), kb.sub (fun _ => memS), .there sw, fun _ _ _ => ?_, fun z => absurd (z1.symm.trans z) (by decide), fun _ z => absurd (z2.symm.trans z) (by decide), fun _ _ z => absurd (z2.symm.trans z) (by decide)⟩
  tm_at "g"
  exact ⟨_, Sub.drop, q z1 z2⟩
theorem run_Lagging_init {f c cc D g C0 : Addr} {fd : FuncData} (F : SupF P K "__init__" "Lagging.__init__" s_Lagging_init f c cc D fd) (D1 : Fn P w K mg base (L2.CX P w) "need_part" 3 (spNeedPart Ce)) (G : RunG P w K mg base (L2.CX P w) 4 g argsP (toSp (spWheelInit K Ce))) (T : SupM K mg C0 D "__init__" g) (args : List Value → Args) (pmV : List V → List V) (pmU : List Value → List Value) (hpm : ∀ vs us, Vals vs us → Vals (pmV vs) (pmU us))
    (hb : ∀ (kV doc pm ct : Value) (an : Option Addr) (us : List Value), (pmU us).length = 3 → bindArgs (PySem.W.fnX "__init__" "Lagging.__init__" (defArgs s_Lagging_init) (defBody s_Lagging_init) (defScope s_Lagging_init) [("__class__", cc)] .none kV doc pm an (.ref c) ct) (args us) = pure ((["self", "period", "lag"] : List Str).zip (pmU us))) :
    RunG P w K mg base (L2.CX P w) 5 f args (toSp fun vs => spEvenInit K Ce C0 "lag" (pmV vs)) := by
  refine run_sup (sp := spEvenInit K Ce C0 "lag") F sc_Lagging_init args pmV pmU hpm hb (by tm_at "g_len") (fun vs hl => match vs, hl with | [_, _, _], _ => rfl) ?_
  intro X A outer s H E0 L vs Q E hX he nd hr h hH hN
  subst hX
  obtain ⟨a, dx, p, b, Tp, Tb, M, rfl, ma, wa, kp, kb, sw, q, e1, e2⟩ := h
  have tk := tk_sup (P := P) (w := w) (K := K) (mg := mg) (base := base) (N := N_Lagging_init) (x := "__init__") (q := "Lagging.__init__") (st := s_Lagging_init) (cc := cc) (c := c) (f := f) (A := A) (outer := outer) (s := s) (H := H) he
  obtain ⟨ar, har, hself⟩ : ∃ ar, (fd.params.posonlyargs ++ fd.params.args).head? = some ar ∧ ar.arg = ("self" : Str) := by
    obtain ⟨_, _, _, _, _, _, _, _, efd, _⟩ := F.ex
    rw [efd]
    exact ⟨_, rfl, rfl⟩
  refine gas_stm (η := ([("self", some (.ref a)), ("period", some p), ("lag", some b), ("__class__", none)] : En)) ?_ hN H hH
  tm_at "g"
  refine ge_callX D1 hr tk ?_
  tm_at "g"
  refine ⟨p, Tp, 2, "period", rfl, kp, fun z1 => ?_, fun z d => ⟨_, Sub.refl, e1 z d⟩⟩
  refine gas_stm ?_
  tm_at "g"
  refine ge_callX D1 hr tk ?_
  tm_at "g"
  refine ⟨b, Tb, 0, "lag", rfl, kb, fun z2 => ?_, fun z d => ⟨_, Sub.refl, e2 z1 z d⟩⟩
  refine gas_supX (ar := ar) F T rfl rfl rfl har rfl rfl (by rw [hself]; rfl) G hr tk (by rw [hself]; exact .here) ma (fun u => ?_)
  tm_at "g"
  refine ⟨mem0, a, C0, dx, p, b, .int 0, Tp, Tb, _, _, rfl, memS ma, wa, kp.sub (fun _ => memS), kb.sub (fun _ => memS), .int, .there sw, fun _ _ _ => ?_, fun z => absurd (z1.symm.trans z) (by decide), fun _ z => absurd (z2.symm.trans z) (by decide), fun _ _ z => absurd z (by decide)⟩
  tm_at "g"
  exact ⟨_, Sub.drop, q z1 z2⟩
end
section
variable {P : Program} {w : World} {K : PySem.W.Frag} {mg : Str → Option Value} {base : Heap} {C : Addr}
/-- a class of wheels that can be made -/
structure MkF (P : Program) (w : World) (K : PySem.W.Frag) (mg : Str → Option Value) (base : Heap) (x : Str) (C f : Addr) (k : Nat) (sp : SpL) : Prop where
  g : mg x = some (.ref C)
  M : Mk K C f
  R : RunG P w K mg base (L2.CX P w) k f argsP (toSp sp)
theorem okI {l i : Int} (h0 : l ≤ i) (h1 : i ≤ 1000000000000) : okPart l (.int i) = true := by
  show (decide _ && decide _) = true
  rw [decide_eq_true h0, decide_eq_true h1]
  rfl
theorem no_bad {l i : Int} {Z : Prop} (h0 : l ≤ i) (h1 : i ≤ 1000000000000) : okPart l (.int i) = false → Z := fun z => by
  rw [okI h0 h1] at z
  cases z
end
section
open Lt
variable {P : Program} {w : World} {K : PySem.W.Frag} {mg : Str → Option Value} {base : Heap} {C D Cn CL gP : Addr}
def spAbove1 : SpL := fun vs L Q _ => ∃ n : Int, vs = [.int n] ∧ 1 ≤ n ∧ Q .non L
theorem fn_need_above1 (F : Df K mg "need_above" s_need_above) (D1 : Fn P w K mg base CX0 "is_whole" 1 spWholeI) : Fn P w K mg base CX0 "need_above" 2 spAbove1 := by
  refine fn_plain F sc_need_above (fun _ _ _ _ _ _ us hl => match us, hl with | [_], _ => rfl) (by decide) (by tm_at "g_len") ?_
  intro X f cdv A outer s H E0 L vs Q E hX nd hr h
  subst hX
  obtain ⟨n, rfl, n1, q⟩ := h
  show GSs _ (defBody s_need_above) (bodyD Q) [("value", some (.int n))] L
  refine gss_cons ?_
  tm_at "g"
  refine ge_call (El := NoX) D1 hr passA ?_
  tm_at "g"
  refine ⟨n, rfl, ?_⟩
  tm_at "g"
  refine ite_d (fun z => absurd z (by omega)) fun _ => ?_
  tm_at "g"
  exact ⟨_, Sub.refl, q⟩
theorem fn_need_wholeP (F : Df K mg "need_whole" s_need_whole) (D1 : Fn P w K mg base CX0 "is_whole" 1 spWholeI) : Fn P w K mg base CX0 "need_whole" 2 spInteger := by
  refine fn_plain F sc_need_whole (fun _ _ _ _ _ _ us hl => match us, hl with | [_], _ => rfl) (by decide) (by tm_at "g_len") ?_
  intro X f cdv A outer s H E0 L vs Q E hX nd hr h
  subst hX
  obtain ⟨n, rfl, q⟩ := h
  show GSs _ (defBody s_need_whole) (bodyD Q) [("value", some (.int n))] L
  refine gss_cons ?_
  tm_at "g"
  refine ge_call (El := NoX) D1 hr passA ?_
  tm_at "g"
  refine ⟨n, rfl, ?_⟩
  tm_at "g"
  exact ⟨_, Sub.refl, q⟩
/-- how far d is from the nearest multiple -/
def apartI (d p : Int) : Int := if p - d % p < d % p then p - d % p else d % p
def spApart : SpL := fun vs L Q _ => ∃ d p : Int, vs = [.int d, .int p] ∧ 1 ≤ p ∧ Q (.int (apartI d p)) L
theorem fn_apart (B : Bi mg) (F : Df K mg "apart" s_apart) (D1 : Fn P w K mg base CX0 "need_whole" 2 spInteger) (D2 : Fn P w K mg base CX0 "need_above" 2 spAbove1) : Fn P w K mg base CX0 "apart" 3 spApart := by
  refine fn_plain F sc_apart (fun _ _ _ _ _ _ us hl => match us, hl with | [_, _], _ => rfl) (by decide) (by tm_at "g_len") ?_
  intro X f cdv A outer s H E0 L vs Q E hX nd hr h
  subst hX
  obtain ⟨d, p, rfl, p1, q⟩ := h
  show GSs _ (defBody s_apart) (bodyD Q) [("d", some (.int d)), ("period", some (.int p)), ("gap", none)] L
  refine gss_cons ?_
  tm_at "g"
  refine ge_call (El := NoX) D1 hr passA ?_
  tm_at "g"
  refine ⟨d, rfl, ?_⟩
  tm_at "g"
  refine ge_call (El := NoX) D2 hr passA ?_
  tm_at "g"
  refine ⟨p, rfl, p1, ?_⟩
  tm_at "g"
  refine go_mod (by omega) ?_
  tm_at "g"
  exact ⟨_, Sub.refl, q⟩
def spPlay (K : PySem.W.Frag) : SpL := fun vs L Q _ => ∃ (a C dx : Addr) (p b h : Int), vs = [.ref a] ∧ (a, wO C dx (.int p) (.int b) (.int h)) ∈ L ∧ WhA K C ∧ Q (.int (b + h)) L
theorem run_Wheel_play {f : Addr} {fd : FuncData} (F : Fun K "play" "Wheel.play" s_Wheel_play f fd) : RunG P w K mg base CX0 1 f argsP (toSp (spPlay K)) := by
  refine run_plain F sc_Wheel_play argsP id id (fun _ _ r => r) (fun _ _ _ _ _ _ us hl => match us, hl with | [_], _ => rfl) (by decide) (by tm_at "g_len") ?_
  intro X f cdv A outer s H E0 L vs Q E hX nd hr h
  subst hX
  obtain ⟨a, C, dx, p, b, h, rfl, m, wa, q⟩ := h
  obtain ⟨c, n1, n2, n3⟩ := wa
  show GSs _ (defBody s_Wheel_play) (bodyD Q) [("self", some (.ref a))] L
  refine gss_cons ?_
  tm_at "g"
  exact ⟨_, Sub.refl, q⟩
def spNever (K : PySem.W.Frag) : SpL := fun vs L Q _ => ∃ (a C dx : Addr) (p b h : Int), vs = [.ref a] ∧ (a, wO C dx (.int p) (.int b) (.int h)) ∈ L ∧ WhA K C ∧ Q (.bl (decide (p ≤ 2 * (b + h) + 1))) L
theorem run_Wheel_never {f : Addr} {fd : FuncData} (F : Fun K "never_parts" "Wheel.never_parts" s_Wheel_never_parts f fd) : RunG P w K mg base CX0 1 f argsP (toSp (spNever K)) := by
  refine run_plain F sc_Wheel_never_parts argsP id id (fun _ _ r => r) (fun _ _ _ _ _ _ us hl => match us, hl with | [_], _ => rfl) (by decide) (by tm_at "g_len") ?_
  intro X f cdv A outer s H E0 L vs Q E hX nd hr h
  subst hX
  obtain ⟨a, C, dx, p, b, h, rfl, m, wa, q⟩ := h
  obtain ⟨c, n1, n2, n3⟩ := wa
  show GSs _ (defBody s_Wheel_never_parts) (bodyD Q) [("self", some (.ref a))] L
  refine gss_cons ?_
  tm_at "g"
  refine go_mulS (.inl (by decide)) ?_
  tm_at "g"
  exact ⟨_, Sub.refl, q⟩
/-- does_part -/
def spDoesPart (K : PySem.W.Frag) (Cn gP : Addr) : SpL := fun vs L Q E => ∃ (a C dx : Addr) (p b h : Int) (v : V) (T : String), vs = [.ref a, v] ∧ (a, wO C dx (.int p) (.int b) (.int h)) ∈ L ∧ WhA K C ∧ (∃ pp, PropOf K C "play" pp gP) ∧ 1 ≤ p ∧ Knd L v T ∧ (whole v = false → telX Cn [("value", v)] E L) ∧
  ∀ d : Int, v = .int d → Q (.bl (decide (b + h < apartI d p))) L
theorem body_Wheel_does_part (D1 : Fn P w K mg base CX0 "is_whole" 1 spIsWhole) (D2 : Fn P w K mg base CX0 "apart" 3 spApart) (T : ErrT P w K mg base "BadNumber" Cn ["value"]) (RP : RunG P w K mg base CX0 1 gP argsP (toSp (spPlay K))) : BodyX P w K mg base N_Wheel_does_part "Wheel.does_part" s_Wheel_does_part 4 (spDoesPart K Cn gP) := by
  intro X f cdv A outer s H E0 L vs Q E hX nd hr tk h
  subst hX
  obtain ⟨a, C, dx, p, b, h, v, T0, rfl, ma, wa, ⟨pp, pr⟩, p1, kv, e1, q⟩ := h
  have wa' := wa
  obtain ⟨c, n1, n2, n3⟩ := wa'
  show GSs _ (defBody s_Wheel_does_part) (bodyD Q) [("self", some (.ref a)), ("d", some v)] L
  refine gss_cons ?_
  tm_at "g"
  refine ge_call (El := NoX) D1 hr passA ?_
  tm_at "g"
  refine ⟨v, T0, rfl, kv, ?_⟩
  cases hw : whole v with
  | true =>
    obtain ⟨d, rfl⟩ := whole_int hw
    tm_at "g"
    refine ge_call (El := NoX) D2 hr passA ?_
    tm_at "g"
    refine ⟨d, p, rfl, p1, ?_⟩
    tm_at "g"
    refine gat_prop (El := NoX) c pr RP hr passA ma ⟨a, C, dx, p, b, h, rfl, ma, wa, ?_⟩
    tm_at "g"
    exact ⟨_, Sub.refl, q d rfl⟩
  | false =>
    tm_at "g"
    refine gs_raise tk (gmk_err T.ck hr ?_ (by decide))
    tm_at "g"
    exact ⟨rfl, fun d => ⟨_, Sub.refl, e1 hw d _ Sub.refl⟩⟩
theorem run_Wheel_does_part {f : Addr} {fd : FuncData} (F : Fun K "does_part" "Wheel.does_part" s_Wheel_does_part f fd) (D1 : Fn P w K mg base CX0 "is_whole" 1 spIsWhole) (D2 : Fn P w K mg base CX0 "apart" 3 spApart) (T : ErrT P w K mg base "BadNumber" Cn ["value"]) (RP : RunG P w K mg base CX0 1 gP argsP (toSp (spPlay K))) :
    RunG P w K mg base (L2.CX P w) 5 f argsP (toSp (spDoesPart K Cn gP)) :=
  run_raise F sc_Wheel_does_part argsP id id (fun _ _ r => r) (fun _ _ _ _ _ _ us hl => match us, hl with | [_, _], _ => rfl) (by decide) (by tm_at "g_len") (body_Wheel_does_part D1 D2 T RP)
theorem run_Wheel_does_partK {f : Addr} {fd : FuncData} (F : Fun K "does_part" "Wheel.does_part" s_Wheel_does_part f fd) (D1 : Fn P w K mg base CX0 "is_whole" 1 spIsWhole) (D2 : Fn P w K mg base CX0 "apart" 3 spApart) (T : ErrT P w K mg base "BadNumber" Cn ["value"]) (RP : RunG P w K mg base CX0 1 gP argsP (toSp (spPlay K))) :
    RunG P w K mg base (L2.CX P w) 5 f (argsK 1 ["d"]) (toSp (spDoesPart K Cn gP)) :=
  run_raise F sc_Wheel_does_part (argsK 1 ["d"]) id id (fun _ _ r => r) (fun _ _ _ _ _ _ us hl => match us, hl with | [_, _], _ => rfl) (by decide) (by tm_at "g_len") (body_Wheel_does_part D1 D2 T RP)
/-- is_mark -/
def okMark (p : Int) : V → Bool
  | .int i => decide (0 ≤ i) && decide (i < p)
  | _ => false
def spIsMark (K : PySem.W.Frag) : SpL := fun vs L Q _ => ∃ (a C dx : Addr) (p b h : Int) (v : V) (T : String), vs = [.ref a, v] ∧ (a, wO C dx (.int p) (.int b) (.int h)) ∈ L ∧ WhA K C ∧ Knd L v T ∧ Q (.bl (okMark p v)) L
theorem okMark_no {p : Int} {v : V} (h : whole v = false) : okMark p v = false := by
  cases v <;> first | rfl | cases h
theorem run_Wheel_is_mark {f : Addr} {fd : FuncData} (F : Fun K "is_mark" "Wheel.is_mark" s_Wheel_is_mark f fd) (D1 : Fn P w K mg base CX0 "is_whole" 1 spIsWhole) : RunG P w K mg base CX0 2 f argsP (toSp (spIsMark K)) := by
  refine run_plain F sc_Wheel_is_mark argsP id id (fun _ _ r => r) (fun _ _ _ _ _ _ us hl => match us, hl with | [_, _], _ => rfl) (by decide) (by tm_at "g_len") ?_
  intro X f cdv A outer s H E0 L vs Q E hX nd hr h
  subst hX
  obtain ⟨a, C, dx, p, b, h, v, T0, rfl, ma, wa, kv, q⟩ := h
  obtain ⟨c, n1, n2, n3⟩ := wa
  show GSs _ (defBody s_Wheel_is_mark) (bodyD Q) [("self", some (.ref a)), ("mark", some v)] L
  refine gss_cons ?_
  tm_at "g"
  refine ge_call (El := NoX) D1 hr passA ?_
  tm_at "g"
  refine ⟨v, T0, rfl, kv, ?_⟩
  cases hw : whole v with
  | true =>
    obtain ⟨i, rfl⟩ := whole_int hw
    tm_at "g"
    have q : Q (.bl (decide (0 ≤ i) && decide (i < p))) L := q
    refine ite_d (fun z1 => ?_) (fun z1 => ?_)
    · tm_at "g"
      rw [decide_eq_true z1, Bool.true_and] at q
      exact ⟨_, Sub.refl, q⟩
    · rw [decide_eq_false z1, Bool.false_and] at q
      exact ⟨_, Sub.refl, q⟩
  | false =>
    tm_at "g"
    rw [okMark_no hw] at q
    exact ⟨_, Sub.refl, q⟩
/-- near -/
def spNear (K : PySem.W.Frag) (CL : Addr) : SpL := fun vs L Q _ => ∃ (a C dx : Addr) (p b h : Int), vs = [.ref a] ∧ (a, wO C dx (.int p) (.int b) (.int h)) ∈ L ∧ WhA K C ∧ 1 ≤ p ∧ 0 ≤ b + h ∧ LotN CL (Lt.In p [(-(b + h), b + h)]) L Q
theorem run_Wheel_near {f pa ga : Addr} {mc : Value} {fd : FuncData} (F : Fun K "near" "Wheel.near" s_Wheel_near f fd) (hC : mg "Lot" = some (.ref CL)) (sa : CSta K CL mc "around" pa ga) (Ra : RunG P w K mg base CX0 6 ga argsP (toSp (spAround CL))) : RunG P w K mg base CX0 7 f argsP (toSp (spNear K CL)) := by
  refine run_plain F sc_Wheel_near argsP id id (fun _ _ r => r) (fun _ _ _ _ _ _ us hl => match us, hl with | [_], _ => rfl) (by decide) (by tm_at "g_len") ?_
  intro X f cdv A outer s H E0 L vs Q E hX nd hr h
  subst hX
  obtain ⟨a, C, dx, p, b, h, rfl, m, wa, p1, b0, q⟩ := h
  obtain ⟨c, n1, n2, n3⟩ := wa
  show GSs _ (defBody s_Wheel_near) (bodyD Q) [("self", some (.ref a))] L
  refine gss_cons ?_
  tm_at "g"
  refine ge_sta sa (fun _ => gf_of (El := NoX) Ra hr passA) ?_
  tm_at "g"
  refine gv_def hC ?_
  refine ⟨rfl, ?_⟩
  tm_at "g"
  exact ⟨p, b + h, rfl, p1, b0, LotN.r (LotN.drp q Sub.refl)⟩
/-- shown_by -/
def spShownBy (K : PySem.W.Frag) (CL Cn gM : Addr) : SpL := fun vs L Q E => ∃ (a C dx : Addr) (p b h : Int) (v : V) (T : String), vs = [.ref a, v] ∧ (a, wO C dx (.int p) (.int b) (.int h)) ∈ L ∧ WhA K C ∧ Meth K C "is_mark" gM ∧ 1 ≤ p ∧ 0 ≤ b ∧ 0 ≤ h ∧ Knd L v T ∧ (okMark p v = false → telX Cn [("value", v)] E L) ∧
  ∀ m : Int, v = .int m → 0 ≤ m → m < p → LotN CL (Lt.In p [(m - h, m + b)]) L Q
theorem body_Wheel_shown_by {gM fI : Addr} (RM : RunG P w K mg base CX0 2 gM argsP (toSp (spIsMark K))) (T : ErrT P w K mg base "BadNumber" Cn ["value"]) (hC : mg "Lot" = some (.ref CL)) (la : LotA K CL) (M0 : Mk K CL fI) (R : InitR P w K mg base fI) :
    BodyX P w K mg base N_Wheel_shown_by "Wheel.shown_by" s_Wheel_shown_by 5 (spShownBy K CL Cn gM) := by
  intro X f cdv A outer s H E0 L vs Q E hX nd hr tk h
  subst hX
  obtain ⟨a, C, dx, p, b, h, v, T0, rfl, ma, wa, mm, p1, b0, h0, kv, e1, q⟩ := h
  have wa' := wa
  obtain ⟨c, n1, n2, n3⟩ := wa'
  show GSs _ (defBody s_Wheel_shown_by) (bodyD Q) [("self", some (.ref a)), ("mark", some v)] L
  refine gss_cons ?_
  tm_at "g"
  refine ge_meth (El := NoX) RM mm c hr passA ?_
  tm_at "g"
  refine ⟨a, dx, _, rfl, ma, rfl, ?_⟩
  tm_at "g"
  refine ⟨a, C, dx, p, b, h, v, T0, rfl, ma, wa, kv, ?_⟩
  refine ⟨_, rfl, ?_⟩
  cases hm : okMark p v with
  | false =>
    tm_at "g"
    refine gs_raise tk (gmk_err T.ck hr ?_ (by decide))
    tm_at "g"
    exact ⟨rfl, fun d => ⟨_, Sub.refl, e1 hm d _ Sub.refl⟩⟩
  | true =>
    obtain ⟨m, rfl, m0, m1⟩ : ∃ m, v = .int m ∧ 0 ≤ m ∧ m < p := by
      cases v with
      | int m =>
        have hm : (decide _ && decide _) = true := hm
        simp at hm
        exact ⟨m, rfl, hm.1, hm.2⟩
      | _ => cases hm
    tm_at "g"
    refine ge_callF hC M0.kp (fun _ => gf_lot la M0 R hr) ?_
    tm_at "g"
    rename_i t0
    refine ⟨p, [(t0, (m - h, m + b))], rfl, fun e he => ?_, by simp, p1, fun e he => ?_, ?_⟩
    · rw [List.mem_singleton.mp he]
      exact mem0
    · rw [List.mem_singleton.mp he]
      dsimp only
      omega
    exact LotN.r (LotN.drp (q m rfl m0 m1) Sub.drop)
theorem run_Wheel_shown_by {f gM fI : Addr} {fd : FuncData} (F : Fun K "shown_by" "Wheel.shown_by" s_Wheel_shown_by f fd) (RM : RunG P w K mg base CX0 2 gM argsP (toSp (spIsMark K))) (T : ErrT P w K mg base "BadNumber" Cn ["value"]) (hC : mg "Lot" = some (.ref CL)) (la : LotA K CL) (M0 : Mk K CL fI) (R : InitR P w K mg base fI) :
    RunG P w K mg base (L2.CX P w) 6 f argsP (toSp (spShownBy K CL Cn gM)) :=
  run_raise F sc_Wheel_shown_by argsP id id (fun _ _ r => r) (fun _ _ _ _ _ _ us hl => match us, hl with | [_, _], _ => rfl) (by decide) (by tm_at "g_len") (body_Wheel_shown_by RM T hC la M0 R)
end
namespace Lt
/-- the marks that a wheel can show at v, one for each slip -/
def marksL (p b h v : Int) : List Int := (List.range (h + 1 - -b).toNat).map fun i : Nat => (v + (-b + (i : Int))) % p
theorem marks_in {p b h v m : Int} : m ∈ marksL p b h v ↔ ∃ s, -b ≤ s ∧ s ≤ h ∧ m = (v + s) % p := by
  unfold marksL
  rw [List.mem_map]
  constructor
  · rintro ⟨i, hi, rfl⟩
    rw [List.mem_range] at hi
    exact ⟨-b + (i : Int), by omega, by omega, rfl⟩
  · rintro ⟨s, s0, s1, rfl⟩
    refine ⟨(s + b).toNat, List.mem_range.mpr (by omega), ?_⟩
    rw [show -b + ((s + b).toNat : Int) = s by omega]
theorem meet_in {p b h v d : Int} (p1 : 1 ≤ p) (b0 : 0 ≤ b) (h0 : 0 ≤ h) : (∃ m, m ∈ marksL p b h v ∧ m ∈ marksL p b h (v + d)) ↔ In p [(-(b + h), b + h)] d := by
  constructor
  · rintro ⟨m, m1, m2⟩
    obtain ⟨s, s0, s1, rfl⟩ := marks_in.mp m1
    obtain ⟨t, t0, t1, e⟩ := marks_in.mp m2
    have e1 : (v + s) % p + p * ((v + s) / p) = v + s := Int.emod_add_mul_ediv _ _
    have e2 : (v + d + t) % p + p * ((v + d + t) / p) = v + d + t := Int.emod_add_mul_ediv _ _
    refine ⟨_, List.mem_singleton.mpr rfl, (v + s) / p - (v + d + t) / p, ?_, ?_⟩
    · dsimp only
      rw [Int.mul_sub]
      omega
    · dsimp only
      rw [Int.mul_sub]
      omega
  · rintro ⟨r, hr, z, z1, z2⟩
    obtain rfl := List.mem_singleton.mp hr
    dsimp only at z1 z2
    have key : ∀ s t : Int, s - t = d + p * z → (v + s) % p = (v + d + t) % p := fun s t e => by
      have : v + s = v + d + t + p * z := by omega
      rw [this]
      exact Int.add_mul_emod_self_left _ _ _
    by_cases c : 0 ≤ d + p * z
    · exact ⟨_, marks_in.mpr ⟨d + p * z - b, by omega, by omega, rfl⟩, marks_in.mpr ⟨-b, by omega, by omega, key _ _ (by omega)⟩⟩
    · exact ⟨_, marks_in.mpr ⟨-b, by omega, by omega, rfl⟩, marks_in.mpr ⟨-b - (d + p * z), by omega, by omega, key _ _ (by omega)⟩⟩
theorem apart_in {p k d : Int} (p1 : 1 ≤ p) (k0 : 0 ≤ k) : In p [(-k, k)] d ↔ ¬ k < T.apartI d p := by
  rw [near_in (by omega)]
  have l0 : 0 ≤ d % p := Int.emod_nonneg _ (by omega)
  have l1 : d % p < p := Int.emod_lt_of_pos _ (by omega)
  have m0 : 0 ≤ (0 - d) % p := Int.emod_nonneg _ (by omega)
  have m1 : (0 - d) % p < p := Int.emod_lt_of_pos _ (by omega)
  have e1 : d % p + p * (d / p) = d := Int.emod_add_mul_ediv d p
  have e2 : (0 - d) % p + p * ((0 - d) / p) = 0 - d := Int.emod_add_mul_ediv (0 - d) p
  have e3 : p * (d / p + (0 - d) / p) = -(d % p + (0 - d) % p) := by
    rw [Int.mul_add]
    omega
  have two : d % p + (0 - d) % p = 0 ∨ d % p + (0 - d) % p = p := by
    rcases Int.lt_trichotomy (d / p + (0 - d) / p) (-1) with c | c | c
    · have := Int.mul_le_mul_of_nonneg_left (show d / p + (0 - d) / p ≤ -2 by omega) (show 0 ≤ p by omega)
      omega
    · rw [c] at e3
      omega
    · have := Int.mul_le_mul_of_nonneg_left (show 0 ≤ d / p + (0 - d) / p by omega) (show 0 ≤ p by omega)
      omega
  unfold T.apartI
  split <;> omega
theorem apart_per {p d k : Int} : T.apartI (d + p * k) p = T.apartI d p := by
  unfold T.apartI
  rw [Int.add_mul_emod_self_left]
/-- whether no mark is shown at v and at v + d -/
def partsB (p b h v d : Int) : Bool := decide ((marksL p b h v).filter (fun m => decide (m ∈ marksL p b h (v + d))) = [])
/-- whether a wheel parts d -/
def partI (p k d : Int) : Bool := decide (k < T.apartI d p)
theorem parts_eq {p b h v d : Int} (p1 : 1 ≤ p) (b0 : 0 ≤ b) (h0 : 0 ≤ h) : partsB p b h v d = partI p (b + h) d := by
  unfold partsB partI
  rw [decide_eq_decide, List.filter_eq_nil_iff]
  have e := apart_in (d := d) p1 (show 0 ≤ b + h by omega)
  rw [← meet_in (v := v) p1 b0 h0] at e
  constructor
  · intro z
    refine Classical.byContradiction fun c => ?_
    obtain ⟨m, m1, m2⟩ := e.mpr c
    exact z m m1 (decide_eq_true m2)
  · intro z m m1 m2
    exact e.mp ⟨m, m1, of_decide_eq_true m2⟩ z
theorem partI_in {p k d : Int} (p1 : 1 ≤ p) (k0 : 0 ≤ k) : In p [(-k, k)] d ↔ partI p k d = false := by
  rw [apart_in p1 k0]
  unfold partI
  rw [decide_eq_false_iff_not]
theorem partI_per {p k d z : Int} : partI p k (d + p * z) = partI p k d := by
  unfold partI
  rw [apart_per]
theorem partI_neg {p k d : Int} (p1 : 1 ≤ p) (k0 : 0 ≤ k) : partI p k (-d) = partI p k d := by
  have e : In p [(-k, k)] (-d) ↔ In p [(-k, k)] d := by
    constructor
    · rintro ⟨r, hr, z, z1, z2⟩
      obtain rfl := List.mem_singleton.mp hr
      dsimp only at z1 z2
      exact ⟨_, List.mem_singleton.mpr rfl, -z, by dsimp only; rw [Int.mul_neg]; omega, by dsimp only; rw [Int.mul_neg]; omega⟩
    · rintro ⟨r, hr, z, z1, z2⟩
      obtain rfl := List.mem_singleton.mp hr
      dsimp only at z1 z2
      exact ⟨_, List.mem_singleton.mpr rfl, -z, by dsimp only; rw [Int.mul_neg]; omega, by dsimp only; rw [Int.mul_neg]; omega⟩
  rw [partI_in p1 k0, partI_in p1 k0] at e
  cases h1 : partI p k (-d) <;> cases h2 : partI p k d <;> simp_all
/-- all differences of two rounds on both sides of 0 -/
def diffs (p : Int) : List Int := (List.range (2 * p + 1 - -2 * p).toNat).map fun i : Nat => -2 * p + (i : Int)
theorem diffs_mem {p d : Int} : d ∈ diffs p ↔ -2 * p ≤ d ∧ d ≤ 2 * p := by
  unfold diffs
  rw [List.mem_map]
  constructor
  · rintro ⟨i, hi, rfl⟩
    rw [List.mem_range] at hi
    omega
  · rintro ⟨a, b⟩
    exact ⟨(d + 2 * p).toNat, List.mem_range.mpr (by omega), by omega⟩
theorem diffs_nodup {p : Int} : (diffs p).Nodup := List.Pairwise.map _ (fun a b (n : a ≠ b) z => n (by omega)) List.nodup_range
theorem diffs_len {p : Int} (p1 : 1 ≤ p) (p12 : p ≤ 12) : (diffs p).length ≤ 49 ∧ (diffs p).length = (4 * p + 1).toNat := by
  unfold diffs
  rw [List.length_map, List.length_range]
  omega
theorem never_eq {p k : Int} (p1 : 1 ≤ p) (k0 : 0 ≤ k) : decide (p ≤ 2 * k + 1) = decide ((diffs p).filter (partI p k) = []) := by
  rw [decide_eq_decide, ← near_all (by omega) k0, List.filter_eq_nil_iff]
  constructor
  · intro z d _ c
    rw [(partI_in p1 k0).mp (z d)] at c
    cases c
  · intro z d
    refine (partI_in p1 k0).mpr ?_
    have e1 : d % p + p * (d / p) = d := Int.emod_add_mul_ediv d p
    have l0 : 0 ≤ d % p := Int.emod_nonneg _ (by omega)
    have l1 : d % p < p := Int.emod_lt_of_pos _ (by omega)
    rw [← e1, partI_per]
    have := z (d % p) (diffs_mem.mpr ⟨by omega, by omega⟩)
    cases h : partI p k (d % p) with
    | true => exact absurd h this
    | false => rfl
end Lt
section
variable {P : Program} {w : World} {K : PySem.W.Frag} {mg : Str → Option Value} {base : Heap} {Cn Cr : Addr}
structure ErrsN (P : Program) (w : World) (K : PySem.W.Frag) (mg : Str → Option Value) (base : Heap) (Cn Cr : Addr) : Prop where
  n : ErrT P w K mg base "BadNumber" Cn ["value"]
  r : mg "ReachError" = some (.ref Cr)
  xn : PySem.W.exmOne K (.ref Cn) (.ref Cr) = some true
  nn : PySem.W.kitOne K (.ref Cn) (.ref Cn) = some true
  vn : PySem.W.kitOne K (.ref Cn) (.type "ValueError") = some true
/-- an error with its value comes of a lambda -/
def numE (Cn : Addr) (v : V) (M : Lg) : XL := fun c d L' => c = .ref Cn ∧ ∃ dd, d = some dd ∧ Sub ((dd, .xd [("value", v)]) :: M) L'
abbrev numO (x : PyData) : HO := .tup [.str "number", .str x.shown]
theorem heard_num (B : Bi mg) (T : ErrsN P w K mg base Cn Cr) {L : Lg} {v : V} {x : PyData} {Q : QV} (ok : Rd L v x ∧ x.showable = true ∧ x.depth ≤ 60 ∧ x.shown.length ≤ sizeLine) (q : ∀ t, Q (.ref t) ((t, numO x) :: L))
    {k : Nat} (Z : Cx) (g f : Addr) (cdv : Value) (A : Around) (outer : List Env) (s : Shared) (H : Hp) (E0 : XK) (hZ : Z = cx0 P w K mg base N_law_heard "_law_heard" (defScope s_law_heard) g cdv A outer s H E0) (nd : Z.N.Nodup) (hr : RoomG (k + 1) Z.A)
    (act : ∀ M, (∀ e ∈ L, e ∈ M) → Act Z "_law_ask" f M (fun _ _ => False) (numE Cn v M)) : GSs Z (defBody s_law_heard) (bodyD Q) (begun N_law_heard [.ref f]) L := by
  subst hZ
  show GSs _ (defBody s_law_heard) (bodyD Q) [("_law_ask", some (.ref f)), ("_law_raised", none), ("_law_told", none), ("error", none)] L
  refine gss_cons ?_
  tm_at "g"
  rename_i tl
  refine gs_try_as (x := "ReachError") (c := .ref Cr) ⟨rfl, rfl, .inl T.r⟩ (Wout := fun _ _ _ _ => False) tk0 ?_ (show _ ∈ N_law_heard by decide)
  intro X' pn xe hX hp nd' tk
  subst hX
  refine gss_cons ?_
  tm_at "g"
  obtain ⟨rd, sh, dp, sz⟩ := ok
  refine GE.imp (act ((tl, .lst []) :: L) (fun e h => memS h) pn xe _ _ _ _ tk (fun c d L' h => ?_) (by tm_at "g_at")) (fun _ _ z => False.elim z)
  obtain ⟨rfl, dd, rfl, sb⟩ := h
  refine ⟨true, T.xn, fun _ a => ⟨_, by tm_at "g_pv", GSs.sub (Sub.cons sb) ?_⟩, fun z => nomatch z⟩
  refine gss_cons ?_
  tm_at "g"
  refine ⟨_, by first | exact Clr.here | exact .there .here | exact .there (.there .here) | exact .there (.there (.there .here)), ?_⟩
  tm_at "g"
  refine gv_def T.n.gC ?_
  tm_at "g"
  refine gc_isE T.n.ev mem0 (memS mem0) (.own Cn) T.nn ?_
  tm_at "g"
  refine gb_repr B hr (ge_attr ?_)
  tm_at "g"
  refine gat_exc T.n.ev (T.n.no "value" (by simp)) mem0 (memS mem0) rfl ?_
  refine ⟨x, rdSub (Sub.drop.trans (Sub.drop.trans Sub.drop)) rd, sh, dp, sz, ?_⟩
  tm_at "g"
  refine ite_d (fun _ => ?_) (fun y => absurd rfl y)
  tm_at "g"
  refine gc_isE T.n.ev (by tm_at "g_mem") (by tm_at "g_mem") (.ty _) T.vn ?_
  tm_at "g"
  exact ⟨_, Sub.cons (Sub.drop.trans (Sub.drop.trans Sub.drop)), q _⟩
theorem ge_heardN {X : Cx} {η : En} {L : Lg} {Q : QV} {params : Arguments} {body : Expr} {scope : Scope} {p lpos pos : Pos} {c P0 : Addr} {v : V} {x : PyData} (B : Bi X.mg) (TE : ErrsN X.prog X.w X.K X.mg X.base Cn Cr)
    (Fh : Df X.K X.mg "_law_heard" s_law_heard) (TB : LamX.TabB X.base X.mg c P0) (hcode : X.env.code = .ref c) (mT : (P0, tabM (X.env.qual ++ "<lambda>")) ∈ L) (hr : RoomG 9 X.A) (hS : LamX.LamS X.env.scope scope) (ok : Rd L v x ∧ x.showable = true ∧ x.depth ≤ 60 ∧ x.shown.length ≤ sizeLine)
    (lam : ∀ M, (∀ e ∈ L, e ∈ M) → ∀ (A0 : Around) (outer : List Env) (s : Shared) (H : Hp) (Ex : XK) (f c' : Addr), RoomG 7 (LamX.lamCx X A0 outer s H Ex scope f c').A → Tk (LamX.lamCx X A0 outer s H Ex scope f c') (fun c d _ L' => numE Cn v M c d L') → GE (LamX.lamCx X A0 outer s H Ex scope f c') body η M (fun _ _ => False)) (q : ∀ t, Q (.ref t) ((t, numO x) :: L))
    (hdef : defaultsOf params X.env = ([], []) := by rfl) (hbind : ∀ (q : Str) (cl : List (Str × Addr)) (pm cv ctv : Value), bindArgs (PySem.W.kla_fn "<lambda>" q params body scope cl pm cv ctv) ⟨[], []⟩ = pure [] := by intros; rfl) (hg : Gl X "_law_heard" := by rfl) :
    GE X (.Call (.Name "_law_heard" p) [.Lambda params body scope lpos] [] pos) η L Q :=
  GE.undrp (ge_lamcallM (k := 7) (AM := fun _ _ _ => False) (EM := fun M => numE Cn v M) Fh sc_law_heard (fun _ _ _ _ _ _ us hl => match us, hl with | [_], _ => rfl) (by decide) TB hcode mT hr hS lam
    (fun Z g f cdv s H E0 hZ nd hr act => heard_num B TE ok (fun t => ⟨_, Sub.refl, q t⟩) Z g f cdv _ _ s H E0 hZ nd hr act) hdef hbind hg)
theorem telX_numE {v : V} {M : Lg} : telX Cn [("value", v)] (numE Cn v M) M := fun d N s => ⟨rfl, d, rfl, s⟩
end
section
open Lt
variable {P : Program} {w : World} {K : PySem.W.Frag} {mg : Str → Option Value} {base : Heap} {D G0 Ce Cn CL gP fD fG c1 c2 c3 f1 f2 f3 : Addr}
abbrev plO (p b h : Int) (t : Bool) : HO := .tup [.int p, .int b, .int h, .bl t]
structure Pl (p b h : Int) (t : Bool) : Prop where
  p0 : 2 ≤ p
  p1 : p ≤ 12
  b0 : 0 ≤ b
  b1 : b ≤ 20
  h0 : 0 ≤ h
  h1 : h ≤ 20
  t : t = true → b = 0 ∧ h = 0
def spDrawn : SpL := fun vs L Q _ => ∃ (p c : Addr) (ns : List Int) (n m : Int) (R : Lg), vs = [.ref p, .int 12] ∧ Sub ((p, penO c n m) :: (c, celO ns) :: R) L ∧ ns.length ≤ 63 ∧ 0 ≤ n ∧ n + 8 ≤ 100000 ∧ 0 ≤ m ∧
  ∀ (a : Addr) (pr b h : Int) (t : Bool) n' m', Pl pr b h t → 0 ≤ n' → n' ≤ n + 8 → 0 ≤ m' → Q (.ref a) ((a, plO pr b h t) :: (p, penO c n' m') :: (c, celO ns) :: R)
theorem fn_law_wheel (B : Bi mg) (F : Df K mg "_law_wheel" s_law_wheel) (D1 : Fn P w K mg base CX0 "_law_draw" 1 spDraw) : Fn P w K mg base CX0 "_law_wheel" 3 spDrawn := by
  refine fn_plain F sc_law_wheel (fun _ _ _ _ _ _ us hl => match us, hl with | [_, _], _ => rfl) (by decide) (by tm_at "g_len") ?_
  intro X f cdv A outer s H E0 L vs Q E hX nd hr h
  subst hX
  obtain ⟨p, c, ns, n, m, R, rfl, sb, h63, n0, n1, m0, q⟩ := h
  refine GSs.sub sb ?_
  show GSs _ (defBody s_law_wheel) (bodyD Q) [("_law_pen_here", some (.ref p)), ("_law_most", some (.int 12)), ("_law_period", none), ("_law_kind", none), ("_law_slip", none)] _
  refine gss_cons ?_
  tm_at "g"
  tm_at "g_draw"
  intro d n2 m2 d0 d1 a0 a1 a2
  tm_at "g"
  tm_at "g_draw"
  intro kd n4 m4 e0 e1 c0 c1 c2
  tm_at "g"
  refine ite_d (fun y => ?_) (fun y => ?_)
  · tm_at "g"
    tm_at "g_draw"
    intro d5 n5 m5 g0 g1 h0 h1 h2
    tm_at "g"
    refine ⟨_, by tm_at "g_end", q _ (2 + d) 0 0 (decide (d5 = 0)) n5 m5 ⟨by omega, by omega, by decide, by decide, by decide, by decide, fun _ => ⟨rfl, rfl⟩⟩ h0 (by omega) h2⟩
  · tm_at "g"
    refine ite_d (fun y => ?_) (fun y => ?_)
    · tm_at "g"
      tm_at "g_draw"
      intro sl n5 m5 g0 g1 h0 h1 h2
      tm_at "g"
      refine ⟨_, by tm_at "g_end", q _ (2 + d) sl sl false n5 m5 ⟨by omega, by omega, by omega, by omega, by omega, by omega, fun z => nomatch z⟩ h0 (by omega) h2⟩
    · tm_at "g"
      tm_at "g_draw"
      intro d5 n5 m5 g0 g1 h0 h1 h2
      tm_at "g"
      tm_at "g_draw"
      intro d6 n6 m6 i0 i1 j0 j1 j2
      tm_at "g"
      refine ⟨_, by tm_at "g_end", q _ (2 + d) d5 d6 false n6 m6 ⟨by omega, by omega, by omega, by omega, by omega, by omega, fun z => nomatch z⟩ j0 (by omega) j2⟩
/-- what the law wants of a class of wheels -/
structure WhD (P : Program) (w : World) (K : PySem.W.Frag) (mg : Str → Option Value) (base : Heap) (CL Cn gP C : Addr) : Prop where
  a : WhA K C
  pp : ∃ p, PropOf K C "play" p gP
  dp : ∃ g, Meth K C "does_part" g ∧ RunG P w K mg base (L2.CX P w) 5 g argsP (toSp (spDoesPart K Cn gP)) ∧ RunG P w K mg base (L2.CX P w) 5 g (argsK 1 ["d"]) (toSp (spDoesPart K Cn gP))
  np : ∃ p g, PropOf K C "never_parts" p g ∧ RunG P w K mg base CX0 1 g argsP (toSp (spNever K))
  nr : ∃ p g, PropOf K C "near" p g ∧ RunG P w K mg base CX0 7 g argsP (toSp (spNear K CL))
structure Whs (P : Program) (w : World) (K : PySem.W.Frag) (mg : Str → Option Value) (base : Heap) (CL Cn gP Ce D c1 c2 c3 G0 fD f1 f2 f3 fG : Addr) : Prop where
  m0 : MkF P w K mg base "Wheel" D fD 4 (spWheelInit K Ce)
  m1 : MkF P w K mg base "Even" c1 f1 5 (spEvenInit K Ce c1 "slip")
  m2 : MkF P w K mg base "Exact" c2 f2 5 (spExactInit K Ce c2)
  m3 : MkF P w K mg base "Lagging" c3 f3 5 (spEvenInit K Ce c3 "lag")
  m4 : MkF P w K mg base "Grid" G0 fG 5 (spExactInit K Ce G0)
  w0 : WhD P w K mg base CL Cn gP D
  w1 : WhD P w K mg base CL Cn gP c1
  w2 : WhD P w K mg base CL Cn gP c2
  w3 : WhD P w K mg base CL Cn gP c3
  w4 : WhD P w K mg base CL Cn gP G0
def spOf (P : Program) (w : World) (K : PySem.W.Frag) (mg : Str → Option Value) (base : Heap) (CL Cn gP : Addr) : SpL := fun vs L Q _ => ∃ (a : Addr) (p b h : Int) (t : Bool), vs = [.ref a] ∧ (a, plO p b h t) ∈ L ∧ Pl p b h t ∧
  ∀ x C dx, WhD P w K mg base CL Cn gP C → Q (.ref x) ((x, wO C dx (.int p) (.int b) (.int h)) :: (dx, HO.own x) :: L)
theorem fn_law_of (B : Bi mg) (F : Df K mg "_law_of" s_law_of) (W : Whs P w K mg base CL Cn gP Ce D c1 c2 c3 G0 fD f1 f2 f3 fG) : Fn P w K mg base CX0 "_law_of" 7 (spOf P w K mg base CL Cn gP) := by
  refine fn_plain F sc_law_of (fun _ _ _ _ _ _ us hl => match us, hl with | [_], _ => rfl) (by decide) (by tm_at "g_len") ?_
  intro X f cdv A outer s H E0 L vs Q E hX nd hr h
  subst hX
  obtain ⟨a, p, b, h, t, rfl, ma, ⟨p0, p1, b0, b1, h0, h1, ht⟩, q⟩ := h
  show GSs _ (defBody s_law_of) (bodyD Q) [("_law_plain", some (.ref a)), ("_law_period", none), ("_law_back", none), ("_law_ahead", none), ("_law_trusted", none)] _
  refine gss_cons ?_
  tm_at "g"
  refine ite_b (fun y => ?_) (fun y => ?_)
  · subst y
    obtain ⟨rfl, rfl⟩ := ht rfl
    tm_at "g"
    refine ge_callF W.m4.g W.m4.M.kp (fun _ => gf_make (El := NoX) W.m4.M W.m4.R (fun _ _ => rfl) hr passN) ?_
    tm_at "g"
    exact fun x dx => ⟨x, dx, _, _, _, rfl, mem0, W.w4.a, .int, .here, fun _ => ⟨rfl, ⟨_, Sub.refl, q x G0 dx W.w4⟩⟩, no_bad p0 (by omega)⟩
  · subst y
    tm_at "g"
    refine ite_d (fun y1 => ?_) (fun y1 => ?_)
    · subst y1
      tm_at "g"
      refine ite_d (fun y2 => ?_) (fun y2 => ?_)
      · tm_at "g"
        refine ge_callF W.m1.g W.m1.M.kp (fun _ => gf_make (El := NoX) W.m1.M W.m1.R (fun _ _ => rfl) hr passN) ?_
        tm_at "g"
        exact fun x dx => ⟨x, dx, _, _, _, _, _, rfl, mem0, W.w1.a, .int, .int, .here, fun _ _ => ⟨rfl, ⟨_, Sub.refl, q x c1 dx W.w1⟩⟩, no_bad p0 (by omega), fun _ => no_bad b0 (by omega)⟩
      · obtain rfl : b = 0 := by omega
        tm_at "g"
        refine ge_callF W.m2.g W.m2.M.kp (fun _ => gf_make (El := NoX) W.m2.M W.m2.R (fun _ _ => rfl) hr passN) ?_
        tm_at "g"
        exact fun x dx => ⟨x, dx, _, _, _, rfl, mem0, W.w2.a, .int, .here, fun _ => ⟨rfl, ⟨_, Sub.refl, q x c2 dx W.w2⟩⟩, no_bad p0 (by omega)⟩
    · tm_at "g"
      refine ite_d (fun y2 => ?_) (fun y2 => ?_)
      · subst y2
        tm_at "g"
        refine ge_callF W.m3.g W.m3.M.kp (fun _ => gf_make (El := NoX) W.m3.M W.m3.R (fun _ _ => rfl) hr passN) ?_
        tm_at "g"
        exact fun x dx => ⟨x, dx, _, _, _, _, _, rfl, mem0, W.w3.a, .int, .int, .here, fun _ _ => ⟨rfl, ⟨_, Sub.refl, q x c3 dx W.w3⟩⟩, no_bad p0 (by omega), fun _ => no_bad b0 (by omega)⟩
      · tm_at "g"
        refine ge_callF W.m0.g W.m0.M.kp (fun _ => gf_make (El := NoX) W.m0.M W.m0.R (fun _ _ => rfl) hr passN) ?_
        tm_at "g"
        exact fun x dx => ⟨x, D, dx, _, _, _, _, _, _, _, rfl, mem0, W.w0.a, .int, .int, .int, .here, fun _ _ _ => ⟨rfl, ⟨_, Sub.refl, q x D dx W.w0⟩⟩, no_bad p0 (by omega), fun _ => no_bad b0 (by omega), fun _ _ => no_bad h0 (by omega)⟩
def spMarks : SpL := fun vs L Q _ => ∃ (a : Addr) (p b h v : Int) (t : Bool), vs = [.ref a, .int v] ∧ (a, plO p b h t) ∈ L ∧ Pl p b h t ∧ ∀ f, Q (.ref f) ((f, .lst ((marksL p b h v).map V.int)) :: L)
theorem fn_law_marks (B : Bi mg) (F : Df K mg "_law_marks" s_law_marks) : Fn P w K mg base CX0 "_law_marks" 1 spMarks := by
  refine fn_plain F sc_law_marks (fun _ _ _ _ _ _ us hl => match us, hl with | [_, _], _ => rfl) (by decide) (by tm_at "g_len") ?_
  intro X f cdv A outer s H E0 L vs Q E hX nd hr h
  subst hX
  obtain ⟨a, p, b, h, v, t, rfl, ma, ⟨p0, p1, b0, b1, h0, h1, ht⟩, q⟩ := h
  show GSs _ (defBody s_law_marks) (bodyD Q) [("_law_plain", some (.ref a)), ("_law_value", some (.int v)), ("_law_slip", none)] L
  refine gss_cons ?_
  tm_at "g"
  refine ge_lcP (by tm_at "g_put") (gi_range2 ?_ B.range) (show blkC N_law_marks (defScope s_law_marks) _ [(_, List.idxOf _ N_law_marks)] = true by decide +kernel) (fun _ _ _ _ _ => ⟨.inl rfl, .inr rfl⟩)
  tm_at "g"
  refine ⟨⟨by omega, by omega, by omega, by omega⟩, ?_⟩
  refine pure_fn (p := fun _ => true) (g := fun i => .int ((v + (-b + (i : Nat))) % p)) (by omega) (fun i hi D acc s1 H1 C1 cl1 fp1 => ?_) fun d3 => ?_
  · refine ⟨rfl, Sub.refl, fun _ s3 H3 C3 cl3 fp3 => ?_⟩
    tm_at "g"
    refine go_mod (by omega) ?_
    exact ⟨rfl, Sub.refl⟩
  have ef : ((List.range (h + 1 - -b).toNat).filter fun _ => true).map (fun i : Nat => V.int ((v + (-b + (i : Nat))) % p)) = (marksL p b h v).map V.int := by
    rw [List.filter_eq_self.mpr (fun _ _ => rfl)]
    unfold marksL
    rw [List.map_map]
    rfl
  rw [ef]
  exact ⟨_, Sub.refl, q d3⟩
def spParts : SpL := fun vs L Q _ => ∃ (a : Addr) (p b h v d : Int) (t : Bool), vs = [.ref a, .int v, .int d] ∧ (a, plO p b h t) ∈ L ∧ Pl p b h t ∧ Q (.bl (partI p (b + h) d)) L
theorem fn_law_parts (B : Bi mg) (F : Df K mg "_law_parts" s_law_parts) (D1 : Fn P w K mg base CX0 "_law_marks" 1 spMarks) : Fn P w K mg base CX0 "_law_parts" 2 spParts := by
  refine fn_plain F sc_law_parts (fun _ _ _ _ _ _ us hl => match us, hl with | [_, _, _], _ => rfl) (by decide) (by tm_at "g_len") ?_
  intro X f cdv A outer s H E0 L vs Q E hX nd hr h
  subst hX
  obtain ⟨a, p, b, h, v, d, t, rfl, ma, pl, q⟩ := h
  have pl' := pl
  obtain ⟨p0, p1, b0, b1, h0, h1, ht⟩ := pl'
  show GSs _ (defBody s_law_parts) (bodyD Q) [("_law_plain", some (.ref a)), ("_law_value", some (.int v)), ("_law_d", some (.int d)), ("_law_there", none), ("_law_mark", none)] L
  refine gss_cons ?_
  tm_at "g"
  refine ge_call (El := NoX) D1 hr passA ?_
  tm_at "g"
  refine ⟨a, p, b, h, v + d, t, rfl, ma, pl, fun u => ?_⟩
  tm_at "g"
  refine ge_lcP (by tm_at "g_put") (gi_list ?_) (show blkC N_law_parts (defScope s_law_parts) _ [(_, List.idxOf _ N_law_parts)] = true by decide +kernel) (fun _ _ _ _ _ => ⟨.inl rfl, .inr rfl⟩)
  refine ge_call (El := NoX) D1 hr passA ?_
  tm_at "g"
  refine ⟨a, p, b, h, v, t, rfl, memS ma, pl, fun u2 => ?_⟩
  refine ⟨u2, _, rfl, mem0, ?_⟩
  have ml : ((marksL p b h v).map V.int).length ≤ 1000000 := by
    unfold marksL
    rw [List.length_map, List.length_map, List.length_range]
    omega
  refine pure_rowA (o := .lst ((marksL p b h v).map V.int)) (as := marksL p b h v) (val := V.int) (t := fun m => decide (m ∈ marksL p b h (v + d))) (g := V.int) mem0 (by rw [List.length_map] at ml; exact ml) (fun m hm D acc s1 H1 C1 cl1 fp1 => ?_) fun d3 => ?_
  · show G.GT _ _ _ _ _
    tm_at "g"
    refine go_inI (by tm_at "g_mem") ?_
    refine ⟨_, rfl, rfl, Sub.refl, fun _ s3 H3 C3 cl3 fp3 => ?_⟩
    tm_at "g"
    exact ⟨rfl, Sub.refl⟩
  tm_at "g"
  refine go_eqLI (ms := []) (ys := []) hr (by tm_at "g_mem") (by tm_at "g_mem") rfl rfl ?_
  rw [← parts_eq (v := v) (by omega) b0 h0] at q
  exact ⟨_, by tm_at "g_end", q⟩
end
section
open Lt
variable {P : Program} {w : World} {K : PySem.W.Frag} {mg : Str → Option Value} {base : Heap} {C : Addr}
theorem LotS.rest {S : Int → Prop} {a p c : Addr} {n m : Int} {M N : Lg} (h : LotS C S a M) (k : ∀ x ∈ M, x = (p, penO c n m) ∨ x ∈ N) : LotS C S a N := by
  obtain ⟨dx, q1, t, few, ob, x, f, l⟩ := h.ex
  exact ⟨dx, q1, t, few, ob, x.rest k, f, l⟩
theorem Form.to {S U : Int → Prop} {q : Int} {f : List Rn} (h : Form U q f) (e : ∀ n, S n ↔ U n) : Form S q f := by
  have : S = U := funext fun n => propext (e n)
  rw [this]
  exact h
end
section
open Lt
variable {P : Program} {w : World} {K : PySem.W.Frag} {mg : Str → Option Value} {base : Heap} {D G0 Ce Cn Cr CL gP fD fG c1 c2 c3 f1 f2 f3 : Addr}
/-- what the law wants of the class of lots -/
structure LotI (P : Program) (w : World) (K : PySem.W.Frag) (mg : Str → Option Value) (base : Heap) (C : Addr) where
  hC : mg "Lot" = some (.ref C)
  ot : OwnT K C
  kt : PySem.W.kitOne K (.ref C) (.ref C) = some true
  gi : Addr
  ic : PySem.W.findIn K (.ref C) "__contains__" = some (some (.ref gi))
  fi : PySem.W.isFn K (.ref gi) = true
  la : LotA K C
  Ri : RunG P w K mg base CX0 4 gi argsP (toSp (spLotIn K C))
  eq : LotEq P w K mg base C
  Rn : RunG P w K mg base CX0 1 eq.g argsP (toSp (spLotNeq K C))
  sb : ∀ T ∈ ["NoneType", "bool", "int", "str", "list", "tuple", "dict"], PySem.W.subIn K (.ref C) (.type T) = some false
  ks : ∀ T ∈ ["NoneType", "bool", "int", "str", "list", "tuple", "dict"], PySem.W.kitOne K (.type T) (.ref C) = some false
def spRightW (P0 : Addr) (q0 : Str) : SpL := fun vs L Q _ => ∃ (p c a : Addr) (ns : List Int) (n m pr b h : Int) (t : Bool) (R : Lg), vs = [.ref p, .ref a] ∧ Sub ((p, penO c n m) :: (c, celO ns) :: R) L ∧ (P0, tabM q0) ∈ R ∧ (a, plO pr b h t) ∈ R ∧ Pl pr b h t ∧ ns.length ≤ 63 ∧ 0 ≤ n ∧ n + 60 ≤ 100000 ∧ 0 ≤ m ∧
  ∀ n' m', 0 ≤ n' → n' ≤ n + 60 → 0 ≤ m' → Q (.bl true) ((p, penO c n' m') :: (c, celO ns) :: R)
theorem sh_bools {bs : List Bool} {m : Nat} (hm : bs.length ≤ m) : Sh (.list (bs.map PyData.bool)) (5 * m + 2 * m + 3) 1 := sh_list (k := 0) (fun x hx => by
  obtain ⟨b, _, rfl⟩ := List.mem_map.mp hx
  exact sh_bl) (by rw [List.length_map]; exact hm)
theorem noDict_bools {bs : List Bool} : (PyData.list (bs.map PyData.bool)).hasDict = false := by
  have e : ∀ bs : List Bool, PyData.hasDictAll (bs.map PyData.bool) = false := fun bs => by
    induction bs with
    | nil => simp [PyData.hasDictAll]
    | cons a r ih => simp [PyData.hasDictAll, PyData.hasDict, ih]
  simp [PyData.hasDict, e]
theorem rd_bools {L : Lg} {p : Addr} {bs : List Bool} (m : (p, HO.lst (bs.map V.bl)) ∈ L) : Rd L (.ref p) (.list (bs.map PyData.bool)) := rd_dl (dl_lst m dls_bools) noDict_bools
theorem bl_all {ds : List Int} {f : Int → Bool} : ((ds.filter fun _ => true).map fun d => V.bl (f d)) = (ds.map f).map V.bl := by
  rw [List.filter_eq_self.mpr fun _ _ => rfl, List.map_map]
  rfl
theorem GAt.subc {X : Cx} {n : Str} {v : V} {L M : Lg} {Q : QV} (s : Sub M L) (h : GAt X n v M Q) : GAt X n v L Q := fun pins s1 σ H u ex hH => h pins s1 σ H u ex (s.has H hH)
theorem rot12' {a b c : Addr × HO} {R : Lg} : Sub (b :: c :: a :: R) (a :: b :: c :: R) := Sub.perm (List.perm_middle (l₁ := [b, c]) (l₂ := R) (a := a))
theorem getD_int {l : List Int} {i : Nat} (h : i < l.length) : (l.map V.int).getD i .non = .int (l.getD i 0) := by
  rw [List.getD_eq_getElem?_getD, List.getElem?_map, List.getD_eq_getElem?_getD, List.getElem?_eq_getElem h]
  rfl
theorem p40 : (10 : Int) ^ (40 : Int).toNat = 10000000000000000000000000000000000000000 := by decide +kernel
theorem far_same {p k : Int} {ds js : List Int} (hl : js.length = ds.length) (hP : ∀ i j, js[i]? = some j → ∃ z, j = ds.getD i 0 + p * z) : js.map (partI p k) = ds.map (partI p k) := by
  refine List.ext_getElem? fun i => ?_
  rw [List.getElem?_map, List.getElem?_map]
  rcases Nat.lt_or_ge i js.length with c | c
  · rw [List.getElem?_eq_getElem c, List.getElem?_eq_getElem (by omega)]
    obtain ⟨z, e⟩ := hP i _ (List.getElem?_eq_getElem c)
    rw [List.getD_eq_getElem?_getD, List.getElem?_eq_getElem (by omega)] at e
    show some _ = some _
    rw [e]
    exact congrArg some partI_per
  · rw [List.getElem?_eq_none c, List.getElem?_eq_none (by omega)]
theorem rd_tupI {L : Lg} {p : Addr} {i : Int} (m : (p, HO.tup [.int i]) ∈ L) : Rd L (.ref p) (.tuple [.int i]) := rd_dl (dl_tup m (dls_cons dl_int dls_nil)) (by simp [PyData.hasDict, PyData.hasDictAll])
theorem odd_of {t e d y : Addr} {k : Nat} {v : V} (h : ([.non, .bl true, .str "0", .ref t, .ref e, .ref d, .ref y] : List V)[k]? = some v) : v = .ref y ∨ ∃ (x : PyData) (T : String), whole v = false ∧ T ∈ ["NoneType", "bool", "int", "str", "list", "tuple", "dict"] ∧ (x.showable = true ∧ x.depth ≤ 60 ∧ x.shown.length ≤ 100000 ∧ PyData.strOk x.shown = true) ∧ ∀ L : Lg, (t, HO.tup [.int 0]) ∈ L → (e, HO.lst []) ∈ L → (d, HO.dK []) ∈ L → Knd L v T ∧ Rd L v x := by
  match k, h with
  | 0, h => cases h; exact .inr ⟨.none, "NoneType", rfl, by decide, ⟨by decide +kernel, by decide +kernel, by decide +kernel, by decide +kernel⟩, fun L mt me md => ⟨.non, rd_non⟩⟩
  | 1, h => cases h; exact .inr ⟨.bool true, "bool", rfl, by decide, ⟨by decide +kernel, by decide +kernel, by decide +kernel, by decide +kernel⟩, fun L mt me md => ⟨.bl, rd_bl⟩⟩
  | 2, h => cases h; exact .inr ⟨.str "0", "str", rfl, by decide, ⟨by decide +kernel, by decide +kernel, by decide +kernel, by decide +kernel⟩, fun L mt me md => ⟨.str, rd_str⟩⟩
  | 3, h => cases h; exact .inr ⟨.tuple [.int 0], "tuple", rfl, by decide, ⟨by decide +kernel, by decide +kernel, by decide +kernel, by decide +kernel⟩, fun L mt me md => ⟨.tup mt, rd_tupI mt⟩⟩
  | 4, h => cases h; exact .inr ⟨.list [], "list", rfl, by decide, ⟨by decide +kernel, by decide +kernel, by decide +kernel, by decide +kernel⟩, fun L mt me md => ⟨.lst me, rd_ints (ns := []) me⟩⟩
  | 5, h => cases h; exact .inr ⟨.dict [], "dict", rfl, by decide, ⟨by decide +kernel, by decide +kernel, by decide +kernel, by decide +kernel⟩, fun L mt me md => ⟨.dct md, rd_dict0 md⟩⟩
  | 6, h => cases h; exact .inl rfl
  | k + 7, h => cases h
abbrev numD (s : Str) : PyData := .tuple [.str "number", .str s]
theorem shape_num {s : Str} (ok : PyData.strOk s = true) : SeqAt.shaped (numD s) = true := by
  have e : PyData.strOk (Str.ofString "number") = true := by decide +kernel
  simp [SeqAt.shaped, PyData.canLay0, PyData.canLayAll0, PyData.depth, PyData.depthAll, ok, e]
theorem eqv_num {s : Str} : PyData.eqv (numD s) (numD s) = true := by simp [PyData.eqv, PyData.eqvAll]
theorem fn_law_right {cl P0 : Addr} (B : Bi mg) (F : DfC K mg "_law_right" s_law_right cl) (TB : LamX.TabB base mg cl P0) (D1 : Fn P w K mg base CX0 "_law_draw" 1 spDraw) (D2 : Fn P w K mg base CX0 "_law_pick" 2 spPick) (Dof : Fn P w K mg base CX0 "_law_of" 7 (spOf P w K mg base CL Cn gP)) (Dp : Fn P w K mg base CX0 "_law_parts" 2 spParts)
    (Fh : Df K mg "_law_heard" s_law_heard) (TE : ErrsN P w K mg base Cn Cr) (SL : LotI P w K mg base CL) : Fn P w K mg base CX0 "_law_right" 11 (spRightW P0 (Str.ofString "_law_right.<locals>." ++ "<lambda>")) := by
  refine fn_plainC F sc_law_right (fun _ _ _ _ _ _ us hl => match us, hl with | [_, _], _ => rfl) (by decide) (by tm_at "g_len") ?_
  intro X f A outer s H E0 L vs Q E hX nd hr h
  subst hX
  obtain ⟨p, c, a, ns, n, m, pr, b, h, t, R, rfl, sb, mT, ma, pl, h63, n0, n1, m0, q⟩ := h
  have pl' := pl
  obtain ⟨p0, p1, b0, b1, h0, h1, ht⟩ := pl'
  refine GSs.sub sb ?_
  show GSs _ (defBody s_law_right) (bodyD Q) [("_law_pen_here", some (.ref p)), ("_law_plain", some (.ref a)), ("_law_made", none), ("_law_value", none), ("_law_due", none), ("_law_near", none), ("_law_far", none), ("_law_odd", none), ("_law_d", none)] _
  refine gss_cons ?_
  tm_at "g"
  refine ge_call (El := NoX) Dof hr passA ?_
  tm_at "g"
  refine ⟨a, pr, b, h, t, rfl, memS (memS ma), pl, fun x C dx wd => ?_⟩
  tm_at "g"
  tm_at "g_draw"
  intro d n2 m2 d0 d1 a0 a1 a2
  tm_at "g"
  refine gb_dict B ?_
  tm_at "g"
  refine ge_lcF (by tm_at "g_put") (gi_range2 ?_ B.range) (show blkC N_law_right (defScope s_law_right) _ [(_, List.idxOf _ N_law_right)] = true by decide +kernel) (fun _ _ _ _ _ => ⟨.inl rfl, .inr rfl⟩)
  tm_at "g"
  refine go_mulS (.inl (by decide)) ?_
  tm_at "g"
  refine go_mulS (.inl (by decide)) ?_
  tm_at "g"
  refine ⟨⟨by omega, by omega, by omega, by omega⟩, ?_⟩
  refine fresh_fn (p := fun _ => true) (pl := fun i => .tup [.int (-2 * pr + (i : Nat)), .bl (partI pr (b + h) (-2 * pr + (i : Nat)))]) (by omega) (fun i Ri hi hR s1 H1 C1 cl1 fp1 => ?_) fun D3 es e0 => ?_
  · have mA := hR (a, plO pr b h t) (by (repeat with_reducible apply memS); exact ma)
    refine gts_nil ⟨rfl, Sub.refl, fun _ s2 H2 C2 cl2 fp2 => ?_⟩
    tm_at "g"
    refine ge_call (El := NoX) Dp hr passA ?_
    tm_at "g"
    refine ⟨a, pr, b, h, d - 25, _, t, rfl, mA, pl, ?_⟩
    tm_at "g"
    exact Sub.refl
  tm_at "g"
  obtain ⟨ps, er, el, pp⟩ := es_keys (f := fun d => ((.inl d, .bl (partI pr (b + h) d)) : Key × V)) (es := es) (ds := diffs pr) (by
    rw [e0, List.filter_eq_self.mpr fun _ _ => rfl]
    unfold diffs
    rw [List.map_map]
    rfl)
  rw [er]
  refine gc_dictP rfl mem0 (paired_imp (fun _ _ z => memS (memL z)) pp) fun q1 od => ?_
  rw [merge_nodup (nodup_kvI (u := fun d => .bl (partI pr (b + h) d)) diffs_nodup)]
  tm_at "g"
  refine GAt.subc (Sub.cons ((Sub.drop.trans Sub.dropE).trans Sub.drop)) ?_
  obtain ⟨pn, gn, pon, Rn⟩ := wd.nr
  refine gat_prop (El := NoX) wd.a.c pon Rn hr passA (by tm_at "g_mem") ⟨x, C, dx, pr, b, h, rfl, by tm_at "g_mem", wd.a, by omega, by omega, fun y M sM lS => ?_⟩
  refine GSs.nd fun nd1 => ?_
  have up := (sM.to nd1).2
  have mq : (q1, dO od (kvI (fun d => .bl (partI pr (b + h) d)) (diffs pr))) ∈ M := up _ mem0
  obtain ⟨R2, pm2, in2, all2⟩ := pen_out nd1 (Sub.trans rot12' sM)
  have l2 := lS.rest all2
  replace mT := in2 _ (memS (memS (memS mT)))
  replace mq := in2 _ mem0
  have mx := in2 _ (memS mem0)
  have ma2 := in2 _ (memS (memS (memS ma)))
  refine GSs.sub (Sub.perm pm2.symm) ?_
  obtain ⟨dy, qq, tt, few, ob, at2, frm, lf⟩ := (l2.of (U := fun n => (!partI pr (b + h) n) = true) fun n => by rw [partI_in (by omega) (by omega), Bool.not_eq_true']).ex
  obtain ⟨gd, md, Rd1, RdK⟩ := wd.dp
  obtain ⟨pv, gv, pov, Rv⟩ := wd.np
  have dl := diffs_len (p := pr) (by omega) p1
  have look : ∀ d ∈ diffs pr, valV (kvI (fun d => V.bl (partI pr (b + h) d)) (diffs pr)) (.inl d) = some (.bl (partI pr (b + h) d)) := fun d hd => valV_of (f := fun d => ((.inl d, .bl (partI pr (b + h) d)) : Key × V)) (nodup_kvI diffs_nodup) d hd
  have ndR := (List.nodup_cons.mp (List.nodup_cons.mp (List.nodup_cons.mp (List.nodup_cons.mp (List.nodup_cons.mp (sM.to nd1).1).2).2).2).2).2
  have sRR : G.Sub R R2 := ⟨fun _ => ⟨ndR, fun e he => in2 _ (memS (memS (memS he)))⟩⟩
  have mO : (y, HO.ins CL dy [("period", .int qq), ("runs", .ref tt), ("size", .int (lens (few.map (·.2))).sum), ("own_begins", .ref ob)]) ∈ (c, celO ns) :: R2 := at2.o
  clear all2 lS up sM nd1 pm2 in2 ma sb e0 er pp el ndR
  refine gss_cons ?_
  tm_at "g"
  refine gv_def SL.hC ?_
  tm_at "g"
  refine gc_isI SL.ot (memS at2.o) (.own CL) SL.kt ?_
  tm_at "g"
  refine gb_reprS B hr ?_
  refine ge_lcP (by tm_at "g_put") (gi_keysI (u := fun d => .bl (partI pr (b + h) d)) (ds := diffs pr) ?_) (show blkC N_law_right (defScope s_law_right) _ [(_, List.idxOf _ N_law_right)] = true by decide +kernel) (fun _ _ _ _ _ => ⟨.inl rfl, .inr rfl⟩)
  tm_at "g"
  refine pure_rowA (as := diffs pr) (val := V.int) (t := fun _ => true) (g := fun d => .bl (partI pr (b + h) d)) (memS (memS mq)) (by omega) (fun d hd D acc s1 H1 C1 cl1 fp1 => ?_) fun u1 => ?_
  · refine gts_nil ⟨rfl, Sub.refl, fun _ s2 H2 C2 cl2 fp2 => ?_⟩
    refine ge_meth (El := NoX) Rd1 md wd.a.c hr passN ?_
    tm_at "g"
    refine ⟨x, dx, _, rfl, memS (memS (memS mx)), rfl, ?_⟩
    tm_at "g"
    refine ⟨x, C, dx, pr, b, h, .int d, _, rfl, memS (memS (memS mx)), wd.a, wd.pp, by omega, .int, fun z => Bool.noConfusion (show true = false from z), fun d' e => ?_⟩
    cases e
    exact ⟨rfl, Sub.refl⟩
  rw [bl_all]
  refine ⟨_, _, _, rd_bools mem0, sh_bools (m := 49) (by rw [List.length_map]; exact dl.1), by decide, szL (by decide), ?_⟩
  refine gb_reprS B hr ?_
  refine ge_lcP (by tm_at "g_put") (gi_keysI (u := fun d => .bl (partI pr (b + h) d)) (ds := diffs pr) ?_) (show blkC N_law_right (defScope s_law_right) _ [(_, List.idxOf _ N_law_right)] = true by decide +kernel) (fun _ _ _ _ _ => ⟨.inl rfl, .inr rfl⟩)
  tm_at "g"
  refine pure_rowA (as := diffs pr) (val := V.int) (t := fun _ => true) (g := fun d => .bl (partI pr (b + h) d)) (memS (memS (memS mq))) (by omega) (fun d hd D acc s1 H1 C1 cl1 fp1 => ?_) fun u2 => ?_
  · refine gts_nil ⟨rfl, Sub.refl, fun _ s2 H2 C2 cl2 fp2 => ?_⟩
    tm_at "g"
    refine gi_dictI hr (memS (memS (memS (memS mq)))) (look d hd) ?_
    exact ⟨rfl, Sub.refl⟩
  rw [bl_all]
  refine ⟨_, _, _, rd_bools mem0, sh_bools (m := 49) (by rw [List.length_map]; exact dl.1), by decide, szL (by decide), ?_⟩
  refine go_neV rfl ?_
  rw [decide_eq_true rfl]
  tm_at "g"
  refine ge_lcP (by tm_at "g_put") (gi_keysI (u := fun d => .bl (partI pr (b + h) d)) (ds := diffs pr) ?_) (show blkC N_law_right (defScope s_law_right) _ [(_, List.idxOf _ N_law_right)] = true by decide +kernel) (fun _ _ _ _ _ => ⟨.inl rfl, .inr rfl⟩)
  tm_at "g"
  refine pure_rowA (as := diffs pr) (val := V.int) (t := fun _ => false) (g := V.int) (memS (memS (memS (memS mq)))) (by omega) (fun d hd D acc s1 H1 C1 cl1 fp1 => ?_) fun u3 => ?_
  · show G.GT _ _ _ _ _
    tm_at "g"
    refine go_inM (El := NoX) SL.ic SL.fi SL.Ri hr passA (by repeat (first | exact at2.o | with_reducible apply memS)) ⟨y, dy, qq, d, tt, few, ob, _, rfl, SL.la, at2.mono fun e he => by repeat (first | with_reducible exact he | with_reducible apply memS), frm, by omega, ?_⟩
    tm_at "g"
    refine gi_dictI hr (by (repeat with_reducible apply memS); exact mq) (look d hd) ?_
    refine go_eqV rfl ?_
    rw [show decide (V.bl (!partI pr (b + h) d) = V.bl (partI pr (b + h) d)) = false by cases partI pr (b + h) d <;> rfl]
    refine ⟨_, rfl, rfl, Sub.refl, fun z => Bool.noConfusion z⟩
  rw [show (List.filter (fun _ => false) (diffs pr)).map V.int = ([] : List Int).map V.int by rw [List.filter_eq_nil_iff.mpr (fun _ _ => Bool.false_ne_true)]]
  tm_at "g"
  refine go_neLI (ns := []) (ms := []) (ys := []) hr (by tm_at "g_mem") (by tm_at "g_mem") rfl rfl ?_
  tm_at "g"
  refine ite_n (fun z => absurd rfl z) fun _ => ?_
  tm_at "g"
  refine gat_prop (El := NoX) wd.a.c pov Rv hr passA (by tm_at "g_mem") ⟨x, C, dx, pr, b, h, rfl, by tm_at "g_mem", wd.a, ?_⟩
  tm_at "g"
  refine ge_lcP (by tm_at "g_put") (gi_keysI (u := fun d => .bl (partI pr (b + h) d)) (ds := diffs pr) ?_) (show blkC N_law_right (defScope s_law_right) _ [(_, List.idxOf _ N_law_right)] = true by decide +kernel) (fun _ _ _ _ _ => ⟨.inl rfl, .inr rfl⟩)
  tm_at "g"
  refine pure_rowA (as := diffs pr) (val := V.int) (t := partI pr (b + h)) (g := V.int) (by (repeat with_reducible apply memS); exact mq) (by omega) (fun d hd D acc s1 H1 C1 cl1 fp1 => ?_) fun u4 => ?_
  · show G.GT _ _ _ _ _
    tm_at "g"
    refine gi_dictI hr (by (repeat with_reducible apply memS); exact mq) (look d hd) ?_
    refine ⟨_, rfl, rfl, Sub.refl, fun _ s2 H2 C2 cl2 fp2 => ?_⟩
    tm_at "g"
    exact ⟨rfl, Sub.refl⟩
  tm_at "g"
  refine go_eqLI (ms := []) (ys := []) hr (by tm_at "g_mem") (by tm_at "g_mem") rfl rfl ?_
  refine go_neV rfl ?_
  rw [never_eq (by omega) (by omega), decide_eq_true rfl]
  tm_at "g"
  refine GS.sub (M := (p, penO c n2 m2) :: (c, celO ns) :: R2) (by tm_at "g_sub") ?_
  refine gs_lcD (by tm_at "g_put") (by tm_at "g_put") (gi_keysI (u := fun d => .bl (partI pr (b + h) d)) (ds := diffs pr) ?_) (show blkC N_law_right (defScope s_law_right) _ [(_, List.idxOf _ N_law_right)] = true by decide +kernel) (fun _ _ _ _ _ => ⟨.inl rfl, .inr rfl⟩)
  tm_at "g"
  intro D5
  have ln : (List.map V.int (diffs pr)).length ≤ 49 := by rw [List.length_map]; exact dl.1
  refine lc_drawsG (n := n2) (m := m2) (k := 1) (R := R2) (u := fun i => ((diffs pr).map V.int).getD i .non) (fun i j => ∃ z, j = (diffs pr).getD i 0 + pr * z) (fun i x E hi ⟨h1, h2⟩ => ⟨by rw [List.getD_eq_getElem?_getD, h1]; rfl, h2⟩) (fun M hM => hM _ mq) (Nat.le_trans ln (by decide)) Sub.refl a0 a2 (by decide) (by dsimp only; omega) (fun i hi n5 m5 R' hR b0' b1' b2' s1 H1 C1 cl1 fp1 => ?_) fun js n5 m5 hl hP e0 e1 e2 => ?_
  · have hi' : i < (diffs pr).length := by
      dsimp only at hi
      rwa [List.length_map] at hi
    have mA := hR _ ma2
    dsimp only
    rw [getD_int hi']
    tm_at "g"
    refine go_powL ⟨by decide, by decide, by decide⟩ p40 ?_
    tm_at "g"
    refine go_powL ⟨by decide, by decide, by decide⟩ p40 ?_
    tm_at "g"
    refine go_mul (show CMulW _ _ from by unfold CMulW; decide +kernel) ?_
    tm_at "g"
    tm_at "g_draw"
    intro dg n6 m6 f0 f1 g0 g1 g2
    tm_at "g"
    refine go_mulS (.inl ⟨by omega, by omega⟩) ?_
    tm_at "g"
    exact ⟨_, n6, m6, rfl, ⟨_, rfl⟩, g0, by omega, g2, Sub.refl⟩
  dsimp only at hl e1
  rw [List.length_map] at hl e1
  have same := far_same (k := b + h) hl hP
  refine gss_cons ?_
  tm_at "g"
  refine ge_lcP (by tm_at "g_put") (gi_list ?_) (show blkC N_law_right (defScope s_law_right) _ [(_, List.idxOf _ N_law_right)] = true by decide +kernel) (fun _ _ _ _ _ => ⟨.inl rfl, .inr rfl⟩)
  tm_at "g"
  refine pure_rowA (o := .lst (js.map V.int)) (as := js) (val := V.int) (t := fun _ => true) (g := fun d => .bl (partI pr (b + h) d)) mem0 (by omega) (fun d hd D acc s1 H1 C1 cl1 fp1 => ?_) fun u1 => ?_
  · refine gts_nil ⟨rfl, Sub.refl, fun _ s2 H2 C2 cl2 fp2 => ?_⟩
    refine ge_methK (El := NoX) RdK md wd.a.c hr passN ?_
    tm_at "g"
    refine ⟨x, dx, _, rfl, by tm_at "g_mem", rfl, ?_⟩
    tm_at "g"
    refine ⟨x, C, dx, pr, b, h, .int d, _, rfl, by tm_at "g_mem", wd.a, wd.pp, by omega, .int, fun z => Bool.noConfusion (show true = false from z), fun d' e => ?_⟩
    cases e
    exact ⟨rfl, Sub.refl⟩
  rw [bl_all]
  tm_at "g"
  refine ge_lcP (by tm_at "g_put") (gi_keysI (u := fun d => .bl (partI pr (b + h) d)) (ds := diffs pr) ?_) (show blkC N_law_right (defScope s_law_right) _ [(_, List.idxOf _ N_law_right)] = true by decide +kernel) (fun _ _ _ _ _ => ⟨.inl rfl, .inr rfl⟩)
  tm_at "g"
  refine pure_rowA (as := diffs pr) (val := V.int) (t := fun _ => true) (g := fun d => .bl (partI pr (b + h) d)) (by tm_at "g_mem") (by omega) (fun d hd D acc s1 H1 C1 cl1 fp1 => ?_) fun u2 => ?_
  · refine gts_nil ⟨rfl, Sub.refl, fun _ s2 H2 C2 cl2 fp2 => ?_⟩
    tm_at "g"
    refine gi_dictI hr (by tm_at "g_mem") (look d hd) ?_
    exact ⟨rfl, Sub.refl⟩
  rw [bl_all]
  refine go_neBL (ns := js.map (partI pr (b + h))) (ms := (diffs pr).map (partI pr (b + h))) hr (by tm_at "g_mem") (by tm_at "g_mem") rfl rfl ?_
  rw [same, decide_eq_true rfl]
  tm_at "g"
  refine ge_lcP (by tm_at "g_put") (gi_keysI (u := fun d => .bl (partI pr (b + h) d)) (ds := diffs pr) ?_) (show blkC N_law_right (defScope s_law_right) _ [(_, List.idxOf _ N_law_right)] = true by decide +kernel) (fun _ _ _ _ _ => ⟨.inl rfl, .inr rfl⟩)
  tm_at "g"
  refine pure_rowA (as := diffs pr) (val := V.int) (t := fun _ => true) (g := fun d => .bl (partI pr (b + h) d)) (by tm_at "g_mem") (by omega) (fun d hd D acc s1 H1 C1 cl1 fp1 => ?_) fun u3 => ?_
  · refine gts_nil ⟨rfl, Sub.refl, fun _ s2 H2 C2 cl2 fp2 => ?_⟩
    refine ge_meth (El := NoX) Rd1 md wd.a.c hr passN ?_
    tm_at "g"
    refine ⟨x, dx, _, rfl, by tm_at "g_mem", rfl, ?_⟩
    tm_at "g"
    refine ⟨x, C, dx, pr, b, h, .int (-d), _, rfl, by tm_at "g_mem", wd.a, wd.pp, by omega, .int, fun z => Bool.noConfusion (show true = false from z), fun d' e => ?_⟩
    cases e
    exact ⟨congrArg V.bl (partI_neg (by omega) (by omega)), Sub.refl⟩
  rw [bl_all]
  tm_at "g"
  refine ge_lcP (by tm_at "g_put") (gi_keysI (u := fun d => .bl (partI pr (b + h) d)) (ds := diffs pr) ?_) (show blkC N_law_right (defScope s_law_right) _ [(_, List.idxOf _ N_law_right)] = true by decide +kernel) (fun _ _ _ _ _ => ⟨.inl rfl, .inr rfl⟩)
  tm_at "g"
  refine pure_rowA (as := diffs pr) (val := V.int) (t := fun _ => true) (g := fun d => .bl (partI pr (b + h) d)) (by tm_at "g_mem") (by omega) (fun d hd D acc s1 H1 C1 cl1 fp1 => ?_) fun u4 => ?_
  · refine gts_nil ⟨rfl, Sub.refl, fun _ s2 H2 C2 cl2 fp2 => ?_⟩
    tm_at "g"
    refine gi_dictI hr (by tm_at "g_mem") (look d hd) ?_
    exact ⟨rfl, Sub.refl⟩
  rw [bl_all]
  refine go_neBL (ns := (diffs pr).map (partI pr (b + h))) (ms := (diffs pr).map (partI pr (b + h))) hr (by tm_at "g_mem") (by tm_at "g_mem") rfl rfl ?_
  rw [decide_eq_true rfl]
  tm_at "g"
  refine GE.sub (M := (p, penO c n5 m5) :: (c, celO ns) :: R2) (by tm_at "g_sub") ?_
  refine ge_call (El := NoX) D2 hr passA ?_
  tm_at "g"
  tm_at "g_pk"
  intro k xv n6 m6 hx f0 f1 f2
  have fin : ∀ {M : Lg}, G.Sub ((p, penO c n6 m6) :: (c, celO ns) :: R2) M → drp Q (.bl true) M := fun {M} s => ⟨_, Sub.trans (Sub.cons (Sub.cons sRR)) s, q n6 m6 f0 (by omega) f2⟩
  rcases odd_of hx with rfl | ⟨xd, T, xw, xT, ⟨s1, s2, s3, s4⟩, xk⟩
  · tm_at "g"
    refine go_eqL SL.eq hr (l2.up fun e he => by rcases List.mem_cons.mp he with rfl | he <;> tm_at "g_mem") (l2.up fun e he => by rcases List.mem_cons.mp he with rfl | he <;> tm_at "g_mem") (fun _ => Iff.rfl) ?_
    tm_at "g"
    exact fin (by tm_at "g_end")
  · tm_at "g"
    refine go_eqBack (El := NoX) SL.eq.oe SL.Rn hr passA ((show ∀ e ∈ (c, celO ns) :: R2, e ∈ _ from fun e he => by rcases List.mem_cons.mp he with rfl | he <;> tm_at "g_mem") _ mO) (xk _ (by tm_at "g_mem") (by tm_at "g_mem") (by tm_at "g_mem")).1 (SL.sb T xT) ⟨y, xv, T, rfl, (xk _ (by tm_at "g_mem") (by tm_at "g_mem") (by tm_at "g_mem")).1, SL.ks T xT, _, rfl, ?_⟩
    tm_at "g"
    refine ge_heardN B TE Fh TB rfl (by (repeat with_reducible apply memS); exact mT) (hr.mono (by decide)) (LamX.lamS_by (sc := defScope s_law_right) (by decide +kernel)) ⟨(xk _ (by tm_at "g_mem") (by tm_at "g_mem") (by tm_at "g_mem")).2, s1, s2, szL (by omega)⟩ (fun M hM A0 outer s H Ex f c' hr tk => ?_) fun u1 => ?_
    · have mx' := hM _ (show (x, wO C dx (.int pr) (.int b) (.int h)) ∈ _ by tm_at "g_mem")
      tm_at "g"
      refine ge_meth (El := numE Cn xv M) Rd1 md wd.a.c hr (passTk tk) ?_
      tm_at "g"
      refine ⟨x, dx, _, rfl, mx', rfl, ?_⟩
      tm_at "g"
      refine ⟨x, C, dx, pr, b, h, xv, T, rfl, mx', wd.a, wd.pp, by omega, ((xk _ (by tm_at "g_mem") (by tm_at "g_mem") (by tm_at "g_mem")).1).sub hM, fun _ => telX_numE, fun d' e => ?_⟩
      subst e
      exact Bool.noConfusion (show true = false from xw)
    tm_at "g"
    refine gb_repr B hr ?_
    tm_at "g"
    refine ⟨xd, (xk _ (by tm_at "g_mem") (by tm_at "g_mem") (by tm_at "g_mem")).2, s1, s2, szL (by omega), ?_⟩
    tm_at "g"
    refine go_eqD (d := numD xd.shown) (e := numD xd.shown) hr.toRoom (dl_tup (by tm_at "g_mem") (dls_cons dl_str (dls_cons dl_str dls_nil))) (dl_tup (by tm_at "g_mem") (dls_cons dl_str (dls_cons dl_str dls_nil))) (shape_num s4) (shape_num s4) ?_
    rw [eqv_num]
    exact fin (by tm_at "g_end")
end
section
open Lt
variable {P : Program} {w : World} {K : PySem.W.Frag} {mg : Str → Option Value} {base : Heap} {D G0 Ce Cn Cr CL gP fD fG c1 c2 c3 f1 f2 f3 : Addr}
theorem part_sp {a C dx : Addr} {p b h d : Int} {L : Lg} {Q : QV} {E : XL} (wd : WhD P w K mg base CL Cn gP C) (mx : (a, wO C dx (.int p) (.int b) (.int h)) ∈ L) (p1 : 1 ≤ p) (q : Q (.bl (partI p (b + h) d)) L) : spDoesPart K Cn gP [.ref a, .int d] L Q E :=
  ⟨a, C, dx, p, b, h, .int d, _, rfl, mx, wd.a, wd.pp, p1, .int, fun z => Bool.noConfusion (show true = false from z), fun d' e => by cases e; exact q⟩
def d1 : List Int := [897, 898, 902, 903, -98, -97]
def d2 : List Int := [0, 100000000000 + 3, 100000000000 + 3 + 1, 1000000000000 - (100000000000 + 3), 1000000000000 - (100000000000 + 3) - 1, -(100000000000 + 3), -(100000000000 + 3) - 1, 1000000000000000000000000000000 + (100000000000 + 3), 1000000000000000000000000000000 - (100000000000 + 3) - 1]
def d3 : List Int := [1, 2, 5, 100000000000 + 5, 100000000000 + 6, 1000000000000 + 2]
theorem p11 : (10 : Int) ^ (11 : Int).toNat = 100000000000 := by decide +kernel
theorem p12 : (10 : Int) ^ (12 : Int).toNat = 1000000000000 := by decide +kernel
theorem p30 : (10 : Int) ^ (30 : Int).toNat = 1000000000000000000000000000000 := by decide +kernel
theorem nbl_all {ds : List Int} {f : Int → Bool} : ((ds.filter fun _ => true).map fun d => V.bl (!f d)) = (ds.map fun d => !f d).map V.bl := bl_all (f := fun d => !f d)
theorem law_body {P0 : Addr} {q0 : Str} (B : Bi mg) (A0 : Fn P w K mg base CX0 "_law_pen" 1 (fun vs L Q _ => ∃ (a : Addr) (ns : List Int), vs = [.ref a] ∧ InL K L a (ns.map V.int) ∧ ∀ p c ms, ms.length ≤ 63 → Q (.ref p) ((p, penO c 0 0) :: (c, celO ms) :: L)))
    (A1 : Fn P w K mg base CX0 "_law_wheel" 3 spDrawn) (A2 : Fn P w K mg base CX0 "_law_right" 11 (spRightW P0 q0)) (A3 : Fn P w K mg base CX0 "_law_of" 7 (spOf P w K mg base CL Cn gP)) (W : Whs P w K mg base CL Cn gP Ce D c1 c2 c3 G0 fD f1 f2 f3 fG) (SL : LotI P w K mg base CL)
    (sb : ∃ g gM, Meth K D "shown_by" g ∧ Meth K D "is_mark" gM ∧ RunG P w K mg base (L2.CX P w) 6 g argsP (toSp (spShownBy K CL Cn gM))) : BodyOf P w K mg base N_law "law" s_law 12 (spLaw K (tabsL [(P0, q0)])) := by
  intro X f cdv A outer s H E0 L vs Q E hX nd hr h
  subst hX
  obtain ⟨a, ns, M, rfl, rfl, hi, -, q⟩ := h
  show GSs _ (defBody s_law) (bodyD Q) [("_law_script", some (.ref a)), ("_law_pen_here", none), ("_law_turn", none), ("_law_hundred", none), ("_law_wide", none), ("_law_play", none), ("_law_some", none), ("_law_shown", none), ("_law_d", none), ("_law_value", none)] _
  refine gss_cons ?_
  tm_at "g"
  refine ge_call (El := NoX) A0 hr passA ?_
  tm_at "g"
  refine ⟨a, ns, rfl, hi, fun p c ms h63 => ?_⟩
  tm_at "g"
  refine gs_for (gi_range1 ?_ B.range)
  tm_at "g"
  refine ⟨by decide, fun i θ N => ∃ u n m, θ = ([("_law_script", some (.ref a)), ("_law_pen_here", some (.ref p)), ("_law_turn", u), ("_law_hundred", none), ("_law_wide", none), ("_law_play", none), ("_law_some", none), ("_law_shown", none), ("_law_d", none), ("_law_value", none)] : En) ∧ G.Sub ((p, penO c n m) :: (c, celO ms) :: (P0, tabM q0) :: M) N ∧ 0 ≤ n ∧ n ≤ 70 * (i : Int) ∧ 0 ≤ m, ⟨none, 0, 0, rfl, Sub.refl, by decide, by decide, by decide⟩, fun _ _ _ _ _ _ => True.intro, ?_, ?_⟩
  · rintro i x E1 θ N hi ⟨rfl, rfl⟩ ⟨u, n, m, rfl, sb, n0, n1, m0⟩
    dsimp only [List.nil_append] at hi ⊢
    have hi8 : i < 9 := hi
    refine gg_name (by tm_at "g_pv") ?_
    refine GSs.sub sb ?_
    tm_at "g"
    refine ge_call (El := NoX) A2 hr passA ?_
    tm_at "g"
    refine ge_call (El := NoX) A1 hr passA ?_
    tm_at "g"
    refine ⟨p, c, ms, n, m, _, rfl, Sub.refl, h63, n0, by omega, m0, fun pl pr b h t n2 m2 hpl a0 a1 a2 => ?_⟩
    tm_at "g"
    refine ⟨p, c, pl, ms, n2, m2, pr, b, h, t, _, rfl, by tm_at "g_rot", by tm_at "g_mem", by tm_at "g_mem", hpl, h63, a0, by omega, a2, fun n3 m3 b0 b1 b2 => ?_⟩
    tm_at "g"
    exact ⟨_, n3, m3, rfl, by tm_at "g_end", b0, by omega, b2⟩
  rintro θ N ⟨u, n, m, rfl, sb0, -, -, -⟩
  have w1 := W.w1
  have w0 := W.w0
  obtain ⟨gd, md, Rd1, RdK⟩ := W.w1.dp
  obtain ⟨gd0, md0, Rd0, RdK0⟩ := W.w0.dp
  obtain ⟨gs, gM, ms0, mm0, Rs⟩ := sb
  obtain ⟨pn0, gn0, pon0, Rn0⟩ := W.w0.nr
  tm_at "g"
  refine ge_callF W.m1.g W.m1.M.kp (fun _ => gf_make (El := NoX) W.m1.M W.m1.R (fun _ _ => rfl) hr passN) ?_
  tm_at "g"
  refine fun x dx => ⟨x, dx, _, _, _, _, _, rfl, mem0, W.w1.a, .int, .int, .here, fun _ _ => ⟨rfl, ?_⟩, no_bad (by decide) (by decide), fun _ => no_bad (by decide) (by decide)⟩
  rw [if_pos rfl]
  tm_at "g"
  refine ge_lcP (by tm_at "g_put") (gi_tuple ?_) (show blkC N_law (defScope s_law) _ [(_, List.idxOf _ N_law)] = true by decide +kernel) (fun _ _ _ _ _ => ⟨.inl rfl, .inr rfl⟩)
  tm_at "g"
  refine pure_rowA (o := .tup (d1.map V.int)) (as := d1) (val := V.int) (t := fun _ => true) (g := fun d => .bl (partI 100 (1 + 1) d)) mem0 (by decide) (fun d hd D acc s1 H1 C1 cl1 fp1 => ?_) fun u1 => ?_
  · refine gts_nil ⟨rfl, Sub.refl, fun _ s2 H2 C2 cl2 fp2 => ?_⟩
    refine ge_meth (El := NoX) Rd1 md w1.a.c hr passN ?_
    tm_at "g"
    refine ⟨x, dx, _, rfl, by tm_at "g_mem", rfl, ?_⟩
    tm_at "g"
    exact part_sp w1 (by tm_at "g_mem") (by decide) ⟨rfl, Sub.refl⟩
  rw [bl_all]
  tm_at "g"
  refine go_neBL (ns := d1.map (partI 100 (1 + 1))) (ys := [.bl true, .bl false, .bl false, .bl true, .bl false, .bl true]) (ms := [true, false, false, true, false, true]) hr (by tm_at "g_mem") (by tm_at "g_mem") rfl rfl ?_
  rw [decide_eq_true (show d1.map (partI 100 (1 + 1)) = [true, false, false, true, false, true] by decide +kernel)]
  tm_at "g"
  refine ge_callF W.m0.g W.m0.M.kp (fun _ => gf_make (El := NoX) W.m0.M W.m0.R (fun _ _ => rfl) hr passN) ?_
  tm_at "g"
  refine go_powL ⟨by decide, by decide, by decide⟩ p12 ?_
  tm_at "g"
  refine go_powL ⟨by decide, by decide, by decide⟩ p11 ?_
  tm_at "g"
  refine fun y dy => ⟨y, D, dy, _, _, _, _, _, _, _, rfl, mem0, W.w0.a, .int, .int, .int, .here, fun _ _ _ => ⟨rfl, ?_⟩, no_bad (by decide) (by decide), fun _ => no_bad (by decide) (by decide), fun _ _ => no_bad (by decide) (by decide)⟩
  tm_at "g"
  refine go_powL ⟨by decide, by decide, by decide⟩ p11 ?_
  tm_at "g"
  refine go_powL ⟨by decide, by decide, by decide⟩ p12 ?_
  tm_at "g"
  refine go_powL ⟨by decide, by decide, by decide⟩ p12 ?_
  tm_at "g"
  refine go_powL ⟨by decide, by decide, by decide⟩ p30 ?_
  tm_at "g"
  refine go_powL ⟨by decide, by decide, by decide⟩ p30 ?_
  tm_at "g"
  refine ge_lcP (by tm_at "g_put") (gi_list ?_) (show blkC N_law (defScope s_law) _ [(_, List.idxOf _ N_law)] = true by decide +kernel) (fun _ _ _ _ _ => ⟨.inl rfl, .inr rfl⟩)
  tm_at "g"
  refine pure_rowA (o := .lst (d2.map V.int)) (as := d2) (val := V.int) (t := fun _ => true) (g := fun d => .bl (!partI 1000000000000 (100000000000 + 3) d)) mem0 (by decide) (fun d hd D acc s1 H1 C1 cl1 fp1 => ?_) fun u2 => ?_
  · refine gts_nil ⟨rfl, Sub.refl, fun _ s2 H2 C2 cl2 fp2 => ?_⟩
    tm_at "g"
    refine gat_prop (El := NoX) w0.a.c pon0 Rn0 hr passA (memS (memS (memS mem0))) ⟨y, _, dy, 1000000000000, 100000000000, 3, rfl, memS (memS (memS mem0)), w0.a, by decide, by decide, fun z M1 k1 l1 => ?_⟩
    obtain ⟨dz, qq, tt, few, ob, at2, frm, lf⟩ := (l1.of (U := fun n => (!partI 1000000000000 (100000000000 + 3) n) = true) fun n => by rw [partI_in (by decide) (by decide), Bool.not_eq_true']).ex
    exact go_inM (El := NoX) SL.ic SL.fi SL.Ri hr passA at2.o ⟨z, dz, qq, d, tt, few, ob, _, rfl, SL.la, at2, frm, by omega, _, rfl, rfl, k1⟩
  rw [nbl_all]
  tm_at "g"
  refine ge_lcP (by tm_at "g_put") (gi_list ?_) (show blkC N_law (defScope s_law) _ [(_, List.idxOf _ N_law)] = true by decide +kernel) (fun _ _ _ _ _ => ⟨.inl rfl, .inr rfl⟩)
  tm_at "g"
  refine pure_rowA (o := .lst (d2.map V.int)) (as := d2) (val := V.int) (t := fun _ => true) (g := fun d => .bl (!partI 1000000000000 (100000000000 + 3) d)) (memS mem0) (by decide) (fun d hd D acc s1 H1 C1 cl1 fp1 => ?_) fun u3 => ?_
  · refine gts_nil ⟨rfl, Sub.refl, fun _ s2 H2 C2 cl2 fp2 => ?_⟩
    tm_at "g"
    refine ge_meth (El := NoX) Rd0 md0 w0.a.c hr passN ?_
    tm_at "g"
    refine ⟨y, dy, _, rfl, memS (memS (memS (memS mem0))), rfl, ?_⟩
    tm_at "g"
    exact part_sp w0 (memS (memS (memS (memS mem0)))) (by decide) ⟨_, rfl, rfl, Sub.refl⟩
  rw [nbl_all]
  refine go_neBL (ns := d2.map fun d => !partI 1000000000000 (100000000000 + 3) d) (ms := d2.map fun d => !partI 1000000000000 (100000000000 + 3) d) hr (memS mem0) mem0 rfl rfl ?_
  rw [decide_eq_true rfl]
  tm_at "g"
  refine ge_lcP (by tm_at "g_put") (gi_list ?_) (show blkC N_law (defScope s_law) _ [(_, List.idxOf _ N_law)] = true by decide +kernel) (fun _ _ _ _ _ => ⟨.inl rfl, .inr rfl⟩)
  tm_at "g"
  refine pure_rowA (o := .lst (d2.map V.int)) (as := d2) (val := V.int) (t := fun _ => true) (g := fun d => .bl (partI 1000000000000 (100000000000 + 3) d)) (memS (memS mem0)) (by decide) (fun d hd D acc s1 H1 C1 cl1 fp1 => ?_) fun u4 => ?_
  · refine gts_nil ⟨rfl, Sub.refl, fun _ s2 H2 C2 cl2 fp2 => ?_⟩
    refine ge_meth (El := NoX) Rd0 md0 w0.a.c hr passN ?_
    tm_at "g"
    refine ⟨y, dy, _, rfl, memS (memS (memS (memS (memS mem0)))), rfl, ?_⟩
    tm_at "g"
    exact part_sp w0 (memS (memS (memS (memS (memS mem0))))) (by decide) ⟨rfl, Sub.refl⟩
  rw [bl_all]
  tm_at "g"
  refine go_neBL (ns := d2.map (partI 1000000000000 (100000000000 + 3))) (ys := [.bl false, .bl false, .bl true, .bl false, .bl true, .bl false, .bl true, .bl false, .bl true]) (ms := [false, false, true, false, true, false, true, false, true]) hr (memS mem0) mem0 rfl rfl ?_
  rw [decide_eq_true (show d2.map (partI 1000000000000 (100000000000 + 3)) = [false, false, true, false, true, false, true, false, true] by decide +kernel)]
  tm_at "g"
  refine ge_meth (El := NoX) Rs ms0 w0.a.c hr passN ?_
  tm_at "g"
  refine ⟨y, dy, _, rfl, memS (memS (memS (memS (memS (memS mem0))))), rfl, ?_⟩
  tm_at "g"
  refine ⟨y, _, dy, 1000000000000, 100000000000, 3, .int 5, _, rfl, memS (memS (memS (memS (memS (memS mem0))))), w0.a, mm0, by decide, by decide, by decide, .int, fun z => absurd z (by decide), fun m em m0 m1 => ?_⟩
  cases em
  intro z M1 k1 l1
  obtain ⟨dz, qq, tt, few, ob, at2, frm, lf⟩ := (l1.of (U := fun n => inB 1000000000000 [(5 - 3, 5 + 100000000000)] n = true) fun n => (inB_iff (by decide) (fun r hr => by rw [List.mem_singleton.mp hr]; decide) n).symm).ex
  clear l1 k1 sb0
  tm_at "g"
  refine ge_lcP (by tm_at "g_put") (gi_tuple ?_) (show blkC N_law (defScope s_law) _ [(_, List.idxOf _ N_law)] = true by decide +kernel) (fun _ _ _ _ _ => ⟨.inl rfl, .inr rfl⟩)
  tm_at "g"
  refine go_powL ⟨by decide, by decide, by decide⟩ p11 ?_
  tm_at "g"
  refine go_powL ⟨by decide, by decide, by decide⟩ p11 ?_
  tm_at "g"
  refine go_powL ⟨by decide, by decide, by decide⟩ p12 ?_
  tm_at "g"
  refine pure_rowA (o := .tup (d3.map V.int)) (as := d3) (val := V.int) (t := fun _ => true) (g := fun d => .bl (inB 1000000000000 [(5 - 3, 5 + 100000000000)] d)) mem0 (by decide) (fun d hd D acc s1 H1 C1 cl1 fp1 => ?_) fun u5 => ?_
  · refine gts_nil ⟨rfl, Sub.refl, fun _ s2 H2 C2 cl2 fp2 => ?_⟩
    tm_at "g"
    exact go_inM (El := NoX) SL.ic SL.fi SL.Ri hr passA (memS (memS at2.o)) ⟨z, dz, qq, d, tt, few, ob, _, rfl, SL.la, at2.mono fun e he => memS (memS he), frm, by omega, _, rfl, rfl, Sub.refl⟩
  rw [bl_all]
  tm_at "g"
  refine go_neBL (ns := d3.map (inB 1000000000000 [(5 - 3, 5 + 100000000000)])) (ys := [.bl false, .bl true, .bl true, .bl true, .bl false, .bl true]) (ms := [false, true, true, true, false, true]) hr (by tm_at "g_mem") (by tm_at "g_mem") rfl rfl ?_
  rw [decide_eq_true (show d3.map (inB 1000000000000 [(5 - 3, 5 + 100000000000)]) = [false, true, true, true, false, true] by decide +kernel)]
  tm_at "g"
  obtain ⟨pv1, gv1, pov1, Rv1⟩ := w1.np
  obtain ⟨pv0, gv0, pov0, Rv0⟩ := w0.np
  refine ge_callF W.m1.g W.m1.M.kp (fun _ => gf_make (El := NoX) W.m1.M W.m1.R (fun _ _ => rfl) hr passN) ?_
  tm_at "g"
  refine fun x6 dx6 => ⟨x6, dx6, _, _, _, _, _, rfl, mem0, W.w1.a, .int, .int, .here, fun _ _ => ⟨rfl, ?_⟩, no_bad (by decide) (by decide), fun _ => no_bad (by decide) (by decide)⟩
  rw [if_pos rfl]
  refine gat_prop (El := NoX) w1.a.c pov1 Rv1 hr passA mem0 ⟨x6, _, dx6, 9, 2, 2, rfl, mem0, w1.a, ?_⟩
  tm_at "g"
  refine ge_callF W.m1.g W.m1.M.kp (fun _ => gf_make (El := NoX) W.m1.M W.m1.R (fun _ _ => rfl) hr passN) ?_
  tm_at "g"
  refine fun x7 dx7 => ⟨x7, dx7, _, _, _, _, _, rfl, mem0, W.w1.a, .int, .int, .here, fun _ _ => ⟨rfl, ?_⟩, no_bad (by decide) (by decide), fun _ => no_bad (by decide) (by decide)⟩
  rw [if_pos rfl]
  refine gat_prop (El := NoX) w1.a.c pov1 Rv1 hr passA mem0 ⟨x7, _, dx7, 10, 2, 2, rfl, mem0, w1.a, ?_⟩
  tm_at "g"
  refine ge_callF W.m0.g W.m0.M.kp (fun _ => gf_make (El := NoX) W.m0.M W.m0.R (fun _ _ => rfl) hr passN) ?_
  tm_at "g"
  refine fun x8 dx8 => ⟨x8, D, dx8, _, _, _, _, _, _, _, rfl, mem0, W.w0.a, .int, .int, .int, .here, fun _ _ _ => ⟨rfl, ?_⟩, no_bad (by decide) (by decide), fun _ => no_bad (by decide) (by decide), fun _ _ => no_bad (by decide) (by decide)⟩
  refine gat_prop (El := NoX) w0.a.c pov0 Rv0 hr passA mem0 ⟨x8, _, dx8, 2, 1, 0, rfl, mem0, w0.a, ?_⟩
  tm_at "g"
  refine go_eqBL (xs := [.bl (decide ((9 : Int) ≤ 2 * (2 + 2) + 1)), .bl (decide ((10 : Int) ≤ 2 * (2 + 2) + 1)), .bl (decide ((2 : Int) ≤ 2 * (1 + 0) + 1))]) (ys := [.bl true, .bl false, .bl true]) (ns := [true, false, true]) (ms := [true, false, true]) hr (by tm_at "g_mem") (by tm_at "g_mem") rfl rfl ?_
  rw [decide_eq_true rfl]
  exact ⟨_, Sub.refl, q _⟩
end
theorem all_mk {l : PySem.W.OpenLaw} {q : Program} {w : World} {K : PySem.W.Frag} {h : Heap} {mg : Str → Option Value} {fa : Addr} {f0 f1 f2 f3 f4 f5 f6 f7 f8 f9 f10 f11 f12 f13 f14 f15 f16 f17 f18 f19 f20 f21 f22 f23 : Addr} (X : K.In h) (G : h.Ns mainGlobals mg) (hfa : mg "law" = some (.ref fa))
    {od0 an0 od1 an1 od2 an2 od3 an3 od4 an4 od5 an5 od6 an6 od7 an7 od8 an8 od9 an9 od10 an10 od11 an11 od12 an12 od13 an13 od14 an14 od15 an15 od16 an16 od17 an17 od18 an18 od19 an19 od20 an20 od21 an21 od22 an22 od23 an23 : Option Addr} {sl0 sl1 sl2 sl3 sl4 sl5 sl6 sl7 sl8 sl9 sl10 sl11 sl12 sl13 sl14 sl15 sl16 sl17 sl18 sl19 sl20 sl21 sl22 sl23 : Array (Option Value)} {oc0 kV0 dc0 pm0 cd0 ct0 oc1 kV1 dc1 pm1 cd1 ct1 oc2 kV2 dc2 pm2 cd2 ct2 oc3 kV3 dc3 pm3 cd3 ct3 oc4 kV4 dc4 pm4 cd4 ct4 oc5 kV5 dc5 pm5 cd5 ct5 oc6 kV6 dc6 pm6 cd6 ct6 oc7 kV7 dc7 pm7 cd7 ct7 oc8 kV8 dc8 pm8 cd8 ct8 oc9 kV9 dc9 pm9 cd9 ct9 oc10 kV10 dc10 pm10 cd10 ct10 oc11 kV11 dc11 pm11 cd11 ct11 oc12 kV12 dc12 pm12 cd12 ct12 oc13 kV13 dc13 pm13 cd13 ct13 oc14 kV14 dc14 pm14 cd14 ct14 oc15 kV15 dc15 pm15 cd15 ct15 oc16 kV16 dc16 pm16 cd16 ct16 oc17 kV17 dc17 pm17 cd17 ct17 oc18 kV18 dc18 pm18 cd18 ct18 oc19 kV19 dc19 pm19 cd19 ct19 oc20 kV20 dc20 pm20 cd20 ct20 oc21 kV21 dc21 pm21 cd21 ct21 oc22 kV22 dc22 pm22 cd22 ct22 oc23 kV23 dc23 pm23 cd23 ct23 : Value}
    (a0 : PySem.W.nsIn K mainGlobals "is_whole" = some (some (.ref f0))) (l0 : K.lookup f0 = some ⟨oc0, od0, .func (PySem.W.fnOf "is_whole" "is_whole" (defArgs s_is_whole) (defBody s_is_whole) (defScope s_is_whole) .none kV0 dc0 pm0 an0 cd0 ct0), sl0⟩) (c0 : PySem.W.codeIn K cd0 "is_whole" = true) (k0 : PySem.W.keepIn K (.ref f0) = true)
    (a1 : PySem.W.nsIn K mainGlobals "need_whole" = some (some (.ref f1))) (l1 : K.lookup f1 = some ⟨oc1, od1, .func (PySem.W.fnOf "need_whole" "need_whole" (defArgs s_need_whole) (defBody s_need_whole) (defScope s_need_whole) .none kV1 dc1 pm1 an1 cd1 ct1), sl1⟩) (c1 : PySem.W.codeIn K cd1 "need_whole" = true) (k1 : PySem.W.keepIn K (.ref f1) = true)
    (a2 : PySem.W.nsIn K mainGlobals "need_above" = some (some (.ref f2))) (l2 : K.lookup f2 = some ⟨oc2, od2, .func (PySem.W.fnOf "need_above" "need_above" (defArgs s_need_above) (defBody s_need_above) (defScope s_need_above) .none kV2 dc2 pm2 an2 cd2 ct2), sl2⟩) (c2 : PySem.W.codeIn K cd2 "need_above" = true) (k2 : PySem.W.keepIn K (.ref f2) = true)
    (a3 : PySem.W.nsIn K mainGlobals "apart" = some (some (.ref f3))) (l3 : K.lookup f3 = some ⟨oc3, od3, .func (PySem.W.fnOf "apart" "apart" (defArgs s_apart) (defBody s_apart) (defScope s_apart) .none kV3 dc3 pm3 an3 cd3 ct3), sl3⟩) (c3 : PySem.W.codeIn K cd3 "apart" = true) (k3 : PySem.W.keepIn K (.ref f3) = true)
    (a4 : PySem.W.nsIn K mainGlobals "is_run" = some (some (.ref f4))) (l4 : K.lookup f4 = some ⟨oc4, od4, .func (PySem.W.fnOf "is_run" "is_run" (defArgs s_is_run) (defBody s_is_run) (defScope s_is_run) .none kV4 dc4 pm4 an4 cd4 ct4), sl4⟩) (c4 : PySem.W.codeIn K cd4 "is_run" = true) (k4 : PySem.W.keepIn K (.ref f4) = true)
    (a5 : PySem.W.nsIn K mainGlobals "length_of" = some (some (.ref f5))) (l5 : K.lookup f5 = some ⟨oc5, od5, .func (PySem.W.fnOf "length_of" "length_of" (defArgs s_length_of) (defBody s_length_of) (defScope s_length_of) .none kV5 dc5 pm5 an5 cd5 ct5), sl5⟩) (c5 : PySem.W.codeIn K cd5 "length_of" = true) (k5 : PySem.W.keepIn K (.ref f5) = true)
    (a6 : PySem.W.nsIn K mainGlobals "place_among" = some (some (.ref f6))) (l6 : K.lookup f6 = some ⟨oc6, od6, .func (PySem.W.fnOf "place_among" "place_among" (defArgs s_place_among) (defBody s_place_among) (defScope s_place_among) .none kV6 dc6 pm6 an6 cd6 ct6), sl6⟩) (c6 : PySem.W.codeIn K cd6 "place_among" = true) (k6 : PySem.W.keepIn K (.ref f6) = true)
    (a7 : PySem.W.nsIn K mainGlobals "melted" = some (some (.ref f7))) (l7 : K.lookup f7 = some ⟨oc7, od7, .func (PySem.W.fnOf "melted" "melted" (defArgs s_melted) (defBody s_melted) (defScope s_melted) .none kV7 dc7 pm7 an7 cd7 ct7), sl7⟩) (c7 : PySem.W.codeIn K cd7 "melted" = true) (k7 : PySem.W.keepIn K (.ref f7) = true)
    (a8 : PySem.W.nsIn K mainGlobals "closed_round" = some (some (.ref f8))) (l8 : K.lookup f8 = some ⟨oc8, od8, .func (PySem.W.fnOf "closed_round" "closed_round" (defArgs s_closed_round) (defBody s_closed_round) (defScope s_closed_round) .none kV8 dc8 pm8 an8 cd8 ct8), sl8⟩) (c8 : PySem.W.codeIn K cd8 "closed_round" = true) (k8 : PySem.W.keepIn K (.ref f8) = true)
    (a9 : PySem.W.nsIn K mainGlobals "maximal" = some (some (.ref f9))) (l9 : K.lookup f9 = some ⟨oc9, od9, .func (PySem.W.fnOf "maximal" "maximal" (defArgs s_maximal) (defBody s_maximal) (defScope s_maximal) .none kV9 dc9 pm9 an9 cd9 ct9), sl9⟩) (c9 : PySem.W.codeIn K cd9 "maximal" = true) (k9 : PySem.W.keepIn K (.ref f9) = true)
    (a10 : PySem.W.nsIn K mainGlobals "least_form" = some (some (.ref f10))) (l10 : K.lookup f10 = some ⟨oc10, od10, .func (PySem.W.fnOf "least_form" "least_form" (defArgs s_least_form) (defBody s_least_form) (defScope s_least_form) .none kV10 dc10 pm10 an10 cd10 ct10), sl10⟩) (c10 : PySem.W.codeIn K cd10 "least_form" = true) (k10 : PySem.W.keepIn K (.ref f10) = true)
    (a11 : PySem.W.nsIn K mainGlobals "need_integer" = some (some (.ref f11))) (l11 : K.lookup f11 = some ⟨oc11, od11, .func (PySem.W.fnOf "need_integer" "need_integer" (defArgs s_need_integer) (defBody s_need_integer) (defScope s_need_integer) .none kV11 dc11 pm11 an11 cd11 ct11), sl11⟩) (c11 : PySem.W.codeIn K cd11 "need_integer" = true) (k11 : PySem.W.keepIn K (.ref f11) = true)
    (a12 : PySem.W.nsIn K mainGlobals "need_few" = some (some (.ref f12))) (l12 : K.lookup f12 = some ⟨oc12, od12, .func (PySem.W.fnOf "need_few" "need_few" (defArgs s_need_few) (defBody s_need_few) (defScope s_need_few) .none kV12 dc12 pm12 an12 cd12 ct12), sl12⟩) (c12 : PySem.W.codeIn K cd12 "need_few" = true) (k12 : PySem.W.keepIn K (.ref f12) = true)
    (a13 : PySem.W.nsIn K mainGlobals "need_part" = some (some (.ref f13))) (l13 : K.lookup f13 = some ⟨oc13, od13, .func (PySem.W.fnOf "need_part" "need_part" (defArgs s_need_part) (defBody s_need_part) (defScope s_need_part) .none kV13 dc13 pm13 an13 cd13 ct13), sl13⟩) (c13 : PySem.W.codeIn K cd13 "need_part" = true) (k13 : PySem.W.keepIn K (.ref f13) = true)
    (a14 : PySem.W.nsIn K mainGlobals "_law_pen" = some (some (.ref f14))) (l14 : K.lookup f14 = some ⟨oc14, od14, .func (PySem.W.fnOf "_law_pen" "_law_pen" (defArgs s_law_pen) (defBody s_law_pen) (defScope s_law_pen) .none kV14 dc14 pm14 an14 cd14 ct14), sl14⟩) (c14 : PySem.W.codeIn K cd14 "_law_pen" = true) (k14 : PySem.W.keepIn K (.ref f14) = true)
    (a15 : PySem.W.nsIn K mainGlobals "_law_draw" = some (some (.ref f15))) (l15 : K.lookup f15 = some ⟨oc15, od15, .func (PySem.W.fnOf "_law_draw" "_law_draw" (defArgs s_law_draw) (defBody s_law_draw) (defScope s_law_draw) .none kV15 dc15 pm15 an15 cd15 ct15), sl15⟩) (c15 : PySem.W.codeIn K cd15 "_law_draw" = true) (k15 : PySem.W.keepIn K (.ref f15) = true)
    (a16 : PySem.W.nsIn K mainGlobals "_law_pick" = some (some (.ref f16))) (l16 : K.lookup f16 = some ⟨oc16, od16, .func (PySem.W.fnOf "_law_pick" "_law_pick" (defArgs s_law_pick) (defBody s_law_pick) (defScope s_law_pick) .none kV16 dc16 pm16 an16 cd16 ct16), sl16⟩) (c16 : PySem.W.codeIn K cd16 "_law_pick" = true) (k16 : PySem.W.keepIn K (.ref f16) = true)
    (a17 : PySem.W.nsIn K mainGlobals "_law_heard" = some (some (.ref f17))) (l17 : K.lookup f17 = some ⟨oc17, od17, .func (PySem.W.fnOf "_law_heard" "_law_heard" (defArgs s_law_heard) (defBody s_law_heard) (defScope s_law_heard) .none kV17 dc17 pm17 an17 cd17 ct17), sl17⟩) (c17 : PySem.W.codeIn K cd17 "_law_heard" = true) (k17 : PySem.W.keepIn K (.ref f17) = true)
    (a18 : PySem.W.nsIn K mainGlobals "_law_wheel" = some (some (.ref f18))) (l18 : K.lookup f18 = some ⟨oc18, od18, .func (PySem.W.fnOf "_law_wheel" "_law_wheel" (defArgs s_law_wheel) (defBody s_law_wheel) (defScope s_law_wheel) .none kV18 dc18 pm18 an18 cd18 ct18), sl18⟩) (c18 : PySem.W.codeIn K cd18 "_law_wheel" = true) (k18 : PySem.W.keepIn K (.ref f18) = true)
    (a19 : PySem.W.nsIn K mainGlobals "_law_of" = some (some (.ref f19))) (l19 : K.lookup f19 = some ⟨oc19, od19, .func (PySem.W.fnOf "_law_of" "_law_of" (defArgs s_law_of) (defBody s_law_of) (defScope s_law_of) .none kV19 dc19 pm19 an19 cd19 ct19), sl19⟩) (c19 : PySem.W.codeIn K cd19 "_law_of" = true) (k19 : PySem.W.keepIn K (.ref f19) = true)
    (a20 : PySem.W.nsIn K mainGlobals "_law_marks" = some (some (.ref f20))) (l20 : K.lookup f20 = some ⟨oc20, od20, .func (PySem.W.fnOf "_law_marks" "_law_marks" (defArgs s_law_marks) (defBody s_law_marks) (defScope s_law_marks) .none kV20 dc20 pm20 an20 cd20 ct20), sl20⟩) (c20 : PySem.W.codeIn K cd20 "_law_marks" = true) (k20 : PySem.W.keepIn K (.ref f20) = true)
    (a21 : PySem.W.nsIn K mainGlobals "_law_parts" = some (some (.ref f21))) (l21 : K.lookup f21 = some ⟨oc21, od21, .func (PySem.W.fnOf "_law_parts" "_law_parts" (defArgs s_law_parts) (defBody s_law_parts) (defScope s_law_parts) .none kV21 dc21 pm21 an21 cd21 ct21), sl21⟩) (c21 : PySem.W.codeIn K cd21 "_law_parts" = true) (k21 : PySem.W.keepIn K (.ref f21) = true)
    (a22 : PySem.W.nsIn K mainGlobals "_law_right" = some (some (.ref f22))) (l22 : K.lookup f22 = some ⟨oc22, od22, .func (PySem.W.fnOf "_law_right" "_law_right" (defArgs s_law_right) (defBody s_law_right) (defScope s_law_right) .none kV22 dc22 pm22 an22 cd22 ct22), sl22⟩) (c22 : PySem.W.codeIn K cd22 "_law_right" = true) (k22 : PySem.W.keepIn K (.ref f22) = true)
    (a23 : PySem.W.nsIn K mainGlobals "law" = some (some (.ref f23))) (l23 : K.lookup f23 = some ⟨oc23, od23, .func (PySem.W.fnOf "law" "law" (defArgs s_law) (defBody s_law) (defScope s_law) .none kV23 dc23 pm23 an23 cd23 ct23), sl23⟩) (c23 : PySem.W.codeIn K cd23 "law" = true) (k23 : PySem.W.keepIn K (.ref f23) = true)
    (z0 : PySem.W.nsIn K mainGlobals "len" = some none) (z1 : PySem.W.nsIn K mainGlobals "int" = some none) (z2 : PySem.W.nsIn K mainGlobals "abs" = some none) (z3 : PySem.W.nsIn K mainGlobals "min" = some none) (z4 : PySem.W.nsIn K mainGlobals "max" = some none) (z5 : PySem.W.nsIn K mainGlobals "range" = some none) (z6 : PySem.W.nsIn K mainGlobals "isinstance" = some none) (z7 : PySem.W.nsIn K mainGlobals "list" = some none) (z8 : PySem.W.nsIn K mainGlobals "tuple" = some none) (z9 : PySem.W.nsIn K mainGlobals "bool" = some none) (z10 : PySem.W.nsIn K mainGlobals "str" = some none) (z11 : PySem.W.nsIn K mainGlobals "repr" = some none) (z12 : PySem.W.nsIn K mainGlobals "sum" = some none) (z13 : PySem.W.nsIn K mainGlobals "sorted" = some none) (z14 : PySem.W.nsIn K mainGlobals "any" = some none) (z15 : PySem.W.nsIn K mainGlobals "all" = some none) (z16 : PySem.W.nsIn K mainGlobals "enumerate" = some none) (z17 : PySem.W.nsIn K mainGlobals "zip" = some none) (z18 : PySem.W.nsIn K mainGlobals "ValueError" = some none) (z19 : PySem.W.nsIn K mainGlobals "LookupError" = some none) (z20 : PySem.W.nsIn K mainGlobals "reversed" = some none) (z21 : PySem.W.nsIn K mainGlobals "set" = some none) (z22 : PySem.W.nsIn K mainGlobals "dict" = some none) (z23 : PySem.W.nsIn K mainGlobals "iter" = some none) (z24 : PySem.W.nsIn K mainGlobals "next" = some none) (z25 : PySem.W.nsIn K mainGlobals "type" = some none) (zs : PySem.W.nsIn K mainGlobals "super" = some none) (op : PySem.W.nsIn K cStatics "thirdparty.any" = some none)
    (g1 : PySem.W.specialIn K (.builtin "object.__class__") "__get__" = some (some (.builtin "getset_descriptor.__get__"))) (g2 : PySem.W.takesIn K (.builtin "object.__class__") = some true) (g3 : (l.prog.main.scope.names.lookup ("super" : Str)).isSome = false)
    {C_0 fI_0 c_0 cc_0 N_0 : Addr} {nm_0 qn_0 fl_0 : Str} {bs_0 bm_0 sub_0 : List Value} {sn_0 : List Str} {ab_0 : Bool} {col_0 : Option Bool} {k0_0 k1_0 k2_0 k3_0 k5_0 : Option Value} {oc_0 kV_0 doc_0 pm_0 ct_0 cl_0 ccl_0 : Value} {dd_0 od_0 an_0 cld_0 cdd_0 : Option Addr} {osl_0 csl_0 ccs_0 : Array (Option Value)} {vs_0 : Array Value} {tf_0 : Tok} {cd_0 : ClassData}
    (E_0 : ErrFacts l.prog K "BadNumber" "BadNumber.__init__" s_BadNumber_init C_0 fI_0 c_0 cc_0 nm_0 qn_0 N_0 bs_0 bm_0 sn_0 sub_0 ab_0 col_0 dd_0 k0_0 k1_0 k2_0 k3_0 k5_0 oc_0 kV_0 doc_0 pm_0 ct_0 cl_0 ccl_0 od_0 an_0 cld_0 cdd_0 osl_0 csl_0 ccs_0 vs_0 fl_0 tf_0 cd_0)
    (e0_0 : PySem.W.findIn K (.ref C_0) "value" = some none)
    {C_1 fI_1 c_1 cc_1 N_1 : Addr} {nm_1 qn_1 fl_1 : Str} {bs_1 bm_1 sub_1 : List Value} {sn_1 : List Str} {ab_1 : Bool} {col_1 : Option Bool} {k0_1 k1_1 k2_1 k3_1 k5_1 : Option Value} {oc_1 kV_1 doc_1 pm_1 ct_1 cl_1 ccl_1 : Value} {dd_1 od_1 an_1 cld_1 cdd_1 : Option Addr} {osl_1 csl_1 ccs_1 : Array (Option Value)} {vs_1 : Array Value} {tf_1 : Tok} {cd_1 : ClassData}
    (E_1 : ErrFacts l.prog K "BadLot" "BadLot.__init__" s_BadLot_init C_1 fI_1 c_1 cc_1 nm_1 qn_1 N_1 bs_1 bm_1 sn_1 sub_1 ab_1 col_1 dd_1 k0_1 k1_1 k2_1 k3_1 k5_1 oc_1 kV_1 doc_1 pm_1 ct_1 cl_1 ccl_1 od_1 an_1 cld_1 cdd_1 osl_1 csl_1 ccs_1 vs_1 fl_1 tf_1 cd_1)
    (e1_0 : PySem.W.findIn K (.ref C_1) "part" = some none)
    {C_2 fI_2 c_2 cc_2 N_2 : Addr} {nm_2 qn_2 fl_2 : Str} {bs_2 bm_2 sub_2 : List Value} {sn_2 : List Str} {ab_2 : Bool} {col_2 : Option Bool} {k0_2 k1_2 k2_2 k3_2 k5_2 : Option Value} {oc_2 kV_2 doc_2 pm_2 ct_2 cl_2 ccl_2 : Value} {dd_2 od_2 an_2 cld_2 cdd_2 : Option Addr} {osl_2 csl_2 ccs_2 : Array (Option Value)} {vs_2 : Array Value} {tf_2 : Tok} {cd_2 : ClassData}
    (E_2 : ErrFacts l.prog K "BadWheel" "BadWheel.__init__" s_BadWheel_init C_2 fI_2 c_2 cc_2 nm_2 qn_2 N_2 bs_2 bm_2 sn_2 sub_2 ab_2 col_2 dd_2 k0_2 k1_2 k2_2 k3_2 k5_2 oc_2 kV_2 doc_2 pm_2 ct_2 cl_2 ccl_2 od_2 an_2 cld_2 cdd_2 osl_2 csl_2 ccs_2 vs_2 fl_2 tf_2 cd_2)
    (e2_0 : PySem.W.findIn K (.ref C_2) "part" = some none)
    {C_3 fI_3 c_3 cc_3 N_3 : Addr} {nm_3 qn_3 fl_3 : Str} {bs_3 bm_3 sub_3 : List Value} {sn_3 : List Str} {ab_3 : Bool} {col_3 : Option Bool} {k0_3 k1_3 k2_3 k3_3 k5_3 : Option Value} {oc_3 kV_3 doc_3 pm_3 ct_3 cl_3 ccl_3 : Value} {dd_3 od_3 an_3 cld_3 cdd_3 : Option Addr} {osl_3 csl_3 ccs_3 : Array (Option Value)} {vs_3 : Array Value} {tf_3 : Tok} {cd_3 : ClassData}
    (E_3 : ErrFacts l.prog K "BadValue" "BadValue.__init__" s_BadValue_init C_3 fI_3 c_3 cc_3 nm_3 qn_3 N_3 bs_3 bm_3 sn_3 sub_3 ab_3 col_3 dd_3 k0_3 k1_3 k2_3 k3_3 k5_3 oc_3 kV_3 doc_3 pm_3 ct_3 cl_3 ccl_3 od_3 an_3 cld_3 cdd_3 osl_3 csl_3 ccs_3 vs_3 fl_3 tf_3 cd_3)
    (e3_0 : PySem.W.findIn K (.ref C_3) "value" = some none)
    {C_4 fI_4 c_4 cc_4 N_4 : Addr} {nm_4 qn_4 fl_4 : Str} {bs_4 bm_4 sub_4 : List Value} {sn_4 : List Str} {ab_4 : Bool} {col_4 : Option Bool} {k0_4 k1_4 k2_4 k3_4 k5_4 : Option Value} {oc_4 kV_4 doc_4 pm_4 ct_4 cl_4 ccl_4 : Value} {dd_4 od_4 an_4 cld_4 cdd_4 : Option Addr} {osl_4 csl_4 ccs_4 : Array (Option Value)} {vs_4 : Array Value} {tf_4 : Tok} {cd_4 : ClassData}
    (E_4 : ErrFacts l.prog K "BadText" "BadText.__init__" s_BadText_init C_4 fI_4 c_4 cc_4 nm_4 qn_4 N_4 bs_4 bm_4 sn_4 sub_4 ab_4 col_4 dd_4 k0_4 k1_4 k2_4 k3_4 k5_4 oc_4 kV_4 doc_4 pm_4 ct_4 cl_4 ccl_4 od_4 an_4 cld_4 cdd_4 osl_4 csl_4 ccs_4 vs_4 fl_4 tf_4 cd_4)
    (e4_0 : PySem.W.findIn K (.ref C_4) "line" = some none)
    (e4_1 : PySem.W.findIn K (.ref C_4) "word" = some none)
    {C_5 fI_5 c_5 cc_5 N_5 : Addr} {nm_5 qn_5 fl_5 : Str} {bs_5 bm_5 sub_5 : List Value} {sn_5 : List Str} {ab_5 : Bool} {col_5 : Option Bool} {k0_5 k1_5 k2_5 k3_5 k5_5 : Option Value} {oc_5 kV_5 doc_5 pm_5 ct_5 cl_5 ccl_5 : Value} {dd_5 od_5 an_5 cld_5 cdd_5 : Option Addr} {osl_5 csl_5 ccs_5 : Array (Option Value)} {vs_5 : Array Value} {tf_5 : Tok} {cd_5 : ClassData}
    (E_5 : ErrFacts l.prog K "NoPlace" "NoPlace.__init__" s_NoPlace_init C_5 fI_5 c_5 cc_5 nm_5 qn_5 N_5 bs_5 bm_5 sn_5 sub_5 ab_5 col_5 dd_5 k0_5 k1_5 k2_5 k3_5 k5_5 oc_5 kV_5 doc_5 pm_5 ct_5 cl_5 ccl_5 od_5 an_5 cld_5 cdd_5 osl_5 csl_5 ccs_5 vs_5 fl_5 tf_5 cd_5)
    (e5_0 : PySem.W.findIn K (.ref C_5) "at" = some none)
    {C_6 fI_6 c_6 cc_6 N_6 : Addr} {nm_6 qn_6 fl_6 : Str} {bs_6 bm_6 sub_6 : List Value} {sn_6 : List Str} {ab_6 : Bool} {col_6 : Option Bool} {k0_6 k1_6 k2_6 k3_6 k5_6 : Option Value} {oc_6 kV_6 doc_6 pm_6 ct_6 cl_6 ccl_6 : Value} {dd_6 od_6 an_6 cld_6 cdd_6 : Option Addr} {osl_6 csl_6 ccs_6 : Array (Option Value)} {vs_6 : Array Value} {tf_6 : Tok} {cd_6 : ClassData}
    (E_6 : ErrFacts l.prog K "TooMany" "TooMany.__init__" s_TooMany_init C_6 fI_6 c_6 cc_6 nm_6 qn_6 N_6 bs_6 bm_6 sn_6 sub_6 ab_6 col_6 dd_6 k0_6 k1_6 k2_6 k3_6 k5_6 oc_6 kV_6 doc_6 pm_6 ct_6 cl_6 ccl_6 od_6 an_6 cld_6 cdd_6 osl_6 csl_6 ccs_6 vs_6 fl_6 tf_6 cd_6)
    (e6_0 : PySem.W.findIn K (.ref C_6) "what" = some none)
    (e6_1 : PySem.W.findIn K (.ref C_6) "most" = some none)
    {D_0 : Addr} (d0 : PySem.W.nsIn K mainGlobals "ReachError" = some (some (.ref D_0)))
    {D_1 : Addr} (d1 : PySem.W.nsIn K mainGlobals "NoMember" = some (some (.ref D_1)))
    {O_Lot : Addr} (oa_Lot : PySem.W.nsIn K mainGlobals "Lot" = some (some (.ref O_Lot)))
    (ob_Lot : PySem.W.plainGet K O_Lot Str.empty = true)
    (oc_Lot : PySem.W.hasDictIn K O_Lot = true)
    (od_Lot : PySem.W.plainOver K O_Lot = true)
    (oe_Lot : PySem.W.findIn K (.ref O_Lot) "__setattr__" = some (some (.builtin "object.__setattr__")))
    (of_Lot : PySem.W.keepIn K (.ref O_Lot) = true)
    (og_Lot : PySem.W.plainGet K O_Lot "__class__" = true)
    (oh_Lot : PySem.W.findIn K (.ref O_Lot) "__class__" = some (some (.builtin "object.__class__")))
    (oi_Lot : PySem.W.mroIn K O_Lot (.type "object") = some true)
    {m_Lot_init : Addr} (ma_Lot_init : PySem.W.findIn K (.ref O_Lot) "__init__" = some (some (.ref m_Lot_init)))
    {voc_Lot_init vkV_Lot_init vdc_Lot_init vpm_Lot_init vcd_Lot_init vct_Lot_init : Value} {vod_Lot_init van_Lot_init : Option Addr} {vsl_Lot_init : Array (Option Value)} (ml_Lot_init : K.lookup m_Lot_init = some ⟨voc_Lot_init, vod_Lot_init, .func (PySem.W.fnOf "__init__" "Lot.__init__" (defArgs s_Lot_init) (defBody s_Lot_init) (defScope s_Lot_init) .none vkV_Lot_init vdc_Lot_init vpm_Lot_init van_Lot_init vcd_Lot_init vct_Lot_init), vsl_Lot_init⟩)
    (mc_Lot_init : PySem.W.codeIn K vcd_Lot_init "Lot.__init__" = true)
    (mk_Lot_init : PySem.W.keepIn K (.ref m_Lot_init) = true)
    (mi_Lot_init : PySem.W.isFn K (.ref m_Lot_init) = true)
    {mq_Lot_around : Addr} (ma_Lot_around : PySem.W.findIn K (.ref O_Lot) "around" = some (some (.ref mq_Lot_around)))
    {m_Lot_around : Addr} {mr_Lot_around : List Value} (mb_Lot_around : PySem.W.recIn K mq_Lot_around "staticmethod" = some (.ref m_Lot_around :: mr_Lot_around))
    {voc_Lot_around vkV_Lot_around vdc_Lot_around vpm_Lot_around vcd_Lot_around vct_Lot_around : Value} {vod_Lot_around van_Lot_around : Option Addr} {vsl_Lot_around : Array (Option Value)} (ml_Lot_around : K.lookup m_Lot_around = some ⟨voc_Lot_around, vod_Lot_around, .func (PySem.W.fnOf "around" "Lot.around" (defArgs s_Lot_around) (defBody s_Lot_around) (defScope s_Lot_around) .none vkV_Lot_around vdc_Lot_around vpm_Lot_around van_Lot_around vcd_Lot_around vct_Lot_around), vsl_Lot_around⟩)
    (mc_Lot_around : PySem.W.codeIn K vcd_Lot_around "Lot.around" = true)
    (mk_Lot_around : PySem.W.keepIn K (.ref m_Lot_around) = true)
    (mi_Lot_around : PySem.W.isFn K (.ref m_Lot_around) = true)
    (ta_Lot_around : PySem.W.readsIn K O_Lot (.type "type") = true)
    (tb_Lot_around : PySem.W.specialIn K (.ref O_Lot) "__getattribute__" = some (some (.builtin "type.__getattribute__")))
    (tc_Lot_around : PySem.W.findCls K (.ref O_Lot) (.type "type") "around" = some (.get (.builtin "staticmethod.__get__") (.ref mq_Lot_around) .none (.ref O_Lot)))
    {m_Lot_eq : Addr} (ma_Lot_eq : PySem.W.findIn K (.ref O_Lot) "__eq__" = some (some (.ref m_Lot_eq)))
    {voc_Lot_eq vkV_Lot_eq vdc_Lot_eq vpm_Lot_eq vcd_Lot_eq vct_Lot_eq : Value} {vod_Lot_eq van_Lot_eq : Option Addr} {vsl_Lot_eq : Array (Option Value)} (ml_Lot_eq : K.lookup m_Lot_eq = some ⟨voc_Lot_eq, vod_Lot_eq, .func (PySem.W.fnOf "__eq__" "Lot.__eq__" (defArgs s_Lot_eq) (defBody s_Lot_eq) (defScope s_Lot_eq) .none vkV_Lot_eq vdc_Lot_eq vpm_Lot_eq van_Lot_eq vcd_Lot_eq vct_Lot_eq), vsl_Lot_eq⟩)
    (mc_Lot_eq : PySem.W.codeIn K vcd_Lot_eq "Lot.__eq__" = true)
    (mk_Lot_eq : PySem.W.keepIn K (.ref m_Lot_eq) = true)
    (mi_Lot_eq : PySem.W.isFn K (.ref m_Lot_eq) = true)
    {m_Lot_contains : Addr} (ma_Lot_contains : PySem.W.findIn K (.ref O_Lot) "__contains__" = some (some (.ref m_Lot_contains)))
    {voc_Lot_contains vkV_Lot_contains vdc_Lot_contains vpm_Lot_contains vcd_Lot_contains vct_Lot_contains : Value} {vod_Lot_contains van_Lot_contains : Option Addr} {vsl_Lot_contains : Array (Option Value)} (ml_Lot_contains : K.lookup m_Lot_contains = some ⟨voc_Lot_contains, vod_Lot_contains, .func (PySem.W.fnOf "__contains__" "Lot.__contains__" (defArgs s_Lot_contains) (defBody s_Lot_contains) (defScope s_Lot_contains) .none vkV_Lot_contains vdc_Lot_contains vpm_Lot_contains van_Lot_contains vcd_Lot_contains vct_Lot_contains), vsl_Lot_contains⟩)
    (mc_Lot_contains : PySem.W.codeIn K vcd_Lot_contains "Lot.__contains__" = true)
    (mk_Lot_contains : PySem.W.keepIn K (.ref m_Lot_contains) = true)
    (mi_Lot_contains : PySem.W.isFn K (.ref m_Lot_contains) = true)
    {m_Lot_at_least : Addr} (ma_Lot_at_least : PySem.W.findIn K (.ref O_Lot) "at_least" = some (some (.ref m_Lot_at_least)))
    {voc_Lot_at_least vkV_Lot_at_least vdc_Lot_at_least vpm_Lot_at_least vcd_Lot_at_least vct_Lot_at_least : Value} {vod_Lot_at_least van_Lot_at_least : Option Addr} {vsl_Lot_at_least : Array (Option Value)} (ml_Lot_at_least : K.lookup m_Lot_at_least = some ⟨voc_Lot_at_least, vod_Lot_at_least, .func (PySem.W.fnOf "at_least" "Lot.at_least" (defArgs s_Lot_at_least) (defBody s_Lot_at_least) (defScope s_Lot_at_least) .none vkV_Lot_at_least vdc_Lot_at_least vpm_Lot_at_least van_Lot_at_least vcd_Lot_at_least vct_Lot_at_least), vsl_Lot_at_least⟩)
    (mc_Lot_at_least : PySem.W.codeIn K vcd_Lot_at_least "Lot.at_least" = true)
    (mk_Lot_at_least : PySem.W.keepIn K (.ref m_Lot_at_least) = true)
    (mi_Lot_at_least : PySem.W.isFn K (.ref m_Lot_at_least) = true)
    (xa_Lot_at_least : PySem.W.findIn K (.ref O_Lot) "at_least" = some (some (.ref m_Lot_at_least)))
    (ka_Lot : PySem.W.makesIn K O_Lot = true)
    (kb_Lot : PySem.W.findIn K (.ref O_Lot) "__init__" = some (some (.ref m_Lot_init)))
    (qa_Lot : PySem.W.findIn K (.ref O_Lot) "__eq__" = some (some (.ref m_Lot_eq)))
    (qb_Lot : PySem.W.findIn K (.ref O_Lot) "__ne__" = some (some (.builtin "object.__ne__")))
    (no_Lot_period : PySem.W.findIn K (.ref O_Lot) "period" = some none)
    (no_Lot_runs : PySem.W.findIn K (.ref O_Lot) "runs" = some none)
    (no_Lot_size : PySem.W.findIn K (.ref O_Lot) "size" = some none)
    (no_Lot_own_begins : PySem.W.findIn K (.ref O_Lot) "own_begins" = some none)
    {u_MOST_RUNS : Value} (ga_MOST_RUNS : PySem.W.nsIn K mainGlobals "MOST_RUNS" = some (some u_MOST_RUNS))
    (r_MOST_RUNS : RelV (.int 2000) u_MOST_RUNS)
    {O_Wheel : Addr} (oa_Wheel : PySem.W.nsIn K mainGlobals "Wheel" = some (some (.ref O_Wheel)))
    (ob_Wheel : PySem.W.plainGet K O_Wheel Str.empty = true)
    (oc_Wheel : PySem.W.hasDictIn K O_Wheel = true)
    (od_Wheel : PySem.W.plainOver K O_Wheel = true)
    (oe_Wheel : PySem.W.findIn K (.ref O_Wheel) "__setattr__" = some (some (.builtin "object.__setattr__")))
    (of_Wheel : PySem.W.keepIn K (.ref O_Wheel) = true)
    (og_Wheel : PySem.W.plainGet K O_Wheel "__class__" = true)
    (oh_Wheel : PySem.W.findIn K (.ref O_Wheel) "__class__" = some (some (.builtin "object.__class__")))
    (oi_Wheel : PySem.W.mroIn K O_Wheel (.type "object") = some true)
    {O_Even : Addr} (oa_Even : PySem.W.nsIn K mainGlobals "Even" = some (some (.ref O_Even)))
    (ob_Even : PySem.W.plainGet K O_Even Str.empty = true)
    (oc_Even : PySem.W.hasDictIn K O_Even = true)
    (od_Even : PySem.W.plainOver K O_Even = true)
    (oe_Even : PySem.W.findIn K (.ref O_Even) "__setattr__" = some (some (.builtin "object.__setattr__")))
    (of_Even : PySem.W.keepIn K (.ref O_Even) = true)
    (og_Even : PySem.W.plainGet K O_Even "__class__" = true)
    (oh_Even : PySem.W.findIn K (.ref O_Even) "__class__" = some (some (.builtin "object.__class__")))
    (oi_Even : PySem.W.mroIn K O_Even (.type "object") = some true)
    {O_Exact : Addr} (oa_Exact : PySem.W.nsIn K mainGlobals "Exact" = some (some (.ref O_Exact)))
    (ob_Exact : PySem.W.plainGet K O_Exact Str.empty = true)
    (oc_Exact : PySem.W.hasDictIn K O_Exact = true)
    (od_Exact : PySem.W.plainOver K O_Exact = true)
    (oe_Exact : PySem.W.findIn K (.ref O_Exact) "__setattr__" = some (some (.builtin "object.__setattr__")))
    (of_Exact : PySem.W.keepIn K (.ref O_Exact) = true)
    (og_Exact : PySem.W.plainGet K O_Exact "__class__" = true)
    (oh_Exact : PySem.W.findIn K (.ref O_Exact) "__class__" = some (some (.builtin "object.__class__")))
    (oi_Exact : PySem.W.mroIn K O_Exact (.type "object") = some true)
    {O_Lagging : Addr} (oa_Lagging : PySem.W.nsIn K mainGlobals "Lagging" = some (some (.ref O_Lagging)))
    (ob_Lagging : PySem.W.plainGet K O_Lagging Str.empty = true)
    (oc_Lagging : PySem.W.hasDictIn K O_Lagging = true)
    (od_Lagging : PySem.W.plainOver K O_Lagging = true)
    (oe_Lagging : PySem.W.findIn K (.ref O_Lagging) "__setattr__" = some (some (.builtin "object.__setattr__")))
    (of_Lagging : PySem.W.keepIn K (.ref O_Lagging) = true)
    (og_Lagging : PySem.W.plainGet K O_Lagging "__class__" = true)
    (oh_Lagging : PySem.W.findIn K (.ref O_Lagging) "__class__" = some (some (.builtin "object.__class__")))
    (oi_Lagging : PySem.W.mroIn K O_Lagging (.type "object") = some true)
    {O_Grid : Addr} (oa_Grid : PySem.W.nsIn K mainGlobals "Grid" = some (some (.ref O_Grid)))
    (ob_Grid : PySem.W.plainGet K O_Grid Str.empty = true)
    (oc_Grid : PySem.W.hasDictIn K O_Grid = true)
    (od_Grid : PySem.W.plainOver K O_Grid = true)
    (oe_Grid : PySem.W.findIn K (.ref O_Grid) "__setattr__" = some (some (.builtin "object.__setattr__")))
    (of_Grid : PySem.W.keepIn K (.ref O_Grid) = true)
    (og_Grid : PySem.W.plainGet K O_Grid "__class__" = true)
    (oh_Grid : PySem.W.findIn K (.ref O_Grid) "__class__" = some (some (.builtin "object.__class__")))
    (oi_Grid : PySem.W.mroIn K O_Grid (.type "object") = some true)
    {m_Wheel_init : Addr} (ma_Wheel_init : PySem.W.findIn K (.ref O_Wheel) "__init__" = some (some (.ref m_Wheel_init)))
    {voc_Wheel_init vkV_Wheel_init vdc_Wheel_init vpm_Wheel_init vcd_Wheel_init vct_Wheel_init : Value} {vod_Wheel_init van_Wheel_init : Option Addr} {vsl_Wheel_init : Array (Option Value)} (ml_Wheel_init : K.lookup m_Wheel_init = some ⟨voc_Wheel_init, vod_Wheel_init, .func (PySem.W.fnOf "__init__" "Wheel.__init__" (defArgs s_Wheel_init) (defBody s_Wheel_init) (defScope s_Wheel_init) .none vkV_Wheel_init vdc_Wheel_init vpm_Wheel_init van_Wheel_init vcd_Wheel_init vct_Wheel_init), vsl_Wheel_init⟩)
    (mc_Wheel_init : PySem.W.codeIn K vcd_Wheel_init "Wheel.__init__" = true)
    (mk_Wheel_init : PySem.W.keepIn K (.ref m_Wheel_init) = true)
    (mi_Wheel_init : PySem.W.isFn K (.ref m_Wheel_init) = true)
    {mq_Wheel_play : Addr} (ma_Wheel_play : PySem.W.findIn K (.ref O_Wheel) "play" = some (some (.ref mq_Wheel_play)))
    {m_Wheel_play : Addr} {mr_Wheel_play : List Value} (mb_Wheel_play : PySem.W.recIn K mq_Wheel_play "property" = some (.ref m_Wheel_play :: mr_Wheel_play))
    {voc_Wheel_play vkV_Wheel_play vdc_Wheel_play vpm_Wheel_play vcd_Wheel_play vct_Wheel_play : Value} {vod_Wheel_play van_Wheel_play : Option Addr} {vsl_Wheel_play : Array (Option Value)} (ml_Wheel_play : K.lookup m_Wheel_play = some ⟨voc_Wheel_play, vod_Wheel_play, .func (PySem.W.fnOf "play" "Wheel.play" (defArgs s_Wheel_play) (defBody s_Wheel_play) (defScope s_Wheel_play) .none vkV_Wheel_play vdc_Wheel_play vpm_Wheel_play van_Wheel_play vcd_Wheel_play vct_Wheel_play), vsl_Wheel_play⟩)
    (mc_Wheel_play : PySem.W.codeIn K vcd_Wheel_play "Wheel.play" = true)
    (mk_Wheel_play : PySem.W.keepIn K (.ref m_Wheel_play) = true)
    (mi_Wheel_play : PySem.W.isFn K (.ref m_Wheel_play) = true)
    {mq_Wheel_never_parts : Addr} (ma_Wheel_never_parts : PySem.W.findIn K (.ref O_Wheel) "never_parts" = some (some (.ref mq_Wheel_never_parts)))
    {m_Wheel_never_parts : Addr} {mr_Wheel_never_parts : List Value} (mb_Wheel_never_parts : PySem.W.recIn K mq_Wheel_never_parts "property" = some (.ref m_Wheel_never_parts :: mr_Wheel_never_parts))
    {voc_Wheel_never_parts vkV_Wheel_never_parts vdc_Wheel_never_parts vpm_Wheel_never_parts vcd_Wheel_never_parts vct_Wheel_never_parts : Value} {vod_Wheel_never_parts van_Wheel_never_parts : Option Addr} {vsl_Wheel_never_parts : Array (Option Value)} (ml_Wheel_never_parts : K.lookup m_Wheel_never_parts = some ⟨voc_Wheel_never_parts, vod_Wheel_never_parts, .func (PySem.W.fnOf "never_parts" "Wheel.never_parts" (defArgs s_Wheel_never_parts) (defBody s_Wheel_never_parts) (defScope s_Wheel_never_parts) .none vkV_Wheel_never_parts vdc_Wheel_never_parts vpm_Wheel_never_parts van_Wheel_never_parts vcd_Wheel_never_parts vct_Wheel_never_parts), vsl_Wheel_never_parts⟩)
    (mc_Wheel_never_parts : PySem.W.codeIn K vcd_Wheel_never_parts "Wheel.never_parts" = true)
    (mk_Wheel_never_parts : PySem.W.keepIn K (.ref m_Wheel_never_parts) = true)
    (mi_Wheel_never_parts : PySem.W.isFn K (.ref m_Wheel_never_parts) = true)
    {mq_Wheel_near : Addr} (ma_Wheel_near : PySem.W.findIn K (.ref O_Wheel) "near" = some (some (.ref mq_Wheel_near)))
    {m_Wheel_near : Addr} {mr_Wheel_near : List Value} (mb_Wheel_near : PySem.W.recIn K mq_Wheel_near "property" = some (.ref m_Wheel_near :: mr_Wheel_near))
    {voc_Wheel_near vkV_Wheel_near vdc_Wheel_near vpm_Wheel_near vcd_Wheel_near vct_Wheel_near : Value} {vod_Wheel_near van_Wheel_near : Option Addr} {vsl_Wheel_near : Array (Option Value)} (ml_Wheel_near : K.lookup m_Wheel_near = some ⟨voc_Wheel_near, vod_Wheel_near, .func (PySem.W.fnOf "near" "Wheel.near" (defArgs s_Wheel_near) (defBody s_Wheel_near) (defScope s_Wheel_near) .none vkV_Wheel_near vdc_Wheel_near vpm_Wheel_near van_Wheel_near vcd_Wheel_near vct_Wheel_near), vsl_Wheel_near⟩)
    (mc_Wheel_near : PySem.W.codeIn K vcd_Wheel_near "Wheel.near" = true)
    (mk_Wheel_near : PySem.W.keepIn K (.ref m_Wheel_near) = true)
    (mi_Wheel_near : PySem.W.isFn K (.ref m_Wheel_near) = true)
    {m_Wheel_is_mark : Addr} (ma_Wheel_is_mark : PySem.W.findIn K (.ref O_Wheel) "is_mark" = some (some (.ref m_Wheel_is_mark)))
    {voc_Wheel_is_mark vkV_Wheel_is_mark vdc_Wheel_is_mark vpm_Wheel_is_mark vcd_Wheel_is_mark vct_Wheel_is_mark : Value} {vod_Wheel_is_mark van_Wheel_is_mark : Option Addr} {vsl_Wheel_is_mark : Array (Option Value)} (ml_Wheel_is_mark : K.lookup m_Wheel_is_mark = some ⟨voc_Wheel_is_mark, vod_Wheel_is_mark, .func (PySem.W.fnOf "is_mark" "Wheel.is_mark" (defArgs s_Wheel_is_mark) (defBody s_Wheel_is_mark) (defScope s_Wheel_is_mark) .none vkV_Wheel_is_mark vdc_Wheel_is_mark vpm_Wheel_is_mark van_Wheel_is_mark vcd_Wheel_is_mark vct_Wheel_is_mark), vsl_Wheel_is_mark⟩)
    (mc_Wheel_is_mark : PySem.W.codeIn K vcd_Wheel_is_mark "Wheel.is_mark" = true)
    (mk_Wheel_is_mark : PySem.W.keepIn K (.ref m_Wheel_is_mark) = true)
    (mi_Wheel_is_mark : PySem.W.isFn K (.ref m_Wheel_is_mark) = true)
    {m_Wheel_does_part : Addr} (ma_Wheel_does_part : PySem.W.findIn K (.ref O_Wheel) "does_part" = some (some (.ref m_Wheel_does_part)))
    {voc_Wheel_does_part vkV_Wheel_does_part vdc_Wheel_does_part vpm_Wheel_does_part vcd_Wheel_does_part vct_Wheel_does_part : Value} {vod_Wheel_does_part van_Wheel_does_part : Option Addr} {vsl_Wheel_does_part : Array (Option Value)} (ml_Wheel_does_part : K.lookup m_Wheel_does_part = some ⟨voc_Wheel_does_part, vod_Wheel_does_part, .func (PySem.W.fnOf "does_part" "Wheel.does_part" (defArgs s_Wheel_does_part) (defBody s_Wheel_does_part) (defScope s_Wheel_does_part) .none vkV_Wheel_does_part vdc_Wheel_does_part vpm_Wheel_does_part van_Wheel_does_part vcd_Wheel_does_part vct_Wheel_does_part), vsl_Wheel_does_part⟩)
    (mc_Wheel_does_part : PySem.W.codeIn K vcd_Wheel_does_part "Wheel.does_part" = true)
    (mk_Wheel_does_part : PySem.W.keepIn K (.ref m_Wheel_does_part) = true)
    (mi_Wheel_does_part : PySem.W.isFn K (.ref m_Wheel_does_part) = true)
    {m_Wheel_shown_by : Addr} (ma_Wheel_shown_by : PySem.W.findIn K (.ref O_Wheel) "shown_by" = some (some (.ref m_Wheel_shown_by)))
    {voc_Wheel_shown_by vkV_Wheel_shown_by vdc_Wheel_shown_by vpm_Wheel_shown_by vcd_Wheel_shown_by vct_Wheel_shown_by : Value} {vod_Wheel_shown_by van_Wheel_shown_by : Option Addr} {vsl_Wheel_shown_by : Array (Option Value)} (ml_Wheel_shown_by : K.lookup m_Wheel_shown_by = some ⟨voc_Wheel_shown_by, vod_Wheel_shown_by, .func (PySem.W.fnOf "shown_by" "Wheel.shown_by" (defArgs s_Wheel_shown_by) (defBody s_Wheel_shown_by) (defScope s_Wheel_shown_by) .none vkV_Wheel_shown_by vdc_Wheel_shown_by vpm_Wheel_shown_by van_Wheel_shown_by vcd_Wheel_shown_by vct_Wheel_shown_by), vsl_Wheel_shown_by⟩)
    (mc_Wheel_shown_by : PySem.W.codeIn K vcd_Wheel_shown_by "Wheel.shown_by" = true)
    (mk_Wheel_shown_by : PySem.W.keepIn K (.ref m_Wheel_shown_by) = true)
    (mi_Wheel_shown_by : PySem.W.isFn K (.ref m_Wheel_shown_by) = true)
    {m_Even_init : Addr} (ma_Even_init : PySem.W.findIn K (.ref O_Even) "__init__" = some (some (.ref m_Even_init)))
    {voc_Even_init vkV_Even_init vdc_Even_init vpm_Even_init vct_Even_init : Value} {vod_Even_init van_Even_init : Option Addr} {vsl_Even_init : Array (Option Value)} {vc_Even_init vcc_Even_init : Addr} (ml_Even_init : K.lookup m_Even_init = some ⟨voc_Even_init, vod_Even_init, .func (PySem.W.fnX "__init__" "Even.__init__" (defArgs s_Even_init) (defBody s_Even_init) (defScope s_Even_init) [("__class__", vcc_Even_init)] .none vkV_Even_init vdc_Even_init vpm_Even_init van_Even_init (.ref vc_Even_init) vct_Even_init), vsl_Even_init⟩)
    (mc_Even_init : PySem.W.codeIn K (.ref vc_Even_init) "Even.__init__" = true)
    (mk_Even_init : PySem.W.keepIn K (.ref m_Even_init) = true)
    (mi_Even_init : PySem.W.isFn K (.ref m_Even_init) = true)
    {vcl_Even_init : Value} {vcld_Even_init : Option Addr} {vcsl_Even_init : Array (Option Value)} (mx_Even_init : K.lookup vcc_Even_init = some ⟨vcl_Even_init, vcld_Even_init, .cell (some (.ref O_Even)), vcsl_Even_init⟩)
    {vccl_Even_init : Value} {vcdd_Even_init : Option Addr} {vvs_Even_init : Array Value} {vccs_Even_init : Array (Option Value)} (my_Even_init : K.lookup vc_Even_init = some ⟨vccl_Even_init, vcdd_Even_init, .fields vvs_Even_init, vccs_Even_init⟩)
    {vfl_Even_init : Str} {vtf_Even_init : Tok} (mz_Even_init : vvs_Even_init[2]? = some (.str vfl_Even_init vtf_Even_init))
    (mf_Even_init : (l.prog.main.file == vfl_Even_init) = true)
    {vcd_Even_init : ClassData} (mg_Even_init : PySem.W.clsIn K O_Even = some vcd_Even_init)
    {m_Exact_init : Addr} (ma_Exact_init : PySem.W.findIn K (.ref O_Exact) "__init__" = some (some (.ref m_Exact_init)))
    {voc_Exact_init vkV_Exact_init vdc_Exact_init vpm_Exact_init vct_Exact_init : Value} {vod_Exact_init van_Exact_init : Option Addr} {vsl_Exact_init : Array (Option Value)} {vc_Exact_init vcc_Exact_init : Addr} (ml_Exact_init : K.lookup m_Exact_init = some ⟨voc_Exact_init, vod_Exact_init, .func (PySem.W.fnX "__init__" "Exact.__init__" (defArgs s_Exact_init) (defBody s_Exact_init) (defScope s_Exact_init) [("__class__", vcc_Exact_init)] .none vkV_Exact_init vdc_Exact_init vpm_Exact_init van_Exact_init (.ref vc_Exact_init) vct_Exact_init), vsl_Exact_init⟩)
    (mc_Exact_init : PySem.W.codeIn K (.ref vc_Exact_init) "Exact.__init__" = true)
    (mk_Exact_init : PySem.W.keepIn K (.ref m_Exact_init) = true)
    (mi_Exact_init : PySem.W.isFn K (.ref m_Exact_init) = true)
    {vcl_Exact_init : Value} {vcld_Exact_init : Option Addr} {vcsl_Exact_init : Array (Option Value)} (mx_Exact_init : K.lookup vcc_Exact_init = some ⟨vcl_Exact_init, vcld_Exact_init, .cell (some (.ref O_Exact)), vcsl_Exact_init⟩)
    {vccl_Exact_init : Value} {vcdd_Exact_init : Option Addr} {vvs_Exact_init : Array Value} {vccs_Exact_init : Array (Option Value)} (my_Exact_init : K.lookup vc_Exact_init = some ⟨vccl_Exact_init, vcdd_Exact_init, .fields vvs_Exact_init, vccs_Exact_init⟩)
    {vfl_Exact_init : Str} {vtf_Exact_init : Tok} (mz_Exact_init : vvs_Exact_init[2]? = some (.str vfl_Exact_init vtf_Exact_init))
    (mf_Exact_init : (l.prog.main.file == vfl_Exact_init) = true)
    {vcd_Exact_init : ClassData} (mg_Exact_init : PySem.W.clsIn K O_Exact = some vcd_Exact_init)
    {m_Lagging_init : Addr} (ma_Lagging_init : PySem.W.findIn K (.ref O_Lagging) "__init__" = some (some (.ref m_Lagging_init)))
    {voc_Lagging_init vkV_Lagging_init vdc_Lagging_init vpm_Lagging_init vct_Lagging_init : Value} {vod_Lagging_init van_Lagging_init : Option Addr} {vsl_Lagging_init : Array (Option Value)} {vc_Lagging_init vcc_Lagging_init : Addr} (ml_Lagging_init : K.lookup m_Lagging_init = some ⟨voc_Lagging_init, vod_Lagging_init, .func (PySem.W.fnX "__init__" "Lagging.__init__" (defArgs s_Lagging_init) (defBody s_Lagging_init) (defScope s_Lagging_init) [("__class__", vcc_Lagging_init)] .none vkV_Lagging_init vdc_Lagging_init vpm_Lagging_init van_Lagging_init (.ref vc_Lagging_init) vct_Lagging_init), vsl_Lagging_init⟩)
    (mc_Lagging_init : PySem.W.codeIn K (.ref vc_Lagging_init) "Lagging.__init__" = true)
    (mk_Lagging_init : PySem.W.keepIn K (.ref m_Lagging_init) = true)
    (mi_Lagging_init : PySem.W.isFn K (.ref m_Lagging_init) = true)
    {vcl_Lagging_init : Value} {vcld_Lagging_init : Option Addr} {vcsl_Lagging_init : Array (Option Value)} (mx_Lagging_init : K.lookup vcc_Lagging_init = some ⟨vcl_Lagging_init, vcld_Lagging_init, .cell (some (.ref O_Lagging)), vcsl_Lagging_init⟩)
    {vccl_Lagging_init : Value} {vcdd_Lagging_init : Option Addr} {vvs_Lagging_init : Array Value} {vccs_Lagging_init : Array (Option Value)} (my_Lagging_init : K.lookup vc_Lagging_init = some ⟨vccl_Lagging_init, vcdd_Lagging_init, .fields vvs_Lagging_init, vccs_Lagging_init⟩)
    {vfl_Lagging_init : Str} {vtf_Lagging_init : Tok} (mz_Lagging_init : vvs_Lagging_init[2]? = some (.str vfl_Lagging_init vtf_Lagging_init))
    (mf_Lagging_init : (l.prog.main.file == vfl_Lagging_init) = true)
    {vcd_Lagging_init : ClassData} (mg_Lagging_init : PySem.W.clsIn K O_Lagging = some vcd_Lagging_init)
    {m_Grid_init : Addr} (ma_Grid_init : PySem.W.findIn K (.ref O_Grid) "__init__" = some (some (.ref m_Grid_init)))
    {voc_Grid_init vkV_Grid_init vdc_Grid_init vpm_Grid_init vct_Grid_init : Value} {vod_Grid_init van_Grid_init : Option Addr} {vsl_Grid_init : Array (Option Value)} {vc_Grid_init vcc_Grid_init : Addr} (ml_Grid_init : K.lookup m_Grid_init = some ⟨voc_Grid_init, vod_Grid_init, .func (PySem.W.fnX "__init__" "Grid.__init__" (defArgs s_Grid_init) (defBody s_Grid_init) (defScope s_Grid_init) [("__class__", vcc_Grid_init)] .none vkV_Grid_init vdc_Grid_init vpm_Grid_init van_Grid_init (.ref vc_Grid_init) vct_Grid_init), vsl_Grid_init⟩)
    (mc_Grid_init : PySem.W.codeIn K (.ref vc_Grid_init) "Grid.__init__" = true)
    (mk_Grid_init : PySem.W.keepIn K (.ref m_Grid_init) = true)
    (mi_Grid_init : PySem.W.isFn K (.ref m_Grid_init) = true)
    {vcl_Grid_init : Value} {vcld_Grid_init : Option Addr} {vcsl_Grid_init : Array (Option Value)} (mx_Grid_init : K.lookup vcc_Grid_init = some ⟨vcl_Grid_init, vcld_Grid_init, .cell (some (.ref O_Grid)), vcsl_Grid_init⟩)
    {vccl_Grid_init : Value} {vcdd_Grid_init : Option Addr} {vvs_Grid_init : Array Value} {vccs_Grid_init : Array (Option Value)} (my_Grid_init : K.lookup vc_Grid_init = some ⟨vccl_Grid_init, vcdd_Grid_init, .fields vvs_Grid_init, vccs_Grid_init⟩)
    {vfl_Grid_init : Str} {vtf_Grid_init : Tok} (mz_Grid_init : vvs_Grid_init[2]? = some (.str vfl_Grid_init vtf_Grid_init))
    (mf_Grid_init : (l.prog.main.file == vfl_Grid_init) = true)
    {vcd_Grid_init : ClassData} (mg_Grid_init : PySem.W.clsIn K O_Grid = some vcd_Grid_init)
    (ka_Wheel : PySem.W.makesIn K O_Wheel = true)
    (kb_Wheel : PySem.W.findIn K (.ref O_Wheel) "__init__" = some (some (.ref m_Wheel_init)))
    (ka_Even : PySem.W.makesIn K O_Even = true)
    (kb_Even : PySem.W.findIn K (.ref O_Even) "__init__" = some (some (.ref m_Even_init)))
    (ka_Exact : PySem.W.makesIn K O_Exact = true)
    (kb_Exact : PySem.W.findIn K (.ref O_Exact) "__init__" = some (some (.ref m_Exact_init)))
    (ka_Lagging : PySem.W.makesIn K O_Lagging = true)
    (kb_Lagging : PySem.W.findIn K (.ref O_Lagging) "__init__" = some (some (.ref m_Lagging_init)))
    (ka_Grid : PySem.W.makesIn K O_Grid = true)
    (kb_Grid : PySem.W.findIn K (.ref O_Grid) "__init__" = some (some (.ref m_Grid_init)))
    (sa_Even_Even_init : PySem.W.ks_superIn K O_Even O_Even "__init__" = some (some (.ref m_Wheel_init)))
    (sb_Even_Even_init : PySem.W.typeIn K (.ref m_Wheel_init) = some (.type "function"))
    (sc_Even_Even_init : PySem.W.fnIn K m_Wheel_init = true)
    {vsd_Even_Even_init : ClassData} (sd_Even_Even_init : PySem.W.clsIn K O_Even = some vsd_Even_Even_init)
    (se_Even_Even_init : PySem.W.mroIn K O_Even (.ref O_Even) = some true)
    (sa_Exact_Exact_init : PySem.W.ks_superIn K O_Exact O_Exact "__init__" = some (some (.ref m_Wheel_init)))
    (sb_Exact_Exact_init : PySem.W.typeIn K (.ref m_Wheel_init) = some (.type "function"))
    (sc_Exact_Exact_init : PySem.W.fnIn K m_Wheel_init = true)
    {vsd_Exact_Exact_init : ClassData} (sd_Exact_Exact_init : PySem.W.clsIn K O_Exact = some vsd_Exact_Exact_init)
    (se_Exact_Exact_init : PySem.W.mroIn K O_Exact (.ref O_Exact) = some true)
    (sa_Lagging_Lagging_init : PySem.W.ks_superIn K O_Lagging O_Lagging "__init__" = some (some (.ref m_Wheel_init)))
    (sb_Lagging_Lagging_init : PySem.W.typeIn K (.ref m_Wheel_init) = some (.type "function"))
    (sc_Lagging_Lagging_init : PySem.W.fnIn K m_Wheel_init = true)
    {vsd_Lagging_Lagging_init : ClassData} (sd_Lagging_Lagging_init : PySem.W.clsIn K O_Lagging = some vsd_Lagging_Lagging_init)
    (se_Lagging_Lagging_init : PySem.W.mroIn K O_Lagging (.ref O_Lagging) = some true)
    (sa_Grid_Grid_init : PySem.W.ks_superIn K O_Grid O_Grid "__init__" = some (some (.ref m_Wheel_init)))
    (sb_Grid_Grid_init : PySem.W.typeIn K (.ref m_Wheel_init) = some (.type "function"))
    (sc_Grid_Grid_init : PySem.W.fnIn K m_Wheel_init = true)
    {vsd_Grid_Grid_init : ClassData} (sd_Grid_Grid_init : PySem.W.clsIn K O_Grid = some vsd_Grid_Grid_init)
    (se_Grid_Grid_init : PySem.W.mroIn K O_Grid (.ref O_Grid) = some true)
    (no_Wheel_period : PySem.W.findIn K (.ref O_Wheel) "period" = some none)
    (no_Wheel_back : PySem.W.findIn K (.ref O_Wheel) "back" = some none)
    (no_Wheel_ahead : PySem.W.findIn K (.ref O_Wheel) "ahead" = some none)
    {pp_Wheel_play : Addr} (pa_Wheel_play : PySem.W.findIn K (.ref O_Wheel) "play" = some (some (.ref pp_Wheel_play)))
    (pb_Wheel_play : PySem.W.specialIn K (.ref pp_Wheel_play) "__get__" = some (some (.builtin "property.__get__")))
    (pc_Wheel_play : PySem.W.takesIn K (.ref pp_Wheel_play) = some true)
    {pr_Wheel_play : List Value} (pd_Wheel_play : PySem.W.recIn K pp_Wheel_play "property" = some (.ref m_Wheel_play :: pr_Wheel_play))
    {pp_Wheel_never_parts : Addr} (pa_Wheel_never_parts : PySem.W.findIn K (.ref O_Wheel) "never_parts" = some (some (.ref pp_Wheel_never_parts)))
    (pb_Wheel_never_parts : PySem.W.specialIn K (.ref pp_Wheel_never_parts) "__get__" = some (some (.builtin "property.__get__")))
    (pc_Wheel_never_parts : PySem.W.takesIn K (.ref pp_Wheel_never_parts) = some true)
    {pr_Wheel_never_parts : List Value} (pd_Wheel_never_parts : PySem.W.recIn K pp_Wheel_never_parts "property" = some (.ref m_Wheel_never_parts :: pr_Wheel_never_parts))
    {pp_Wheel_near : Addr} (pa_Wheel_near : PySem.W.findIn K (.ref O_Wheel) "near" = some (some (.ref pp_Wheel_near)))
    (pb_Wheel_near : PySem.W.specialIn K (.ref pp_Wheel_near) "__get__" = some (some (.builtin "property.__get__")))
    (pc_Wheel_near : PySem.W.takesIn K (.ref pp_Wheel_near) = some true)
    {pr_Wheel_near : List Value} (pd_Wheel_near : PySem.W.recIn K pp_Wheel_near "property" = some (.ref m_Wheel_near :: pr_Wheel_near))
    (xa_Wheel_does_part : PySem.W.findIn K (.ref O_Wheel) "does_part" = some (some (.ref m_Wheel_does_part)))
    (no_Even_period : PySem.W.findIn K (.ref O_Even) "period" = some none)
    (no_Even_back : PySem.W.findIn K (.ref O_Even) "back" = some none)
    (no_Even_ahead : PySem.W.findIn K (.ref O_Even) "ahead" = some none)
    {pp_Even_play : Addr} (pa_Even_play : PySem.W.findIn K (.ref O_Even) "play" = some (some (.ref pp_Even_play)))
    (pb_Even_play : PySem.W.specialIn K (.ref pp_Even_play) "__get__" = some (some (.builtin "property.__get__")))
    (pc_Even_play : PySem.W.takesIn K (.ref pp_Even_play) = some true)
    {pr_Even_play : List Value} (pd_Even_play : PySem.W.recIn K pp_Even_play "property" = some (.ref m_Wheel_play :: pr_Even_play))
    {pp_Even_never_parts : Addr} (pa_Even_never_parts : PySem.W.findIn K (.ref O_Even) "never_parts" = some (some (.ref pp_Even_never_parts)))
    (pb_Even_never_parts : PySem.W.specialIn K (.ref pp_Even_never_parts) "__get__" = some (some (.builtin "property.__get__")))
    (pc_Even_never_parts : PySem.W.takesIn K (.ref pp_Even_never_parts) = some true)
    {pr_Even_never_parts : List Value} (pd_Even_never_parts : PySem.W.recIn K pp_Even_never_parts "property" = some (.ref m_Wheel_never_parts :: pr_Even_never_parts))
    {pp_Even_near : Addr} (pa_Even_near : PySem.W.findIn K (.ref O_Even) "near" = some (some (.ref pp_Even_near)))
    (pb_Even_near : PySem.W.specialIn K (.ref pp_Even_near) "__get__" = some (some (.builtin "property.__get__")))
    (pc_Even_near : PySem.W.takesIn K (.ref pp_Even_near) = some true)
    {pr_Even_near : List Value} (pd_Even_near : PySem.W.recIn K pp_Even_near "property" = some (.ref m_Wheel_near :: pr_Even_near))
    (xa_Even_does_part : PySem.W.findIn K (.ref O_Even) "does_part" = some (some (.ref m_Wheel_does_part)))
    (no_Exact_period : PySem.W.findIn K (.ref O_Exact) "period" = some none)
    (no_Exact_back : PySem.W.findIn K (.ref O_Exact) "back" = some none)
    (no_Exact_ahead : PySem.W.findIn K (.ref O_Exact) "ahead" = some none)
    {pp_Exact_play : Addr} (pa_Exact_play : PySem.W.findIn K (.ref O_Exact) "play" = some (some (.ref pp_Exact_play)))
    (pb_Exact_play : PySem.W.specialIn K (.ref pp_Exact_play) "__get__" = some (some (.builtin "property.__get__")))
    (pc_Exact_play : PySem.W.takesIn K (.ref pp_Exact_play) = some true)
    {pr_Exact_play : List Value} (pd_Exact_play : PySem.W.recIn K pp_Exact_play "property" = some (.ref m_Wheel_play :: pr_Exact_play))
    {pp_Exact_never_parts : Addr} (pa_Exact_never_parts : PySem.W.findIn K (.ref O_Exact) "never_parts" = some (some (.ref pp_Exact_never_parts)))
    (pb_Exact_never_parts : PySem.W.specialIn K (.ref pp_Exact_never_parts) "__get__" = some (some (.builtin "property.__get__")))
    (pc_Exact_never_parts : PySem.W.takesIn K (.ref pp_Exact_never_parts) = some true)
    {pr_Exact_never_parts : List Value} (pd_Exact_never_parts : PySem.W.recIn K pp_Exact_never_parts "property" = some (.ref m_Wheel_never_parts :: pr_Exact_never_parts))
    {pp_Exact_near : Addr} (pa_Exact_near : PySem.W.findIn K (.ref O_Exact) "near" = some (some (.ref pp_Exact_near)))
    (pb_Exact_near : PySem.W.specialIn K (.ref pp_Exact_near) "__get__" = some (some (.builtin "property.__get__")))
    (pc_Exact_near : PySem.W.takesIn K (.ref pp_Exact_near) = some true)
    {pr_Exact_near : List Value} (pd_Exact_near : PySem.W.recIn K pp_Exact_near "property" = some (.ref m_Wheel_near :: pr_Exact_near))
    (xa_Exact_does_part : PySem.W.findIn K (.ref O_Exact) "does_part" = some (some (.ref m_Wheel_does_part)))
    (no_Lagging_period : PySem.W.findIn K (.ref O_Lagging) "period" = some none)
    (no_Lagging_back : PySem.W.findIn K (.ref O_Lagging) "back" = some none)
    (no_Lagging_ahead : PySem.W.findIn K (.ref O_Lagging) "ahead" = some none)
    {pp_Lagging_play : Addr} (pa_Lagging_play : PySem.W.findIn K (.ref O_Lagging) "play" = some (some (.ref pp_Lagging_play)))
    (pb_Lagging_play : PySem.W.specialIn K (.ref pp_Lagging_play) "__get__" = some (some (.builtin "property.__get__")))
    (pc_Lagging_play : PySem.W.takesIn K (.ref pp_Lagging_play) = some true)
    {pr_Lagging_play : List Value} (pd_Lagging_play : PySem.W.recIn K pp_Lagging_play "property" = some (.ref m_Wheel_play :: pr_Lagging_play))
    {pp_Lagging_never_parts : Addr} (pa_Lagging_never_parts : PySem.W.findIn K (.ref O_Lagging) "never_parts" = some (some (.ref pp_Lagging_never_parts)))
    (pb_Lagging_never_parts : PySem.W.specialIn K (.ref pp_Lagging_never_parts) "__get__" = some (some (.builtin "property.__get__")))
    (pc_Lagging_never_parts : PySem.W.takesIn K (.ref pp_Lagging_never_parts) = some true)
    {pr_Lagging_never_parts : List Value} (pd_Lagging_never_parts : PySem.W.recIn K pp_Lagging_never_parts "property" = some (.ref m_Wheel_never_parts :: pr_Lagging_never_parts))
    {pp_Lagging_near : Addr} (pa_Lagging_near : PySem.W.findIn K (.ref O_Lagging) "near" = some (some (.ref pp_Lagging_near)))
    (pb_Lagging_near : PySem.W.specialIn K (.ref pp_Lagging_near) "__get__" = some (some (.builtin "property.__get__")))
    (pc_Lagging_near : PySem.W.takesIn K (.ref pp_Lagging_near) = some true)
    {pr_Lagging_near : List Value} (pd_Lagging_near : PySem.W.recIn K pp_Lagging_near "property" = some (.ref m_Wheel_near :: pr_Lagging_near))
    (xa_Lagging_does_part : PySem.W.findIn K (.ref O_Lagging) "does_part" = some (some (.ref m_Wheel_does_part)))
    (no_Grid_period : PySem.W.findIn K (.ref O_Grid) "period" = some none)
    (no_Grid_back : PySem.W.findIn K (.ref O_Grid) "back" = some none)
    (no_Grid_ahead : PySem.W.findIn K (.ref O_Grid) "ahead" = some none)
    {pp_Grid_play : Addr} (pa_Grid_play : PySem.W.findIn K (.ref O_Grid) "play" = some (some (.ref pp_Grid_play)))
    (pb_Grid_play : PySem.W.specialIn K (.ref pp_Grid_play) "__get__" = some (some (.builtin "property.__get__")))
    (pc_Grid_play : PySem.W.takesIn K (.ref pp_Grid_play) = some true)
    {pr_Grid_play : List Value} (pd_Grid_play : PySem.W.recIn K pp_Grid_play "property" = some (.ref m_Wheel_play :: pr_Grid_play))
    {pp_Grid_never_parts : Addr} (pa_Grid_never_parts : PySem.W.findIn K (.ref O_Grid) "never_parts" = some (some (.ref pp_Grid_never_parts)))
    (pb_Grid_never_parts : PySem.W.specialIn K (.ref pp_Grid_never_parts) "__get__" = some (some (.builtin "property.__get__")))
    (pc_Grid_never_parts : PySem.W.takesIn K (.ref pp_Grid_never_parts) = some true)
    {pr_Grid_never_parts : List Value} (pd_Grid_never_parts : PySem.W.recIn K pp_Grid_never_parts "property" = some (.ref m_Wheel_never_parts :: pr_Grid_never_parts))
    {pp_Grid_near : Addr} (pa_Grid_near : PySem.W.findIn K (.ref O_Grid) "near" = some (some (.ref pp_Grid_near)))
    (pb_Grid_near : PySem.W.specialIn K (.ref pp_Grid_near) "__get__" = some (some (.builtin "property.__get__")))
    (pc_Grid_near : PySem.W.takesIn K (.ref pp_Grid_near) = some true)
    {pr_Grid_near : List Value} (pd_Grid_near : PySem.W.recIn K pp_Grid_near "property" = some (.ref m_Wheel_near :: pr_Grid_near))
    (xa_Grid_does_part : PySem.W.findIn K (.ref O_Grid) "does_part" = some (some (.ref m_Wheel_does_part)))
    (xa_Wheel_shown_by : PySem.W.findIn K (.ref O_Wheel) "shown_by" = some (some (.ref m_Wheel_shown_by)))
    (xa_Wheel_is_mark : PySem.W.findIn K (.ref O_Wheel) "is_mark" = some (some (.ref m_Wheel_is_mark)))
    {u_MOST : Value} (ga_MOST : PySem.W.nsIn K mainGlobals "MOST" = some (some u_MOST))
    (r_MOST : RelV (.int 1000000000000) u_MOST)
    (x1 : PySem.W.kitOne K (.ref O_Lot) (.ref O_Lot) = some true)
    (x2 : PySem.W.notFirst K O_Lot (.ref O_Lot) = true)
    (x6 : PySem.W.findIn K (.ref O_Lot) "__contains__" = some (some (.ref m_Lot_contains)))
    (sb_NoneType : PySem.W.subIn K (.ref O_Lot) (.type "NoneType") = some false)
    (ks_NoneType : PySem.W.kitOne K (.type "NoneType") (.ref O_Lot) = some false)
    (sb_bool : PySem.W.subIn K (.ref O_Lot) (.type "bool") = some false)
    (ks_bool : PySem.W.kitOne K (.type "bool") (.ref O_Lot) = some false)
    (sb_int : PySem.W.subIn K (.ref O_Lot) (.type "int") = some false)
    (ks_int : PySem.W.kitOne K (.type "int") (.ref O_Lot) = some false)
    (sb_str : PySem.W.subIn K (.ref O_Lot) (.type "str") = some false)
    (ks_str : PySem.W.kitOne K (.type "str") (.ref O_Lot) = some false)
    (sb_list : PySem.W.subIn K (.ref O_Lot) (.type "list") = some false)
    (ks_list : PySem.W.kitOne K (.type "list") (.ref O_Lot) = some false)
    (sb_tuple : PySem.W.subIn K (.ref O_Lot) (.type "tuple") = some false)
    (ks_tuple : PySem.W.kitOne K (.type "tuple") (.ref O_Lot) = some false)
    (sb_dict : PySem.W.subIn K (.ref O_Lot) (.type "dict") = some false)
    (ks_dict : PySem.W.kitOne K (.type "dict") (.ref O_Lot) = some false)
    (xn : PySem.W.exmOne K (.ref C_0) (.ref D_0) = some true)
    (ynn : PySem.W.kitOne K (.ref C_0) (.ref C_0) = some true)
    (vn : PySem.W.kitOne K (.ref C_0) (.type "ValueError") = some true)
    {mc0 mp0 : Addr} {me0 : Value} {md0 : Option Addr} {mv0 : Array Value} {ms0 : Array (Option Value)} (mq0 : cd22 = .ref mc0) (mk0 : K.lookup mc0 = some ⟨me0, md0, .fields mv0, ms0⟩) (mt0 : mv0[11]? = some (.ref mp0)) (mr0 : ((recsOf q).find? fun e => e.name == ("_law_right" : Str)).isSome = true) (ml0 : K.lookup mp0 = none) :
    LawG q l.prog w K 13 mg fa := by
  have e := hfa.symm.trans (PySem.W.mg_of X G a23)
  cases e
  have B : Bi mg := ⟨PySem.W.mg_none_of X G z0, PySem.W.mg_none_of X G z1, PySem.W.mg_none_of X G z2, PySem.W.mg_none_of X G z3, PySem.W.mg_none_of X G z4, PySem.W.mg_none_of X G z5, PySem.W.mg_none_of X G z6, PySem.W.mg_none_of X G z7, PySem.W.mg_none_of X G z8, PySem.W.mg_none_of X G z9, PySem.W.mg_none_of X G z10, PySem.W.mg_none_of X G z11, PySem.W.mg_none_of X G z12, PySem.W.mg_none_of X G z13, PySem.W.mg_none_of X G z14, PySem.W.mg_none_of X G z15, PySem.W.mg_none_of X G z16, PySem.W.mg_none_of X G z17, PySem.W.mg_none_of X G z18, PySem.W.mg_none_of X G z19, PySem.W.mg_none_of X G z20, PySem.W.mg_none_of X G z21, PySem.W.mg_none_of X G z22, PySem.W.mg_none_of X G z23, PySem.W.mg_none_of X G z24, PySem.W.mg_none_of X G z25⟩
  have F_is_whole : Df K mg "is_whole" s_is_whole := ⟨_, _, PySem.W.mg_of X G a0, fun_mk l0 c0 k0⟩
  have F_need_whole : Df K mg "need_whole" s_need_whole := ⟨_, _, PySem.W.mg_of X G a1, fun_mk l1 c1 k1⟩
  have F_need_above : Df K mg "need_above" s_need_above := ⟨_, _, PySem.W.mg_of X G a2, fun_mk l2 c2 k2⟩
  have F_apart : Df K mg "apart" s_apart := ⟨_, _, PySem.W.mg_of X G a3, fun_mk l3 c3 k3⟩
  have F_is_run : Df K mg "is_run" s_is_run := ⟨_, _, PySem.W.mg_of X G a4, fun_mk l4 c4 k4⟩
  have F_length_of : Df K mg "length_of" s_length_of := ⟨_, _, PySem.W.mg_of X G a5, fun_mk l5 c5 k5⟩
  have F_place_among : Df K mg "place_among" s_place_among := ⟨_, _, PySem.W.mg_of X G a6, fun_mk l6 c6 k6⟩
  have F_melted : Df K mg "melted" s_melted := ⟨_, _, PySem.W.mg_of X G a7, fun_mk l7 c7 k7⟩
  have F_closed_round : Df K mg "closed_round" s_closed_round := ⟨_, _, PySem.W.mg_of X G a8, fun_mk l8 c8 k8⟩
  have F_maximal : Df K mg "maximal" s_maximal := ⟨_, _, PySem.W.mg_of X G a9, fun_mk l9 c9 k9⟩
  have F_least_form : Df K mg "least_form" s_least_form := ⟨_, _, PySem.W.mg_of X G a10, fun_mk l10 c10 k10⟩
  have F_need_integer : Df K mg "need_integer" s_need_integer := ⟨_, _, PySem.W.mg_of X G a11, fun_mk l11 c11 k11⟩
  have F_need_few : Df K mg "need_few" s_need_few := ⟨_, _, PySem.W.mg_of X G a12, fun_mk l12 c12 k12⟩
  have F_need_part : Df K mg "need_part" s_need_part := ⟨_, _, PySem.W.mg_of X G a13, fun_mk l13 c13 k13⟩
  have F_law_pen : Df K mg "_law_pen" s_law_pen := ⟨_, _, PySem.W.mg_of X G a14, fun_mk l14 c14 k14⟩
  have F_law_draw : Df K mg "_law_draw" s_law_draw := ⟨_, _, PySem.W.mg_of X G a15, fun_mk l15 c15 k15⟩
  have F_law_pick : Df K mg "_law_pick" s_law_pick := ⟨_, _, PySem.W.mg_of X G a16, fun_mk l16 c16 k16⟩
  have F_law_heard : Df K mg "_law_heard" s_law_heard := ⟨_, _, PySem.W.mg_of X G a17, fun_mk l17 c17 k17⟩
  have F_law_wheel : Df K mg "_law_wheel" s_law_wheel := ⟨_, _, PySem.W.mg_of X G a18, fun_mk l18 c18 k18⟩
  have F_law_of : Df K mg "_law_of" s_law_of := ⟨_, _, PySem.W.mg_of X G a19, fun_mk l19 c19 k19⟩
  have F_law_marks : Df K mg "_law_marks" s_law_marks := ⟨_, _, PySem.W.mg_of X G a20, fun_mk l20 c20 k20⟩
  have F_law_parts : Df K mg "_law_parts" s_law_parts := ⟨_, _, PySem.W.mg_of X G a21, fun_mk l21 c21 k21⟩
  have F_law_right : Df K mg "_law_right" s_law_right := ⟨_, _, PySem.W.mg_of X G a22, fun_mk l22 c22 k22⟩
  have C_law_right : DfC K mg "_law_right" s_law_right mc0 := ⟨_, _, _, _, _, _, _, _, _, PySem.W.mg_of X G a22, mq0 ▸ l22, mq0 ▸ c22, k22⟩
  have FL := fun_mk (st := s_law) l23 c23 k23
  have A : ErrAll l.prog K mg := ⟨g3, op, PySem.W.mg_none_of X G zs, g1, g2⟩
  refine ⟨[("_law_right", mc0, mp0, ("_law_right.<locals>." ++ "<lambda>" : Str))], (by simp), fun p hp => by
    simp only [List.mem_cons, List.not_mem_nil, or_false] at hp
    rcases hp with rfl
    · exact ⟨tab_mk a22 (mq0 ▸ l22) mk0 mt0, mr0, ml0⟩
  , fun base hK hG hT => ?_⟩
  have TB_law_right := hT ("_law_right", mc0, mp0, _) List.mem_cons_self
  have T_BadNumber : ErrT l.prog w K mg base "BadNumber" C_0 ["value"] := err_mk1 "value" X G A E_0 e0_0 sc_BadNumber_init rfl rfl rfl rfl (fun _ => rfl) (fun _ => rfl) (fun _ => ⟨_, rfl⟩) (fun _ => rfl) (by decide) (by decide) (fun us hl => match us, hl with | [_, _], _ => rfl)
  have T_BadLot : ErrT l.prog w K mg base "BadLot" C_1 ["part"] := err_mk1 "part" X G A E_1 e1_0 sc_BadLot_init rfl rfl rfl rfl (fun _ => rfl) (fun _ => rfl) (fun _ => ⟨_, rfl⟩) (fun _ => rfl) (by decide) (by decide) (fun us hl => match us, hl with | [_, _], _ => rfl)
  have T_BadWheel : ErrT l.prog w K mg base "BadWheel" C_2 ["part"] := err_mk1 "part" X G A E_2 e2_0 sc_BadWheel_init rfl rfl rfl rfl (fun _ => rfl) (fun _ => rfl) (fun _ => ⟨_, rfl⟩) (fun _ => rfl) (by decide) (by decide) (fun us hl => match us, hl with | [_, _], _ => rfl)
  have T_BadValue : ErrT l.prog w K mg base "BadValue" C_3 ["value"] := err_mk1 "value" X G A E_3 e3_0 sc_BadValue_init rfl rfl rfl rfl (fun _ => rfl) (fun _ => rfl) (fun _ => ⟨_, rfl⟩) (fun _ => rfl) (by decide) (by decide) (fun us hl => match us, hl with | [_, _], _ => rfl)
  have T_BadText : ErrT l.prog w K mg base "BadText" C_4 ["line", "word"] := err_mk2 "line" "word" X G A E_4 e4_0 e4_1 sc_BadText_init rfl rfl rfl rfl (fun _ => rfl) (fun _ => rfl) (fun _ => ⟨_, rfl⟩) (fun _ => rfl) (fun _ => rfl) (by decide) (by decide) (by decide) (by decide) (fun us hl => match us, hl with | [_, _, _], _ => rfl)
  have T_NoPlace : ErrT l.prog w K mg base "NoPlace" C_5 ["at"] := err_mk1 "at" X G A E_5 e5_0 sc_NoPlace_init rfl rfl rfl rfl (fun _ => rfl) (fun _ => rfl) (fun _ => ⟨_, rfl⟩) (fun _ => rfl) (by decide) (by decide) (fun us hl => match us, hl with | [_, _], _ => rfl)
  have T_TooMany : ErrT l.prog w K mg base "TooMany" C_6 ["what", "most"] := err_mk2 "what" "most" X G A E_6 e6_0 e6_1 sc_TooMany_init rfl rfl rfl rfl (fun _ => rfl) (fun _ => rfl) (fun _ => ⟨_, rfl⟩) (fun _ => rfl) (fun _ => rfl) (by decide) (by decide) (by decide) (by decide) (fun us hl => match us, hl with | [_, _, _], _ => rfl)
  have G_ReachError : mg "ReachError" = some (.ref D_0) := PySem.W.mg_of X G d0
  have G_NoMember : mg "NoMember" = some (.ref D_1) := PySem.W.mg_of X G d1
  have G_Lot : mg "Lot" = some (.ref O_Lot) := PySem.W.mg_of X G oa_Lot
  have c_Lot : L2.Cls K O_Lot := ⟨ob_Lot, oc_Lot, od_Lot, oe_Lot⟩
  have t_Lot : OwnT K O_Lot := ⟨og_Lot, oc_Lot, oh_Lot, g1, g2, oi_Lot⟩
  have FM_Lot_init := fun_mk (st := s_Lot_init) ml_Lot_init mc_Lot_init mk_Lot_init
  have FM_Lot_around := fun_mk (st := s_Lot_around) ml_Lot_around mc_Lot_around mk_Lot_around
  have sta_Lot_around : CSta K O_Lot (.type "type") "around" mq_Lot_around m_Lot_around := ⟨⟨ta_Lot_around, tb_Lot_around⟩, tc_Lot_around, ⟨_, mb_Lot_around⟩, mk_Lot_around⟩
  have FM_Lot_eq := fun_mk (st := s_Lot_eq) ml_Lot_eq mc_Lot_eq mk_Lot_eq
  have FM_Lot_contains := fun_mk (st := s_Lot_contains) ml_Lot_contains mc_Lot_contains mk_Lot_contains
  have FM_Lot_at_least := fun_mk (st := s_Lot_at_least) ml_Lot_at_least mc_Lot_at_least mk_Lot_at_least
  have me_Lot_at_least : Meth K O_Lot "at_least" m_Lot_at_least := ⟨xa_Lot_at_least, mi_Lot_at_least, mk_Lot_at_least⟩
  have mk_Lot : Mk K O_Lot m_Lot_init := ⟨ka_Lot, kb_Lot, mi_Lot_init, of_Lot⟩
  have oe_Lot : OwnEq K O_Lot m_Lot_eq := ⟨qa_Lot, mi_Lot_eq, qb_Lot, oi_Lot⟩
  have g_MOST_RUNS := PySem.W.mg_of X G ga_MOST_RUNS
  have G_Wheel : mg "Wheel" = some (.ref O_Wheel) := PySem.W.mg_of X G oa_Wheel
  have c_Wheel : L2.Cls K O_Wheel := ⟨ob_Wheel, oc_Wheel, od_Wheel, oe_Wheel⟩
  have t_Wheel : OwnT K O_Wheel := ⟨og_Wheel, oc_Wheel, oh_Wheel, g1, g2, oi_Wheel⟩
  have G_Even : mg "Even" = some (.ref O_Even) := PySem.W.mg_of X G oa_Even
  have c_Even : L2.Cls K O_Even := ⟨ob_Even, oc_Even, od_Even, oe_Even⟩
  have t_Even : OwnT K O_Even := ⟨og_Even, oc_Even, oh_Even, g1, g2, oi_Even⟩
  have G_Exact : mg "Exact" = some (.ref O_Exact) := PySem.W.mg_of X G oa_Exact
  have c_Exact : L2.Cls K O_Exact := ⟨ob_Exact, oc_Exact, od_Exact, oe_Exact⟩
  have t_Exact : OwnT K O_Exact := ⟨og_Exact, oc_Exact, oh_Exact, g1, g2, oi_Exact⟩
  have G_Lagging : mg "Lagging" = some (.ref O_Lagging) := PySem.W.mg_of X G oa_Lagging
  have c_Lagging : L2.Cls K O_Lagging := ⟨ob_Lagging, oc_Lagging, od_Lagging, oe_Lagging⟩
  have t_Lagging : OwnT K O_Lagging := ⟨og_Lagging, oc_Lagging, oh_Lagging, g1, g2, oi_Lagging⟩
  have G_Grid : mg "Grid" = some (.ref O_Grid) := PySem.W.mg_of X G oa_Grid
  have c_Grid : L2.Cls K O_Grid := ⟨ob_Grid, oc_Grid, od_Grid, oe_Grid⟩
  have t_Grid : OwnT K O_Grid := ⟨og_Grid, oc_Grid, oh_Grid, g1, g2, oi_Grid⟩
  have FM_Wheel_init := fun_mk (st := s_Wheel_init) ml_Wheel_init mc_Wheel_init mk_Wheel_init
  have FM_Wheel_play := fun_mk (st := s_Wheel_play) ml_Wheel_play mc_Wheel_play mk_Wheel_play
  have FM_Wheel_never_parts := fun_mk (st := s_Wheel_never_parts) ml_Wheel_never_parts mc_Wheel_never_parts mk_Wheel_never_parts
  have FM_Wheel_near := fun_mk (st := s_Wheel_near) ml_Wheel_near mc_Wheel_near mk_Wheel_near
  have FM_Wheel_is_mark := fun_mk (st := s_Wheel_is_mark) ml_Wheel_is_mark mc_Wheel_is_mark mk_Wheel_is_mark
  have FM_Wheel_does_part := fun_mk (st := s_Wheel_does_part) ml_Wheel_does_part mc_Wheel_does_part mk_Wheel_does_part
  have FM_Wheel_shown_by := fun_mk (st := s_Wheel_shown_by) ml_Wheel_shown_by mc_Wheel_shown_by mk_Wheel_shown_by
  have FM_Even_init : SupF l.prog K "__init__" "Even.__init__" s_Even_init m_Even_init vc_Even_init vcc_Even_init O_Even _ := ⟨⟨voc_Even_init, vod_Even_init, vkV_Even_init, vdc_Even_init, vpm_Even_init, vct_Even_init, van_Even_init, vsl_Even_init, rfl, ml_Even_init⟩, mc_Even_init, ⟨vcl_Even_init, vcld_Even_init, vcsl_Even_init, mx_Even_init⟩, ⟨vccl_Even_init, vcdd_Even_init, vvs_Even_init, vccs_Even_init, vfl_Even_init, vtf_Even_init, my_Even_init, mz_Even_init, mf_Even_init⟩, ⟨vcd_Even_init, mg_Even_init⟩, g3⟩
  have FM_Exact_init : SupF l.prog K "__init__" "Exact.__init__" s_Exact_init m_Exact_init vc_Exact_init vcc_Exact_init O_Exact _ := ⟨⟨voc_Exact_init, vod_Exact_init, vkV_Exact_init, vdc_Exact_init, vpm_Exact_init, vct_Exact_init, van_Exact_init, vsl_Exact_init, rfl, ml_Exact_init⟩, mc_Exact_init, ⟨vcl_Exact_init, vcld_Exact_init, vcsl_Exact_init, mx_Exact_init⟩, ⟨vccl_Exact_init, vcdd_Exact_init, vvs_Exact_init, vccs_Exact_init, vfl_Exact_init, vtf_Exact_init, my_Exact_init, mz_Exact_init, mf_Exact_init⟩, ⟨vcd_Exact_init, mg_Exact_init⟩, g3⟩
  have FM_Lagging_init : SupF l.prog K "__init__" "Lagging.__init__" s_Lagging_init m_Lagging_init vc_Lagging_init vcc_Lagging_init O_Lagging _ := ⟨⟨voc_Lagging_init, vod_Lagging_init, vkV_Lagging_init, vdc_Lagging_init, vpm_Lagging_init, vct_Lagging_init, van_Lagging_init, vsl_Lagging_init, rfl, ml_Lagging_init⟩, mc_Lagging_init, ⟨vcl_Lagging_init, vcld_Lagging_init, vcsl_Lagging_init, mx_Lagging_init⟩, ⟨vccl_Lagging_init, vcdd_Lagging_init, vvs_Lagging_init, vccs_Lagging_init, vfl_Lagging_init, vtf_Lagging_init, my_Lagging_init, mz_Lagging_init, mf_Lagging_init⟩, ⟨vcd_Lagging_init, mg_Lagging_init⟩, g3⟩
  have FM_Grid_init : SupF l.prog K "__init__" "Grid.__init__" s_Grid_init m_Grid_init vc_Grid_init vcc_Grid_init O_Grid _ := ⟨⟨voc_Grid_init, vod_Grid_init, vkV_Grid_init, vdc_Grid_init, vpm_Grid_init, vct_Grid_init, van_Grid_init, vsl_Grid_init, rfl, ml_Grid_init⟩, mc_Grid_init, ⟨vcl_Grid_init, vcld_Grid_init, vcsl_Grid_init, mx_Grid_init⟩, ⟨vccl_Grid_init, vcdd_Grid_init, vvs_Grid_init, vccs_Grid_init, vfl_Grid_init, vtf_Grid_init, my_Grid_init, mz_Grid_init, mf_Grid_init⟩, ⟨vcd_Grid_init, mg_Grid_init⟩, g3⟩
  have mk_Wheel : Mk K O_Wheel m_Wheel_init := ⟨ka_Wheel, kb_Wheel, mi_Wheel_init, of_Wheel⟩
  have mk_Even : Mk K O_Even m_Even_init := ⟨ka_Even, kb_Even, mi_Even_init, of_Even⟩
  have mk_Exact : Mk K O_Exact m_Exact_init := ⟨ka_Exact, kb_Exact, mi_Exact_init, of_Exact⟩
  have mk_Lagging : Mk K O_Lagging m_Lagging_init := ⟨ka_Lagging, kb_Lagging, mi_Lagging_init, of_Lagging⟩
  have mk_Grid : Mk K O_Grid m_Grid_init := ⟨ka_Grid, kb_Grid, mi_Grid_init, of_Grid⟩
  have su_Even_Even_init : SupM K mg O_Even O_Even "__init__" m_Wheel_init := ⟨sa_Even_Even_init, sb_Even_Even_init, sc_Even_Even_init, ⟨_, sd_Even_Even_init⟩, se_Even_Even_init, op, PySem.W.mg_none_of X G zs⟩
  have su_Exact_Exact_init : SupM K mg O_Exact O_Exact "__init__" m_Wheel_init := ⟨sa_Exact_Exact_init, sb_Exact_Exact_init, sc_Exact_Exact_init, ⟨_, sd_Exact_Exact_init⟩, se_Exact_Exact_init, op, PySem.W.mg_none_of X G zs⟩
  have su_Lagging_Lagging_init : SupM K mg O_Lagging O_Lagging "__init__" m_Wheel_init := ⟨sa_Lagging_Lagging_init, sb_Lagging_Lagging_init, sc_Lagging_Lagging_init, ⟨_, sd_Lagging_Lagging_init⟩, se_Lagging_Lagging_init, op, PySem.W.mg_none_of X G zs⟩
  have su_Grid_Grid_init : SupM K mg O_Grid O_Grid "__init__" m_Wheel_init := ⟨sa_Grid_Grid_init, sb_Grid_Grid_init, sc_Grid_Grid_init, ⟨_, sd_Grid_Grid_init⟩, se_Grid_Grid_init, op, PySem.W.mg_none_of X G zs⟩
  have pr_Wheel_play : PropOf K O_Wheel "play" pp_Wheel_play m_Wheel_play := ⟨pa_Wheel_play, pb_Wheel_play, pc_Wheel_play, ⟨_, pd_Wheel_play⟩⟩
  have pr_Wheel_never_parts : PropOf K O_Wheel "never_parts" pp_Wheel_never_parts m_Wheel_never_parts := ⟨pa_Wheel_never_parts, pb_Wheel_never_parts, pc_Wheel_never_parts, ⟨_, pd_Wheel_never_parts⟩⟩
  have pr_Wheel_near : PropOf K O_Wheel "near" pp_Wheel_near m_Wheel_near := ⟨pa_Wheel_near, pb_Wheel_near, pc_Wheel_near, ⟨_, pd_Wheel_near⟩⟩
  have me_Wheel_does_part : Meth K O_Wheel "does_part" m_Wheel_does_part := ⟨xa_Wheel_does_part, mi_Wheel_does_part, mk_Wheel_does_part⟩
  have pr_Even_play : PropOf K O_Even "play" pp_Even_play m_Wheel_play := ⟨pa_Even_play, pb_Even_play, pc_Even_play, ⟨_, pd_Even_play⟩⟩
  have pr_Even_never_parts : PropOf K O_Even "never_parts" pp_Even_never_parts m_Wheel_never_parts := ⟨pa_Even_never_parts, pb_Even_never_parts, pc_Even_never_parts, ⟨_, pd_Even_never_parts⟩⟩
  have pr_Even_near : PropOf K O_Even "near" pp_Even_near m_Wheel_near := ⟨pa_Even_near, pb_Even_near, pc_Even_near, ⟨_, pd_Even_near⟩⟩
  have me_Even_does_part : Meth K O_Even "does_part" m_Wheel_does_part := ⟨xa_Even_does_part, mi_Wheel_does_part, mk_Wheel_does_part⟩
  have pr_Exact_play : PropOf K O_Exact "play" pp_Exact_play m_Wheel_play := ⟨pa_Exact_play, pb_Exact_play, pc_Exact_play, ⟨_, pd_Exact_play⟩⟩
  have pr_Exact_never_parts : PropOf K O_Exact "never_parts" pp_Exact_never_parts m_Wheel_never_parts := ⟨pa_Exact_never_parts, pb_Exact_never_parts, pc_Exact_never_parts, ⟨_, pd_Exact_never_parts⟩⟩
  have pr_Exact_near : PropOf K O_Exact "near" pp_Exact_near m_Wheel_near := ⟨pa_Exact_near, pb_Exact_near, pc_Exact_near, ⟨_, pd_Exact_near⟩⟩
  have me_Exact_does_part : Meth K O_Exact "does_part" m_Wheel_does_part := ⟨xa_Exact_does_part, mi_Wheel_does_part, mk_Wheel_does_part⟩
  have pr_Lagging_play : PropOf K O_Lagging "play" pp_Lagging_play m_Wheel_play := ⟨pa_Lagging_play, pb_Lagging_play, pc_Lagging_play, ⟨_, pd_Lagging_play⟩⟩
  have pr_Lagging_never_parts : PropOf K O_Lagging "never_parts" pp_Lagging_never_parts m_Wheel_never_parts := ⟨pa_Lagging_never_parts, pb_Lagging_never_parts, pc_Lagging_never_parts, ⟨_, pd_Lagging_never_parts⟩⟩
  have pr_Lagging_near : PropOf K O_Lagging "near" pp_Lagging_near m_Wheel_near := ⟨pa_Lagging_near, pb_Lagging_near, pc_Lagging_near, ⟨_, pd_Lagging_near⟩⟩
  have me_Lagging_does_part : Meth K O_Lagging "does_part" m_Wheel_does_part := ⟨xa_Lagging_does_part, mi_Wheel_does_part, mk_Wheel_does_part⟩
  have pr_Grid_play : PropOf K O_Grid "play" pp_Grid_play m_Wheel_play := ⟨pa_Grid_play, pb_Grid_play, pc_Grid_play, ⟨_, pd_Grid_play⟩⟩
  have pr_Grid_never_parts : PropOf K O_Grid "never_parts" pp_Grid_never_parts m_Wheel_never_parts := ⟨pa_Grid_never_parts, pb_Grid_never_parts, pc_Grid_never_parts, ⟨_, pd_Grid_never_parts⟩⟩
  have pr_Grid_near : PropOf K O_Grid "near" pp_Grid_near m_Wheel_near := ⟨pa_Grid_near, pb_Grid_near, pc_Grid_near, ⟨_, pd_Grid_near⟩⟩
  have me_Grid_does_part : Meth K O_Grid "does_part" m_Wheel_does_part := ⟨xa_Grid_does_part, mi_Wheel_does_part, mk_Wheel_does_part⟩
  have me_Wheel_shown_by : Meth K O_Wheel "shown_by" m_Wheel_shown_by := ⟨xa_Wheel_shown_by, mi_Wheel_shown_by, mk_Wheel_shown_by⟩
  have me_Wheel_is_mark : Meth K O_Wheel "is_mark" m_Wheel_is_mark := ⟨xa_Wheel_is_mark, mi_Wheel_is_mark, mk_Wheel_is_mark⟩
  have g_MOST := PySem.W.mg_of X G ga_MOST
  have D_wholeI := fn_is_wholeI (P := l.prog) (w := w) (base := base) B F_is_whole
  have D_run := fn_is_run B F_is_run D_wholeI
  have D_len := fn_length_of (P := l.prog) (w := w) (base := base) F_length_of
  have D_melt := fn_melted (P := l.prog) (w := w) (base := base) B F_melted
  have D_clos := fn_closed_round (P := l.prog) (w := w) (base := base) B F_closed_round
  have D_max := fn_maximal B F_maximal D_len D_melt D_clos
  have D_lform := fn_least_form B F_least_form D_len
  have D_few := fn_need_few (P := l.prog) (w := w) (base := base) F_need_few g_MOST_RUNS r_MOST_RUNS
  have la : LotA K O_Lot := ⟨c_Lot, no_Lot_period, no_Lot_runs, no_Lot_size, no_Lot_own_begins⟩
  have R_i := run_Lot_init B FM_Lot_init D_wholeI D_run D_max D_few D_lform D_len
  have R_eq := run_Lot_eq (P := l.prog) (w := w) (base := base) B FM_Lot_eq G_Lot la t_Lot x1
  have R_neq := run_Lot_neq (P := l.prog) (w := w) (base := base) B FM_Lot_eq G_Lot
  have R_ar := run_Lot_around FM_Lot_around argsP id id (fun _ _ r => r) (fun _ _ _ _ _ _ us hl => match us, hl with | [_, _], _ => rfl) D_wholeI G_Lot la mk_Lot R_i
  have D_place := fn_place_among (P := l.prog) (w := w) (base := base) B F_place_among
  have D_int := fn_need_integer (P := l.prog) (w := w) (base := base) F_need_integer D_wholeI
  have R_al := run_Lot_at_least B FM_Lot_at_least D_int D_place
  have R_in := run_Lot_contains B FM_Lot_contains D_wholeI me_Lot_at_least R_al
  have all7 : ∀ {Q : String → Prop}, Q "NoneType" → Q "bool" → Q "int" → Q "str" → Q "list" → Q "tuple" → Q "dict" → ∀ T ∈ ["NoneType", "bool", "int", "str", "list", "tuple", "dict"], Q T := by
    intro Q a b c d e f g T hT
    simp only [List.mem_cons, List.not_mem_nil, or_false] at hT
    rcases hT with rfl | rfl | rfl | rfl | rfl | rfl | rfl <;> first | exact a | exact b | exact c | exact d | exact e | exact f | exact g
  have SL : LotI l.prog w K mg base O_Lot := ⟨G_Lot, t_Lot, x1, m_Lot_contains, x6, mi_Lot_contains, la, R_in, ⟨m_Lot_eq, oe_Lot, R_eq, x2⟩, R_neq, all7 sb_NoneType sb_bool sb_int sb_str sb_list sb_tuple sb_dict, all7 ks_NoneType ks_bool ks_int ks_str ks_list ks_tuple ks_dict⟩
  have D_whole := fn_is_whole (P := l.prog) (w := w) (base := base) B F_is_whole
  have D_np := fn_need_part F_need_part D_whole T_BadWheel g_MOST r_MOST
  have D_nwh := fn_need_wholeP (P := l.prog) (w := w) (base := base) F_need_whole D_wholeI
  have D_nab := fn_need_above1 (P := l.prog) (w := w) (base := base) F_need_above D_wholeI
  have D_apart := fn_apart B F_apart D_nwh D_nab
  have R_play := run_Wheel_play (P := l.prog) (w := w) (base := base) (mg := mg) FM_Wheel_play
  have R_nev := run_Wheel_never (P := l.prog) (w := w) (base := base) (mg := mg) FM_Wheel_never_parts
  have R_near := run_Wheel_near FM_Wheel_near G_Lot sta_Lot_around R_ar
  have R_dp := run_Wheel_does_part FM_Wheel_does_part D_whole D_apart T_BadNumber R_play
  have R_dpK := run_Wheel_does_partK FM_Wheel_does_part D_whole D_apart T_BadNumber R_play
  have R_im := run_Wheel_is_mark FM_Wheel_is_mark D_whole
  have R_sb := run_Wheel_shown_by FM_Wheel_shown_by R_im T_BadNumber G_Lot la mk_Lot R_i
  have wa_Wheel : WhA K O_Wheel := ⟨c_Wheel, no_Wheel_period, no_Wheel_back, no_Wheel_ahead⟩
  have wd_Wheel : WhD l.prog w K mg base O_Lot C_0 m_Wheel_play O_Wheel := ⟨wa_Wheel, ⟨_, pr_Wheel_play⟩, ⟨_, me_Wheel_does_part, R_dp, R_dpK⟩, ⟨_, _, pr_Wheel_never_parts, R_nev⟩, ⟨_, _, pr_Wheel_near, R_near⟩⟩
  have wa_Even : WhA K O_Even := ⟨c_Even, no_Even_period, no_Even_back, no_Even_ahead⟩
  have wd_Even : WhD l.prog w K mg base O_Lot C_0 m_Wheel_play O_Even := ⟨wa_Even, ⟨_, pr_Even_play⟩, ⟨_, me_Even_does_part, R_dp, R_dpK⟩, ⟨_, _, pr_Even_never_parts, R_nev⟩, ⟨_, _, pr_Even_near, R_near⟩⟩
  have wa_Exact : WhA K O_Exact := ⟨c_Exact, no_Exact_period, no_Exact_back, no_Exact_ahead⟩
  have wd_Exact : WhD l.prog w K mg base O_Lot C_0 m_Wheel_play O_Exact := ⟨wa_Exact, ⟨_, pr_Exact_play⟩, ⟨_, me_Exact_does_part, R_dp, R_dpK⟩, ⟨_, _, pr_Exact_never_parts, R_nev⟩, ⟨_, _, pr_Exact_near, R_near⟩⟩
  have wa_Lagging : WhA K O_Lagging := ⟨c_Lagging, no_Lagging_period, no_Lagging_back, no_Lagging_ahead⟩
  have wd_Lagging : WhD l.prog w K mg base O_Lot C_0 m_Wheel_play O_Lagging := ⟨wa_Lagging, ⟨_, pr_Lagging_play⟩, ⟨_, me_Lagging_does_part, R_dp, R_dpK⟩, ⟨_, _, pr_Lagging_never_parts, R_nev⟩, ⟨_, _, pr_Lagging_near, R_near⟩⟩
  have wa_Grid : WhA K O_Grid := ⟨c_Grid, no_Grid_period, no_Grid_back, no_Grid_ahead⟩
  have wd_Grid : WhD l.prog w K mg base O_Lot C_0 m_Wheel_play O_Grid := ⟨wa_Grid, ⟨_, pr_Grid_play⟩, ⟨_, me_Grid_does_part, R_dp, R_dpK⟩, ⟨_, _, pr_Grid_never_parts, R_nev⟩, ⟨_, _, pr_Grid_near, R_near⟩⟩
  have R_w := run_Wheel_init FM_Wheel_init D_np
  have R_even := run_Even_init FM_Even_init D_np R_w su_Even_Even_init argsP id id (fun _ _ r => r) (fun _ _ _ _ _ us hl => match us, hl with | [_, _, _], _ => rfl)
  have R_lag := run_Lagging_init FM_Lagging_init D_np R_w su_Lagging_Lagging_init argsP id id (fun _ _ r => r) (fun _ _ _ _ _ us hl => match us, hl with | [_, _, _], _ => rfl)
  have R_ex := run_Exact_init FM_Exact_init R_w su_Exact_Exact_init argsP id id (fun _ _ r => r) (fun _ _ _ _ _ us hl => match us, hl with | [_, _], _ => rfl)
  have R_gr := run_Grid_init FM_Grid_init R_w su_Grid_Grid_init argsP id id (fun _ _ r => r) (fun _ _ _ _ _ us hl => match us, hl with | [_, _], _ => rfl)
  have W5 : Whs l.prog w K mg base O_Lot C_0 m_Wheel_play C_2 O_Wheel O_Even O_Exact O_Lagging O_Grid m_Wheel_init m_Even_init m_Exact_init m_Lagging_init m_Grid_init := ⟨⟨G_Wheel, mk_Wheel, R_w⟩, ⟨G_Even, mk_Even, R_even⟩, ⟨G_Exact, mk_Exact, R_ex⟩, ⟨G_Lagging, mk_Lagging, R_lag⟩, ⟨G_Grid, mk_Grid, R_gr⟩, wd_Wheel, wd_Even, wd_Exact, wd_Lagging, wd_Grid⟩
  have TE : ErrsN l.prog w K mg base C_0 D_0 := ⟨T_BadNumber, G_ReachError, xn, ynn, vn⟩
  have D_pen := fn_law_pen (P := l.prog) (w := w) (base := base) B F_law_pen
  have D_draw := fn_law_draw (P := l.prog) (w := w) (base := base) B F_law_draw
  have D_pick := fn_law_pick B F_law_pick D_draw
  have D_wh := fn_law_wheel B F_law_wheel D_draw
  have D_of := fn_law_of B F_law_of W5
  have D_marks := fn_law_marks (P := l.prog) (w := w) (base := base) B F_law_marks
  have D_parts := fn_law_parts B F_law_parts D_marks
  have D_right := fn_law_right B C_law_right TB_law_right D_draw D_pick D_of D_parts F_law_heard TE SL
  exact (fn_entry FL sc_law (fun _ _ _ _ _ _ us hl => match us, hl with | [_], _ => rfl) (by decide) (by tm_at "g_len") (law_body B D_pen D_wh D_right D_of W5 SL ⟨_, _, me_Wheel_shown_by, me_Wheel_is_mark, R_sb⟩)).mono (by decide)
theorem walk {l : PySem.W.OpenLaw} {q : Program} {loose : List Str} {XP : (Str → Option Value) → Heap → Prop} {YP : World → Heap → Prop} {d : DefRec} {K : Params → PySem.W.Frag} (hn : l.most = some 63) (hdf : d.params.defaults = [])
    (hY : ∀ (w : World) (h : Heap), YP w h → (K w.params).In h)
    (F : ∀ (w : World) (mg : Str → Option Value) (fa : Addr) (h : Heap), (K w.params).In h → h.Ns mainGlobals mg → mg d.name = some (.ref fa) → LawG q l.prog w (K w.params) 13 mg fa) : PySem.W.WalkO q loose XP YP l.row.toRowW d [] (fun f vs => PySem.call f vs) :=
  walkG (n := 63) hn (by decide) hdf ⟨rfl, by decide, by decide⟩ hY F
end T
open PySem PySem.W PyProof.Rows G in
set_option maxRecDepth 100000 in
set_option maxHeartbeats 0 in
theorem PySem.Challenge.cw_wheelreach_k24_differences_parted_holds : PySem.Challenge.rw_wheelreach_k24_differences_parted.Holds := by
  refine T.headT ?_
  k_fill
  refine T.walk (l := PySem.Challenge.rw_wheelreach_k24_differences_parted) rfl rfl (fun w h Y => by first | exact PySem.W.kIn_of Y | exact PySem.W.km_in_of Y) ?F
  case F =>
    intro w mg fa h KX G hmg
    refine' T.all_mk KX G hmg ?a0 ?l0 ?c0 ?k0 ?a1 ?l1 ?c1 ?k1 ?a2 ?l2 ?c2 ?k2 ?a3 ?l3 ?c3 ?k3 ?a4 ?l4 ?c4 ?k4 ?a5 ?l5 ?c5 ?k5 ?a6 ?l6 ?c6 ?k6 ?a7 ?l7 ?c7 ?k7 ?a8 ?l8 ?c8 ?k8 ?a9 ?l9 ?c9 ?k9 ?a10 ?l10 ?c10 ?k10 ?a11 ?l11 ?c11 ?k11 ?a12 ?l12 ?c12 ?k12 ?a13 ?l13 ?c13 ?k13 ?a14 ?l14 ?c14 ?k14 ?a15 ?l15 ?c15 ?k15 ?a16 ?l16 ?c16 ?k16 ?a17 ?l17 ?c17 ?k17 ?a18 ?l18 ?c18 ?k18 ?a19 ?l19 ?c19 ?k19 ?a20 ?l20 ?c20 ?k20 ?a21 ?l21 ?c21 ?k21 ?a22 ?l22 ?c22 ?k22 ?a23 ?l23 ?c23 ?k23 ?z0 ?z1 ?z2 ?z3 ?z4 ?z5 ?z6 ?z7 ?z8 ?z9 ?z10 ?z11 ?z12 ?z13 ?z14 ?z15 ?z16 ?z17 ?z18 ?z19 ?z20 ?z21 ?z22 ?z23 ?z24 ?z25 ?zs ?op ?g1 ?g2 ?g3 ?E_0 ?e0_0 ?E_1 ?e1_0 ?E_2 ?e2_0 ?E_3 ?e3_0 ?E_4 ?e4_0 ?e4_1 ?E_5 ?e5_0 ?E_6 ?e6_0 ?e6_1 ?d0 ?d1 ?oa_Lot ?ob_Lot ?oc_Lot ?od_Lot ?oe_Lot ?of_Lot ?og_Lot ?oh_Lot ?oi_Lot ?ma_Lot_init ?ml_Lot_init ?mc_Lot_init ?mk_Lot_init ?mi_Lot_init ?ma_Lot_around ?mb_Lot_around ?ml_Lot_around ?mc_Lot_around ?mk_Lot_around ?mi_Lot_around ?ta_Lot_around ?tb_Lot_around ?tc_Lot_around ?ma_Lot_eq ?ml_Lot_eq ?mc_Lot_eq ?mk_Lot_eq ?mi_Lot_eq ?ma_Lot_contains ?ml_Lot_contains ?mc_Lot_contains ?mk_Lot_contains ?mi_Lot_contains ?ma_Lot_at_least ?ml_Lot_at_least ?mc_Lot_at_least ?mk_Lot_at_least ?mi_Lot_at_least ?xa_Lot_at_least ?ka_Lot ?kb_Lot ?qa_Lot ?qb_Lot ?no_Lot_period ?no_Lot_runs ?no_Lot_size ?no_Lot_own_begins ?ga_MOST_RUNS ?r_MOST_RUNS ?oa_Wheel ?ob_Wheel ?oc_Wheel ?od_Wheel ?oe_Wheel ?of_Wheel ?og_Wheel ?oh_Wheel ?oi_Wheel ?oa_Even ?ob_Even ?oc_Even ?od_Even ?oe_Even ?of_Even ?og_Even ?oh_Even ?oi_Even ?oa_Exact ?ob_Exact ?oc_Exact ?od_Exact ?oe_Exact ?of_Exact ?og_Exact ?oh_Exact ?oi_Exact ?oa_Lagging ?ob_Lagging ?oc_Lagging ?od_Lagging ?oe_Lagging ?of_Lagging ?og_Lagging ?oh_Lagging ?oi_Lagging ?oa_Grid ?ob_Grid ?oc_Grid ?od_Grid ?oe_Grid ?of_Grid ?og_Grid ?oh_Grid ?oi_Grid ?ma_Wheel_init ?ml_Wheel_init ?mc_Wheel_init ?mk_Wheel_init ?mi_Wheel_init ?ma_Wheel_play ?mb_Wheel_play ?ml_Wheel_play ?mc_Wheel_play ?mk_Wheel_play ?mi_Wheel_play ?ma_Wheel_never_parts ?mb_Wheel_never_parts ?ml_Wheel_never_parts ?mc_Wheel_never_parts ?mk_Wheel_never_parts ?mi_Wheel_never_parts ?ma_Wheel_near ?mb_Wheel_near ?ml_Wheel_near ?mc_Wheel_near ?mk_Wheel_near ?mi_Wheel_near ?ma_Wheel_is_mark ?ml_Wheel_is_mark ?mc_Wheel_is_mark ?mk_Wheel_is_mark ?mi_Wheel_is_mark ?ma_Wheel_does_part ?ml_Wheel_does_part ?mc_Wheel_does_part ?mk_Wheel_does_part ?mi_Wheel_does_part ?ma_Wheel_shown_by ?ml_Wheel_shown_by ?mc_Wheel_shown_by ?mk_Wheel_shown_by ?mi_Wheel_shown_by ?ma_Even_init ?ml_Even_init ?mc_Even_init ?mk_Even_init ?mi_Even_init ?mx_Even_init ?my_Even_init ?mz_Even_init ?mf_Even_init ?mg_Even_init ?ma_Exact_init ?ml_Exact_init ?mc_Exact_init ?mk_Exact_init ?mi_Exact_init ?mx_Exact_init ?my_Exact_init ?mz_Exact_init ?mf_Exact_init ?mg_Exact_init ?ma_Lagging_init ?ml_Lagging_init ?mc_Lagging_init ?mk_Lagging_init ?mi_Lagging_init ?mx_Lagging_init ?my_Lagging_init ?mz_Lagging_init ?mf_Lagging_init ?mg_Lagging_init ?ma_Grid_init ?ml_Grid_init ?mc_Grid_init ?mk_Grid_init ?mi_Grid_init ?mx_Grid_init ?my_Grid_init ?mz_Grid_init ?mf_Grid_init ?mg_Grid_init ?ka_Wheel ?kb_Wheel ?ka_Even ?kb_Even ?ka_Exact ?kb_Exact ?ka_Lagging ?kb_Lagging ?ka_Grid ?kb_Grid ?sa_Even_Even_init ?sb_Even_Even_init ?sc_Even_Even_init ?sd_Even_Even_init ?se_Even_Even_init ?sa_Exact_Exact_init ?sb_Exact_Exact_init ?sc_Exact_Exact_init ?sd_Exact_Exact_init ?se_Exact_Exact_init ?sa_Lagging_Lagging_init ?sb_Lagging_Lagging_init ?sc_Lagging_Lagging_init ?sd_Lagging_Lagging_init ?se_Lagging_Lagging_init ?sa_Grid_Grid_init ?sb_Grid_Grid_init ?sc_Grid_Grid_init ?sd_Grid_Grid_init ?se_Grid_Grid_init ?no_Wheel_period ?no_Wheel_back ?no_Wheel_ahead ?pa_Wheel_play ?pb_Wheel_play ?pc_Wheel_play ?pd_Wheel_play ?pa_Wheel_never_parts ?pb_Wheel_never_parts ?pc_Wheel_never_parts ?pd_Wheel_never_parts ?pa_Wheel_near ?pb_Wheel_near ?pc_Wheel_near ?pd_Wheel_near ?xa_Wheel_does_part ?no_Even_period ?no_Even_back ?no_Even_ahead ?pa_Even_play ?pb_Even_play ?pc_Even_play ?pd_Even_play ?pa_Even_never_parts ?pb_Even_never_parts ?pc_Even_never_parts ?pd_Even_never_parts ?pa_Even_near ?pb_Even_near ?pc_Even_near ?pd_Even_near ?xa_Even_does_part ?no_Exact_period ?no_Exact_back ?no_Exact_ahead ?pa_Exact_play ?pb_Exact_play ?pc_Exact_play ?pd_Exact_play ?pa_Exact_never_parts ?pb_Exact_never_parts ?pc_Exact_never_parts ?pd_Exact_never_parts ?pa_Exact_near ?pb_Exact_near ?pc_Exact_near ?pd_Exact_near ?xa_Exact_does_part ?no_Lagging_period ?no_Lagging_back ?no_Lagging_ahead ?pa_Lagging_play ?pb_Lagging_play ?pc_Lagging_play ?pd_Lagging_play ?pa_Lagging_never_parts ?pb_Lagging_never_parts ?pc_Lagging_never_parts ?pd_Lagging_never_parts ?pa_Lagging_near ?pb_Lagging_near ?pc_Lagging_near ?pd_Lagging_near ?xa_Lagging_does_part ?no_Grid_period ?no_Grid_back ?no_Grid_ahead ?pa_Grid_play ?pb_Grid_play ?pc_Grid_play ?pd_Grid_play ?pa_Grid_never_parts ?pb_Grid_never_parts ?pc_Grid_never_parts ?pd_Grid_never_parts ?pa_Grid_near ?pb_Grid_near ?pc_Grid_near ?pd_Grid_near ?xa_Grid_does_part ?xa_Wheel_shown_by ?xa_Wheel_is_mark ?ga_MOST ?r_MOST ?x1 ?x2 ?x6 ?sb_NoneType ?ks_NoneType ?sb_bool ?ks_bool ?sb_int ?ks_int ?sb_str ?ks_str ?sb_list ?ks_list ?sb_tuple ?ks_tuple ?sb_dict ?ks_dict ?xn ?ynn ?vn ?mq0 ?mk0 ?mt0 ?mr0 ?ml0
    (case a0 => k_is)
    (case l0 => k_is)
    (case c0 => k_is)
    (case k0 => k_is)
    (case a1 => k_is)
    (case l1 => k_is)
    (case c1 => k_is)
    (case k1 => k_is)
    (case a2 => k_is)
    (case l2 => k_is)
    (case c2 => k_is)
    (case k2 => k_is)
    (case a3 => k_is)
    (case l3 => k_is)
    (case c3 => k_is)
    (case k3 => k_is)
    (case a4 => k_is)
    (case l4 => k_is)
    (case c4 => k_is)
    (case k4 => k_is)
    (case a5 => k_is)
    (case l5 => k_is)
    (case c5 => k_is)
    (case k5 => k_is)
    (case a6 => k_is)
    (case l6 => k_is)
    (case c6 => k_is)
    (case k6 => k_is)
    (case a7 => k_is)
    (case l7 => k_is)
    (case c7 => k_is)
    (case k7 => k_is)
    (case a8 => k_is)
    (case l8 => k_is)
    (case c8 => k_is)
    (case k8 => k_is)
    (case a9 => k_is)
    (case l9 => k_is)
    (case c9 => k_is)
    (case k9 => k_is)
    (case a10 => k_is)
    (case l10 => k_is)
    (case c10 => k_is)
    (case k10 => k_is)
    (case a11 => k_is)
    (case l11 => k_is)
    (case c11 => k_is)
    (case k11 => k_is)
    (case a12 => k_is)
    (case l12 => k_is)
    (case c12 => k_is)
    (case k12 => k_is)
    (case a13 => k_is)
    (case l13 => k_is)
    (case c13 => k_is)
    (case k13 => k_is)
    (case a14 => k_is)
    (case l14 => k_is)
    (case c14 => k_is)
    (case k14 => k_is)
    (case a15 => k_is)
    (case l15 => k_is)
    (case c15 => k_is)
    (case k15 => k_is)
    (case a16 => k_is)
    (case l16 => k_is)
    (case c16 => k_is)
    (case k16 => k_is)
    (case a17 => k_is)
    (case l17 => k_is)
    (case c17 => k_is)
    (case k17 => k_is)
    (case a18 => k_is)
    (case l18 => k_is)
    (case c18 => k_is)
    (case k18 => k_is)
    (case a19 => k_is)
    (case l19 => k_is)
    (case c19 => k_is)
    (case k19 => k_is)
    (case a20 => k_is)
    (case l20 => k_is)
    (case c20 => k_is)
    (case k20 => k_is)
    (case a21 => k_is)
    (case l21 => k_is)
    (case c21 => k_is)
    (case k21 => k_is)
    (case a22 => k_is)
    (case l22 => k_is)
    (case c22 => k_is)
    (case k22 => k_is)
    (case a23 => k_is)
    (case l23 => k_is)
    (case c23 => k_is)
    (case k23 => k_is)
    (case z0 => k_is)
    (case z1 => k_is)
    (case z2 => k_is)
    (case z3 => k_is)
    (case z4 => k_is)
    (case z5 => k_is)
    (case z6 => k_is)
    (case z7 => k_is)
    (case z8 => k_is)
    (case z9 => k_is)
    (case z10 => k_is)
    (case z11 => k_is)
    (case z12 => k_is)
    (case z13 => k_is)
    (case z14 => k_is)
    (case z15 => k_is)
    (case z16 => k_is)
    (case z17 => k_is)
    (case z18 => k_is)
    (case z19 => k_is)
    (case z20 => k_is)
    (case z21 => k_is)
    (case z22 => k_is)
    (case z23 => k_is)
    (case z24 => k_is)
    (case z25 => k_is)
    (case zs => k_is)
    (case op => k_is)
    (case g1 => k_is)
    (case g2 => k_is)
    (case g3 => rfl)
    (case E_0 => (refine' ErrFacts.mk ?y_a1 ?y_a2 ?y_a3 ?y_a4 ?y_a5 ?y_a6 ?y_a7 ?y_a8 ?y_a9 ?y_b1 ?y_b2 ?y_b3 ?y_b4 ?y_b5 ?y_b6 ?y_b7 ?y_b8 ?y_b9 ?y_c1 ?y_c2 ?y_c3 ?y_c4 ?y_c5 ?y_c6; (case y_a1 => k_is); (case y_a2 => k_is); (case y_a3 => rfl); (case y_a4 => k_is); (case y_a5 => k_is); (case y_a6 => k_is); (case y_a7 => k_is); (case y_a8 => k_is); (case y_a9 => k_is); (case y_b1 => first | kernel_rfl | rfl | decide +kernel); (case y_b2 => k_is); (case y_b3 => k_is); (case y_b4 => k_is); (case y_b5 => k_is); (case y_b6 => k_is); (case y_b7 => k_is); (case y_b8 => rfl); (case y_b9 => rfl); (case y_c1 => k_is); (case y_c2 => k_is); (case y_c3 => k_is); (case y_c4 => k_is); (case y_c5 => k_is); (case y_c6 => k_is)))
    (case e0_0 => k_is)
    (case E_1 => (refine' ErrFacts.mk ?y_a1 ?y_a2 ?y_a3 ?y_a4 ?y_a5 ?y_a6 ?y_a7 ?y_a8 ?y_a9 ?y_b1 ?y_b2 ?y_b3 ?y_b4 ?y_b5 ?y_b6 ?y_b7 ?y_b8 ?y_b9 ?y_c1 ?y_c2 ?y_c3 ?y_c4 ?y_c5 ?y_c6; (case y_a1 => k_is); (case y_a2 => k_is); (case y_a3 => rfl); (case y_a4 => k_is); (case y_a5 => k_is); (case y_a6 => k_is); (case y_a7 => k_is); (case y_a8 => k_is); (case y_a9 => k_is); (case y_b1 => first | kernel_rfl | rfl | decide +kernel); (case y_b2 => k_is); (case y_b3 => k_is); (case y_b4 => k_is); (case y_b5 => k_is); (case y_b6 => k_is); (case y_b7 => k_is); (case y_b8 => rfl); (case y_b9 => rfl); (case y_c1 => k_is); (case y_c2 => k_is); (case y_c3 => k_is); (case y_c4 => k_is); (case y_c5 => k_is); (case y_c6 => k_is)))
    (case e1_0 => k_is)
    (case E_2 => (refine' ErrFacts.mk ?y_a1 ?y_a2 ?y_a3 ?y_a4 ?y_a5 ?y_a6 ?y_a7 ?y_a8 ?y_a9 ?y_b1 ?y_b2 ?y_b3 ?y_b4 ?y_b5 ?y_b6 ?y_b7 ?y_b8 ?y_b9 ?y_c1 ?y_c2 ?y_c3 ?y_c4 ?y_c5 ?y_c6; (case y_a1 => k_is); (case y_a2 => k_is); (case y_a3 => rfl); (case y_a4 => k_is); (case y_a5 => k_is); (case y_a6 => k_is); (case y_a7 => k_is); (case y_a8 => k_is); (case y_a9 => k_is); (case y_b1 => first | kernel_rfl | rfl | decide +kernel); (case y_b2 => k_is); (case y_b3 => k_is); (case y_b4 => k_is); (case y_b5 => k_is); (case y_b6 => k_is); (case y_b7 => k_is); (case y_b8 => rfl); (case y_b9 => rfl); (case y_c1 => k_is); (case y_c2 => k_is); (case y_c3 => k_is); (case y_c4 => k_is); (case y_c5 => k_is); (case y_c6 => k_is)))
    (case e2_0 => k_is)
    (case E_3 => (refine' ErrFacts.mk ?y_a1 ?y_a2 ?y_a3 ?y_a4 ?y_a5 ?y_a6 ?y_a7 ?y_a8 ?y_a9 ?y_b1 ?y_b2 ?y_b3 ?y_b4 ?y_b5 ?y_b6 ?y_b7 ?y_b8 ?y_b9 ?y_c1 ?y_c2 ?y_c3 ?y_c4 ?y_c5 ?y_c6; (case y_a1 => k_is); (case y_a2 => k_is); (case y_a3 => rfl); (case y_a4 => k_is); (case y_a5 => k_is); (case y_a6 => k_is); (case y_a7 => k_is); (case y_a8 => k_is); (case y_a9 => k_is); (case y_b1 => first | kernel_rfl | rfl | decide +kernel); (case y_b2 => k_is); (case y_b3 => k_is); (case y_b4 => k_is); (case y_b5 => k_is); (case y_b6 => k_is); (case y_b7 => k_is); (case y_b8 => rfl); (case y_b9 => rfl); (case y_c1 => k_is); (case y_c2 => k_is); (case y_c3 => k_is); (case y_c4 => k_is); (case y_c5 => k_is); (case y_c6 => k_is)))
    (case e3_0 => k_is)
    (case E_4 => (refine' ErrFacts.mk ?y_a1 ?y_a2 ?y_a3 ?y_a4 ?y_a5 ?y_a6 ?y_a7 ?y_a8 ?y_a9 ?y_b1 ?y_b2 ?y_b3 ?y_b4 ?y_b5 ?y_b6 ?y_b7 ?y_b8 ?y_b9 ?y_c1 ?y_c2 ?y_c3 ?y_c4 ?y_c5 ?y_c6; (case y_a1 => k_is); (case y_a2 => k_is); (case y_a3 => rfl); (case y_a4 => k_is); (case y_a5 => k_is); (case y_a6 => k_is); (case y_a7 => k_is); (case y_a8 => k_is); (case y_a9 => k_is); (case y_b1 => first | kernel_rfl | rfl | decide +kernel); (case y_b2 => k_is); (case y_b3 => k_is); (case y_b4 => k_is); (case y_b5 => k_is); (case y_b6 => k_is); (case y_b7 => k_is); (case y_b8 => rfl); (case y_b9 => rfl); (case y_c1 => k_is); (case y_c2 => k_is); (case y_c3 => k_is); (case y_c4 => k_is); (case y_c5 => k_is); (case y_c6 => k_is)))
    (case e4_0 => k_is)
    (case e4_1 => k_is)
    (case E_5 => (refine' ErrFacts.mk ?y_a1 ?y_a2 ?y_a3 ?y_a4 ?y_a5 ?y_a6 ?y_a7 ?y_a8 ?y_a9 ?y_b1 ?y_b2 ?y_b3 ?y_b4 ?y_b5 ?y_b6 ?y_b7 ?y_b8 ?y_b9 ?y_c1 ?y_c2 ?y_c3 ?y_c4 ?y_c5 ?y_c6; (case y_a1 => k_is); (case y_a2 => k_is); (case y_a3 => rfl); (case y_a4 => k_is); (case y_a5 => k_is); (case y_a6 => k_is); (case y_a7 => k_is); (case y_a8 => k_is); (case y_a9 => k_is); (case y_b1 => first | kernel_rfl | rfl | decide +kernel); (case y_b2 => k_is); (case y_b3 => k_is); (case y_b4 => k_is); (case y_b5 => k_is); (case y_b6 => k_is); (case y_b7 => k_is); (case y_b8 => rfl); (case y_b9 => rfl); (case y_c1 => k_is); (case y_c2 => k_is); (case y_c3 => k_is); (case y_c4 => k_is); (case y_c5 => k_is); (case y_c6 => k_is)))
    (case e5_0 => k_is)
    (case E_6 => (refine' ErrFacts.mk ?y_a1 ?y_a2 ?y_a3 ?y_a4 ?y_a5 ?y_a6 ?y_a7 ?y_a8 ?y_a9 ?y_b1 ?y_b2 ?y_b3 ?y_b4 ?y_b5 ?y_b6 ?y_b7 ?y_b8 ?y_b9 ?y_c1 ?y_c2 ?y_c3 ?y_c4 ?y_c5 ?y_c6; (case y_a1 => k_is); (case y_a2 => k_is); (case y_a3 => rfl); (case y_a4 => k_is); (case y_a5 => k_is); (case y_a6 => k_is); (case y_a7 => k_is); (case y_a8 => k_is); (case y_a9 => k_is); (case y_b1 => first | kernel_rfl | rfl | decide +kernel); (case y_b2 => k_is); (case y_b3 => k_is); (case y_b4 => k_is); (case y_b5 => k_is); (case y_b6 => k_is); (case y_b7 => k_is); (case y_b8 => rfl); (case y_b9 => rfl); (case y_c1 => k_is); (case y_c2 => k_is); (case y_c3 => k_is); (case y_c4 => k_is); (case y_c5 => k_is); (case y_c6 => k_is)))
    (case e6_0 => k_is)
    (case e6_1 => k_is)
    (case d0 => k_is)
    (case d1 => k_is)
    (case oa_Lot => k_is)
    (case ob_Lot => k_is)
    (case oc_Lot => k_is)
    (case od_Lot => k_is)
    (case oe_Lot => k_is)
    (case of_Lot => k_is)
    (case og_Lot => k_is)
    (case oh_Lot => k_is)
    (case oi_Lot => k_is)
    (case ma_Lot_init => k_is)
    (case ml_Lot_init => k_is)
    (case mc_Lot_init => k_is)
    (case mk_Lot_init => k_is)
    (case mi_Lot_init => k_is)
    (case ma_Lot_around => k_is)
    (case mb_Lot_around => k_is)
    (case ml_Lot_around => k_is)
    (case mc_Lot_around => k_is)
    (case mk_Lot_around => k_is)
    (case mi_Lot_around => k_is)
    (case ta_Lot_around => first | k_is | kernel_rfl | rfl | decide +kernel)
    (case tb_Lot_around => first | k_is | kernel_rfl | rfl | decide +kernel)
    (case tc_Lot_around => first | kernel_rfl | rfl | k_is)
    (case ma_Lot_eq => k_is)
    (case ml_Lot_eq => k_is)
    (case mc_Lot_eq => k_is)
    (case mk_Lot_eq => k_is)
    (case mi_Lot_eq => k_is)
    (case ma_Lot_contains => k_is)
    (case ml_Lot_contains => k_is)
    (case mc_Lot_contains => k_is)
    (case mk_Lot_contains => k_is)
    (case mi_Lot_contains => k_is)
    (case ma_Lot_at_least => k_is)
    (case ml_Lot_at_least => k_is)
    (case mc_Lot_at_least => k_is)
    (case mk_Lot_at_least => k_is)
    (case mi_Lot_at_least => k_is)
    (case xa_Lot_at_least => k_is)
    (case ka_Lot => k_is)
    (case kb_Lot => k_is)
    (case qa_Lot => k_is)
    (case qb_Lot => k_is)
    (case no_Lot_period => k_is)
    (case no_Lot_runs => k_is)
    (case no_Lot_size => k_is)
    (case no_Lot_own_begins => k_is)
    (case ga_MOST_RUNS => k_is)
    (case r_MOST_RUNS => first | exact rfl | exact ⟨_, rfl⟩)
    (case oa_Wheel => k_is)
    (case ob_Wheel => k_is)
    (case oc_Wheel => k_is)
    (case od_Wheel => k_is)
    (case oe_Wheel => k_is)
    (case of_Wheel => k_is)
    (case og_Wheel => k_is)
    (case oh_Wheel => k_is)
    (case oi_Wheel => k_is)
    (case oa_Even => k_is)
    (case ob_Even => k_is)
    (case oc_Even => k_is)
    (case od_Even => k_is)
    (case oe_Even => k_is)
    (case of_Even => k_is)
    (case og_Even => k_is)
    (case oh_Even => k_is)
    (case oi_Even => k_is)
    (case oa_Exact => k_is)
    (case ob_Exact => k_is)
    (case oc_Exact => k_is)
    (case od_Exact => k_is)
    (case oe_Exact => k_is)
    (case of_Exact => k_is)
    (case og_Exact => k_is)
    (case oh_Exact => k_is)
    (case oi_Exact => k_is)
    (case oa_Lagging => k_is)
    (case ob_Lagging => k_is)
    (case oc_Lagging => k_is)
    (case od_Lagging => k_is)
    (case oe_Lagging => k_is)
    (case of_Lagging => k_is)
    (case og_Lagging => k_is)
    (case oh_Lagging => k_is)
    (case oi_Lagging => k_is)
    (case oa_Grid => k_is)
    (case ob_Grid => k_is)
    (case oc_Grid => k_is)
    (case od_Grid => k_is)
    (case oe_Grid => k_is)
    (case of_Grid => k_is)
    (case og_Grid => k_is)
    (case oh_Grid => k_is)
    (case oi_Grid => k_is)
    (case ma_Wheel_init => k_is)
    (case ml_Wheel_init => k_is)
    (case mc_Wheel_init => k_is)
    (case mk_Wheel_init => k_is)
    (case mi_Wheel_init => k_is)
    (case ma_Wheel_play => k_is)
    (case mb_Wheel_play => k_is)
    (case ml_Wheel_play => k_is)
    (case mc_Wheel_play => k_is)
    (case mk_Wheel_play => k_is)
    (case mi_Wheel_play => k_is)
    (case ma_Wheel_never_parts => k_is)
    (case mb_Wheel_never_parts => k_is)
    (case ml_Wheel_never_parts => k_is)
    (case mc_Wheel_never_parts => k_is)
    (case mk_Wheel_never_parts => k_is)
    (case mi_Wheel_never_parts => k_is)
    (case ma_Wheel_near => k_is)
    (case mb_Wheel_near => k_is)
    (case ml_Wheel_near => k_is)
    (case mc_Wheel_near => k_is)
    (case mk_Wheel_near => k_is)
    (case mi_Wheel_near => k_is)
    (case ma_Wheel_is_mark => k_is)
    (case ml_Wheel_is_mark => k_is)
    (case mc_Wheel_is_mark => k_is)
    (case mk_Wheel_is_mark => k_is)
    (case mi_Wheel_is_mark => k_is)
    (case ma_Wheel_does_part => k_is)
    (case ml_Wheel_does_part => k_is)
    (case mc_Wheel_does_part => k_is)
    (case mk_Wheel_does_part => k_is)
    (case mi_Wheel_does_part => k_is)
    (case ma_Wheel_shown_by => k_is)
    (case ml_Wheel_shown_by => k_is)
    (case mc_Wheel_shown_by => k_is)
    (case mk_Wheel_shown_by => k_is)
    (case mi_Wheel_shown_by => k_is)
    (case ma_Even_init => k_is)
    (case ml_Even_init => k_is)
    (case mc_Even_init => k_is)
    (case mk_Even_init => k_is)
    (case mi_Even_init => k_is)
    (case mx_Even_init => k_is)
    (case my_Even_init => k_is)
    (case mz_Even_init => rfl)
    (case mf_Even_init => rfl)
    (case mg_Even_init => k_is)
    (case ma_Exact_init => k_is)
    (case ml_Exact_init => k_is)
    (case mc_Exact_init => k_is)
    (case mk_Exact_init => k_is)
    (case mi_Exact_init => k_is)
    (case mx_Exact_init => k_is)
    (case my_Exact_init => k_is)
    (case mz_Exact_init => rfl)
    (case mf_Exact_init => rfl)
    (case mg_Exact_init => k_is)
    (case ma_Lagging_init => k_is)
    (case ml_Lagging_init => k_is)
    (case mc_Lagging_init => k_is)
    (case mk_Lagging_init => k_is)
    (case mi_Lagging_init => k_is)
    (case mx_Lagging_init => k_is)
    (case my_Lagging_init => k_is)
    (case mz_Lagging_init => rfl)
    (case mf_Lagging_init => rfl)
    (case mg_Lagging_init => k_is)
    (case ma_Grid_init => k_is)
    (case ml_Grid_init => k_is)
    (case mc_Grid_init => k_is)
    (case mk_Grid_init => k_is)
    (case mi_Grid_init => k_is)
    (case mx_Grid_init => k_is)
    (case my_Grid_init => k_is)
    (case mz_Grid_init => rfl)
    (case mf_Grid_init => rfl)
    (case mg_Grid_init => k_is)
    (case ka_Wheel => k_is)
    (case kb_Wheel => k_is)
    (case ka_Even => k_is)
    (case kb_Even => k_is)
    (case ka_Exact => k_is)
    (case kb_Exact => k_is)
    (case ka_Lagging => k_is)
    (case kb_Lagging => k_is)
    (case ka_Grid => k_is)
    (case kb_Grid => k_is)
    (case sa_Even_Even_init => first | kernel_rfl | rfl | decide +kernel)
    (case sb_Even_Even_init => k_is)
    (case sc_Even_Even_init => k_is)
    (case sd_Even_Even_init => k_is)
    (case se_Even_Even_init => k_is)
    (case sa_Exact_Exact_init => first | kernel_rfl | rfl | decide +kernel)
    (case sb_Exact_Exact_init => k_is)
    (case sc_Exact_Exact_init => k_is)
    (case sd_Exact_Exact_init => k_is)
    (case se_Exact_Exact_init => k_is)
    (case sa_Lagging_Lagging_init => first | kernel_rfl | rfl | decide +kernel)
    (case sb_Lagging_Lagging_init => k_is)
    (case sc_Lagging_Lagging_init => k_is)
    (case sd_Lagging_Lagging_init => k_is)
    (case se_Lagging_Lagging_init => k_is)
    (case sa_Grid_Grid_init => first | kernel_rfl | rfl | decide +kernel)
    (case sb_Grid_Grid_init => k_is)
    (case sc_Grid_Grid_init => k_is)
    (case sd_Grid_Grid_init => k_is)
    (case se_Grid_Grid_init => k_is)
    (case no_Wheel_period => k_is)
    (case no_Wheel_back => k_is)
    (case no_Wheel_ahead => k_is)
    (case pa_Wheel_play => k_is)
    (case pb_Wheel_play => k_is)
    (case pc_Wheel_play => k_is)
    (case pd_Wheel_play => k_is)
    (case pa_Wheel_never_parts => k_is)
    (case pb_Wheel_never_parts => k_is)
    (case pc_Wheel_never_parts => k_is)
    (case pd_Wheel_never_parts => k_is)
    (case pa_Wheel_near => k_is)
    (case pb_Wheel_near => k_is)
    (case pc_Wheel_near => k_is)
    (case pd_Wheel_near => k_is)
    (case xa_Wheel_does_part => k_is)
    (case no_Even_period => k_is)
    (case no_Even_back => k_is)
    (case no_Even_ahead => k_is)
    (case pa_Even_play => k_is)
    (case pb_Even_play => k_is)
    (case pc_Even_play => k_is)
    (case pd_Even_play => k_is)
    (case pa_Even_never_parts => k_is)
    (case pb_Even_never_parts => k_is)
    (case pc_Even_never_parts => k_is)
    (case pd_Even_never_parts => k_is)
    (case pa_Even_near => k_is)
    (case pb_Even_near => k_is)
    (case pc_Even_near => k_is)
    (case pd_Even_near => k_is)
    (case xa_Even_does_part => k_is)
    (case no_Exact_period => k_is)
    (case no_Exact_back => k_is)
    (case no_Exact_ahead => k_is)
    (case pa_Exact_play => k_is)
    (case pb_Exact_play => k_is)
    (case pc_Exact_play => k_is)
    (case pd_Exact_play => k_is)
    (case pa_Exact_never_parts => k_is)
    (case pb_Exact_never_parts => k_is)
    (case pc_Exact_never_parts => k_is)
    (case pd_Exact_never_parts => k_is)
    (case pa_Exact_near => k_is)
    (case pb_Exact_near => k_is)
    (case pc_Exact_near => k_is)
    (case pd_Exact_near => k_is)
    (case xa_Exact_does_part => k_is)
    (case no_Lagging_period => k_is)
    (case no_Lagging_back => k_is)
    (case no_Lagging_ahead => k_is)
    (case pa_Lagging_play => k_is)
    (case pb_Lagging_play => k_is)
    (case pc_Lagging_play => k_is)
    (case pd_Lagging_play => k_is)
    (case pa_Lagging_never_parts => k_is)
    (case pb_Lagging_never_parts => k_is)
    (case pc_Lagging_never_parts => k_is)
    (case pd_Lagging_never_parts => k_is)
    (case pa_Lagging_near => k_is)
    (case pb_Lagging_near => k_is)
    (case pc_Lagging_near => k_is)
    (case pd_Lagging_near => k_is)
    (case xa_Lagging_does_part => k_is)
    (case no_Grid_period => k_is)
    (case no_Grid_back => k_is)
    (case no_Grid_ahead => k_is)
    (case pa_Grid_play => k_is)
    (case pb_Grid_play => k_is)
    (case pc_Grid_play => k_is)
    (case pd_Grid_play => k_is)
    (case pa_Grid_never_parts => k_is)
    (case pb_Grid_never_parts => k_is)
    (case pc_Grid_never_parts => k_is)
    (case pd_Grid_never_parts => k_is)
    (case pa_Grid_near => k_is)
    (case pb_Grid_near => k_is)
    (case pc_Grid_near => k_is)
    (case pd_Grid_near => k_is)
    (case xa_Grid_does_part => k_is)
    (case xa_Wheel_shown_by => k_is)
    (case xa_Wheel_is_mark => k_is)
    (case ga_MOST => k_is)
    (case r_MOST => first | exact rfl | exact ⟨_, rfl⟩)
    (case x1 => first | kts_exm | kit_is | k_is | decide +kernel)
    (case x2 => first | kts_exm | kit_is | k_is | decide +kernel)
    (case x6 => first | kts_exm | kit_is | k_is | decide +kernel)
    (case sb_NoneType => first | kts_exm | kit_is | k_is | decide +kernel)
    (case ks_NoneType => first | kts_exm | kit_is | k_is | decide +kernel)
    (case sb_bool => first | kts_exm | kit_is | k_is | decide +kernel)
    (case ks_bool => first | kts_exm | kit_is | k_is | decide +kernel)
    (case sb_int => first | kts_exm | kit_is | k_is | decide +kernel)
    (case ks_int => first | kts_exm | kit_is | k_is | decide +kernel)
    (case sb_str => first | kts_exm | kit_is | k_is | decide +kernel)
    (case ks_str => first | kts_exm | kit_is | k_is | decide +kernel)
    (case sb_list => first | kts_exm | kit_is | k_is | decide +kernel)
    (case ks_list => first | kts_exm | kit_is | k_is | decide +kernel)
    (case sb_tuple => first | kts_exm | kit_is | k_is | decide +kernel)
    (case ks_tuple => first | kts_exm | kit_is | k_is | decide +kernel)
    (case sb_dict => first | kts_exm | kit_is | k_is | decide +kernel)
    (case ks_dict => first | kts_exm | kit_is | k_is | decide +kernel)
    (case xn => first | kts_exm | kit_is | k_is | decide +kernel)
    (case ynn => first | kts_exm | kit_is | k_is | decide +kernel)
    (case vn => first | kts_exm | kit_is | k_is | decide +kernel)
    (case mq0 => rfl)
    (case mk0 => k_is)
    (case mt0 => rfl)
    (case mr0 => first | rfl | decide +kernel)
    (case ml0 => first | k_is | kernel_rfl | rfl)
