import PyProof.Rows.All
import Wide.All
import OpenK.AllK
import Wide.FinOn
import HandS.ForMost
import HandS.ForExc
import HandS.Wide
import HandS.Star
import HandS.IsInst
import HandS.Style
import HandS.Flow
import HandS.Lambda
import HandS.EndTab
import HandS.Nested
import HandS.Comp
import HandS.ExcInit
import HandS.ExcField
import HandS.ExcOwn
import HandS.ExcIs
import KE.KExcSuper
import HandS.Walk
import HandS.Zip
import HandS.Rev
import HandS.Iter
import HandS.RaiseMore
import PyProof.Rows.NestShow
import HandS.CallLocal
import PyProof.ReprLen
import PyProof.Rows.ReprItems
import PyProof.Rows.RegStrFacts
import HandS.MakeKw
import HandS.MakeKwOnly
import HandS.Property
import KE.KSuper
import PyProof.InstEq
import HandS.SortInts
import KE.GoesMore
import KE.DataMinMax
import HandS.SlotsOwn
import HandS.ClsMeth
import HandS.FStr
import HandS.SetFor
import KE.KCallOwn
import HandS.ExcValue
import HandS.SortRule
import HandS.New0
import HandS.IterVal
import OpenK.KMeth
import KE.KOwnIter
import HandS.DictSub
import KE.KOpsOwn
import KE.KStar
import KE.GoesZip
import KE.GoesEnum
import PyProof.LongRange
import PyProof.NoPylong
import HandS.OwnEq
import KE.OsRunLaw
import OpenK.KOps
import HandS.ListEq
import HandS.Conv
import HandS.TupAny
import HandS.TryOnly
import HandS.Text
import HandS.Steps
import HandS.Dict
import KE.KDictWalk
import HandS.OwnIter
import HandS.ListItems
import HandS.Defaults
import PySem.Challenge.RW_wheelreach_k14_texts_of_lots
set_option Elab.async false
set_option linter.all false
set_option maxRecDepth 100000
set_option maxHeartbeats 4000000
namespace T
set_option maxHeartbeats 0
section
open PySem PySem.W PySem.Calls PyProof.Rows HeadRun
theorem splitRun {α β γ : Type} {o : Option α} {f : α → β} {g : α → γ} {a : β} {b : γ} (h1 : o.map f = some a) (h2 : o.map g = some b) : o.map (fun s => (f s, g s)) = some (a, b) := by
  cases o with
  | none => cases h1
  | some s =>
    have e1 : f s = a := Option.some.inj h1
    have e2 : g s = b := Option.some.inj h2
    rw [← e1, ← e2]
    rfl
theorem joinRun {α β γ : Type} {o : Option α} {f : α → β × γ} {a : β} {b : γ} (h1 : o.map (fun s => (f s).1) = some a) (h2 : o.map (fun s => (f s).2) = some b) : o.map f = some (a, b) := by
  cases o with
  | none => cases h1
  | some s =>
    have e1 : (f s).1 = a := Option.some.inj h1
    have e2 : (f s).2 = b := Option.some.inj h2
    rw [← e1, ← e2]
    rfl
theorem viaRun {α β : Type} {o : Option α} {f g : α → β} {a c : β} (h : o.map f = some a) (e1 : f = g) (e2 : a = c) : o.map g = some c := e1 ▸ e2 ▸ h
def keepAt : List Nat → List Stmt → List Stmt
  | [], _ => []
  | i :: is, l => match l.drop i with | s :: _ => s :: keepAt is l | [] => []
def qv : Program := { (PySem.Challenge.rw_wheelreach_k14_texts_of_lots).row.prog with main := { (Program.main (PySem.Challenge.rw_wheelreach_k14_texts_of_lots).row.prog) with body := keepAt [0, 2, 3, 4, 5, 6, 7, 8, 10, 11, 12, 13, 14, 15, 16, 18, 19, 20, 21, 22, 23, 24, 25, 26, 27, 28, 29, 30, 31, 32, 33, 35, 36, 37, 38, 39, 40, 41, 42, 43, 44, 45, 46, 47, 48, 49, 50, 51, 52, 54, 55, 56, 57, 58, 59, 60, 61, 62, 63, 64, 65, 66, 67, 68] (Module.body (Program.main (PySem.Challenge.rw_wheelreach_k14_texts_of_lots).row.prog)) } }
theorem fstRun {α β γ : Type} {o : Option α} {f : α → β} {g : α → γ} {a : β} {b : γ} (h : o.map (fun s => (f s, g s)) = some (a, b)) : o.map f = some a := by
  cases o with
  | none => cases h
  | some s => exact congrArg some (Prod.mk.inj (Option.some.inj h)).1
theorem sndRun {α β γ : Type} {o : Option α} {f : α → β} {g : α → γ} {a : β} {b : γ} (h : o.map (fun s => (f s, g s)) = some (a, b)) : o.map g = some b := by
  cases o with
  | none => cases h
  | some s => exact congrArg some (Prod.mk.inj (Option.some.inj h)).2
theorem runG0 (w : World) (os : OsState) : (endF (stepQ (denQ tabQ) (PySem.Challenge.rw_wheelreach_k14_texts_of_lots).row.prog w) 11372 (PySem.Challenge.rw_wheelreach_k14_texts_of_lots).row.prog w os).map (fun s => (looksF (PySem.Challenge.rw_wheelreach_k14_texts_of_lots).row.prog (boot_heap w.params) s.abs, ((seenQ qv [Str.ofString "MOST_PERIOD", Str.ofString "MOST_TIMES", Str.ofString "Lot"] (importedModules (Module.body (Program.main (PySem.Challenge.rw_wheelreach_k14_texts_of_lots).row.prog))) (fun s => xlAt qv [(Str.ofString "MOST_PERIOD", WData.int 10000000000000000000000000000000000000000000000000000000000000000000000000000000000000000000000000000), (Str.ofString "MOST_TIMES", WData.int 1000000000000000000000000000000)] s && recOk [] s) s.abs).2.1), ((seenQ qv [Str.ofString "MOST_PERIOD", Str.ofString "MOST_TIMES", Str.ofString "Lot"] (importedModules (Module.body (Program.main (PySem.Challenge.rw_wheelreach_k14_texts_of_lots).row.prog))) (fun s => xlAt qv [(Str.ofString "MOST_PERIOD", WData.int 10000000000000000000000000000000000000000000000000000000000000000000000000000000000000000000000000000), (Str.ofString "MOST_TIMES", WData.int 1000000000000000000000000000000)] s && recOk [] s) s.abs).2.2.2.2.1))) = some (true, bltViewBooted, (pinGoodD (drecsOf qv))) := by kernel_rfl
theorem runA (w : World) (os : OsState) : (endF (stepQ (denQ tabQ) (PySem.Challenge.rw_wheelreach_k14_texts_of_lots).row.prog w) 11372 (PySem.Challenge.rw_wheelreach_k14_texts_of_lots).row.prog w os).map (fun s => looksF (PySem.Challenge.rw_wheelreach_k14_texts_of_lots).row.prog (boot_heap w.params) s.abs) = some true := (fstRun (runG0 w os))
theorem runP1 (w : World) (os : OsState) : (endF (stepQ (denQ tabQ) (PySem.Challenge.rw_wheelreach_k14_texts_of_lots).row.prog w) 11372 (PySem.Challenge.rw_wheelreach_k14_texts_of_lots).row.prog w os).map (fun s => ((seenQ qv [Str.ofString "MOST_PERIOD", Str.ofString "MOST_TIMES", Str.ofString "Lot"] (importedModules (Module.body (Program.main (PySem.Challenge.rw_wheelreach_k14_texts_of_lots).row.prog))) (fun s => xlAt qv [(Str.ofString "MOST_PERIOD", WData.int 10000000000000000000000000000000000000000000000000000000000000000000000000000000000000000000000000000), (Str.ofString "MOST_TIMES", WData.int 1000000000000000000000000000000)] s && recOk [] s) s.abs).2.1)) = some bltViewBooted := (fstRun (sndRun (runG0 w os)))
theorem runP4 (w : World) (os : OsState) : (endF (stepQ (denQ tabQ) (PySem.Challenge.rw_wheelreach_k14_texts_of_lots).row.prog w) 11372 (PySem.Challenge.rw_wheelreach_k14_texts_of_lots).row.prog w os).map (fun s => ((seenQ qv [Str.ofString "MOST_PERIOD", Str.ofString "MOST_TIMES", Str.ofString "Lot"] (importedModules (Module.body (Program.main (PySem.Challenge.rw_wheelreach_k14_texts_of_lots).row.prog))) (fun s => xlAt qv [(Str.ofString "MOST_PERIOD", WData.int 10000000000000000000000000000000000000000000000000000000000000000000000000000000000000000000000000000), (Str.ofString "MOST_TIMES", WData.int 1000000000000000000000000000000)] s && recOk [] s) s.abs).2.2.2.2.1)) = some (pinGoodD (drecsOf qv)) := (sndRun (sndRun (runG0 w os)))
theorem runG1 (w : World) (os : OsState) : (endF (stepQ (denQ tabQ) (PySem.Challenge.rw_wheelreach_k14_texts_of_lots).row.prog w) 11372 (PySem.Challenge.rw_wheelreach_k14_texts_of_lots).row.prog w os).map (fun s => (((seenQ qv [Str.ofString "MOST_PERIOD", Str.ofString "MOST_TIMES", Str.ofString "Lot"] (importedModules (Module.body (Program.main (PySem.Challenge.rw_wheelreach_k14_texts_of_lots).row.prog))) (fun s => xlAt qv [(Str.ofString "MOST_PERIOD", WData.int 10000000000000000000000000000000000000000000000000000000000000000000000000000000000000000000000000000), (Str.ofString "MOST_TIMES", WData.int 1000000000000000000000000000000)] s && recOk [] s) s.abs).1), ((seenQ qv [Str.ofString "MOST_PERIOD", Str.ofString "MOST_TIMES", Str.ofString "Lot"] (importedModules (Module.body (Program.main (PySem.Challenge.rw_wheelreach_k14_texts_of_lots).row.prog))) (fun s => xlAt qv [(Str.ofString "MOST_PERIOD", WData.int 10000000000000000000000000000000000000000000000000000000000000000000000000000000000000000000000000000), (Str.ofString "MOST_TIMES", WData.int 1000000000000000000000000000000)] s && recOk [] s) s.abs).2.2.2.2.2.2.1))) = some ((expectedOf qv), (plainGoodD qv [Str.ofString "MOST_PERIOD", Str.ofString "MOST_TIMES", Str.ofString "Lot"])) := by kernel_rfl
theorem runP0 (w : World) (os : OsState) : (endF (stepQ (denQ tabQ) (PySem.Challenge.rw_wheelreach_k14_texts_of_lots).row.prog w) 11372 (PySem.Challenge.rw_wheelreach_k14_texts_of_lots).row.prog w os).map (fun s => ((seenQ qv [Str.ofString "MOST_PERIOD", Str.ofString "MOST_TIMES", Str.ofString "Lot"] (importedModules (Module.body (Program.main (PySem.Challenge.rw_wheelreach_k14_texts_of_lots).row.prog))) (fun s => xlAt qv [(Str.ofString "MOST_PERIOD", WData.int 10000000000000000000000000000000000000000000000000000000000000000000000000000000000000000000000000000), (Str.ofString "MOST_TIMES", WData.int 1000000000000000000000000000000)] s && recOk [] s) s.abs).1)) = some (expectedOf qv) := (fstRun (runG1 w os))
theorem runP6 (w : World) (os : OsState) : (endF (stepQ (denQ tabQ) (PySem.Challenge.rw_wheelreach_k14_texts_of_lots).row.prog w) 11372 (PySem.Challenge.rw_wheelreach_k14_texts_of_lots).row.prog w os).map (fun s => ((seenQ qv [Str.ofString "MOST_PERIOD", Str.ofString "MOST_TIMES", Str.ofString "Lot"] (importedModules (Module.body (Program.main (PySem.Challenge.rw_wheelreach_k14_texts_of_lots).row.prog))) (fun s => xlAt qv [(Str.ofString "MOST_PERIOD", WData.int 10000000000000000000000000000000000000000000000000000000000000000000000000000000000000000000000000000), (Str.ofString "MOST_TIMES", WData.int 1000000000000000000000000000000)] s && recOk [] s) s.abs).2.2.2.2.2.2.1)) = some (plainGoodD qv [Str.ofString "MOST_PERIOD", Str.ofString "MOST_TIMES", Str.ofString "Lot"]) := (sndRun (runG1 w os))
theorem runG2 (w : World) (os : OsState) : (endF (stepQ (denQ tabQ) (PySem.Challenge.rw_wheelreach_k14_texts_of_lots).row.prog w) 11372 (PySem.Challenge.rw_wheelreach_k14_texts_of_lots).row.prog w os).map (fun s => (((seenQ qv [Str.ofString "MOST_PERIOD", Str.ofString "MOST_TIMES", Str.ofString "Lot"] (importedModules (Module.body (Program.main (PySem.Challenge.rw_wheelreach_k14_texts_of_lots).row.prog))) (fun s => xlAt qv [(Str.ofString "MOST_PERIOD", WData.int 10000000000000000000000000000000000000000000000000000000000000000000000000000000000000000000000000000), (Str.ofString "MOST_TIMES", WData.int 1000000000000000000000000000000)] s && recOk [] s) s.abs).2.2.1), ((seenQ qv [Str.ofString "MOST_PERIOD", Str.ofString "MOST_TIMES", Str.ofString "Lot"] (importedModules (Module.body (Program.main (PySem.Challenge.rw_wheelreach_k14_texts_of_lots).row.prog))) (fun s => xlAt qv [(Str.ofString "MOST_PERIOD", WData.int 10000000000000000000000000000000000000000000000000000000000000000000000000000000000000000000000000000), (Str.ofString "MOST_TIMES", WData.int 1000000000000000000000000000000)] s && recOk [] s) s.abs).2.2.2.1))) = some (true, true) := by kernel_rfl
theorem runP2 (w : World) (os : OsState) : (endF (stepQ (denQ tabQ) (PySem.Challenge.rw_wheelreach_k14_texts_of_lots).row.prog w) 11372 (PySem.Challenge.rw_wheelreach_k14_texts_of_lots).row.prog w os).map (fun s => ((seenQ qv [Str.ofString "MOST_PERIOD", Str.ofString "MOST_TIMES", Str.ofString "Lot"] (importedModules (Module.body (Program.main (PySem.Challenge.rw_wheelreach_k14_texts_of_lots).row.prog))) (fun s => xlAt qv [(Str.ofString "MOST_PERIOD", WData.int 10000000000000000000000000000000000000000000000000000000000000000000000000000000000000000000000000000), (Str.ofString "MOST_TIMES", WData.int 1000000000000000000000000000000)] s && recOk [] s) s.abs).2.2.1)) = some true := (fstRun (runG2 w os))
theorem runP3 (w : World) (os : OsState) : (endF (stepQ (denQ tabQ) (PySem.Challenge.rw_wheelreach_k14_texts_of_lots).row.prog w) 11372 (PySem.Challenge.rw_wheelreach_k14_texts_of_lots).row.prog w os).map (fun s => ((seenQ qv [Str.ofString "MOST_PERIOD", Str.ofString "MOST_TIMES", Str.ofString "Lot"] (importedModules (Module.body (Program.main (PySem.Challenge.rw_wheelreach_k14_texts_of_lots).row.prog))) (fun s => xlAt qv [(Str.ofString "MOST_PERIOD", WData.int 10000000000000000000000000000000000000000000000000000000000000000000000000000000000000000000000000000), (Str.ofString "MOST_TIMES", WData.int 1000000000000000000000000000000)] s && recOk [] s) s.abs).2.2.2.1)) = some true := (sndRun (runG2 w os))
theorem runG3 (w : World) (os : OsState) : (endF (stepQ (denQ tabQ) (PySem.Challenge.rw_wheelreach_k14_texts_of_lots).row.prog w) 11372 (PySem.Challenge.rw_wheelreach_k14_texts_of_lots).row.prog w os).map (fun s => (((seenQ qv [Str.ofString "MOST_PERIOD", Str.ofString "MOST_TIMES", Str.ofString "Lot"] (importedModules (Module.body (Program.main (PySem.Challenge.rw_wheelreach_k14_texts_of_lots).row.prog))) (fun s => xlAt qv [(Str.ofString "MOST_PERIOD", WData.int 10000000000000000000000000000000000000000000000000000000000000000000000000000000000000000000000000000), (Str.ofString "MOST_TIMES", WData.int 1000000000000000000000000000000)] s && recOk [] s) s.abs).2.2.2.2.2.1), ((seenQ qv [Str.ofString "MOST_PERIOD", Str.ofString "MOST_TIMES", Str.ofString "Lot"] (importedModules (Module.body (Program.main (PySem.Challenge.rw_wheelreach_k14_texts_of_lots).row.prog))) (fun s => xlAt qv [(Str.ofString "MOST_PERIOD", WData.int 10000000000000000000000000000000000000000000000000000000000000000000000000000000000000000000000000000), (Str.ofString "MOST_TIMES", WData.int 1000000000000000000000000000000)] s && recOk [] s) s.abs).2.2.2.2.2.2.2.2))) = some ((plainGoodE qv (looseW qv [Str.ofString "MOST_PERIOD", Str.ofString "MOST_TIMES", Str.ofString "Lot"])), (clsGoodW qv [Str.ofString "MOST_PERIOD", Str.ofString "MOST_TIMES", Str.ofString "Lot"])) := by kernel_rfl
theorem runP5 (w : World) (os : OsState) : (endF (stepQ (denQ tabQ) (PySem.Challenge.rw_wheelreach_k14_texts_of_lots).row.prog w) 11372 (PySem.Challenge.rw_wheelreach_k14_texts_of_lots).row.prog w os).map (fun s => ((seenQ qv [Str.ofString "MOST_PERIOD", Str.ofString "MOST_TIMES", Str.ofString "Lot"] (importedModules (Module.body (Program.main (PySem.Challenge.rw_wheelreach_k14_texts_of_lots).row.prog))) (fun s => xlAt qv [(Str.ofString "MOST_PERIOD", WData.int 10000000000000000000000000000000000000000000000000000000000000000000000000000000000000000000000000000), (Str.ofString "MOST_TIMES", WData.int 1000000000000000000000000000000)] s && recOk [] s) s.abs).2.2.2.2.2.1)) = some (plainGoodE qv (looseW qv [Str.ofString "MOST_PERIOD", Str.ofString "MOST_TIMES", Str.ofString "Lot"])) := (fstRun (runG3 w os))
theorem runP8 (w : World) (os : OsState) : (endF (stepQ (denQ tabQ) (PySem.Challenge.rw_wheelreach_k14_texts_of_lots).row.prog w) 11372 (PySem.Challenge.rw_wheelreach_k14_texts_of_lots).row.prog w os).map (fun s => ((seenQ qv [Str.ofString "MOST_PERIOD", Str.ofString "MOST_TIMES", Str.ofString "Lot"] (importedModules (Module.body (Program.main (PySem.Challenge.rw_wheelreach_k14_texts_of_lots).row.prog))) (fun s => xlAt qv [(Str.ofString "MOST_PERIOD", WData.int 10000000000000000000000000000000000000000000000000000000000000000000000000000000000000000000000000000), (Str.ofString "MOST_TIMES", WData.int 1000000000000000000000000000000)] s && recOk [] s) s.abs).2.2.2.2.2.2.2.2)) = some (clsGoodW qv [Str.ofString "MOST_PERIOD", Str.ofString "MOST_TIMES", Str.ofString "Lot"]) := (sndRun (runG3 w os))
theorem runP7 (w : World) (os : OsState) : (endF (stepQ (denQ tabQ) (PySem.Challenge.rw_wheelreach_k14_texts_of_lots).row.prog w) 11372 (PySem.Challenge.rw_wheelreach_k14_texts_of_lots).row.prog w os).map (fun s => ((seenQ qv [Str.ofString "MOST_PERIOD", Str.ofString "MOST_TIMES", Str.ofString "Lot"] (importedModules (Module.body (Program.main (PySem.Challenge.rw_wheelreach_k14_texts_of_lots).row.prog))) (fun s => xlAt qv [(Str.ofString "MOST_PERIOD", WData.int 10000000000000000000000000000000000000000000000000000000000000000000000000000000000000000000000000000), (Str.ofString "MOST_TIMES", WData.int 1000000000000000000000000000000)] s && recOk [] s) s.abs).2.2.2.2.2.2.2.1)) = some (wideGood qv) := by kernel_rfl
theorem runS (w : World) (os : OsState) : (endF (stepQ (denQ tabQ) (PySem.Challenge.rw_wheelreach_k14_texts_of_lots).row.prog w) 11372 (PySem.Challenge.rw_wheelreach_k14_texts_of_lots).row.prog w os).map (fun s => (seenQ qv [Str.ofString "MOST_PERIOD", Str.ofString "MOST_TIMES", Str.ofString "Lot"] (importedModules (Module.body (Program.main (PySem.Challenge.rw_wheelreach_k14_texts_of_lots).row.prog))) (fun s => xlAt qv [(Str.ofString "MOST_PERIOD", WData.int 10000000000000000000000000000000000000000000000000000000000000000000000000000000000000000000000000000), (Str.ofString "MOST_TIMES", WData.int 1000000000000000000000000000000)] s && recOk [] s) s.abs)) = some ((expectedOf qv), bltViewBooted, true, true, (pinGoodD (drecsOf qv)), (plainGoodE qv (looseW qv [Str.ofString "MOST_PERIOD", Str.ofString "MOST_TIMES", Str.ofString "Lot"])), (plainGoodD qv [Str.ofString "MOST_PERIOD", Str.ofString "MOST_TIMES", Str.ofString "Lot"]), (wideGood qv), (clsGoodW qv [Str.ofString "MOST_PERIOD", Str.ofString "MOST_TIMES", Str.ofString "Lot"])) := (joinRun (runP0 w os) (joinRun (runP1 w os) (joinRun (runP2 w os) (joinRun (runP3 w os) (joinRun (runP4 w os) (joinRun (runP5 w os) (joinRun (runP6 w os) (joinRun (runP7 w os) (runP8 w os)))))))))
end
section
local macro_rules | `(tactic| k_head) => `(tactic| k_headL)
local macro_rules | `(tactic| kernel_rfl) => `(tactic| ((with_reducible refine T.splitRun (T.runA _ _) ?_); (with_reducible refine T.splitRun ?_ ?_); (with_reducible refine T.viaRun (T.runS _ _) ?_ ?_); kernel_rfl; kernel_rfl; kernel_rfl))
open PySem PySem.W PyProof.Rows
open_top headT for PySem.Challenge.rw_wheelreach_k14_texts_of_lots
end
end T
set_option Elab.async false
set_option linter.all false
set_option maxRecDepth 100000
set_option maxHeartbeats 4000000
namespace G
open PySem PySem.Spec PyProof.Rows L2
abbrev En := List (Str × Option V)
abbrev Lg := List (Addr × HO)
def names (η : En) : List Str := η.map (·.1)
def vals (η : En) : L2.St := η.map (·.2)
/-- the mark of a code object's table in a ledger: what stands in it are code objects named q -/
def tabM (q : Str) : HO := .tbl #[.str q 0]
/-- what an entry says -/
def holds (H : Hp) (a : Addr) : HO → Prop
  | .tbl m => ∃ q, HO.tbl m = tabM q ∧ LamX.TabS H a q
  | o => H a = some o
/-- neither a table nor a thing told by a predicate -/
def plain : HO → Bool
  | .tbl _ => false
  | .ext _ => false
  | _ => true
def notab : HO → Bool
  | .tbl _ => false
  | _ => true
theorem holds_of {H : Hp} {a : Addr} {o : HO} (n : notab o = true) (h : H a = some o) : holds H a o := by
  cases o <;> first | exact h | cases n
theorem holds_get {H : Hp} {a : Addr} {o : HO} (n : notab o = true) (h : holds H a o) : H a = some o := by
  cases o <;> first | exact h | cases n
theorem holds_tab {H : Hp} {a : Addr} {q : Str} (h : holds H a (tabM q)) : LamX.TabS H a q := by
  obtain ⟨r, e, t⟩ := h
  unfold tabM at e
  have e1 := HO.tbl.inj e
  have e2 : [Value.str q 0] = [Value.str r 0] := congrArg Array.toList e1
  have e3 : q = r := by
    injection e2 with e2 _
    injection e2
  rw [e3]
  exact t
theorem holds_tab' {H : Hp} {a : Addr} {q : Str} (h : LamX.TabS H a q) : holds H a (tabM q) := ⟨q, rfl, h⟩
theorem plain_notab {o : HO} (h : plain o = true) : notab o = true := by
  cases o <;> first | rfl | cases h
theorem holds_some {H : Hp} {a : Addr} {o : HO} (h : holds H a o) : ∃ u, H a = some u := by
  cases o with
  | tbl m =>
    obtain ⟨q, _, ps, e, _⟩ := h
    exact ⟨_, e⟩
  | _ => exact ⟨_, h⟩
theorem holds_grow {H H' : Hp} {a : Addr} {o : HO} (g : ∀ b u, H b = some u → H' b = some u) (h : holds H a o) : holds H' a o := by
  cases o with
  | tbl m =>
    obtain ⟨q, e, t⟩ := h
    exact ⟨q, e, t.ext g⟩
  | _ => exact g _ _ h
theorem holds_upd {H : Hp} {a p : Addr} {o u v : HO} (e : H p = some u) (n : plain u = true) (ne : a ≠ p) (h : holds H a o) : holds (upd H p v) a o := by
  cases o with
  | tbl m =>
    obtain ⟨q, em, ps, e1, t2, t3⟩ := h
    refine ⟨q, em, ps, by rw [upd_ne ne]; exact e1, t2, fun pos cv hc => ?_⟩
    obtain ⟨c, e2, e3⟩ := t3 pos cv hc
    refine ⟨c, e2, ?_⟩
    rw [upd_ne fun z => ?_]
    · exact e3
    · rw [z, e] at e3
      rw [Option.some.inj e3] at n
      cases n
  | _ => exact (upd_ne ne).trans h
def Has (H : Hp) (L : Lg) : Prop := (L.map (·.1)).Nodup ∧ ∀ e ∈ L, holds H e.1 e.2
inductive At (x : Str) (v : V) : En → Prop
  | here {η : En} : At x v ((x, some v) :: η)
  | there {e : Str × Option V} {η : En} : At x v η → At x v (e :: η)
inductive Put (x : Str) (v : V) : En → En → Prop
  | here {o : Option V} {η : En} : Put x v ((x, o) :: η) ((x, some v) :: η)
  | there {e : Str × Option V} {η θ : En} : Put x v η θ → Put x v (e :: η) (e :: θ)
theorem At.idx {x : Str} {v : V} {η : En} (h : At x v η) : ∃ i : Nat, (names η)[i]? = some x ∧ (vals η)[i]? = some (some v) := by
  induction h with
  | here => exact ⟨0, rfl, rfl⟩
  | there _ ih =>
    obtain ⟨i, a, b⟩ := ih
    exact ⟨i + 1, a, b⟩
theorem Put.idx {x : Str} {v : V} {η θ : En} (h : Put x v η θ) : ∃ i : Nat, (names η)[i]? = some x ∧ vals θ = (vals η).set i (some v) ∧ names θ = names η := by
  induction h with
  | here => exact ⟨0, rfl, rfl, rfl⟩
  | there _ ih =>
    obtain ⟨i, a, b, c⟩ := ih
    refine ⟨i + 1, a, ?_, ?_⟩
    · show _ :: vals _ = _ :: (vals _).set i (some v)
      rw [b] <;> rfl
    · show _ :: names _ = _ :: names _
      rw [c] <;> rfl
/-- the environment with x set, as a function of what is put -/
inductive PutF (x : Str) : En → (V → En) → Prop
  | here {o : Option V} {η : En} : PutF x ((x, o) :: η) (fun v => (x, some v) :: η)
  | there {e : Str × Option V} {η : En} {f : V → En} : PutF x η f → PutF x (e :: η) (fun v => e :: f v)
theorem PutF.idx {x : Str} {η : En} {f : V → En} (h : PutF x η f) : ∃ i : Nat, (names η)[i]? = some x ∧ ∀ v, vals (f v) = (vals η).set i (some v) ∧ names (f v) = names η := by
  induction h with
  | here => exact ⟨0, rfl, fun _ => ⟨rfl, rfl⟩⟩
  | there _ ih =>
    obtain ⟨i, a, b⟩ := ih
    refine ⟨i + 1, a, fun v => ⟨?_, ?_⟩⟩
    · show _ :: vals _ = _ :: (vals _).set i (some v)
      rw [(b v).1] <;> rfl
    · show _ :: names _ = _ :: names _
      rw [(b v).2] <;> rfl
theorem Has.nil {H : Hp} : Has H [] := ⟨List.nodup_nil, fun _ h => absurd h (by simp)⟩
theorem Has.get {H : Hp} {L : Lg} {a : Addr} {o : HO} (h : Has H L) (m : (a, o) ∈ L) (n : notab o = true := by rfl) : H a = some o := holds_get n (h.2 (a, o) m)
theorem Has.out {H : Hp} {L : Lg} {p : Addr} (h : Has H L) (n : H p = none) : p ∉ L.map (·.1) := fun m => by
  obtain ⟨e, he, rfl⟩ := List.mem_map.mp m
  obtain ⟨u, z⟩ := holds_some (h.2 e he)
  rw [z] at n
  cases n
theorem Has.newB {H H' : Hp} {L : Lg} {p : Addr} {o : HO} (h : Has H L) (n : H p = none) (g : ∀ b u, H b = some u → H' b = some u) (x : holds H' p o) : Has H' ((p, o) :: L) := by
  refine ⟨List.nodup_cons.mpr ⟨h.out n, h.1⟩, fun e m => ?_⟩
  rcases List.mem_cons.mp m with rfl | m
  · exact x
  · exact holds_grow g (h.2 e m)
theorem updGrow {H : Hp} {p : Addr} {o : HO} (n : H p = none) : ∀ b u, H b = some u → upd H p o b = some u := fun b u e => (upd_ne (ne_of_none e n)).trans e
theorem Has.new {H : Hp} {L : Lg} {p : Addr} {o : HO} (h : Has H L) (n : H p = none) (t : notab o = true := by rfl) : Has (upd H p o) ((p, o) :: L) := h.newB n (updGrow n) (holds_of t upd_same)
/-- one entry replaced by another of its address -/
inductive Swap (p : Addr) (o : HO) : Lg → Lg → Prop
  | here {u : HO} {L : Lg} (pl : plain u = true := by rfl) : Swap p o ((p, u) :: L) ((p, o) :: L)
  | there {e : Addr × HO} {L M : Lg} : Swap p o L M → Swap p o (e :: L) (e :: M)
theorem Swap.was {p : Addr} {o : HO} {L M : Lg} (s : Swap p o L M) : ∃ u, plain u = true ∧ (p, u) ∈ L := by
  induction s with
  | here pl => exact ⟨_, pl, List.mem_cons_self⟩
  | there _ ih =>
    obtain ⟨u, a, b⟩ := ih
    exact ⟨u, a, List.mem_cons_of_mem _ b⟩
theorem Swap.fst {p : Addr} {o : HO} {L M : Lg} (s : Swap p o L M) : M.map (·.1) = L.map (·.1) ∧ p ∈ L.map (·.1) := by
  induction s with
  | here => exact ⟨rfl, List.mem_cons_self⟩
  | there _ ih => exact ⟨by rw [List.map_cons, List.map_cons, ih.1], List.mem_cons_of_mem _ ih.2⟩
theorem Swap.mem {p : Addr} {o : HO} {L M : Lg} (s : Swap p o L M) (nd : (L.map (·.1)).Nodup) : ∀ e ∈ M, e = (p, o) ∨ (e ∈ L ∧ e.1 ≠ p) := by
  induction s with
  | here =>
    intro e m
    rcases List.mem_cons.mp m with rfl | m
    · exact .inl rfl
    · have n := (List.nodup_cons.mp nd).1
      exact .inr ⟨List.mem_cons_of_mem _ m, fun z => n (List.mem_map.mpr ⟨e, m, z⟩)⟩
  | there s ih =>
    intro e m
    have n := List.nodup_cons.mp nd
    rcases List.mem_cons.mp m with rfl | m
    · exact .inr ⟨List.mem_cons_self, fun z => n.1 (by have q := s.fst.2; rw [← z] at q; exact q)⟩
    · rcases ih n.2 e m with q | ⟨q, r⟩
      · exact .inl q
      · exact .inr ⟨List.mem_cons_of_mem _ q, r⟩
theorem Has.swap {H : Hp} {L M : Lg} {p : Addr} {o : HO} (h : Has H L) (s : Swap p o L M) (t : notab o = true := by rfl) : Has (upd H p o) M := by
  obtain ⟨u, pl, mu⟩ := s.was
  refine ⟨by rw [s.fst.1]; exact h.1, fun e m => ?_⟩
  rcases s.mem h.1 e m with rfl | ⟨q, r⟩
  · exact holds_of t upd_same
  · exact holds_upd (h.get mu (plain_notab pl)) pl r (h.2 e q)
/-- M is told by L -/
structure Sub (M L : Lg) : Prop where
  to : (L.map (·.1)).Nodup → (M.map (·.1)).Nodup ∧ ∀ e ∈ M, e ∈ L
theorem Sub.has {M L : Lg} (s : Sub M L) (H : Hp) (h : Has H L) : Has H M := ⟨(s.to h.1).1, fun e m => h.2 e ((s.to h.1).2 e m)⟩
instance {M L : Lg} : CoeFun (Sub M L) (fun _ => ∀ H, Has H L → Has H M) := ⟨Sub.has⟩
theorem Sub.refl {L : Lg} : Sub L L := ⟨fun h => ⟨h, fun _ h => h⟩⟩
theorem Sub.trans {L M N : Lg} (a : Sub N M) (b : Sub M L) : Sub N L := ⟨fun h => ⟨(a.to (b.to h).1).1, fun e m => (b.to h).2 e ((a.to (b.to h).1).2 e m)⟩⟩
theorem Sub.drop {L : Lg} {e : Addr × HO} : Sub L (e :: L) := ⟨fun h => ⟨(List.nodup_cons.mp h).2, fun _ m => List.mem_cons_of_mem _ m⟩⟩
theorem Sub.cons {L M : Lg} {e : Addr × HO} (s : Sub M L) : Sub (e :: M) (e :: L) := by
  refine ⟨fun h => ?_⟩
  obtain ⟨n, h⟩ := List.nodup_cons.mp h
  obtain ⟨a, b⟩ := s.to h
  refine ⟨List.nodup_cons.mpr ⟨fun m => ?_, a⟩, fun u m => ?_⟩
  · obtain ⟨u, hu, eu⟩ := List.mem_map.mp m
    exact n (List.mem_map.mpr ⟨u, b u hu, eu⟩)
  · rcases List.mem_cons.mp m with rfl | m
    · exact List.mem_cons_self
    · exact List.mem_cons_of_mem _ (b u m)
theorem Sub.append {L M : Lg} (s : Sub M L) : ∀ {E : Lg}, Sub (E ++ M) (E ++ L)
  | [] => s
  | _ :: E => Sub.cons (Sub.append s (E := E))
theorem Sub.perm {L M : Lg} (p : M.Perm L) : Sub M L := ⟨fun h => ⟨(p.map _).nodup_iff.mpr h, fun e m => p.mem_iff.mp m⟩⟩
theorem Sub.sublist {L M : Lg} (p : M.Sublist L) : Sub M L := ⟨fun h => ⟨(p.map _).nodup h, fun e m => p.subset m⟩⟩
theorem Swap.ex {p : Addr} {o u : HO} (pl : plain u = true) : ∀ {L : Lg}, (p, u) ∈ L → ∃ M, Swap p o L M
  | e :: L, m => by
    rcases List.mem_cons.mp m with z | m
    · subst z
      exact ⟨_, .here pl⟩
    · obtain ⟨M, s⟩ := Swap.ex (o := o) pl m
      exact ⟨_, .there s⟩
theorem Swap.keep {p : Addr} {o : HO} {L M : Lg} (s : Swap p o L M) {e : Addr × HO} (h : e ∈ L) (n : e.1 ≠ p) : e ∈ M := by
  induction s with
  | here _ =>
    rcases List.mem_cons.mp h with z | h
    · subst z
      exact absurd rfl n
    · exact List.mem_cons_of_mem _ h
  | there _ ih =>
    rcases List.mem_cons.mp h with z | h
    · subst z
      exact List.mem_cons_self
    · exact List.mem_cons_of_mem _ (ih h)
theorem Swap.got {p : Addr} {o : HO} {L M : Lg} (s : Swap p o L M) : (p, o) ∈ M := by
  induction s with
  | here _ => exact List.mem_cons_self
  | there _ ih => exact List.mem_cons_of_mem _ ih
/-- one entry changed below what is known -/
theorem Sub.swap {p : Addr} {o u : HO} {L M N : Lg} (s : Sub ((p, u) :: L) M) (w : Swap p o M N) : Sub ((p, o) :: L) N := by
  refine ⟨fun h => ?_⟩
  rw [w.fst.1] at h
  obtain ⟨a, b⟩ := s.to h
  refine ⟨a, fun e m => ?_⟩
  rcases List.mem_cons.mp m with rfl | m
  · exact w.got
  · refine w.keep (b e (List.mem_cons_of_mem _ m)) fun z => (List.nodup_cons.mp a).1 ?_
    exact List.mem_map.mpr ⟨e, m, z⟩
abbrev QV := V → Lg → Prop
def up (Q : QV) : VK := fun v H => ∃ L, Has H L ∧ Q v L
def upB (Q : Bool → Lg → Prop) : Bool → Hp → Prop := fun b H => ∃ L, Has H L ∧ Q b L
def upA (Q : List V → Lg → Prop) : List V → Hp → Prop := fun vs H => ∃ L, Has H L ∧ Q vs L
def WE (X : Cx) (e : Expr) : TE := fun σ H Q => ∀ pins s, Inv X pins σ H s → wpAny (model X.prog X.w) X.A (eval e X.env) (EP X pins σ Q) X.xe s
def WT (X : Cx) (e : Expr) : TT := fun σ H Q => ∀ pins s, Inv X pins σ H s → wpAny (model X.prog X.w) X.A (isTrue e X.env (eval e X.env)) (TP X pins σ Q) X.xe s
def WW (X : Cx) (e : Expr) : TT := fun σ H Q => ∀ whole pins s, Inv X pins σ H s → wpAny (model X.prog X.w) X.A (isTrue e X.env whole) (TP X pins σ Q) X.xe s
def WA (X : Cx) (es : List Expr) : TA := fun σ H Q => ∀ pos pins s, Inv X pins σ H s → wpAny (model X.prog X.w) X.A (spliced (backTo pos (starEach es X.env))) (AP X pins σ Q) X.xe s
def WS (X : Cx) (st : Stmt) : TS := fun D σ H => ∀ pins s, Inv X pins σ H s → wpAny (model X.prog X.w) X.A (exec st X.env) (SP X pins D) X.xe s
def WSs (X : Cx) (st : List Stmt) : TS := fun D σ H => ∀ pins s, Inv X pins σ H s → wpAny (model X.prog X.w) X.A (execs st X.env) (SP X pins D) X.xe s
def WG (X : Cx) (tg : Expr) : TG := fun v σ H Q => ∀ pins s u, Inv X pins σ H s → RelV v u → wpAny (model X.prog X.w) X.A (assign tg X.env u) (fun _ s' => ∃ σ' H', Inv X pins σ' H' s' ∧ Q σ' H') X.xe s
def WGs (X : Cx) (ts : List Expr) : TGs := fun vs σ H Q => ∀ pins s us, Inv X pins σ H s → Vals vs us → wpAny (model X.prog X.w) X.A (assignInOrder ((assignEach ts X.env).map (·.2)) us) (fun _ s' => ∃ σ' H', Inv X pins σ' H' s' ∧ Q σ' H') X.xe s
section
variable {X : Cx} {e : Expr} {σ : L2.St} {H : Hp}
theorem pe_W : PE X e (WE X e) := ⟨fun pins s _ _ _ I h => h pins s I⟩
theorem pt_W : PT X e (WT X e) := ⟨fun pins s _ _ _ I h => h pins s I⟩
theorem pw_W : PW X e (WW X e) := ⟨fun u pins s _ _ _ I h => h u pins s I⟩
theorem pa_W {es : List Expr} : PA X es (WA X es) := ⟨fun pos pins s _ _ _ I h => h pos pins s I⟩
theorem ps_W {st : Stmt} : PS X st (WS X st) := ⟨fun pins s _ _ _ I h => h pins s I⟩
theorem pss_W {st : List Stmt} : PSs X st (WSs X st) := ⟨fun pins s _ _ _ I h => h pins s I⟩
theorem pg_W : PG X e (WG X e) := ⟨fun pins s _ _ _ u _ I r h => h pins s u I r⟩
theorem pgs_W {es : List Expr} : PGs X es (WGs X es) := ⟨fun pins s _ _ _ us _ I r h => h pins s us I r⟩
theorem WE.of {t : TE} {Q : VK} (h : PE X e t) (q : t σ H Q) : WE X e σ H Q := fun pins s I => h.run pins s σ H Q I q
theorem WT.of {t : TT} {Q : Bool → Hp → Prop} (h : PT X e t) (q : t σ H Q) : WT X e σ H Q := fun pins s I => h.run pins s σ H Q I q
theorem WW.of {t : TT} {Q : Bool → Hp → Prop} (h : PW X e t) (q : t σ H Q) : WW X e σ H Q := fun u pins s I => h.run u pins s σ H Q I q
theorem WA.of {es : List Expr} {t : TA} {Q : List V → Hp → Prop} (h : PA X es t) (q : t σ H Q) : WA X es σ H Q := fun pos pins s I => h.run pos pins s σ H Q I q
theorem WS.of {st : Stmt} {t : TS} {D : Ends} (h : PS X st t) (q : t D σ H) : WS X st D σ H := fun pins s I => h.run pins s σ H D I q
theorem WSs.of {st : List Stmt} {t : TS} {D : Ends} (h : PSs X st t) (q : t D σ H) : WSs X st D σ H := fun pins s I => h.run pins s σ H D I q
theorem WG.of {t : TG} {v : V} {Q : L2.St → Hp → Prop} (h : PG X e t) (q : t v σ H Q) : WG X e v σ H Q := fun pins s u I r => h.run pins s σ H v u Q I r q
theorem WGs.of {es : List Expr} {t : TGs} {vs : List V} {Q : L2.St → Hp → Prop} (h : PGs X es t) (q : t vs σ H Q) : WGs X es vs σ H Q := fun pins s us I r => h.run pins s σ H vs us Q I r q
theorem WE.mono {Q Q' : VK} (h : WE X e σ H Q) (m : ∀ v H', Q v H' → Q' v H') : WE X e σ H Q' := fun pins s I =>
  thn (h pins s I) fun _ _ ⟨v, H', J, r, q⟩ => ⟨v, H', J, r, m v H' q⟩
theorem WT.mono {Q Q' : Bool → Hp → Prop} (h : WT X e σ H Q) (m : ∀ v H', Q v H' → Q' v H') : WT X e σ H Q' := fun pins s I =>
  thn (h pins s I) fun _ _ ⟨H', J, q⟩ => ⟨H', J, m _ H' q⟩
theorem WW.mono {Q Q' : Bool → Hp → Prop} (h : WW X e σ H Q) (m : ∀ v H', Q v H' → Q' v H') : WW X e σ H Q' := fun u pins s I =>
  thn (h u pins s I) fun _ _ ⟨H', J, q⟩ => ⟨H', J, m _ H' q⟩
theorem WA.mono {es : List Expr} {Q Q' : List V → Hp → Prop} (h : WA X es σ H Q) (m : ∀ v H', Q v H' → Q' v H') : WA X es σ H Q' := fun pos pins s I =>
  thn (h pos pins s I) fun _ _ ⟨v, H', J, r, q⟩ => ⟨v, H', J, r, m v H' q⟩
theorem WG.mono {v : V} {Q Q' : L2.St → Hp → Prop} (h : WG X e v σ H Q) (m : ∀ v H', Q v H' → Q' v H') : WG X e v σ H Q' := fun pins s u I r =>
  thn (h pins s u I r) fun _ _ ⟨v, H', J, q⟩ => ⟨v, H', J, m v H' q⟩
theorem WGs.mono {es : List Expr} {vs : List V} {Q Q' : L2.St → Hp → Prop} (h : WGs X es vs σ H Q) (m : ∀ v H', Q v H' → Q' v H') : WGs X es vs σ H Q' := fun pins s u I r =>
  thn (h pins s u I r) fun _ _ ⟨v, H', J, q⟩ => ⟨v, H', J, m v H' q⟩
end
def GE (X : Cx) (e : Expr) (η : En) (L : Lg) (Q : QV) : Prop := X.N = names η → ∀ H, Has H L → WE X e (vals η) H (up Q)
def GT (X : Cx) (e : Expr) (η : En) (L : Lg) (Q : Bool → Lg → Prop) : Prop := X.N = names η → ∀ H, Has H L → WT X e (vals η) H (upB Q)
def GW (X : Cx) (e : Expr) (η : En) (L : Lg) (Q : Bool → Lg → Prop) : Prop := X.N = names η → ∀ H, Has H L → WW X e (vals η) H (upB Q)
def GA (X : Cx) (es : List Expr) (η : En) (L : Lg) (Q : List V → Lg → Prop) : Prop := X.N = names η → ∀ H, Has H L → WA X es (vals η) H (upA Q)
/-- what is wanted behind a statement -/
structure GD where
  nx : En → Lg → Prop
  rt : QV
  bk : En → Lg → Prop
  ct : En → Lg → Prop
def upS (X : Cx) (Q : En → Lg → Prop) : L2.St → Hp → Prop := fun σ H => ∃ η L, X.N = names η ∧ σ = vals η ∧ Has H L ∧ Q η L
def GD.ends (X : Cx) (D : GD) : Ends := { nx := upS X D.nx, rt := up D.rt, bk := upS X D.bk, ct := upS X D.ct }
def GS (X : Cx) (st : Stmt) (D : GD) (η : En) (L : Lg) : Prop := X.N = names η → ∀ H, Has H L → WS X st (D.ends X) (vals η) H
def GSs (X : Cx) (st : List Stmt) (D : GD) (η : En) (L : Lg) : Prop := X.N = names η → ∀ H, Has H L → WSs X st (D.ends X) (vals η) H
def GG (X : Cx) (tg : Expr) (v : V) (η : En) (L : Lg) (Q : En → Lg → Prop) : Prop := X.N = names η → ∀ H, Has H L → WG X tg v (vals η) H (upS X Q)
def GGs (X : Cx) (ts : List Expr) (vs : List V) (η : En) (L : Lg) (Q : En → Lg → Prop) : Prop := X.N = names η → ∀ H, Has H L → WGs X ts vs (vals η) H (upS X Q)
/-- an operator, a call, a subscript by values -/
def GOp (X : Cx) (f : Value → Value → Sem Value) (x y : V) (L : Lg) (Q : QV) : Prop := ∀ pins s σ H v u, Has H L → Inv X pins σ H s → RelV x v → RelV y u → wpAny (model X.prog X.w) X.A (f v u) (EP X pins σ (up Q)) X.xe s
def GUn (X : Cx) (f : Value → Sem Value) (x : V) (L : Lg) (Q : QV) : Prop := ∀ pins s σ H v, Has H L → Inv X pins σ H s → RelV x v → wpAny (model X.prog X.w) X.A (f v) (EP X pins σ (up Q)) X.xe s
def GC (X : Cx) (f : Value) (xs : List V) (L : Lg) (Q : QV) : Prop := ∀ pins s σ H us, Has H L → Inv X pins σ H s → Vals xs us → wpAny (model X.prog X.w) X.A (call f us) (EP X pins σ (up Q)) X.xe s
section
variable {X : Cx} {L : Lg} {Q : QV} {x y : V}
theorem GOp.of {f : Value → Value → Sem Value} {r : R2} (h : OpR X f r) (q : ∀ H, Has H L → r x y H (up Q)) : GOp X f x y L Q := fun pins s σ H v u hH I rv ru => h pins s σ H x y v u _ I rv ru (q H hH)
theorem GUn.of {f : Value → Sem Value} {r : V → Hp → VK → Prop} (h : UnR X f r) (q : ∀ H, Has H L → r x H (up Q)) : GUn X f x L Q := fun pins s σ H v hH I rv => h pins s σ H x v _ I rv (q H hH)
theorem GC.of {f : Value} {xs : List V} {r : List V → Hp → VK → Prop} (h : CallR X f r) (q : ∀ H, Has H L → r xs H (up Q)) : GC X f xs L Q := fun pins s σ H us hH I rv => h pins s σ H xs us _ I rv (q H hH)
end
section
variable {X : Cx} {η : En} {L : Lg} {Q : QV} {a b c e : Expr} {pos : Pos}
theorem ge_var {x : Str} {v : V} (h : At x v η) (q : Q v L) (hv : Vis X.env.scope x := by first | exact Or.inl rfl | exact Or.inr (Or.inl rfl) | exact Or.inr (Or.inr rfl))
    (hd : (x == ("__debug__" : Str)) = false := by decide) (hcd : (x == ("__classdict__" : Str)) = false := by decide) : GE X (.Name x pos) η L Q := fun hN H hH => by
  obtain ⟨i, h1, h2⟩ := h.idx
  exact WE.of (pe_var (i := i) (by rw [hN]; exact h1) hv hd hcd) ⟨v, h2, L, hH, q⟩
theorem ge_con {v : V} (p : PE X e (tC v)) (q : Q v L) : GE X e η L Q := fun _ H hH => WE.of p ⟨L, hH, q⟩
theorem ge_int {i : Int} {j} (q : Q (.int i) L) : GE X (.Constant (.int i) j pos) η L Q := ge_con pe_int q
theorem ge_bl {i : Bool} {j} (q : Q (.bl i) L) : GE X (.Constant (.bool i) j pos) η L Q := ge_con pe_bl q
theorem ge_non {j} (q : Q .non L) : GE X (.Constant .none j pos) η L Q := ge_con pe_non q
theorem ge_str {x : Str} {j} (q : Q (.str x) L) : GE X (.Constant (.str x) j pos) η L Q := ge_con pe_str q
/-- what is known may be cut -/
theorem GE.nd (h : GE X e η L fun v L1 => (L1.map (·.1)).Nodup → Q v L1) : GE X e η L Q := fun hN H hH => (h hN H hH).mono fun v _ ⟨L', h', q⟩ => ⟨L', h', q h'.1⟩
theorem GE.sub {M : Lg} (s : Sub M L) (h : GE X e η M Q) : GE X e η L Q := fun hN H hH => h hN H (s H hH)
theorem GT.sub {M : Lg} {Q : Bool → Lg → Prop} (s : Sub M L) (h : GT X e η M Q) : GT X e η L Q := fun hN H hH => h hN H (s H hH)
theorem GE.imp {Q' : QV} (h : GE X e η L Q) (m : ∀ v L', Q v L' → Q' v L') : GE X e η L Q' := fun hN H hH => (h hN H hH).mono fun v _ ⟨L', h', q⟩ => ⟨L', h', m v L' q⟩
theorem GA.imp {es : List Expr} {Q Q' : List V → Lg → Prop} (h : GA X es η L Q) (m : ∀ v L', Q v L' → Q' v L') : GA X es η L Q' := fun hN H hH => (h hN H hH).mono fun v _ ⟨L', h', q⟩ => ⟨L', h', m v L' q⟩
theorem GT.imp {Q Q' : Bool → Lg → Prop} (h : GT X e η L Q) (m : ∀ v L', Q v L' → Q' v L') : GT X e η L Q' := fun hN H hH => (h hN H hH).mono fun v _ ⟨L', h', q⟩ => ⟨L', h', m v L' q⟩
/-- then -/
theorem GE.then {Q' : VK} (h : GE X a η L Q) (hN : X.N = names η) {H : Hp} (hH : Has H L) (m : ∀ v L1 H1, Has H1 L1 → Q v L1 → Q' v H1) : WE X a (vals η) H Q' := (h hN H hH).mono fun v H1 ⟨L1, h1, q1⟩ => m v L1 H1 h1 q1
theorem GA.then {es : List Expr} {Q : List V → Lg → Prop} {Q' : List V → Hp → Prop} (h : GA X es η L Q) (hN : X.N = names η) {H : Hp} (hH : Has H L) (m : ∀ v L1 H1, Has H1 L1 → Q v L1 → Q' v H1) : WA X es (vals η) H Q' := (h hN H hH).mono fun v H1 ⟨L1, h1, q1⟩ => m v L1 H1 h1 q1
theorem GT.then {Q : Bool → Lg → Prop} {Q' : Bool → Hp → Prop} (h : GT X a η L Q) (hN : X.N = names η) {H : Hp} (hH : Has H L) (m : ∀ v L1 H1, Has H1 L1 → Q v L1 → Q' v H1) : WT X a (vals η) H Q' := (h hN H hH).mono fun v H1 ⟨L1, h1, q1⟩ => m v L1 H1 h1 q1
theorem GW.then {Q : Bool → Lg → Prop} {Q' : Bool → Hp → Prop} (h : GW X a η L Q) (hN : X.N = names η) {H : Hp} (hH : Has H L) (m : ∀ v L1 H1, Has H1 L1 → Q v L1 → Q' v H1) : WW X a (vals η) H Q' := (h hN H hH).mono fun v H1 ⟨L1, h1, q1⟩ => m v L1 H1 h1 q1
theorem ge_bin {op : Operator} (h : GE X a η L fun x L1 => GE X b η L1 fun y L2 => GOp X (binaryOp op) x y L2 Q) : GE X (.BinOp a op b pos) η L Q := fun hN H hH =>
  WE.of (pe_op (r := fun x y H' Q' => ∀ pins s σ v u, Inv X pins σ H' s → RelV x v → RelV y u → wpAny (model X.prog X.w) X.A (binaryOp op v u) (EP X pins σ Q') X.xe s)
    (fun pins s σ H' x y v u Q' I r1 r2 q => q pins s σ v u I r1 r2) pe_W pe_W)
    (h.then hN hH fun _ _ _ h1 q1 => q1.then hN h1 fun _ _ _ h2 q2 => fun pins s σ v u I r1 r2 => q2 pins s σ _ v u h2 I r1 r2)
theorem ge_un {op : UnaryOp} (h : GE X a η L fun x L1 => GUn X (unaryOp op) x L1 Q) : GE X (.UnaryOp op a pos) η L Q := fun hN H hH =>
  WE.of (pe_un (r := fun x H' Q' => ∀ pins s σ v, Inv X pins σ H' s → RelV x v → wpAny (model X.prog X.w) X.A (unaryOp op v) (EP X pins σ Q') X.xe s)
    (fun pins s σ H' x v Q' I r1 q => q pins s σ v I r1) pe_W)
    (h.then hN hH fun _ _ _ h1 q1 => fun pins s σ v I r1 => q1 pins s σ _ v h1 I r1)
theorem ge_cmp {op : CmpOp} (h : GE X a η L fun x L1 => GE X b η L1 fun y L2 => GOp X (compareOp op) x y L2 Q) (hm : behindInMarks op b = false := by rfl) : GE X (.Compare a [op] [b] pos) η L Q := fun hN H hH =>
  WE.of (pe_cmpR (r := fun x y H' Q' => ∀ pins s σ v u, Inv X pins σ H' s → RelV x v → RelV y u → wpAny (model X.prog X.w) X.A (compareOp op v u) (EP X pins σ Q') X.xe s)
    (fun pins s σ H' x y v u Q' I r1 r2 q => q pins s σ v u I r1 r2) pe_W pe_W hm)
    (h.then hN hH fun _ _ _ h1 q1 => q1.then hN h1 fun _ _ _ h2 q2 => fun pins s σ v u I r1 r2 => q2 pins s σ _ v u h2 I r1 r2)
theorem ge_one {op : BoolOp} (h : GE X a η L Q) : GE X (.BoolOp op [a] pos) η L Q := fun hN H hH => WE.of (pe_one pe_W) (h hN H hH)
theorem ge_and {rest : List Expr} (h : GE X a η L fun x L1 => ∃ k, x = .bl k ∧ if k = true then GE X (.BoolOp .And (b :: rest) pos) η L1 Q else Q (.bl false) L1) : GE X (.BoolOp .And (a :: b :: rest) pos) η L Q := fun hN H hH =>
  WE.of (pe_and pe_W pe_W) (h.then hN hH fun x L1 H1 h1 ⟨k, e1, q1⟩ => ⟨k, e1, by
    cases k with
    | true => exact q1 hN H1 h1
    | false => exact ⟨L1, h1, q1⟩⟩)
theorem ge_or {rest : List Expr} (h : GE X a η L fun x L1 => ∃ k, x = .bl k ∧ if k = true then Q (.bl true) L1 else GE X (.BoolOp .Or (b :: rest) pos) η L1 Q) : GE X (.BoolOp .Or (a :: b :: rest) pos) η L Q := fun hN H hH =>
  WE.of (pe_or pe_W pe_W) (h.then hN hH fun x L1 H1 h1 ⟨k, e1, q1⟩ => ⟨k, e1, by
    cases k with
    | true => exact ⟨L1, h1, q1⟩
    | false => exact q1 hN H1 h1⟩)
theorem ge_not (h : GE X a η L fun x L1 => ∃ k, x = .bl k ∧ Q (.bl (!k)) L1) : GE X (.UnaryOp .Not a pos) η L Q := fun hN H hH =>
  WE.of (pe_not pe_W) (h.then hN hH fun x L1 H1 h1 ⟨k, e1, q1⟩ => ⟨k, e1, L1, h1, q1⟩)
theorem ge_if (h : GT X c η L fun k L1 => if k = true then GE X a η L1 Q else GE X b η L1 Q) : GE X (.IfExp c a b pos) η L Q := fun hN H hH =>
  WE.of (pe_ifExp pt_W pe_W pe_W) (h.then hN hH fun k L1 H1 h1 q1 => by
    cases k with
    | true => exact q1 hN H1 h1
    | false => exact q1 hN H1 h1)
theorem ga_nil {Q : List V → Lg → Prop} (q : Q [] L) : GA X [] η L Q := fun _ H hH => WA.of pa_nil ⟨L, hH, q⟩
theorem ga_cons {es : List Expr} {Q : List V → Lg → Prop} (h : GE X e η L fun x L1 => GA X es η L1 fun xs L2 => Q (x :: xs) L2) (hs : starEach (e :: es) X.env = (false, eval e X.env) :: starEach es X.env := by rfl) : GA X (e :: es) η L Q := fun hN H hH =>
  WA.of (pa_cons pe_W pa_W hs) (h.then hN hH fun _ _ _ h1 q1 => q1.then hN h1 fun _ L2 _ h2 q2 => ⟨L2, h2, q2⟩)
theorem ge_tup {es : List Expr} {x1} (h : GA X es η L fun xs L1 => xs.length ≤ sizeLine ∧ ∀ p, Q (.ref p) ((p, .tup xs) :: L1)) : GE X (.Tuple es x1 pos) η L Q := fun hN H hH =>
  WE.of (pe_tup pa_W) (h.then hN hH fun xs L1 H1 h1 ⟨z, q1⟩ => ⟨z, fun p hp => ⟨_, h1.new hp, q1 p⟩⟩)
theorem ge_lst {es : List Expr} (h : GA X es η L fun xs L1 => xs.length ≤ sizeLine ∧ ∀ p, Q (.ref p) ((p, .lst xs) :: L1)) : GE X (.List es pos) η L Q := fun hN H hH =>
  WE.of (pe_lst pa_W) (h.then hN hH fun xs L1 H1 h1 ⟨z, q1⟩ => ⟨z, fun p hp => ⟨_, h1.new hp, q1 p⟩⟩)
/-- a subscript by values -/
def GIx (X : Cx) (x y : V) (L : Lg) (Q : QV) : Prop := ∀ (value slice : Expr) pins s σ H v u, Has H L → Inv X pins σ H s → RelV x v → RelV y u → subscripted slice false v u = operate [v, u] (getItem v u) → wpAny (model X.prog X.w) X.A (subscriptTail value slice v u) (EP X pins σ (up Q)) X.xe s
theorem GIx.of {x y : V} {r : R2} (h : IxR X r) (q : ∀ H, Has H L → r x y H (up Q)) : GIx X x y L Q := fun value slice pins s σ H v u hH I rv ru hs => h value slice pins s σ H x y v u _ I rv ru (q H hH) hs
theorem ge_ix (h : GE X a η L fun x L1 => GE X b η L1 fun y L2 => GIx X x y L2 Q) (hs : PlainIx b := by exact fun _ _ => rfl) : GE X (.Subscript a b pos) η L Q := fun hN H hH =>
  WE.of (pe_ix (r := fun x y H' Q' => ∀ (value slice : Expr) pins s σ v u, Inv X pins σ H' s → RelV x v → RelV y u → subscripted slice false v u = operate [v, u] (getItem v u) → wpAny (model X.prog X.w) X.A (subscriptTail value slice v u) (EP X pins σ Q') X.xe s)
    (fun value slice pins s σ H' x y v u Q' I r1 r2 q z => q value slice pins s σ v u I r1 r2 z) pe_W pe_W hs)
    (h.then hN hH fun _ _ _ h1 q1 => q1.then hN h1 fun _ _ _ h2 q2 => fun value slice pins s σ v u I r1 r2 z => q2 value slice pins s σ _ v u h2 I r1 r2 z)
end
section
variable {X : Cx} {η : En} {L : Lg} {Q : Bool → Lg → Prop} {a b c e : Expr} {pos : Pos}
theorem gt_cmp {op : CmpOp} (h : GE X a η L fun x L1 => GE X b η L1 fun y L2 => GOp X (compareOp op) x y L2 fun z L3 => ∃ k, z = .bl k ∧ Q k L3) (hm : behindInMarks op b = false := by rfl) : GT X (.Compare a [op] [b] pos) η L Q := fun hN H hH =>
  WT.of (pt_cmpR (r := fun x y H' Q' => ∀ pins s σ v u, Inv X pins σ H' s → RelV x v → RelV y u → wpAny (model X.prog X.w) X.A (compareOp op v u) (EP X pins σ Q') X.xe s)
    (fun pins s σ H' x y v u Q' I r1 r2 q => q pins s σ v u I r1 r2) pe_W pe_W hm)
    (h.then hN hH fun _ _ _ h1 q1 => q1.then hN h1 fun _ _ _ h2 q2 => fun pins s σ v u I r1 r2 =>
      thn (q2 pins s σ _ v u h2 I r1 r2) fun _ _ ⟨z, H3, J, r3, L3, h3, k, ek, q3⟩ => ⟨z, H3, J, r3, k, ek, L3, h3, q3⟩)
theorem gt_val (h : GE X a η L fun x L1 => ∃ k, x = .bl k ∧ Q k L1) (he : ∀ whole, isTrue a X.env whole = (do let v ← whole; standAt a.pos; holding [v] (truthy v)) := by intro _; rfl) : GT X a η L Q := fun hN H hH =>
  WT.of (pt_val pe_W he) (h.then hN hH fun _ L1 _ h1 ⟨k, e1, q1⟩ => ⟨k, e1, L1, h1, q1⟩)
theorem gt_w {op : BoolOp} {es : List Expr} (h : GW X (.BoolOp op es pos) η L Q) : GT X (.BoolOp op es pos) η L Q := fun hN H hH => WT.of pw_W.pt (h hN H hH)
theorem gw_and1 (h : GT X a η L Q) : GW X (.BoolOp .And [a] pos) η L Q := fun hN H hH => WW.of (pw_and1 pt_W) (h hN H hH)
theorem gw_or1 (h : GT X a η L Q) : GW X (.BoolOp .Or [a] pos) η L Q := fun hN H hH => WW.of (pw_or1 pt_W) (h hN H hH)
theorem gw_and {rest : List Expr} (h : GT X a η L fun k L1 => if k = true then GW X (.BoolOp .And (b :: rest) pos) η L1 Q else Q false L1) : GW X (.BoolOp .And (a :: b :: rest) pos) η L Q := fun hN H hH =>
  WW.of (pw_and pt_W pw_W) (h.then hN hH fun k L1 H1 h1 q1 => by
    cases k with
    | true => exact q1 hN H1 h1
    | false => exact ⟨L1, h1, q1⟩)
theorem gw_or {rest : List Expr} (h : GT X a η L fun k L1 => if k = true then Q true L1 else GW X (.BoolOp .Or (b :: rest) pos) η L1 Q) : GW X (.BoolOp .Or (a :: b :: rest) pos) η L Q := fun hN H hH =>
  WW.of (pw_or pt_W pw_W) (h.then hN hH fun k L1 H1 h1 q1 => by
    cases k with
    | true => exact ⟨L1, h1, q1⟩
    | false => exact q1 hN H1 h1)
theorem gt_not (h : GT X a η L fun k L1 => Q (!k) L1) : GT X (.UnaryOp .Not a pos) η L Q := fun hN H hH =>
  WT.of (pt_not pt_W) (h.then hN hH fun k L1 H1 h1 q1 => ⟨L1, h1, q1⟩)
end
theorem mem0 {α : Type} {a : α} {l : List α} : a ∈ a :: l := List.mem_cons_self
theorem memS {α : Type} {a b : α} {l : List α} (h : a ∈ l) : a ∈ b :: l := List.mem_cons_of_mem _ h
theorem sql {K : PySem.W.Frag} {H : Hp} {L : Lg} {p : Addr} {xs : List V} (h : Has H L) (m : (p, HO.lst xs) ∈ L) : SqL K H p xs := SqL.of (h.get m)
theorem sqt {K : PySem.W.Frag} {H : Hp} {L : Lg} {p : Addr} {xs : List V} (h : Has H L) (m : (p, HO.tup xs) ∈ L) : SqT K H p xs := SqT.of (h.get m)
section
variable {X : Cx} {L : Lg} {Q : QV} {x y : V} {i j : Int} {p q : Addr} {xs ys : List V} {v : V}
theorem go_add (h : Q (.int (i + j)) L) : GOp X (binaryOp .Add) (.int i) (.int j) L Q := GOp.of op_add fun H hH => ⟨i, j, rfl, rfl, L, hH, h⟩
theorem go_sub (h : Q (.int (i - j)) L) : GOp X (binaryOp .Sub) (.int i) (.int j) L Q := GOp.of op_sub fun H hH => ⟨i, j, rfl, rfl, L, hH, h⟩
theorem go_mul (c : CMulW i j) (h : Q (.int (i * j)) L) : GOp X (binaryOp .Mult) (.int i) (.int j) L Q := GOp.of op_mulW fun H hH => ⟨i, j, rfl, rfl, c, L, hH, h⟩
theorem go_mulS (c : (-(2 ^ 64) < i ∧ i < 2 ^ 64) ∨ (-(2 ^ 64) < j ∧ j < 2 ^ 64)) (h : Q (.int (i * j)) L) : GOp X (binaryOp .Mult) (.int i) (.int j) L Q := GOp.of op_mul fun H hH => ⟨i, j, rfl, rfl, c, L, hH, h⟩
theorem go_mod (c : 0 < j) (h : Q (.int (i % j)) L) : GOp X (binaryOp .Mod) (.int i) (.int j) L Q := GOp.of op_modN fun H hH => ⟨i, j, rfl, rfl, by omega, L, hH, by
  show Q (.int (i.fmod j)) L
  rw [Int.fmod_eq_emod_of_nonneg i (by omega)]
  exact h⟩
theorem go_div (c : 0 < j) (d : j.natAbs < 2 ^ 9000) (h : Q (.int (i / j)) L) : GOp X (binaryOp .FloorDiv) (.int i) (.int j) L Q := GOp.of op_fdivW fun H hH => ⟨i, j, rfl, rfl, wide_div c d (by decide) (by decide), L, hH, h⟩
theorem go_pow (c : CPow i j) (h : Q (.int (i ^ j.toNat)) L) : GOp X (binaryOp .Pow) (.int i) (.int j) L Q := GOp.of op_pow fun H hH => ⟨i, j, rfl, rfl, c, L, hH, h⟩
theorem go_lt (h : Q (.bl (decide (i < j))) L) : GOp X (compareOp .Lt) (.int i) (.int j) L Q := GOp.of op_lt fun H hH => ⟨i, j, rfl, rfl, L, hH, h⟩
theorem go_le (h : Q (.bl (decide (i ≤ j))) L) : GOp X (compareOp .LtE) (.int i) (.int j) L Q := GOp.of op_le fun H hH => ⟨i, j, rfl, rfl, L, hH, h⟩
theorem go_gt (h : Q (.bl (decide (j < i))) L) : GOp X (compareOp .Gt) (.int i) (.int j) L Q := GOp.of op_gt fun H hH => ⟨i, j, rfl, rfl, L, hH, h⟩
theorem go_ge (h : Q (.bl (decide (j ≤ i))) L) : GOp X (compareOp .GtE) (.int i) (.int j) L Q := GOp.of op_ge fun H hH => ⟨i, j, rfl, rfl, L, hH, h⟩
theorem dec_int : decide (V.int i = V.int j) = decide (i = j) := by
  by_cases e : i = j
  · rw [e, decide_eq_true rfl, decide_eq_true rfl]
  · rw [decide_eq_false e, decide_eq_false fun z => e (V.int.inj z)]
theorem go_eq (h : Q (.bl (decide (i = j))) L) : GOp X (compareOp .Eq) (.int i) (.int j) L Q := GOp.of op_eq fun H hH => ⟨rfl, L, hH, by rw [dec_int]; exact h⟩
theorem go_ne (h : Q (.bl (!decide (i = j))) L) : GOp X (compareOp .NotEq) (.int i) (.int j) L Q := GOp.of op_ne fun H hH => ⟨rfl, L, hH, by rw [dec_int]; exact h⟩
theorem go_eqV (s : scal x y = true) (h : Q (.bl (decide (x = y))) L) : GOp X (compareOp .Eq) x y L Q := GOp.of op_eq fun H hH => ⟨s, L, hH, h⟩
theorem go_neV (s : scal x y = true) (h : Q (.bl (!decide (x = y))) L) : GOp X (compareOp .NotEq) x y L Q := GOp.of op_ne fun H hH => ⟨s, L, hH, h⟩
theorem go_isN (h : Q (.bl (decide (x = .non))) L) : GOp X (compareOp .Is) x .non L Q := GOp.of op_isN fun H hH => ⟨rfl, L, hH, h⟩
theorem go_notN (h : Q (.bl (!decide (x = .non))) L) : GOp X (compareOp .IsNot) x .non L Q := GOp.of op_notN fun H hH => ⟨rfl, L, hH, h⟩
/-- data, told by the ledger -/
def Dl (L : Lg) (v : V) (d : PyData) : Prop := ∀ K H, Has H L → Dp K H v d
def Dls (L : Lg) (vs : List V) (ds : List PyData) : Prop := ∀ K H, Has H L → DpAll K H vs ds
theorem dl_bl {b : Bool} : Dl L (.bl b) (.bool b) := fun _ _ _ => .bl b
theorem dl_int : Dl L (.int i) (.int i) := fun _ _ _ => .int i
theorem dl_str {z : Str} : Dl L (.str z) (.str z) := fun _ _ _ => .str z
theorem dl_lst {ds : List PyData} (m : (p, HO.lst xs) ∈ L) (h : Dls L xs ds) : Dl L (.ref p) (.list ds) := fun K H hH => .lst (sql hH m) (h K H hH)
theorem dl_tup {ds : List PyData} (m : (p, HO.tup xs) ∈ L) (h : Dls L xs ds) : Dl L (.ref p) (.tuple ds) := fun K H hH => .tup (sqt hH m) (h K H hH)
theorem dls_nil : Dls L [] [] := fun _ _ _ => .nil
theorem dls_cons {d : PyData} {ds : List PyData} (a : Dl L v d) (h : Dls L xs ds) : Dls L (v :: xs) (d :: ds) := fun K H hH => .cons (a K H hH) (h K H hH)
theorem dls_ints : ∀ {ns : List Int}, Dls L (ns.map V.int) (ns.map PyData.int)
  | [] => dls_nil
  | _ :: _ => dls_cons dl_int dls_ints
theorem go_eqD {k : Nat} {d e : PyData} (hr : Room k X.A) (a : Dl L x d) (b : Dl L y e) (s1 : SeqAt.shaped d = true) (s2 : SeqAt.shaped e = true) (h : Q (.bl (PyData.eqv d e)) L) : GOp X (compareOp .Eq) x y L Q := GOp.of (op_eqD hr.units) fun H hH => ⟨d, e, a _ H hH, b _ H hH, s1, s2, L, hH, h⟩
theorem go_neD {k : Nat} {d e : PyData} (hr : Room k X.A) (a : Dl L x d) (b : Dl L y e) (s1 : SeqAt.shaped d = true) (s2 : SeqAt.shaped e = true) (h : Q (.bl (!PyData.eqv d e)) L) : GOp X (compareOp .NotEq) x y L Q := GOp.of (op_neD hr.units) fun H hH => ⟨d, e, a _ H hH, b _ H hH, s1, s2, L, hH, h⟩
theorem gi_lst (m : (p, HO.lst xs) ∈ L) (e : atI xs i = some v) (h : Q v L) : GIx X (.ref p) (.int i) L Q := GIx.of ix_list fun H hH => ⟨p, xs, i, v, rfl, rfl, sql hH m, e, L, hH, h⟩
theorem gi_tup (m : (p, HO.tup xs) ∈ L) (e : atI xs i = some v) (h : Q v L) : GIx X (.ref p) (.int i) L Q := GIx.of ix_tup fun H hH => ⟨p, xs, i, v, rfl, rfl, sqt hH m, e, L, hH, h⟩
theorem gc_lenL (m : (p, HO.lst xs) ∈ L) (h : Q (.int (xs.length : Int)) L) : GC X (.builtin "len") [.ref p] L Q := GC.of call_len_seq fun H hH => ⟨p, xs, rfl, .inl (sql hH m), L, hH, h⟩
theorem gc_lenT (m : (p, HO.tup xs) ∈ L) (h : Q (.int (xs.length : Int)) L) : GC X (.builtin "len") [.ref p] L Q := GC.of call_len_seq fun H hH => ⟨p, xs, rfl, .inr (sqt hH m), L, hH, h⟩
theorem gc_int (h : Q (.int i) L) : GC X (.type "int") [.int i] L Q := GC.of call_int1 fun H hH => .inl ⟨i, rfl, L, hH, h⟩
theorem gc_intB {k : Bool} (h : Q (.int (if k then 1 else 0)) L) : GC X (.type "int") [.bl k] L Q := GC.of call_int1 fun H hH => .inr ⟨k, rfl, L, hH, h⟩
theorem gc_abs (h : Q (.int (i.natAbs : Int)) L) : GC X (.builtin "abs") [.int i] L Q := GC.of call_abs fun H hH => ⟨i, rfl, L, hH, by
  have e : (if i < 0 then -i else i) = (i.natAbs : Int) := by split <;> omega
  rw [e]
  exact h⟩
theorem gc_min2 (hc : X.calm = true) (h : Q (.int (if j < i then j else i)) L) : GC X (.builtin "min") [.int i, .int j] L Q := GC.of (call_min2 hc) fun H hH => ⟨i, j, rfl, L, hH, h⟩
theorem gc_list (m : (p, HO.lst xs) ∈ L) (h : ∀ q, Q (.ref q) ((q, .lst xs) :: L)) : GC X (.type "list") [.ref p] L Q := GC.of call_list_of fun H hH => ⟨p, xs, rfl, .inl (sql hH m), fun l hl => ⟨_, hH.new hl, h l⟩⟩
/-- isinstance against a built-in class -/
theorem gc_isi {T c : String} {b : Bool} (ty : ∀ H, Has H L → TyX X.K H x (.type T)) (k : kitB T c = some b) (h : Q (.bl b) L) : GC X (.builtin "isinstance") [x, .ty c] L Q :=
  GC.of call_isi fun H hH => ⟨x, .ty c, .type T, .type c, b, rfl, .ty c, ty H hH, kit_ty k, L, hH, h⟩
end
section
variable {X : Cx} {η : En} {L : Lg} {Q : QV} {e : Expr} {es : List Expr} {pos p : Pos} {x : Str}
theorem ge_B {id : String} (hm : X.mg x = none) (hv : bootBuiltins x = some (.builtin id)) (h : GA X (e :: es) η L fun xs L1 => GC X (.builtin id) xs L1 Q) (hg : Gl X x := by rfl) (hn : x ≠ "__name__" := by decide) (hdb : (x == ("__debug__" : Str)) = false := by decide)
    (he : starEach (e :: es) X.env = (false, eval e X.env) :: starEach es X.env := by rfl) (hpl : (backTo pos (starEach es X.env)).any (·.1) = false := by rfl) : GE X (.Call (.Name x p) (e :: es) [] pos) η L Q := fun hN H hH =>
  WE.of (pe_callB (r := fun xs H' Q' => ∀ pins s σ us, Inv X pins σ H' s → Vals xs us → wpAny (model X.prog X.w) X.A (call (.builtin id) us) (EP X pins σ Q') X.xe s)
    (fun pins s σ H' xs us Q' I r q => q pins s σ us I r) hg hm hv pa_W hn hdb he hpl)
    (h.then hN hH fun _ _ _ h1 q1 => fun pins s σ us I r => q1 pins s σ _ us h1 I r)
theorem ge_Y {T : String} (hm : X.mg x = none) (hv : bootBuiltins x = some (.type T)) (h : GA X (e :: es) η L fun xs L1 => GC X (.type T) xs L1 Q) (hg : Gl X x := by rfl) (hn : x ≠ "__name__" := by decide) (hdb : (x == ("__debug__" : Str)) = false := by decide)
    (he : starEach (e :: es) X.env = (false, eval e X.env) :: starEach es X.env := by rfl) (hpl : (backTo pos (starEach es X.env)).any (·.1) = false := by rfl) : GE X (.Call (.Name x p) (e :: es) [] pos) η L Q := fun hN H hH =>
  WE.of (pe_callTy (r := fun xs H' Q' => ∀ pins s σ us, Inv X pins σ H' s → Vals xs us → wpAny (model X.prog X.w) X.A (call (.type T) us) (EP X pins σ Q') X.xe s)
    (fun pins s σ H' xs us Q' I r q => q pins s σ us I r) hg hm hv pa_W hn hdb he hpl)
    (h.then hN hH fun _ _ _ h1 q1 => fun pins s σ us I r => q1 pins s σ _ us h1 I r)
/-- the name of a built-in class as a value -/
theorem ge_tyName {T : String} (hm : X.mg x = none) (hv : bootBuiltins x = some (.type T)) (q : Q (.ty T) L) (hg : Gl X x := by rfl) (hn : x ≠ "__name__" := by decide) (hdb : (x == ("__debug__" : Str)) = false := by decide) : GE X (.Name x pos) η L Q :=
  ge_con (pe_bltn (v := .ty T) hg hm hv rfl hn hdb) q
/-- the built-ins are no names of the module -/
structure Bi (mg : Str → Option Value) : Prop where
  len : mg "len" = none
  int : mg "int" = none
  abs : mg "abs" = none
  min : mg "min" = none
  max : mg "max" = none
  range : mg "range" = none
  isinstance : mg "isinstance" = none
  list : mg "list" = none
  tuple : mg "tuple" = none
  bool : mg "bool" = none
  str : mg "str" = none
  repr : mg "repr" = none
  sum : mg "sum" = none
  sorted : mg "sorted" = none
  any : mg "any" = none
  all : mg "all" = none
  enumerate : mg "enumerate" = none
  zip : mg "zip" = none
  ValueError : mg "ValueError" = none
  LookupError : mg "LookupError" = none
  reversed : mg "reversed" = none
  b_set : mg "set" = none
  dict : mg "dict" = none
  iter : mg "iter" = none
  next : mg "next" = none
  b_type : mg "type" = none
theorem bt_len : bootBuiltins "len" = some (.builtin "len") := by decide +kernel
theorem bt_abs : bootBuiltins "abs" = some (.builtin "abs") := by decide +kernel
theorem bt_min : bootBuiltins "min" = some (.builtin "min") := by decide +kernel
theorem bt_isinstance : bootBuiltins "isinstance" = some (.builtin "isinstance") := by decide +kernel
theorem bt_int : bootBuiltins "int" = some (.type "int") := by decide +kernel
theorem bt_bool : bootBuiltins "bool" = some (.type "bool") := by decide +kernel
theorem bt_list : bootBuiltins "list" = some (.type "list") := by decide +kernel
theorem bt_tuple : bootBuiltins "tuple" = some (.type "tuple") := by decide +kernel
theorem bt_ValueError : bootBuiltins "ValueError" = some (.type "ValueError") := by decide +kernel
theorem bt_LookupError : bootBuiltins "LookupError" = some (.type "LookupError") := by decide +kernel
theorem bt_str : bootBuiltins "str" = some (.type "str") := by decide +kernel
end
section
variable {X : Cx} {η : En} {L : Lg} {e a b c tg : Expr} {pos : Pos} {st : Stmt} {rest body : List Stmt} {D : GD} {v : V}
theorem GG.then {Q : En → Lg → Prop} {Q' : L2.St → Hp → Prop} (h : GG X tg v η L Q) (hN : X.N = names η) {H : Hp} (hH : Has H L) (m : ∀ θ L1 H1, X.N = names θ → Has H1 L1 → Q θ L1 → Q' (vals θ) H1) : WG X tg v (vals η) H Q' := (h hN H hH).mono fun σ' H1 ⟨θ, L1, n1, es, h1, q1⟩ => by
  rw [es]
  exact m θ L1 H1 n1 h1 q1
theorem GGs.then {ts : List Expr} {vs : List V} {Q : En → Lg → Prop} {Q' : L2.St → Hp → Prop} (h : GGs X ts vs η L Q) (hN : X.N = names η) {H : Hp} (hH : Has H L) (m : ∀ θ L1 H1, X.N = names θ → Has H1 L1 → Q θ L1 → Q' (vals θ) H1) : WGs X ts vs (vals η) H Q' := (h hN H hH).mono fun σ' H1 ⟨θ, L1, n1, es, h1, q1⟩ => by
  rw [es]
  exact m θ L1 H1 n1 h1 q1
theorem gg_name {x : Str} {θ : En} {Q : En → Lg → Prop} (p : Put x v η θ) (q : Q θ L) (hn : X.N.Nodup := by assumption) (hx : Loc X.env.scope x := by first | exact Or.inl rfl | exact Or.inr rfl) (hf : X.fn x = true ∨ X.env.scope.names.lookup x = some .local := by first | exact .inl rfl | exact .inr rfl) : GG X (.Name x pos) v η L Q := fun hN H hH => by
  obtain ⟨i, h1, h2, h3⟩ := p.idx
  refine WG.of (pg_name (i := i) hn (by rw [hN]; exact h1) hx hf) ?_
  show upS X Q ((vals η).set i (some v)) H
  exact ⟨θ, L, by rw [h3]; exact hN, h2.symm, hH, q⟩
theorem ggs_nil {Q : En → Lg → Prop} (q : Q η L) : GGs X [] [] η L Q := fun hN H hH => WGs.of pgs_nil ⟨rfl, η, L, hN, rfl, hH, q⟩
theorem ggs_cons {ts : List Expr} {vs : List V} {Q : En → Lg → Prop} (h : GG X e v η L fun θ L1 => GGs X ts vs θ L1 Q)
    (hs : (assignEach (e :: ts) X.env).map (·.2) = assign e X.env :: (assignEach ts X.env).map (·.2) := by rfl) : GGs X (e :: ts) (v :: vs) η L Q := fun hN H hH =>
  WGs.of (pgs_cons pg_W pgs_W hs) ⟨v, vs, rfl, h.then hN hH fun θ L1 H1 n1 h1 q1 => q1 n1 H1 h1⟩
theorem gg_tup {es : List Expr} {k : Nat} {p : Addr} {xs : List V} {Q : En → Lg → Prop} (m : (p, HO.tup xs) ∈ L) (h : GGs X es xs η L Q) (hl : xs.length = es.length := by rfl) (hc : X.calm = true := by rfl)
    (hn : (assignEach es X.env).length = es.length := by rfl) (hst : (assignEach es X.env).findIdx? (·.1) = none := by rfl) : GG X (.Tuple es k pos) (.ref p) η L Q := fun hN H hH =>
  WG.of (pg_tup hc pgs_W hn hst) ⟨p, xs, rfl, sqt hH m, hl, h hN H hH⟩
/-- o[i] = v, by values -/
def GSt (X : Cx) (o i v : V) (L : Lg) (Q : Lg → Prop) : Prop := ∀ pins s σ H ov iv u, Has H L → Inv X pins σ H s → RelV o ov → RelV i iv → RelV v u →
  wpAny (model X.prog X.w) X.A (setItem ov iv u) (fun _ s' => ∃ H', Inv X pins σ H' s' ∧ ∃ L', Has H' L' ∧ Q L') X.xe s
theorem gst_lst {p : Addr} {xs : List V} {k : Int} {j : Nat} {M : Lg} {Q : Lg → Prop} (m : (p, HO.lst xs) ∈ L) (hi : ixN xs.length k = some j) (sw : Swap p (.lst (xs.set j v)) L M) (q : Q M) : GSt X (.ref p) (.int k) v L Q :=
  fun pins s σ H ov iv u hH I r1 r2 r3 => (show PSet X rSetL from set_list) pins s σ H (.ref p) (.int k) v ov iv u _ I r1 r2 r3 ⟨p, xs, k, j, rfl, rfl, hH.get m, hi, M, hH.swap sw, q⟩
theorem gst_30 {p : Addr} {a b c : V} {M : Lg} {Q : Lg → Prop} (m : (p, HO.lst [a, b, c]) ∈ L) (sw : Swap p (.lst [v, b, c]) L M) (q : Q M) : GSt X (.ref p) (.int 0) v L Q := gst_lst (j := 0) m rfl sw q
theorem gst_31 {p : Addr} {a b c : V} {M : Lg} {Q : Lg → Prop} (m : (p, HO.lst [a, b, c]) ∈ L) (sw : Swap p (.lst [a, v, c]) L M) (q : Q M) : GSt X (.ref p) (.int 1) v L Q := gst_lst (j := 1) m rfl sw q
theorem gst_32 {p : Addr} {a b c : V} {M : Lg} {Q : Lg → Prop} (m : (p, HO.lst [a, b, c]) ∈ L) (sw : Swap p (.lst [a, b, v]) L M) (q : Q M) : GSt X (.ref p) (.int 2) v L Q := gst_lst (j := 2) m rfl sw q
theorem gg_sub {o i : Expr} {Q : En → Lg → Prop} (h : GE X o η L fun x L1 => GE X i η L1 fun y L2 => GSt X x y v L2 fun L3 => Q η L3)
    (ha : ∀ v, assign (.Subscript o i pos) X.env v = (do
      let ov ← holding [v] (eval o X.env)
      let iv ← holding [v, ov] (eval i X.env)
      standAt pos
      holding [v, ov, iv] (setItem ov iv v)
      release [v, ov, iv] []) := by intro _; rfl) : GG X (.Subscript o i pos) v η L Q := fun hN H hH =>
  WG.of (pg_sub (t := fun x y z H' Q' => ∀ pins s σ ov iv u, Inv X pins σ H' s → RelV x ov → RelV y iv → RelV z u → wpAny (model X.prog X.w) X.A (setItem ov iv u) (fun _ s' => ∃ H'', Inv X pins σ H'' s' ∧ Q' H'') X.xe s)
    pe_W pe_W (fun pins s σ H' x y z ov iv u Q' I r1 r2 r3 q => q pins s σ ov iv u I r1 r2 r3) ha)
    (h.then hN hH fun _ _ _ h1 q1 => q1.then hN h1 fun _ _ _ h2 q2 => fun pins s σ ov iv u I r1 r2 r3 =>
      thn (q2 pins s σ _ ov iv u h2 I r1 r2 r3) fun _ _ ⟨H3, J, L3, h3, q3⟩ => ⟨H3, J, η, L3, hN, rfl, h3, q3⟩)
theorem GS.run {σ : L2.St} {H : Hp} (h : GS X st D η L) (hN : X.N = names η) (hH : Has H L) : WS X st (D.ends X) (vals η) H := h hN H hH
theorem SPm {pins : List (Addr × Obj)} {D D' : Ends} {f : Flow} {s : Shared} (h : SP X pins D f s) (nx : ∀ σ H, D.nx σ H → D'.nx σ H) (rt : ∀ v H, D.rt v H → D'.rt v H) (bk : ∀ σ H, D.bk σ H → D'.bk σ H) (ct : ∀ σ H, D.ct σ H → D'.ct σ H) : SP X pins D' f s := by
  cases f with
  | next => obtain ⟨σ', H', I, q⟩ := h; exact ⟨σ', H', I, nx _ _ q⟩
  | brk => obtain ⟨σ', H', I, q⟩ := h; exact ⟨σ', H', I, bk _ _ q⟩
  | cont => obtain ⟨σ', H', I, q⟩ := h; exact ⟨σ', H', I, ct _ _ q⟩
  | ret u => obtain ⟨v, σ', H', I, r, q⟩ := h; exact ⟨v, σ', H', I, r, rt _ _ q⟩
theorem WS.mono {σ : L2.St} {H : Hp} {D D' : Ends} (h : WS X st D σ H) (nx : ∀ σ H, D.nx σ H → D'.nx σ H) (rt : ∀ v H, D.rt v H → D'.rt v H) (bk : ∀ σ H, D.bk σ H → D'.bk σ H) (ct : ∀ σ H, D.ct σ H → D'.ct σ H) : WS X st D' σ H :=
  fun pins s I => thn (h pins s I) fun _ _ z => SPm z nx rt bk ct
theorem WSs.mono {σ : L2.St} {H : Hp} {D D' : Ends} {sts : List Stmt} (h : WSs X sts D σ H) (nx : ∀ σ H, D.nx σ H → D'.nx σ H) (rt : ∀ v H, D.rt v H → D'.rt v H) (bk : ∀ σ H, D.bk σ H → D'.bk σ H) (ct : ∀ σ H, D.ct σ H → D'.ct σ H) : WSs X sts D' σ H :=
  fun pins s I => thn (h pins s I) fun _ _ z => SPm z nx rt bk ct
theorem gss_nil (q : D.nx η L) : GSs X [] D η L := fun hN H hH => WSs.of pss_nil ⟨η, L, hN, rfl, hH, q⟩
theorem gss_cons (h : GS X st { D with nx := fun θ L1 => GSs X rest D θ L1 } η L) : GSs X (st :: rest) D η L := fun hN H hH =>
  WSs.of (pss_cons ps_W pss_W) ((h hN H hH).mono (fun σ1 H1 ⟨θ, L1, n1, es, h1, q1⟩ => by
    rw [es]
    exact q1 n1 H1 h1) (fun _ _ z => z) (fun _ _ z => z) fun _ _ z => z)
/-- ways meet: what holds behind the first statement -/
theorem gss_cut (M : En → Lg → Prop) (h : GS X st { D with nx := M } η L) (k : ∀ θ L1, M θ L1 → GSs X rest D θ L1) : GSs X (st :: rest) D η L := fun hN H hH =>
  WSs.of (pss_cons ps_W pss_W) ((h hN H hH).mono (fun σ1 H1 ⟨θ, L1, n1, es, h1, q1⟩ => by
    rw [es]
    exact k θ L1 q1 n1 H1 h1) (fun _ _ z => z) (fun _ _ z => z) fun _ _ z => z)
theorem GS.cut (M : En → Lg → Prop) {Q : En → Lg → Prop} (h : GS X st { D with nx := M } η L) (k : ∀ θ L1, M θ L1 → Q θ L1) (e : D.nx = Q := by rfl) : GS X st D η L := fun hN H hH =>
  (h hN H hH).mono (fun σ1 H1 ⟨θ, L1, n1, es, h1, q1⟩ => ⟨θ, L1, n1, es, h1, by rw [e]; exact k θ L1 q1⟩) (fun _ _ z => z) (fun _ _ z => z) fun _ _ z => z
theorem GSs.sub {M : Lg} {sts : List Stmt} (s : Sub M L) (h : GSs X sts D η M) : GSs X sts D η L := fun hN H hH => h hN H (s H hH)
theorem GS.sub {M : Lg} (s : Sub M L) (h : GS X st D η M) : GS X st D η L := fun hN H hH => h hN H (s H hH)
theorem gs_pass (q : D.nx η L) : GS X (.Pass pos) D η L := fun hN H hH => WS.of ps_pass ⟨η, L, hN, rfl, hH, q⟩
theorem gs_break (q : D.bk η L) : GS X (.Break pos) D η L := fun hN H hH => WS.of ps_break ⟨η, L, hN, rfl, hH, q⟩
theorem gs_continue (q : D.ct η L) : GS X (.Continue pos) D η L := fun hN H hH => WS.of ps_continue ⟨η, L, hN, rfl, hH, q⟩
theorem gs_expr (h : GE X e η L fun _ L1 => D.nx η L1) (hs : swapsWith e none pos.line X.env = pure false := by rfl) : GS X (.Expr e pos) D η L := fun hN H hH =>
  WS.of (ps_expr pe_W hs) (h.then hN hH fun _ L1 H1 h1 q1 => ⟨η, L1, hN, rfl, h1, q1⟩)
theorem gs_ret (h : GE X e η L D.rt) : GS X (.Return (some e) pos) D η L := fun hN H hH => WS.of (ps_ret pe_W) (h hN H hH)
theorem gs_retN (q : D.rt .non L) : GS X (.Return none pos) D η L := fun hN H hH => WS.of ps_retN ⟨L, hH, q⟩
theorem gs_if {p q : List Stmt} (h : GT X c η L fun k L1 => if k = true then GSs X p D η L1 else GSs X q D η L1) : GS X (.If c p q pos) D η L := fun hN H hH =>
  WS.of (ps_if pt_W pss_W pss_W) (h.then hN hH fun k L1 H1 h1 q1 => by
    cases k with
    | true => exact q1 hN H1 h1
    | false => exact q1 hN H1 h1)
/-- x = e, x a name of the def's own -/
theorem gs_set {x : Str} {f : V → En} {pos' : Pos} (p : PutF x η f) (h : GE X e η L fun v L1 => D.nx (f v) L1) (hn : X.N.Nodup := by assumption) (hx : Loc X.env.scope x := by first | exact Or.inl rfl | exact Or.inr rfl)
    (hs : swapsWith e (some (.Name x pos')) pos.line X.env = pure false := by rfl) (hf : X.fn x = true ∨ X.env.scope.names.lookup x = some .local := by first | exact .inl rfl | exact .inr rfl) : GS X (.Assign [.Name x pos'] e pos) D η L := fun hN H hH => by
  obtain ⟨i, h1, h2⟩ := p.idx
  refine WS.of (ps_set (i := i) hn (by rw [hN]; exact h1) hx pe_W hs hf) (h.then hN hH fun v L1 H1 g1 q1 => ?_)
  show upS X D.nx ((vals η).set i (some v)) H1
  exact ⟨f v, L1, by rw [(h2 v).2]; exact hN, (h2 v).1.symm, g1, q1⟩
/-- x op= y, by values -/
def GIp (X : Cx) (op : Operator) (x y : V) (L : Lg) (Q : QV) : Prop := ∀ pins s σ H v u, Has H L → Inv X pins σ H s → RelV x v → RelV y u → wpAny (model X.prog X.w) X.A (inplaceOp op v u) (EP X pins σ (up Q)) X.xe s
theorem gp_add {i j : Int} {Q : QV} (h : Q (.int (i + j)) L) : GIp X .Add (.int i) (.int j) L Q := fun pins s σ H v u hH I r1 r2 => (show PIp X .Add (ipI fun i j => i + j) from ip_add) pins s σ H _ _ v u _ I r1 r2 ⟨i, j, rfl, rfl, L, hH, h⟩
theorem gp_sub {i j : Int} {Q : QV} (h : Q (.int (i - j)) L) : GIp X .Sub (.int i) (.int j) L Q := fun pins s σ H v u hH I r1 r2 => (show PIp X .Sub (ipI fun i j => i - j) from ip_sub) pins s σ H _ _ v u _ I r1 r2 ⟨i, j, rfl, rfl, L, hH, h⟩
/-- x op= e -/
theorem gs_aug {x : Str} {y : V} {f : V → En} {pos' : Pos} {op : Operator} (r : At x y η) (p : PutF x η f)
    (h : GE X e η L fun z L1 => GIp X op y z L1 fun w L2 => D.nx (f w) L2)
    (hn : X.N.Nodup := by assumption) (hx : Loc X.env.scope x := by first | exact Or.inl rfl | exact Or.inr rfl) (hf : X.fn x = true ∨ X.env.scope.names.lookup x = some .local := by first | exact .inl rfl | exact .inr rfl) : GS X (.AugAssign (.Name x pos') op e pos) D η L := fun hN H hH => by
  obtain ⟨i, h1, h2⟩ := p.idx
  obtain ⟨j, g1, g2⟩ := r.idx
  have ij : i = j := by
    have h1' : X.N[i]? = some x := by rw [hN]; exact h1
    have g1' : X.N[j]? = some x := by rw [hN]; exact g1
    obtain ⟨a1, a2⟩ := List.getElem?_eq_some_iff.mp h1'
    obtain ⟨b1, b2⟩ := List.getElem?_eq_some_iff.mp g1'
    exact (List.getElem_inj hn).mp (a2.trans b2.symm)
  subst ij
  refine WS.of (ps_aug (i := i) (ti := fun a b H' Q' => ∀ pins s σ v u, Inv X pins σ H' s → RelV a v → RelV b u → wpAny (model X.prog X.w) X.A (inplaceOp op v u) (EP X pins σ Q') X.xe s) hn (by rw [hN]; exact h1) hx pe_W
    (fun pins s σ H' a b v u Q' I r1 r2 q => q pins s σ v u I r1 r2) hf) ⟨y, g2, ?_⟩
  refine h.then hN hH fun z L1 H1 k1 q1 => fun pins s σ v u I r1 r2 => ?_
  refine thn (q1 pins s σ H1 v u k1 I r1 r2) fun w _ ⟨x', H2, J, r3, L2, k2, q2⟩ => ⟨x', H2, J, r3, ?_⟩
  show upS X D.nx ((vals η).set i (some x')) H2
  exact ⟨f x', L2, by rw [(h2 x').2]; exact hN, (h2 x').1.symm, k2, q2⟩
/-- a, b = x, y (both written) -/
theorem gs_par {x y : Str} {f : V → En} {g : V → V → En} {px py pt pos : Pos} {kt k2 pt2} (p : PutF x η f) (q : ∀ v, PutF y (f v) (g v)) (h : GA X [a, b] η L fun vs L1 => ∃ v w, vs = [v, w] ∧ D.nx (g v w) L1)
    (hw : swappedStores [.Tuple [.Name x px, .Name y py] kt pt] (.Tuple [a, b] k2 pt2) X.env = pure (some [x, y]) := by rfl) (hxy : x ≠ y := by decide +kernel) (hn : X.N.Nodup := by assumption) (hc : X.calm = true := by rfl)
    (hx : X.env.scope.names.lookup x = some .local := by rfl) (hy : X.env.scope.names.lookup y = some .local := by rfl)
    (hs : swapsWithSole [.Tuple [.Name x px, .Name y py] kt pt] (.Tuple [a, b] k2 pt2) pos.line X.env = pure false := by rfl) :
    GS X (.Assign [.Tuple [.Name x px, .Name y py] kt pt] (.Tuple [a, b] k2 pt2) pos) D η L := fun hN H hH => by
  obtain ⟨i, h1, h2⟩ := p.idx
  obtain ⟨j, g1⟩ : ∃ j : Nat, ∀ v, (names (f v))[j]? = some y ∧ ∀ w, vals (g v w) = (vals (f v)).set j (some w) ∧ names (g v w) = names (f v) := by
    obtain ⟨j, k1, k2⟩ := (q .non).idx
    refine ⟨j, fun v => ?_⟩
    obtain ⟨j', m1, m2⟩ := (q v).idx
    have e : j = j' := by
      rw [(h2 .non).2] at k1
      rw [(h2 v).2] at m1
      have k1' : X.N[j]? = some y := by rw [hN]; exact k1
      have m1' : X.N[j']? = some y := by rw [hN]; exact m1
      obtain ⟨a1, a2⟩ := List.getElem?_eq_some_iff.mp k1'
      obtain ⟨b1, b2⟩ := List.getElem?_eq_some_iff.mp m1'
      exact (List.getElem_inj hn).mp (a2.trans b2.symm)
    subst e
    exact ⟨m1, m2⟩
  have hi : X.N[i]? = some x := by rw [hN]; exact h1
  have hj : X.N[j]? = some y := by
    have z := (g1 .non).1
    rw [(h2 .non).2] at z
    rw [hN]
    exact z
  have hij : i ≠ j := fun e => hxy (by rw [e, hj] at hi; exact (Option.some.inj hi).symm)
  refine WS.of (ps_par (i := i) (j := j) hc hn hi hj hij hx hy pa_W hw hs) (h.then hN hH fun vs L1 H1 k1 ⟨v, w, e1, q1⟩ => ⟨v, w, e1, ?_⟩)
  show upS X D.nx (((vals η).set i (some v)).set j (some w)) H1
  refine ⟨g v w, L1, ?_, ?_, k1, q1⟩
  · rw [((g1 v).2 w).2, (h2 v).2]
    exact hN
  · rw [((g1 v).2 w).1, (h2 v).1]
end
section
variable {X : Cx} {η : En} {L : Lg} {e a b c tg iter : Expr} {pos : Pos} {body : List Stmt} {D : GD}
theorem gs_asg (h : GE X e η L fun v L1 => GG X tg v η L1 D.nx) (hs : swapsWithSole [tg] e pos.line X.env = pure false := by rfl) (hw : swappedStores [tg] e X.env = pure none := by rfl)
    (h1 : (assignEach [tg] X.env).map (·.2) = [assign tg X.env] := by rfl) : GS X (.Assign [tg] e pos) D η L := fun hN H hH =>
  WS.of (ps_asg pe_W pg_W hs hw h1) (h.then hN hH fun v L1 H1 k1 q1 => q1 hN H1 k1)
/-- a loop's invariant: Pv by the turn -/
structure LoopBy (X : Cx) (tg : Expr) (body : List Stmt) (D : GD) (item : Nat → V → Prop) (n : Nat) (η : En) (L : Lg) (Pv : Nat → En → Lg → Prop) : Prop where
  h0 : Pv 0 η L
  hs : ∀ i x θ M, i < n → item i x → Pv i θ M → GG X tg x θ M fun θ' M' => GSs X body { nx := Pv (i + 1), rt := D.rt, bk := D.nx, ct := Pv (i + 1) } θ' M'
  hd : ∀ θ M, Pv n θ M → D.nx θ M
/-- one turn, as the library's loops ask it -/
theorem turn {item : Nat → V → Prop} {n : Nat} {Pv : Nat → En → Lg → Prop} (l : LoopBy X tg body D item n η L Pv) {i : Nat} {x : V} {σ : L2.St} {H : Hp} (hi : i < n) (hx : item i x) (p : upS X (Pv i) σ H) :
    WG X tg x σ H fun σ2 H2 => WSs X body { D.ends X with nx := upS X (Pv (i + 1)), ct := upS X (Pv (i + 1)), bk := (D.ends X).nx } σ2 H2 := by
  obtain ⟨θ, M, n1, es, h1, q1⟩ := p
  rw [es]
  exact (l.hs i x θ M hi hx q1).then n1 h1 fun θ' M' H2 n2 h2 q2 => q2 n2 H2 h2
/-- while: the word Pv with its measure as a part -/
theorem gs_while (Pv : Nat → En → Lg → Prop) (m0 : Nat) (h0 : Pv m0 η L)
    (hs : ∀ m θ M, Pv m θ M → GT X c θ M fun k M1 => if k = true then GSs X body { nx := fun θ' M' => ∃ m', m' < m ∧ Pv m' θ' M', rt := D.rt, bk := D.nx, ct := fun θ' M' => ∃ m', m' < m ∧ Pv m' θ' M' } θ M1 else D.nx θ M1)
    (hp : PassesOwn (model X.prog X.w) X.A X.env X.xe := by first | exact PassesOwn.never | exact passes_of rfl | assumption) : GS X (.While c body [] pos) D η L := fun hN H hH =>
  WS.of (ps_while hp pt_W pss_W) ⟨fun m => upS X (Pv m), ⟨m0, η, L, hN, rfl, hH, h0⟩, fun m σ H1 ⟨θ, M, n1, es, h1, q1⟩ => by
    rw [es]
    refine (hs m θ M q1).then n1 h1 fun k M1 H2 h2 q2 => ?_
    cases k with
    | true =>
      refine ⟨upS X fun θ' M' => ∃ m', m' < m ∧ Pv m' θ' M', fun σ' H' ⟨θ', M', n', e', h', m', hlt, q'⟩ => ⟨m', hlt, θ', M', n', e', h', q'⟩, ?_⟩
      exact q2 n1 H2 h2
    | false => exact ⟨θ, M1, n1, rfl, h2, q2⟩⟩
end
abbrev XL := Value → Option Addr → Lg → Prop
abbrev SpL := List V → Lg → QV → XL → Prop
/-- a promise over ledgers, as the library's -/
def toSp (sp : SpL) : Sp := fun vs H Q E => ∃ L Ql El, Has H L ∧ sp vs L Ql El ∧ (∀ v L' H', Has H' L' → Ql v L' → Q v H') ∧ ∀ c d L' H', Has H' L' → El c d L' → E c d H'
section
variable {P : Program} {w : World} {K : PySem.W.Frag} {mg : Str → Option Value} {base : Heap}
/-- the def x of the text as it stands behind the top -/
def Df (K : PySem.W.Frag) (mg : Str → Option Value) (x : Str) (st : Stmt) : Prop := ∃ f fd, mg x = some (.ref f) ∧ Fun K x x st f fd
/-- room for calls, and no repr that is under way -/
structure RoomG (k : Nat) (A : Around) : Prop extends Room k A where
  gd : A.guards = some []
theorem RoomG.mono {j k : Nat} {A : Around} (r : RoomG k A) (h : j ≤ k) : RoomG j A := ⟨r.toRoom.mono h, r.gd⟩
/-- what is at f keeps its promise; args: how the call's values are handed over -/
def RunG (P : Program) (w : World) (K : PySem.W.Frag) (mg : Str → Option Value) (base : Heap) (CX : CXT) (k : Nat) (f : Addr) (args : List Value → Args) (sp : Sp) : Prop :=
  ∀ (A : Around) (outer : List Env) (s : Shared) (H : Hp) (us : List Value) (vs : List V) (Q : VK) (E : XK), RoomG k A → Env0 P w K mg base A outer s H → Vals vs us → sp vs H Q E → codeAny (model P w) A (.call (.ref f) (args us)) (CR CX outer P w H s Q E) s
abbrev argsP : List Value → Args := fun us => ⟨us, []⟩
abbrev argsK (n : Nat) (ks : List Str) : List Value → Args := fun us => ⟨us.take n, ks.zip (us.drop n)⟩
theorem RunG.imp {CX : CXT} {k : Nat} {f : Addr} {args : List Value → Args} {sp sp' : Sp} (F : RunG P w K mg base CX k f args sp) (h : ∀ vs H Q E, sp' vs H Q E → sp vs H Q E) : RunG P w K mg base CX k f args sp' := fun A outer s H us vs Q E hr e0 r hs => F A outer s H us vs Q E hr e0 r (h _ _ _ _ hs)
theorem RunG.mono {CX : CXT} {j k : Nat} {f : Addr} {args : List Value → Args} {sp : Sp} (F : RunG P w K mg base CX j f args sp) (h : j ≤ k) : RunG P w K mg base CX k f args sp := fun A outer s H us vs Q E hr => F A outer s H us vs Q E (hr.mono h)
/-- the def x keeps its promise -/
def FnA (P : Program) (w : World) (K : PySem.W.Frag) (mg : Str → Option Value) (base : Heap) (CX : CXT) (x : Str) (k : Nat) (args : List Value → Args) (sp : SpL) : Prop := ∃ f, mg x = some (.ref f) ∧ PySem.W.keepIn K (.ref f) = true ∧ RunG P w K mg base CX k f args (toSp sp)
abbrev Fn (P : Program) (w : World) (K : PySem.W.Frag) (mg : Str → Option Value) (base : Heap) (CX : CXT) (x : Str) (k : Nat) (sp : SpL) : Prop := FnA P w K mg base CX x k argsP sp
/-- what is left over may be dropped -/
def drp (Q : QV) : QV := fun v L => ∃ M, Sub M L ∧ Q v M
def bodyD (Q : QV) : GD := { nx := fun _ L => drp Q .non L, rt := drp Q, bk := fun _ _ => False, ct := fun _ _ => False }
def begun (N : List Str) (vs : List V) : En := N.zip (L2.start N vs)
theorem names_begun {N : List Str} {vs : List V} (h : vs.length ≤ N.length) : names (begun N vs) = N ∧ vals (begun N vs) = L2.start N vs := by
  have l : (L2.start N vs).length = N.length := by
    unfold L2.start
    rw [List.length_append, List.length_map, List.length_replicate]
    omega
  unfold names vals begun
  exact ⟨List.map_fst_zip (Nat.le_of_eq l.symm), List.map_snd_zip (Nat.le_of_eq l)⟩
/-- where the body of such a def stands -/
def cx0 (P : Program) (w : World) (K : PySem.W.Frag) (mg : Str → Option Value) (base : Heap) (N : List Str) (x : Str) (sc : Scope) (f : Addr) (cdv : Value) (A : Around) (outer : List Env) (s : Shared) (H : Hp) (E0 : XK) : Cx := (cxOf CX0 P w K mg base N x sc f cdv A outer s H E0).nox
/-- what a body shows, as the library wants it -/
theorem body_end {X : Cx} {st : List Stmt} {vs : List V} {H : Hp} {Q : VK} {Ql : QV} (hl : vs.length ≤ X.N.length) (hq : ∀ v L' H', Has H' L' → Ql v L' → Q v H') {L : Lg} (hH : Has H L) (h : GSs X st (bodyD Ql) (begun X.N vs) L) :
    WSs X st { nx := fun _ H' => Q .non H', rt := Q } (L2.start X.N vs) H := by
  have z := h (by rw [(names_begun hl).1] <;> rfl) H hH
  rw [(names_begun hl).2] at z
  refine z.mono (fun σ H' hh => ?_) (fun v H' hh => ?_) (fun _ _ hh => ?_) (fun _ _ hh => ?_)
  · obtain ⟨θ, M, _, _, h', M', sb, q⟩ := hh
    exact hq _ M' H' (sb _ h') q
  · obtain ⟨M, h', M', sb, q⟩ := hh
    exact hq _ M' H' (sb _ h') q
  · obtain ⟨_, _, _, _, _, q⟩ := hh
    exact q.elim
  · obtain ⟨_, _, _, _, _, q⟩ := hh
    exact q.elim
theorem guard_deeper {A : Around} {e : Env} (h : A.guards = some []) : (A.deeper e).guards = some [] := h
/-- what a promise's body is shown of -/
abbrev BodyOf (P : Program) (w : World) (K : PySem.W.Frag) (mg : Str → Option Value) (base : Heap) (N : List Str) (q : Str) (st : Stmt) (k : Nat) (sp : SpL) : Prop :=
  ∀ (X : Cx) (f : Addr) (cdv : Value) (A : Around) (outer : List Env) (s : Shared) (H : Hp) (E0 : XK) (L : Lg) (vs : List V) (Q : QV) (E : XL), X = cx0 P w K mg base N q (defScope st) f cdv A outer s H E0 → X.N.Nodup → RoomG k X.A → sp vs L Q E → GSs X (defBody st) (bodyD Q) (begun N vs) L
theorem run_plain {x q : Str} {st : Stmt} {f : Addr} {fd : FuncData} {N ps : List Str} {k : Nat} {sp : SpL} (F : Fun K x q st f fd) (S : FnScope N ps (defScope st)) (args : List Value → Args) (pmV : List V → List V) (pmU : List Value → List Value) (hpm : ∀ vs us, Vals vs us → Vals (pmV vs) (pmU us))
    (hb : ∀ (kV doc pm : Value) (an : Option Addr) (cdv ct : Value) (us : List Value), (pmU us).length = ps.length → bindArgs (PySem.W.fnOf x q (defArgs st) (defBody st) (defScope st) .none kV doc pm an cdv ct) (args us) = pure (ps.zip (pmU us)))
    (hl : ps.length ≤ N.length) (len : ∀ vs L Q E, sp vs L Q E → vs.length = ps.length) (body : BodyOf P w K mg base N q st k sp) : RunG P w K mg base CX0 (k + 1) f args (fun vs => toSp sp (pmV vs)) := by
  obtain ⟨oc, od, kV, doc, pm, an, cdv, ct, osl, rfl, lk, hcd⟩ := F.ex
  intro A outer s H us vs Q E hr e0 r hsp
  obtain ⟨L, Ql, El, hH, h, hq, _⟩ := hsp
  have hn : (pmV vs).length = ps.length := len _ L Ql El h
  have r2 := hpm vs us r
  have hlv : (pmV vs).length ≤ N.length := by
    rw [hn]
    exact hl
  exact LamX.run_ofS (CX := CX0) lk hcd S hr.toRoom e0 (.of_eq (hb kV doc pm an cdv ct us (by rw [← r2.length]; exact hn))) r2 hn fun hr2 =>
    ⟨WSs _ (defBody st), PSs.nox pss_W, body_end (X := cx0 P w K mg base N q (defScope st) f cdv A outer s H E) hlv hq hH (body _ f cdv A outer s H E L (pmV vs) Ql El rfl S.nd ⟨hr2, guard_deeper hr.gd⟩ h)⟩
/-- THE RULE for a def that lets no exception out -/
theorem fn_plain {x : Str} {st : Stmt} {N ps : List Str} {k : Nat} {sp : SpL} (F : Df K mg x st) (S : FnScope N ps (defScope st))
    (hb : ∀ (kV doc pm : Value) (an : Option Addr) (cdv ct : Value) (us : List Value), us.length = ps.length → bindArgs (PySem.W.fnOf x x (defArgs st) (defBody st) (defScope st) .none kV doc pm an cdv ct) ⟨us, []⟩ = pure (ps.zip us))
    (hl : ps.length ≤ N.length) (len : ∀ vs L Q E, sp vs L Q E → vs.length = ps.length) (body : BodyOf P w K mg base N x st k sp) : Fn P w K mg base CX0 x (k + 1) sp := by
  obtain ⟨f, fd, hm, F⟩ := F
  exact ⟨f, hm, F.kp, run_plain F S argsP id id (fun _ _ r => r) hb hl len body⟩
end
def NoX : XL := fun _ _ _ => False
def upX (E : XL) : XK := fun c d H => ∃ L, Has H L ∧ E c d L
section
variable {X : Cx} {η : En} {L : Lg} {Q : QV} {El : XL} {CX : CXT} {x : Str} {j k : Nat} {sp : SpL} {e o : Expr} {es : List Expr} {pos p apos : Pos}
theorem passA {E : XK} : Passes CX0 X E := fun _ _ _ _ _ _ _ h => h.elim
theorem passN : Passes (L2.CX X.prog X.w) X (upX NoX) := fun _ _ _ _ _ _ _ h => by
  obtain ⟨_, _, _, _, _, _, _, _, _, _, _, _, _, _, z⟩ := h
  exact z.elim
theorem up_sp {vs : List V} {H : Hp} (hH : Has H L) (h : sp vs L Q El) : toSp sp vs H (up Q) (upX El) := ⟨L, Q, El, hH, h, fun _ L' _ h' q => ⟨L', h', q⟩, fun _ _ L' _ h' q => ⟨L', h', q⟩⟩
/-- a call that got its values -/
theorem run_G {pins : List (Addr × Obj)} {σ : L2.St} {H : Hp} {s : Shared} {f : Addr} {args : List Value → Args} {us : List Value} {vs : List V} {sp : Sp} {E : XK} {Q : VK} (F : RunG X.prog X.w X.K X.mg X.base CX k f args sp) (hr : RoomG k X.A) (hx : Passes CX X E) (I : Inv X pins σ H s) (r : Vals vs us) (h : sp vs H Q E) :
    wpAny (model X.prog X.w) X.A (call (.ref f) (args us).pos (args us).kw) (EP X pins σ Q) X.xe s := by
  refine wpAny_call (codeAny_mono (F X.A X.stack s H us vs Q E hr I.env0 r h) fun r' s' hq => ?_)
  cases r' with
  | error e => exact hx pins σ H s e s' I hq
  | ok fl =>
    cases fl with
    | ret u => exact I.after hq
    | next => exact hq.elim
    | brk => exact hq.elim
    | cont => exact hq.elim
theorem ge_call (F : Fn X.prog X.w X.K X.mg X.base CX x k sp) (hr : RoomG j X.A) (hx : Passes CX X (upX El)) (h : GA X (e :: es) η L fun vs L1 => sp vs L1 Q El) (hjk : k ≤ j := by decide) (hg : Gl X x := by rfl) (hd : (x == ("__debug__" : Str)) = false := by decide)
    (he : starEach (e :: es) X.env = (false, eval e X.env) :: starEach es X.env := by rfl) (hpl : (backTo pos (starEach es X.env)).any (·.1) = false := by rfl) : GE X (.Call (.Name x p) (e :: es) [] pos) η L Q := fun hN H hH pins s I => by
  obtain ⟨f, hm, hk, F⟩ := F
  refine wpAny_Call_Name_kw (ld_glob I hg hm ?_ hd)
  refine PySem.W.callWith_K (h₀ := X.base) I.ok.mod.kin hk ?_ he hpl
  refine thn (h hN H hH pos pins s I) fun us s1 ⟨vs, H1, J, r, L1, h1, q⟩ => ⟨J.kIn, ?_⟩
  exact run_G (args := argsP) F (hr.mono hjk) hx J r (up_sp h1 q)
/-- xs.append(e) -/
theorem ge_append (h : GE X o η L fun v L1 => ∃ l zs, v = .ref l ∧ (l, HO.lst zs) ∈ L1 ∧ GE X e η L1 fun y L2 => ∃ xs M, (l, HO.lst xs) ∈ L2 ∧ xs.length < sizeLine ∧ Swap l (.lst (xs ++ [y])) L2 M ∧ Q .non M)
    (hbase : attributeBase o "append" X.env (eval o X.env) = eval o X.env := by rfl)
    (hfew : ((backTo pos (starEach [e] X.env)).all (fun x => !x.1) && (backToKw pos (keywordEach [] X.env)).all (fun x => x.1.isSome)
      && decide ([e].length + ([] : List Keyword).length + (if ([] : List Keyword).isEmpty then 0 else 1) < 30)) = true := by rfl)
    (hline : (apos.endLine == pos.line) = true := by rfl) (hs : starEach [e] X.env = (false, eval e X.env) :: starEach [] X.env := by rfl) : GE X (.Call (.Attribute o "append" apos) [e] [] pos) η L Q := fun hN H hH =>
  WE.of (pe_bm PySem.F.plainAttrs_list PySem.F.slot_list_append PySem.F.type_list_append mt_append pe_W (pa_cons pe_W pa_nil hs) hbase hfew hline hs rfl) (h.then hN hH fun v L1 H1 k1 ⟨l, zs, ev, m, q⟩ => by
    subst ev
    exact ⟨.inl ⟨rfl, zs, sql k1 m⟩, q.then hN k1 fun y L2 H2 k2 ⟨xs, M, m2, z, sw, q2⟩ => ⟨l, xs, y, rfl, rfl, k2.get m2, z, M, k2.swap sw, q2⟩⟩)
/-- a slice with both ends left out, or written -/
def GPart (X : Cx) (o : Option Expr) (η : En) (L : Lg) (Q : Option Int → Lg → Prop) : Prop := match o with
  | none => Q none L
  | some e => GE X e η L fun v L1 => ∃ i, v = .int i ∧ Q (some i) L1
def WPart (X : Cx) (o : Option Expr) : TO := match o with
  | none => tNoPart
  | some e => tPart (WE X e)
theorem po_W {o : Option Expr} : PO X o (WPart X o) := by
  cases o with
  | none => exact po_none
  | some e => exact po_some pe_W
theorem GPart.then {o : Option Expr} {Q : Option Int → Lg → Prop} {Q' : Option Int → Hp → Prop} (h : GPart X o η L Q) (hN : X.N = names η) {H : Hp} (hH : Has H L) (m : ∀ v L1 H1, Has H1 L1 → Q v L1 → Q' v H1) : WPart X o (vals η) H Q' := by
  cases o with
  | none => exact m none L H hH h
  | some e => exact GE.then h hN hH fun v L1 H1 h1 ⟨i, ei, q⟩ => ⟨i, ei, m _ L1 H1 h1 q⟩
def InL (K : PySem.W.Frag) (L : Lg) (p : Addr) (xs : List V) : Prop := ∀ H, Has H L → SqL K H p xs
theorem ge_sliceL {lo hi : Option Expr} {p2 : Pos} (h : GE X e η L fun v L1 => ∃ p xs, v = .ref p ∧ GPart X lo η L1 fun i L2 => GPart X hi η L2 fun j L3 => InL X.K L3 p xs ∧ ∀ q, Q (.ref q) ((q, .lst (cutV xs i j)) :: L3)) : GE X (.Subscript e (.Slice lo hi none p2) pos) η L Q := fun hN H hH =>
  WE.of (pe_slice sl_list pe_W po_W po_W) (h.then hN hH fun v L1 H1 k1 ⟨p, xs, ev, q⟩ => q.then hN k1 fun i L2 H2 k2 q2 => q2.then hN k2 fun j L3 H3 k3 ⟨m, q3⟩ => ⟨p, xs, ev, m H3 k3, fun r hr => ⟨_, k3.new hr, q3 r⟩⟩)
end
section
variable {P : Program} {w : World} {K : PySem.W.Frag} {mg : Str → Option Value} {base : Heap}
/-- values, then a tuple of the rest -/
theorem run_starred {x q pv : Str} {st : Stmt} {f : Addr} {fd : FuncData} {N ps : List Str} {k : Nat} {sp : SpL} (F : Fun K x q st f fd) (S : FnScope N (ps ++ [pv]) (defScope st))
    (hb : ∀ (kV doc pm : Value) (an : Option Addr) (cdv ct : Value) (us rest : List Value), us.length = ps.length → bindArgs (PySem.W.fnOf x q (defArgs st) (defBody st) (defScope st) .none kV doc pm an cdv ct) ⟨us ++ rest, []⟩ = (newTuple rest >>= fun t => pure (ps.zip us ++ [(pv, t)])))
    (hl : ps.length + 1 ≤ N.length) (body : BodyOf P w K mg base N q st k sp) (len : ∀ vs L Q E, sp vs L Q E → vs.length = ps.length + 1) : RunG P w K mg base CX0 (k + 1) f argsP (toSp fun vs L Q E => ∃ ws rest, vs = ws ++ rest ∧ ws.length = ps.length ∧ rest.length ≤ sizeLine ∧ ∀ p, sp (ws ++ [.ref p]) ((p, .tup rest) :: L) Q E) := by
  obtain ⟨oc, od, kV, doc, pm, an, cdv, ct, osl, rfl, lk, hcd⟩ := F.ex
  intro A outer s H us vs Q E hr e0 r hsp
  obtain ⟨L, Ql, El, hH, ⟨ws, rest, ev, hlw, hz, hs⟩, hq, _⟩ := hsp
  subst ev
  obtain ⟨u1, u2, eu, r1, r2⟩ := StX.vals_split r
  subst eu
  have hn : H s.heap.objs.size = none := e0.hok.fresh (Nat.le_refl _)
  have hl1 : u1.length = ps.length := by
    rw [← r1.length]
    exact hlw
  have hl2 : u2.length ≤ sizeLine := by
    rw [← r2.length]
    exact hz
  refine StX.run_bnd (CX := CX0) lk hcd S hr.toRoom e0 (G := fun xs H2 => ∃ p, H p = none ∧ xs = ws ++ [V.ref p] ∧ H2 = upd H p (.tup rest)) (fun A' Ex Q' h => ?_) fun s2 H2 xs ⟨p, hp, ex, eH⟩ hr' => ?_
  · rw [show bindArgs _ (argsP (u1 ++ u2)) = _ from hb kV doc pm an cdv ct u1 u2 hl1]
    refine wpAny_bind (wpAny_newTuple (wpAny_pure ?_) hl2)
    have new : ObjOk P w (upd H s.heap.objs.size (.tup rest)) (s.heap.push ({ cls := .type "tuple", data := .seq u2.toArray } : Obj)) s.heap.objs.size (.tup rest) := ⟨hz, u2, r2, ⟨_, Heap.get?_push_size _ rfl, rfl, _, rfl⟩⟩
    have un := StX.un_laid (fs := frs outer) (s := s) (o := ({ cls := .type "tuple", data := .seq u2.toArray } : Obj)) (u := .tup rest) hn
    have z := h _ _ (ws ++ [V.ref s.heap.objs.size]) (u1 ++ [Value.ref s.heap.objs.size]) (StX.env0_laid e0 new) un rfl (fun _ _ z => z.elim) (r1.append (.cons rfl .nil)) (by rw [List.length_append, List.length_append, hlw] <;> rfl) ⟨_, hn, rfl, rfl⟩
    rw [List.zip_append hl1.symm] at z
    exact z
  · subst ex eH
    have hlv : (ws ++ [V.ref p]).length ≤ N.length := by
      rw [List.length_append, hlw]
      exact hl
    exact ⟨WSs _ (defBody st), PSs.nox pss_W, body_end (X := cx0 P w K mg base N q (defScope st) f cdv A outer s2 (upd H p (.tup rest)) E) hlv hq (hH.new hp) (body _ f cdv A outer s2 _ E _ _ Ql El rfl S.nd ⟨hr', guard_deeper hr.gd⟩ (hs p))⟩
end
inductive Knd (L : Lg) : V → String → Prop
  | non : Knd L .non "NoneType"
  | bl {b : Bool} : Knd L (.bl b) "bool"
  | int {i : Int} : Knd L (.int i) "int"
  | str {x : Str} : Knd L (.str x) "str"
  | lst {p : Addr} {xs : List V} (m : (p, HO.lst xs) ∈ L) : Knd L (.ref p) "list"
  | tup {p : Addr} {xs : List V} (m : (p, HO.tup xs) ∈ L) : Knd L (.ref p) "tuple"
  | dct {p : Addr} {kvs : List (Key × V)} (m : (p, HO.dK kvs) ∈ L) : Knd L (.ref p) "dict"
theorem Knd.ty {K : PySem.W.Frag} {L : Lg} {x : V} {T : String} (k : Knd L x T) (H : Hp) (hH : Has H L) : TyX K H x (.type T) := by
  cases k with
  | non => exact .base .non
  | bl => exact .base (.bl _)
  | int => exact .base (.int _)
  | str => exact .base (.str _)
  | lst m => exact .base (.lst (hH.get m))
  | tup m => exact .base (.tup (hH.get m))
  | dct m => exact .base (.dK (hH.get m))
theorem Knd.sub {L M : Lg} {x : V} {T : String} (k : Knd L x T) (s : ∀ e ∈ L, e ∈ M) : Knd M x T := by
  cases k with
  | non => exact .non
  | bl => exact .bl
  | int => exact .int
  | str => exact .str
  | lst m => exact .lst (s _ m)
  | tup m => exact .tup (s _ m)
  | dct m => exact .dct (s _ m)
theorem kb_int_int : kitB "int" "int" = some true := by decide +kernel
theorem kb_int_bool : kitB "int" "bool" = some false := by decide +kernel
theorem kb_tuple_tuple : kitB "tuple" "tuple" = some true := by decide +kernel
section
variable {X : Cx} {L : Lg} {Q : QV} {x : V} {T c : String} {b : Bool}
theorem gc_isK (k : Knd L x T) (e : kitB T c = some b) (h : Q (.bl b) L) : GC X (.builtin "isinstance") [x, .ty c] L Q := gc_isi (fun H hH => k.ty H hH) e h
end
theorem sz1 : 1 ≤ sizeLine := by decide +kernel
theorem sz2 : 2 ≤ sizeLine := by decide +kernel
theorem sz3 : 3 ≤ sizeLine := by decide +kernel
theorem sz_le {n : Nat} (h : n ≤ 1000) : n ≤ sizeLine := Nat.le_trans h (by decide +kernel)
theorem sz_lt {n : Nat} (h : n < 1000) : n < sizeLine := Nat.lt_of_lt_of_le h (by decide +kernel)
theorem Sub.keep {L M : Lg} {e : Addr × HO} (s : M.Sublist L) : Sub (e :: M) (e :: L) := Sub.sublist (s.cons_cons e)
section
variable {a b c d e f g h i : Addr × HO} {R : Lg}
theorem br0 : Sub (a :: b :: R) (a :: b :: R) := Sub.refl
theorem br1 : Sub (a :: b :: c :: R) (c :: a :: b :: R) := Sub.perm (List.perm_middle (l₁ := [a, b])).symm.symm
theorem br2 : Sub (a :: b :: c :: d :: R) (c :: d :: a :: b :: R) := Sub.perm (by
  have z := List.perm_append_comm (l₁ := [a, b]) (l₂ := [c, d])
  exact z.append_right R)
theorem br3 : Sub (a :: b :: c :: d :: e :: R) (c :: d :: e :: a :: b :: R) := Sub.perm (by
  have z := List.perm_append_comm (l₁ := [a, b]) (l₂ := [c, d, e])
  exact z.append_right R)
theorem br4 : Sub (a :: b :: c :: d :: e :: f :: R) (c :: d :: e :: f :: a :: b :: R) := Sub.perm (by
  have z := List.perm_append_comm (l₁ := [a, b]) (l₂ := [c, d, e, f])
  exact z.append_right R)
theorem br5 : Sub (a :: b :: c :: d :: e :: f :: g :: R) (c :: d :: e :: f :: g :: a :: b :: R) := Sub.perm (by
  have z := List.perm_append_comm (l₁ := [a, b]) (l₂ := [c, d, e, f, g])
  exact z.append_right R)
theorem br6 : Sub (a :: b :: c :: d :: e :: f :: g :: h :: R) (c :: d :: e :: f :: g :: h :: a :: b :: R) := Sub.perm (by
  have z := List.perm_append_comm (l₁ := [a, b]) (l₂ := [c, d, e, f, g, h])
  exact z.append_right R)
end
section
variable {X : Cx} {η : En} {L : Lg} {Q : QV} {e : Expr} {es : List Expr} {pos p : Pos}
theorem gb_len (B : Bi X.mg) (h : GA X (e :: es) η L fun xs L1 => GC X (.builtin "len") xs L1 Q) (hg : Gl X "len" := by rfl) (he : starEach (e :: es) X.env = (false, eval e X.env) :: starEach es X.env := by rfl) (hpl : (backTo pos (starEach es X.env)).any (·.1) = false := by rfl) :
    GE X (.Call (.Name "len" p) (e :: es) [] pos) η L Q := ge_B B.len bt_len h hg (by decide) (by decide) he hpl
theorem gb_abs (B : Bi X.mg) (h : GA X (e :: es) η L fun xs L1 => GC X (.builtin "abs") xs L1 Q) (hg : Gl X "abs" := by rfl) (he : starEach (e :: es) X.env = (false, eval e X.env) :: starEach es X.env := by rfl) (hpl : (backTo pos (starEach es X.env)).any (·.1) = false := by rfl) :
    GE X (.Call (.Name "abs" p) (e :: es) [] pos) η L Q := ge_B B.abs bt_abs h hg (by decide) (by decide) he hpl
theorem gb_min (B : Bi X.mg) (h : GA X (e :: es) η L fun xs L1 => GC X (.builtin "min") xs L1 Q) (hg : Gl X "min" := by rfl) (he : starEach (e :: es) X.env = (false, eval e X.env) :: starEach es X.env := by rfl) (hpl : (backTo pos (starEach es X.env)).any (·.1) = false := by rfl) :
    GE X (.Call (.Name "min" p) (e :: es) [] pos) η L Q := ge_B B.min bt_min h hg (by decide) (by decide) he hpl
theorem gb_isinstance (B : Bi X.mg) (h : GA X (e :: es) η L fun xs L1 => GC X (.builtin "isinstance") xs L1 Q) (hg : Gl X "isinstance" := by rfl) (he : starEach (e :: es) X.env = (false, eval e X.env) :: starEach es X.env := by rfl) (hpl : (backTo pos (starEach es X.env)).any (·.1) = false := by rfl) :
    GE X (.Call (.Name "isinstance" p) (e :: es) [] pos) η L Q := ge_B B.isinstance bt_isinstance h hg (by decide) (by decide) he hpl
theorem gb_int (B : Bi X.mg) (h : GA X (e :: es) η L fun xs L1 => GC X (.type "int") xs L1 Q) (hg : Gl X "int" := by rfl) (he : starEach (e :: es) X.env = (false, eval e X.env) :: starEach es X.env := by rfl) (hpl : (backTo pos (starEach es X.env)).any (·.1) = false := by rfl) :
    GE X (.Call (.Name "int" p) (e :: es) [] pos) η L Q := ge_Y B.int bt_int h hg (by decide) (by decide) he hpl
theorem gb_list (B : Bi X.mg) (h : GA X (e :: es) η L fun xs L1 => GC X (.type "list") xs L1 Q) (hg : Gl X "list" := by rfl) (he : starEach (e :: es) X.env = (false, eval e X.env) :: starEach es X.env := by rfl) (hpl : (backTo pos (starEach es X.env)).any (·.1) = false := by rfl) :
    GE X (.Call (.Name "list" p) (e :: es) [] pos) η L Q := ge_Y B.list bt_list h hg (by decide) (by decide) he hpl
theorem gb_tuple (B : Bi X.mg) (h : GA X (e :: es) η L fun xs L1 => GC X (.type "tuple") xs L1 Q) (hg : Gl X "tuple" := by rfl) (he : starEach (e :: es) X.env = (false, eval e X.env) :: starEach es X.env := by rfl) (hpl : (backTo pos (starEach es X.env)).any (·.1) = false := by rfl) :
    GE X (.Call (.Name "tuple" p) (e :: es) [] pos) η L Q := ge_Y B.tuple bt_tuple h hg (by decide) (by decide) he hpl
theorem gb_bool (B : Bi X.mg) (h : GA X (e :: es) η L fun xs L1 => GC X (.type "bool") xs L1 Q) (hg : Gl X "bool" := by rfl) (he : starEach (e :: es) X.env = (false, eval e X.env) :: starEach es X.env := by rfl) (hpl : (backTo pos (starEach es X.env)).any (·.1) = false := by rfl) :
    GE X (.Call (.Name "bool" p) (e :: es) [] pos) η L Q := ge_Y B.bool bt_bool h hg (by decide) (by decide) he hpl
theorem gb_str (B : Bi X.mg) (h : GA X (e :: es) η L fun xs L1 => GC X (.type "str") xs L1 Q) (hg : Gl X "str" := by rfl) (he : starEach (e :: es) X.env = (false, eval e X.env) :: starEach es X.env := by rfl) (hpl : (backTo pos (starEach es X.env)).any (·.1) = false := by rfl) :
    GE X (.Call (.Name "str" p) (e :: es) [] pos) η L Q := ge_Y B.str bt_str h hg (by decide) (by decide) he hpl
theorem gv_int (B : Bi X.mg) (q : Q (.ty "int") L) (hg : Gl X "int" := by rfl) : GE X (.Name "int" pos) η L Q := ge_tyName B.int bt_int q hg (by decide) (by decide)
theorem gv_bool (B : Bi X.mg) (q : Q (.ty "bool") L) (hg : Gl X "bool" := by rfl) : GE X (.Name "bool" pos) η L Q := ge_tyName B.bool bt_bool q hg (by decide) (by decide)
theorem gv_tuple (B : Bi X.mg) (q : Q (.ty "tuple") L) (hg : Gl X "tuple" := by rfl) : GE X (.Name "tuple" pos) η L Q := ge_tyName B.tuple bt_tuple q hg (by decide) (by decide)
theorem gv_list (B : Bi X.mg) (q : Q (.ty "list") L) (hg : Gl X "list" := by rfl) : GE X (.Name "list" pos) η L Q := ge_tyName B.list bt_list q hg (by decide) (by decide)
theorem gv_str (B : Bi X.mg) (q : Q (.ty "str") L) (hg : Gl X "str" := by rfl) : GE X (.Name "str" pos) η L Q := ge_tyName B.str bt_str q hg (by decide) (by decide)
end
theorem ite_t {A B : Prop} (h : A) : if true = true then A else B := by rw [if_pos rfl]; exact h
theorem ite_f {A B : Prop} (h : B) : if false = true then A else B := by rw [if_neg Bool.false_ne_true]; exact h
theorem ite_d {c A B : Prop} [Decidable c] (h : c → A) (k : ¬ c → B) : if decide c = true then A else B := by
  by_cases z : c
  · rw [if_pos (decide_eq_true z)]; exact h z
  · rw [decide_eq_false z, if_neg Bool.false_ne_true]; exact k z
theorem ite_n {c A B : Prop} [Decidable c] (h : ¬ c → A) (k : c → B) : if (!decide c) = true then A else B := by
  by_cases z : c
  · rw [decide_eq_true z]; exact ite_f (k z)
  · rw [decide_eq_false z]; exact ite_t (h z)
theorem ite_nt {A B : Prop} (h : B) : if (!true) = true then A else B := ite_f h
theorem ite_nf {A B : Prop} (h : A) : if (!false) = true then A else B := ite_t h
theorem ite_b {b : Bool} {A B : Prop} (h : b = true → A) (k : b = false → B) : if b = true then A else B := by
  cases b with
  | true => exact ite_t (h rfl)
  | false => exact ite_f (k rfl)
section
variable {X : Cx} {L : Lg} {Q : QV} {i j r : Int}
theorem go_modR (c : 0 < j) (h : ∀ r, 0 ≤ r → r < j → Q (.int r) L) : GOp X (binaryOp .Mod) (.int i) (.int j) L Q := go_mod c (h _ (Int.emod_nonneg _ (by omega)) (Int.emod_lt_of_pos _ c))
theorem go_powL (c : CPow i j) (e : i ^ j.toNat = r) (h : Q (.int r) L) : GOp X (binaryOp .Pow) (.int i) (.int j) L Q := go_pow c (by rw [e]; exact h)
theorem go_powR (c : CPow i j) (h : ∀ r, Q (.int r) L) : GOp X (binaryOp .Pow) (.int i) (.int j) L Q := go_pow c (h _)
end
theorem bnd {s t A B : Int} (s0 : 0 ≤ s) (s1 : s ≤ A) (t0 : 0 ≤ t) (t1 : t ≤ B) : 0 ≤ s * t ∧ s * t ≤ A * B := ⟨Int.mul_nonneg s0 t0, Int.mul_le_mul s1 t1 t0 (Int.le_trans s0 s1)⟩
theorem depthInts : ∀ ns : List Int, PyData.depthAll (ns.map PyData.int) = 0
  | [] => by simp [PyData.depthAll]
  | n :: r => by
    have e := depthInts r
    simp [PyData.depthAll, PyData.depth, e]
theorem layInts : ∀ ns : List Int, PyData.canLayAll0 (ns.map PyData.int) = true
  | [] => by simp [PyData.canLayAll0]
  | n :: r => by
    have e := layInts r
    simp [PyData.canLayAll0, PyData.canLay0, e]
theorem shapedL (ns : List Int) : SeqAt.shaped (.list (ns.map PyData.int)) = true := by
  have a := depthInts ns
  have b := layInts ns
  simp [SeqAt.shaped, PyData.canLay0, PyData.depth, a, b]
theorem eqvInts : ∀ ns ms : List Int, PyData.eqvAll (ns.map PyData.int) (ms.map PyData.int) = decide (ns = ms)
  | [], [] => by simp [PyData.eqvAll]
  | [], m :: r => by simp [PyData.eqvAll]
  | n :: r, [] => by simp [PyData.eqvAll]
  | n :: r, m :: q => by
    have e := eqvInts r q
    simp [PyData.eqvAll, PyData.eqv, e]
    by_cases h : n = m <;> by_cases k : r = q <;> simp [h, k]
theorem eqvL (ns ms : List Int) : PyData.eqv (.list (ns.map PyData.int)) (.list (ms.map PyData.int)) = decide (ns = ms) := by
  rw [← eqvInts]
  simp [PyData.eqv]
section
variable {X : Cx} {L : Lg} {Q : QV} {i j r : Int}
theorem go_divS (c : 0 < j) (d : j < 2 ^ 64) (h : Q (.int (i / j)) L) : GOp X (binaryOp .FloorDiv) (.int i) (.int j) L Q := go_div c (Nat.lt_of_lt_of_le (by omega : j.natAbs < 2 ^ 64) (Nat.pow_le_pow_right (by decide) (by decide))) h
end
theorem idxU {N : List Str} (hn : N.Nodup) {i j : Nat} {x : Str} (h : N[i]? = some x) (k : N[j]? = some x) : i = j := by
  obtain ⟨a1, a2⟩ := List.getElem?_eq_some_iff.mp h
  obtain ⟨b1, b2⟩ := List.getElem?_eq_some_iff.mp k
  exact (List.getElem_inj hn).mp (a2.trans b2.symm)
section
variable {X : Cx} {η : En} {L : Lg} {a b c : Expr} {D : GD}
theorem PutF.at {x : Str} {N : List Str} {i : Nat} {θ : En} {f : V → En} (p : PutF x θ f) (hn : N.Nodup) (hN : N = names θ) (h : N[i]? = some x) (v : V) : vals (f v) = (vals θ).set i (some v) ∧ names (f v) = names θ := by
  obtain ⟨j, h1, h2⟩ := p.idx
  have e : i = j := idxU hn h (by rw [hN]; exact h1)
  subst e
  exact h2 v
theorem gs_par3 {x y z : Str} {f : V → En} {g : V → V → En} {k : V → V → V → En} {px py pz pt pos : Pos} {kt k2 pt2} (p : PutF x η f) (q : ∀ v, PutF y (f v) (g v)) (r : ∀ v w, PutF z (g v w) (k v w))
    (h : GA X [a, b, c] η L fun vs L1 => ∃ u v w, vs = [u, v, w] ∧ D.nx (k u v w) L1)
    (hw : swappedStores [.Tuple [.Name x px, .Name y py, .Name z pz] kt pt] (.Tuple [a, b, c] k2 pt2) X.env = pure (some [x, y, z]) := by rfl) (hxy : x ≠ y := by decide +kernel) (hxz : x ≠ z := by decide +kernel) (hyz : y ≠ z := by decide +kernel) (hn : X.N.Nodup := by assumption) (hc : X.calm = true := by rfl)
    (hx : X.env.scope.names.lookup x = some .local := by rfl) (hy : X.env.scope.names.lookup y = some .local := by rfl) (hz : X.env.scope.names.lookup z = some .local := by rfl)
    (hs : swapsWithSole [.Tuple [.Name x px, .Name y py, .Name z pz] kt pt] (.Tuple [a, b, c] k2 pt2) pos.line X.env = pure false := by rfl) :
    GS X (.Assign [.Tuple [.Name x px, .Name y py, .Name z pz] kt pt] (.Tuple [a, b, c] k2 pt2) pos) D η L := fun hN H hH => by
  obtain ⟨i, h1, h2⟩ := p.idx
  have nf : ∀ v, names (f v) = X.N := fun v => (h2 v).2.trans hN.symm
  obtain ⟨j, g1, _⟩ := (q .non).idx
  rw [nf] at g1
  have ng : ∀ v w, names (g v w) = X.N := fun v w => ((q v).at hn (nf v).symm g1 w).2.trans (nf v)
  obtain ⟨l, k1, _⟩ := (r .non .non).idx
  rw [ng] at k1
  have i1 : X.N[i]? = some x := by rw [hN]; exact h1
  have ne : ∀ {m n : Nat} {s t : Str}, X.N[m]? = some s → X.N[n]? = some t → s ≠ t → m ≠ n := fun hm hn' d e => d (by rw [e, hn'] at hm; exact (Option.some.inj hm).symm)
  refine WS.of (ps_par3 (i := i) (j := j) (l := l) hc hn i1 g1 k1 (ne i1 g1 hxy) (ne i1 k1 hxz) (ne g1 k1 hyz) hx hy hz pa_W hw hs) (h.then hN hH fun vs L1 H1 m1 ⟨u, v, w, e1, q1⟩ => ⟨u, v, w, e1, ?_⟩)
  show upS X D.nx ((((vals η).set i (some u)).set j (some v)).set l (some w)) H1
  have z := (r u v).at hn (ng u v).symm k1 w
  refine ⟨k u v w, L1, (z.2.trans (ng u v)).symm, ?_, m1, q1⟩
  rw [z.1, ((q u).at hn (nf u).symm g1 v).1, (h2 u).1]
end
section
variable {X : Cx} {L : Lg} {Q : QV} {i : Int} {p : Addr}
theorem isN_int (h : Q (.bl false) L) : GOp X (compareOp .Is) (.int i) .non L Q := go_isN h
theorem isN_ref (h : Q (.bl false) L) : GOp X (compareOp .Is) (.ref p) .non L Q := go_isN h
theorem isN_non (h : Q (.bl true) L) : GOp X (compareOp .Is) .non .non L Q := go_isN h
theorem notN_int (h : Q (.bl true) L) : GOp X (compareOp .IsNot) (.int i) .non L Q := go_notN h
theorem notN_ref (h : Q (.bl true) L) : GOp X (compareOp .IsNot) (.ref p) .non L Q := go_notN h
theorem notN_non (h : Q (.bl false) L) : GOp X (compareOp .IsNot) .non .non L Q := go_notN h
end
theorem gu_neg {X : Cx} {L : Lg} {Q : QV} {i : Int} (h : Q (.int (-i)) L) : GUn X (unaryOp .USub) (.int i) L Q := GUn.of un_neg fun H hH => ⟨i, rfl, L, hH, h⟩
/-- the law's own promise; ts: the tables of code objects -/
def spLaw (K : PySem.W.Frag) (ts : Lg) : SpL := fun vs L Q _ => ∃ (a : Addr) (ns : List Int) (M : Lg), vs = [.ref a] ∧ L = ts ++ M ∧ InL K L a (ns.map V.int) ∧ (∀ z ∈ ns, Builtin.Int.intBits z ≤ 1048576) ∧ ∀ M, Q (.bl true) M
abbrev tabsL (ts : List (Addr × Str)) : Lg := ts.map fun p => (p.1, tabM p.2)
/-- the heap that the law begins with: the script, the tables -/
def lawH (K : PySem.W.Frag) (a : Addr) (ob : Obj) (ns : List Int) (ts : List Addr) : Hp := fun b =>
  if b = a then (match K.lookup a with | none => some (.frz ob (.lst (ns.map V.int))) | some _ => none) else if b ∈ ts then some (.tbl #[]) else none
section
variable {K : PySem.W.Frag} {a b : Addr} {ob : Obj} {ns : List Int} {ts : List Addr}
theorem lawH_a (e : K.lookup a = none) : lawH K a ob ns ts a = some (.frz ob (.lst (ns.map V.int))) := by
  unfold lawH
  rw [if_pos rfl, e]
theorem lawH_k {o : Obj} (e : K.lookup a = some o) : lawH K a ob ns ts a = none := by
  unfold lawH
  rw [if_pos rfl, e]
theorem lawH_t (n : b ≠ a) (m : b ∈ ts) : lawH K a ob ns ts b = some (.tbl #[]) := by
  unfold lawH
  rw [if_neg n, if_pos m]
theorem lawH_n (n : b ≠ a) (m : b ∉ ts) : lawH K a ob ns ts b = none := by
  unfold lawH
  rw [if_neg n, if_neg m]
/-- one of the three -/
theorem lawH_way (b : Addr) : (b = a ∧ K.lookup a = none ∧ lawH K a ob ns ts b = some (.frz ob (.lst (ns.map V.int)))) ∨ (b ≠ a ∧ b ∈ ts ∧ lawH K a ob ns ts b = some (.tbl #[])) ∨ lawH K a ob ns ts b = none := by
  by_cases n : b = a
  · subst n
    cases e : K.lookup b with
    | none => exact .inl ⟨rfl, rfl, lawH_a e⟩
    | some o => exact .inr (.inr (lawH_k e))
  · by_cases m : b ∈ ts
    · exact .inr (.inl ⟨n, m, lawH_t n m⟩)
    · exact .inr (.inr (lawH_n n m))
end
section
variable {P : Program} {w : World} {K : PySem.W.Frag} {mg mb : Str → Option Value}
/-- the law's call, from its promise; cs: the code objects with their tables and the names of what stands in these -/
theorem law_run {k : Nat} {fa a : Addr} {cs : List (Addr × Addr × Str)} {t0 : Shared} {vs : List Value} {ns : List Int}
    (KX : K.In t0.heap) (hns : t0.heap.Ns mainGlobals mg) (hb : t0.heap.Ns builtinsNs mb) (hbb : ∀ x : Str, x ≠ "__name__" → mb x = bootBuiltins x) (hlim : t0.heap.NoLimit) (hg : t0.gens = #[])
    (nd : (cs.map fun p => p.2.1).Nodup) (hT : ∀ p ∈ cs, t0.heap.get? p.2.1 = some { cls := .none, data := .fields #[] }) (nT : ∀ p ∈ cs, K.lookup p.2.1 = none) (C : ∀ p ∈ cs, PySem.W.CodeHd t0.heap p.1 p.2.1)
    (hbm : ∃ (bm : Addr) (ob : Obj), mg "__builtins__" = some (.ref bm) ∧ bm ≠ builtinsNs ∧ t0.heap.get? bm = some ob ∧ ob.cls = .type "module" ∧ ob.dict = some builtinsNs ∧ ob.data = .plain)
    (ha : t0.heap.get? a = some { cls := .type "list", data := .seq vs.toArray }) (hi : IntsAre vs ns) (hl : ns.length ≤ sizeLine) (bits : ∀ z ∈ ns, Builtin.Int.intBits z ≤ 1048576) (hr : Room k callerA)
    (F : ∀ base : Heap, K.In base → base.Ns mainGlobals mg → (∀ p ∈ cs, LamX.TabB base mg p.1 p.2.1) → RunG P w K mg base CX0 k fa argsP (toSp (spLaw K (tabsL (cs.map fun p => p.2))))) :
    codeAny (model P w) callerA (.call (.ref fa) ⟨[.ref a], []⟩) (fun r s' => r = .ok (.ret (.bool true)) ∧ OldK t0.heap s'.heap ∧ s'.os = t0.os ∧ AllBare s'.gens) t0 := by
  let ob : Obj := { cls := .type "list", data := .seq vs.toArray }
  let ts : List Addr := cs.map fun p => p.2.1
  let H : Hp := lawH K a ob ns ts
  have way : ∀ b : Addr, (b = a ∧ K.lookup a = none ∧ H b = some (.frz ob (.lst (ns.map V.int)))) ∨ (b ≠ a ∧ b ∈ ts ∧ H b = some (.tbl #[])) ∨ H b = none := lawH_way
  have tsT : ∀ b ∈ ts, ∃ p ∈ cs, p.2.1 = b := fun b hb => List.mem_map.mp hb
  have isT : ∀ b ∈ ts, t0.heap.get? b = some { cls := .none, data := .fields #[] } := fun b hb => by
    obtain ⟨p, hp, e⟩ := tsT b hb
    exact e ▸ hT p hp
  have memT : ∀ p ∈ cs, p.2.1 ∈ ts := fun p hp => List.mem_map.mpr ⟨p, hp, rfl⟩
  have aT : ∀ b ∈ ts, b ≠ a := fun b hb z => by
    have q := (isT b hb).symm.trans (z ▸ ha)
    have q2 : Data.fields #[] = Data.seq vs.toArray _ := congrArg Obj.data (Option.some.inj q)
    cases q2
  have tabH : ∀ p ∈ cs, H p.2.1 = some (.tbl #[]) := fun p hp => lawH_t (aT _ (memT p hp)) (memT p hp)
  have rv := vals_ints hi
  -- what is neither a list nor a table is hidden from H
  have hid : ∀ {b : Addr} {o : Obj}, t0.heap.get? b = some o → (∀ u n, o.data ≠ .seq u n) → o.data ≠ .fields #[] → H b = none := fun {b o} e n1 n2 => by
    rcases way b with ⟨rfl, _, _⟩ | ⟨_, m, _⟩ | z
    · exact absurd (congrArg Obj.data (Option.some.inj (ha.symm.trans e))).symm (n1 _ _)
    · exact absurd (congrArg Obj.data (Option.some.inj ((isT b m).symm.trans e))).symm n2
    · exact z
  let base : Heap := hidT t0.heap H
  have inB : ∀ {b : Addr} {o : Obj}, t0.heap.get? b = some o → H b = none → base.get? b = some o := fun e n => hidT_get e n
  have nsB : ∀ {b : Addr} {m : Str → Option Value}, t0.heap.Ns b m → base.Ns b m := fun {b m} ⟨o, es, ep, e, d, r⟩ => ⟨o, es, ep, inB e (hid e (fun u n z => by rw [d] at z; cases z) fun z => by rw [d] at z; cases z), d, r⟩
  have KB : K.In base := fun b o e => inB (KX b o e) (by
    rcases way b with ⟨rfl, n, _⟩ | ⟨_, m, _⟩ | z
    · exact absurd (n.symm.trans e) (by simp)
    · obtain ⟨p, hp, ep⟩ := tsT b m
      exact absurd ((nT p hp).symm.trans (ep ▸ e)) (by simp)
    · exact z)
  have hM : L2.Mod K mg base := ⟨KB, nsB hns, ⟨mb, nsB hb, hbb⟩, let ⟨mc, h1, h2⟩ := hlim; ⟨mc, nsB h1, h2⟩⟩
  have TB : ∀ p ∈ cs, LamX.TabB base mg p.1 p.2.1 := fun p hp => by
    have tp := hT p hp
    refine ⟨?_, ?_, fun z => ?_⟩
    · obtain ⟨o, us, file, tf, flags, tg, inF, text, tt, e1, r1, r2, r3, rest⟩ := C p hp
      refine ⟨o, us, file, tf, flags, tg, inF, text, tt, inB e1 (hid e1 (fun u n z => ?_) fun z => ?_), r1, r2, r3, rest⟩
      · rw [r2] at z
        cases z
      · rw [r2] at z
        cases z
        simp at r3
    · obtain ⟨bm, o, b1, b2, b3, b4, b5, b6⟩ := hbm
      refine ⟨bm, o, b1, b2, fun q => ?_, fun q => ?_, inB b3 (hid b3 (fun u n z => ?_) fun z => ?_), b4, b5, b6⟩
      · obtain ⟨o2, es, ep, e, hd, _⟩ := hns
        have z := (congrArg Obj.data (Option.some.inj ((q ▸ b3).symm.trans e))).symm.trans b6
        rw [hd] at z
        cases z
      · have z := b6.symm.trans (congrArg Obj.data (Option.some.inj ((q ▸ b3).symm.trans tp)))
        cases z
      · rw [b6] at z
        cases z
      · rw [b6] at z
        cases z
    · obtain ⟨o, es, ep, e, hd, _⟩ := hns
      have q := hd.symm.trans (congrArg Obj.data (Option.some.inj (e.symm.trans (z ▸ tp))))
      cases q
  have hokH : HOk P w H t0.heap := fun b u e => by
    rcases way b with ⟨rfl, _, z⟩ | ⟨_, m, z⟩ | z
    · cases z.symm.trans e
      exact ⟨ha, by rw [List.length_map]; exact hl, vs, _, rv, ha⟩
    · cases z.symm.trans e
      exact isT b m
    · cases z.symm.trans e
  have sq : SqL K H a (ns.map V.int) := by
    cases hk : K.lookup a with
    | none => exact .inl (.inr ⟨ob, lawH_a hk⟩)
    | some o =>
      cases ha.symm.trans (KX a o hk)
      exact .inr ⟨_, vs.toArray, _, hk, rfl, rfl, rfl, by rw [List.size_toArray, hi.length]; exact hl, by simpa using rv⟩
  have e0 : Env0 P w K mg base callerA [] t0 H := ⟨rfl, hM, fun b o e => of_hidT e, Nat.le_of_eq (hidT_size _ _), trivial, fun b z => (List.not_mem_nil z).elim, hokH, .of_eq hg⟩
  -- the ledger: the tables, and the script where it is no object of the module's
  have hsp : toSp (spLaw K (tabsL (cs.map fun p => p.2))) [.ref a] H (fun v _ => v = .bl true) fun _ _ _ => False := by
    have hasT : Has H (tabsL (cs.map fun p => p.2)) := by
      refine ⟨by simpa [tabsL, List.map_map, Function.comp_def] using nd, fun e m => ?_⟩
      obtain ⟨q, hq, rfl⟩ := List.mem_map.mp m
      obtain ⟨p, hp, rfl⟩ := List.mem_map.mp hq
      exact holds_tab' (.nil (tabH p hp))
    cases hk : K.lookup a with
    | some o =>
      refine ⟨_, fun v _ => v = .bl true, NoX, hasT, ⟨a, ns, [], rfl, by rw [List.append_nil], fun H' _ => ?_, bits, fun _ => rfl⟩, fun _ _ _ _ q => q, fun _ _ _ _ _ q => q⟩
      rcases sq with (z | ⟨o2, z⟩) | z
      · exact absurd ((lawH_k hk).symm.trans z) (by simp)
      · exact absurd ((lawH_k hk).symm.trans z) (by simp)
      · exact .inr z
    | none =>
      have ea : H a = some (.frz ob (.lst (ns.map V.int))) := lawH_a hk
      refine ⟨tabsL (cs.map fun p => p.2) ++ [(a, .frz ob (.lst (ns.map V.int)))], fun v _ => v = .bl true, NoX, ?_, ⟨a, ns, _, rfl, rfl, fun H' h' => ?_, bits, fun _ => rfl⟩, fun _ _ _ _ q => q, fun _ _ _ _ _ q => q⟩
      · refine ⟨?_, fun e m => ?_⟩
        · rw [List.map_append]
          refine List.nodup_append.mpr ⟨hasT.1, by simp, fun x hx y hy => ?_⟩
          have hy' : y = a := by simpa using hy
          obtain ⟨e, he, rfl⟩ := List.mem_map.mp hx
          obtain ⟨q, hq, rfl⟩ := List.mem_map.mp he
          obtain ⟨p, hp, rfl⟩ := List.mem_map.mp hq
          rw [hy']
          exact aT _ (memT p hp)
        · rcases List.mem_append.mp m with m | m
          · exact hasT.2 e m
          · obtain rfl : e = (a, _) := by simpa using m
            exact ea
      · exact .inl (.inr ⟨ob, h'.get (List.mem_append_right _ (List.mem_singleton.mpr rfl))⟩)
  refine codeAny_mono (F base KB (nsB hns) TB callerA [] t0 H [.ref a] [.ref a] _ _ ⟨hr, rfl⟩ e0 (.cons rfl .nil) hsp) fun r s' h => ?_
  cases r with
  | error e => exact False.elim h
  | ok fl =>
    cases fl with
    | ret u =>
      obtain ⟨v, H', os, bare, un, hok', r', q⟩ := h
      have q' : v = .bl true := q
      subst q'
      obtain rfl : u = Value.bool true := r'
      have grown : ∀ b ∈ ts, ∃ more : Array Value, s'.heap.get? b = some { cls := .none, data := .fields more } := fun b hb => by
        obtain ⟨more, z⟩ := un.tbls b #[] (lawH_t (aT b hb) hb)
        exact ⟨_, hok' b _ z⟩
      have same : ∀ b o, b ∉ ts → t0.heap.get? b = some o → s'.heap.get? b = some o := fun b o nb e => by
        rcases way b with ⟨_, _, z⟩ | ⟨_, m, _⟩ | z
        · have e1 := (hokH b _ z).1
          have e2 := (hok' b _ (un.frzs b ob _ z)).1
          exact e2.trans (e1.symm.trans e)
        · exact absurd m nb
        · exact un.keep b o e z (fun q => (List.not_mem_nil q).elim) (List.not_mem_nil)
      refine ⟨rfl, ⟨fun b o e => ?_, fun b o e => ?_⟩, os, bare⟩
      · by_cases hb : b ∈ ts
        · obtain ⟨more, hm⟩ := grown b hb
          obtain ⟨p, hp, rfl⟩ := tsT b hb
          cases (hT p hp).symm.trans e
          exact .inr (.inl ⟨((C p hp).tab (hT p hp)).isCodeTable, rfl, #[], more, rfl, by rw [Array.empty_append]; exact hm⟩)
        · exact .inl (same b o hb e)
      · by_cases hb : b ∈ ts
        · obtain ⟨more, hm⟩ := grown b hb
          exact ⟨_, hm⟩
        · exact ⟨o, same b o hb e⟩
    | next => exact False.elim h
    | brk => exact False.elim h
    | cont => exact False.elim h
end
/-- what the end wants of the law at the head's heap h: cs, the makers of lambdas by name, with their code objects, tables, and what stands in these -/
def LawG (q : Program) (P : Program) (w : World) (K : PySem.W.Frag) (k : Nat) (mg : Str → Option Value) (fa : Addr) : Prop :=
  ∃ cs : List (Str × Addr × Addr × Str), (cs.map fun p => p.2.2.1).Nodup ∧ (∀ p ∈ cs, PySem.W.tabIn K p.1 = some (p.2.1, p.2.2.1) ∧ ((recsOf q).find? fun e => e.name == p.1).isSome = true ∧ K.lookup p.2.2.1 = none) ∧
    ∀ base : Heap, K.In base → base.Ns mainGlobals mg → (∀ p ∈ cs, LamX.TabB base mg p.2.1 p.2.2.1) → RunG P w K mg base CX0 k fa argsP (toSp (spLaw K (tabsL (cs.map fun p => p.2.2))))
theorem walkG {l : PySem.W.OpenLaw} {n k : Nat} {q : Program} {loose : List Str} {XP : (Str → Option Value) → Heap → Prop} {YP : World → Heap → Prop} {d : DefRec} {K : Params → PySem.W.Frag}
    (hn : l.most = some n) (hn2 : n ≤ sizeLine) (hdf : d.params.defaults = []) (hr : Room k callerA) (hY : ∀ (w : World) (h : Heap), YP w h → (K w.params).In h)
    (F : ∀ (w : World) (mg : Str → Option Value) (fa : Addr) (h : Heap), (K w.params).In h → h.Ns mainGlobals mg → mg d.name = some (.ref fa) → LawG q l.prog w (K w.params) k mg fa) : PySem.W.WalkO q loose XP YP l.row.toRowW d [] (fun f vs => PySem.call f vs) := by
  refine Att.attach_callB hn hdf fun w s₀ t0 mg mb fa o pm cd doc a vs ns G Y ho hd hcd hmg hobj hints hlen hbits hg => ?_
  have KX := hY w _ Y
  obtain ⟨cs, nd, hcs, hF⟩ := F w mg fa _ KX G.T.g hmg
  have tb : ∀ p ∈ cs, PySem.W.CodeHd t0.heap p.2.1 p.2.2.1 ∧ t0.heap.get? p.2.2.1 = some { cls := .none, data := .fields #[] } := fun p hp => by
    obtain ⟨e1, e2, _⟩ := hcs p hp
    obtain ⟨dr, e3⟩ := Option.isSome_iff_exists.mp e2
    exact PySem.W.tab_of G.T KX e3 e1
  have up : ∀ {φ : Addr × Addr × Str → Prop}, (∀ p ∈ cs, φ p.2) → ∀ p ∈ cs.map (·.2), φ p := fun {φ} h p hp => by
    obtain ⟨p', h', rfl⟩ := List.mem_map.mp hp
    exact h p' h'
  refine law_run (cs := cs.map (·.2)) KX G.T.g G.T.b G.T.builtins G.T.nolimit hg (by rw [List.map_map]; exact nd) (up fun p hp => (tb p hp).2) (up fun p hp => (hcs p hp).2.2) (up fun p hp => (tb p hp).1) G.T.bmain hobj hints (Nat.le_trans hlen hn2) hbits hr fun base h1 h2 h3 => ?_
  rw [List.map_map]
  exact hF base h1 h2 fun p hp => h3 p.2 (List.mem_map.mpr ⟨p, hp, rfl⟩)
end G
set_option Elab.async false
set_option linter.all false
set_option maxRecDepth 100000
set_option maxHeartbeats 4000000
namespace G
open PySem PySem.Spec PyProof.Rows L2 NdefX
def AtSs (X : Cx) (B sts : List Stmt) : TS := fun D σ H => ∀ pins s, Inv X pins σ H s → _root_.PySem.wpAt (model X.prog X.w) X.A (.func B X.env) (execs sts X.env) (SP X pins D) X.xe s
theorem AtSs.any {X : Cx} {B sts : List Stmt} {D : Ends} {σ : L2.St} {H : Hp} (h : WSs X sts D σ H) : AtSs X B sts D σ H := fun pins s I => _root_.PySem.wpAt_of_wpAny (h pins s I)
/-- the words of a method that says super() -/
abbrev nfS (x q : Str) (st : Stmt) (cc c : Addr) : NF := ⟨x, q, defArgs st, defBody st, defScope st, [("__class__", cc)], c⟩
structure SupF (P : Program) (K : PySem.W.Frag) (x q : Str) (st : Stmt) (f c cc D : Addr) (fd : FuncData) : Prop where
  ex : ∃ (oc : Value) (od : Option Addr) (kV doc pm ct : Value) (an : Option Addr) (osl : Array (Option Value)), fd = PySem.W.fnX x q (defArgs st) (defBody st) (defScope st) [("__class__", cc)] .none kV doc pm an (.ref c) ct ∧ K.lookup f = some ⟨oc, od, .func fd, osl⟩
  cd : PySem.W.codeIn K (.ref c) q = true
  cell : ∃ (cl : Value) (cld : Option Addr) (csl : Array (Option Value)), K.lookup cc = some ⟨cl, cld, .cell (some (.ref D)), csl⟩
  file : ∃ (ccl : Value) (cdd : Option Addr) (vs : Array Value) (ccs : Array (Option Value)) (fl : Str) (tf : Tok), K.lookup c = some ⟨ccl, cdd, .fields vs, ccs⟩ ∧ vs[2]? = some (.str fl tf) ∧ (P.main.file == fl) = true
  cls : ∃ cd, PySem.W.clsIn K D = some cd
  top : (P.main.scope.names.lookup ("super" : Str)).isSome = false
section
variable {CX : CXT} {P : Program} {w : World} {K : PySem.W.Frag} {mg : Str → Option Value} {base : Heap} {N ps : List Str} {x q : Str} {st : Stmt} {f c cc D : Addr} {fd : FuncData} {k : Nat} {sp : Sp}
theorem SupF.cells (F : SupF P K x q st f c cc D fd) {A : Around} {outer : List Env} {s : Shared} {H : Hp} (e0 : Env0 P w K mg base A outer s H) : CellsAt [("__class__", cc)] ["__class__"] [none] s.heap H := by
  obtain ⟨cl, cld, csl, hc⟩ := F.cell
  have look : ∀ {y : Str} {a : Addr}, List.lookup y [(("__class__" : Str), cc)] = some a → y = "__class__" ∧ a = cc := fun {y a} e => by
    by_cases hy : y = "__class__"
    · subst hy
      simp [List.lookup] at e
      exact ⟨rfl, e.symm⟩
    · have z : (y == ("__class__" : Str)) = false := by simpa using hy
      simp [List.lookup, z] at e
  have hb := e0.bs cc _ (e0.mod.kin _ _ hc)
  refine ⟨rfl, fun y a e => ?_, fun y z a e1 e2 => (look e1).1.trans (look e2).1.symm, fun i y e => ?_⟩
  · obtain ⟨_, rfl⟩ := look e
    exact ⟨hb.2, _, _, hb.1, rfl⟩
  · cases i with
    | zero =>
      have e' : some ("__class__" : Str) = some y := e
      cases e'
      exact ⟨cc, by simp [List.lookup], fun v z => by cases z⟩
    | succ i => cases e
/-- such a method keeps its promise -/
theorem SupF.ok (F : SupF P K x q st f c cc D fd) (S : NScope N ps ["__class__"] (defScope st)) (len : ∀ vs H Q E, sp vs H Q E → vs.length = ps.length)
    (body : ∀ (A : Around) (outer : List Env) (s : Shared) (H : Hp) (vs : List V) (Q : VK) (E : XK), Room k (A.deeper (envF (nfS x q st cc c) f s.heap.objs.size)) → sp vs H Q E →
      AtSs (ncx CX P w K mg base N (nfS x q st cc c) f A outer s H E) (defBody st) (defBody st) { nx := fun _ H' => Q .non H', rt := Q } (startF N vs [none]) H) : FnOk P w K mg base CX (k + 1) f fd ps sp := by
  refine ⟨len, fun A outer s H args us vs Q E hr e0 hb r hsp => ?_⟩
  obtain ⟨oc, od, kV, doc, pm, ct, an, osl, rfl, lk⟩ := F.ex
  have KX : K.In s.heap := e0.mod.kin.keeps fun b o e => (e0.bs b o e).1
  have lim : s.heap.NoLimit := e0.mod.nolimit.keeps fun b o e => (e0.bs b o e).1
  refine _root_.PySem.ks_codeAny_call_defAt (body := defBody st) hr.depth (KX _ _ lk) rfl lim (PySem.W.codeRec_of KX F.cd) rfl hb S.nocell (fun ⟨n, _⟩ hy => S.par n (List.of_mem_zip hy).1) (fun h₁ hns kp => ?_) S.co S.gen S.kind
  have I : Inv (ncx CX P w K mg base N (nfS x q st cc c) f A outer s H E) [] (startF N vs [none]) H { s with heap := h₁, toks := s.toks + (ps.zip us).length } := inv_startN S hr.hd e0 (len _ _ _ _ hsp) r (F.cells e0) hns kp
  refine _root_.PySem.wpAt_mono (body A outer s H vs Q E (hr.deeper _) hsp [] _ I) (fun fl s' hs => ?_) fun e s' hs => hs
  have fin : ∀ {σ' : L2.St} {H' : Hp} {v : V} {u : Value}, Inv (ncx CX P w K mg base N (nfS x q st cc c) f A outer s H E) [] σ' H' s' → L2.RelV v u → Q v H' → CE outer P w H s Q u s' := fun {σ' H' v u} J rv qq => ⟨v, H', J.os, J.bare, J.base, J.hok, rv, qq⟩
  cases fl with
  | ret u =>
    obtain ⟨v, σ', H', J, rv, qq⟩ := hs
    exact fin J rv qq
  | next =>
    obtain ⟨σ', H', J, qq⟩ := hs
    exact fin (v := V.non) (u := Value.none) J rfl qq
  | brk => exact hs.elim fun _ z => z.elim fun _ z => z.2.elim
  | cont => exact hs.elim fun _ z => z.elim fun _ z => z.2.elim
end
/-- ValueError.__init__ bound to the error at x -/
def mwO (x u : Addr) : HO := .ext fun h => h.get? u = some (PySem.W.kxs_mw "ValueError.__init__" x)
theorem mwO_ok {P : Program} {w : World} {H : Hp} {h : Heap} {x u : Addr} (e : h.get? u = some (PySem.W.kxs_mw "ValueError.__init__" x)) : ObjOk P w H h u (mwO x u) := ⟨e, ⟨_, e⟩, fun _ _ z k => k _ z⟩
theorem mwO_at {P : Program} {w : World} {H : Hp} {h : Heap} {x u : Addr} (hok : HOk P w H h) (e : H u = some (mwO x u)) : h.get? u = some (PySem.W.kxs_mw "ValueError.__init__" x) := by
  obtain ⟨z, _, _⟩ := hok u _ e
  exact z
section
variable {prog : Program} {w : World} {A : Around} {E : Value → Shared → Prop} {h : Heap} {g : Array GenState} {d : Drawn} {t : Nat} {os : OsState}
variable {nm q : Str} {C N : Addr} {bs bm : List Value} {hdct : Bool} {sn : List Str} {sub : List Value} {ab : Bool} {col : Option Bool} {dd : Option Addr} {k0 k1 k2 k3 k5 : Option Value}
theorem call_mw {u e t0 : Addr} {us : List Value} {Q : Value → Shared → Prop} (hC : h.get? C = some (excClassObj nm q C N bs bm hdct sn sub ab col dd k0 k1 k2 k3 k5 "ValueError.__new__")) (he : h.get? e = some (PySem.HandSPX.excO C t0))
    (hu : h.get? u = some (PySem.W.kxs_mw "ValueError.__init__" e)) (hl : us.length ≤ sizeLine) (hq : ∀ h' t1, (∀ b o, b ≠ e → h.get? b = some o → h'.get? b = some o) → h'.get? e = some (PySem.HandSPX.excO C t1) → Q .none ⟨h', g, d, t, os⟩) :
    wpAny (model prog w) A (call (.ref u) us) Q E ⟨h, g, d, t, os⟩ := by
  refine wpAny_call (codeAny_of_tree (show wpAny _ A.in1 (callAny (.ref u) ⟨us, []⟩) _ _ _ from ?_))
  unfold callAny
  refine wpAny_bind (wpAny_load hu ?_)
  show wpAny _ _ (if (Value.type "method-wrapper" == Value.type "method" || Value.type "method-wrapper" == Value.type "builtin_function_or_method" || Value.type "method-wrapper" == Value.type "method-wrapper") = true then _ else _) _ _ _
  rw [if_pos (by decide)]
  refine PySem.W.KFB.if_so (show (Value.type "method-wrapper" != Value.type "method") = true by decide) (wpAny_bind (PySem.W.check_bound_init F.excBase_ValueError.toExcCallFacts hC he rfl (wpAny_bind (wpAny_pure (wpAny_pure ⟨_root_.PySem.plainId_quiet F.excBase_ValueError.init.plain _, codeAny_builtin F.excBase_ValueError.initEntry ?_⟩)))))
  exact PySem.W.exc_init_tree (cls := .ref C) (t0 := t0) (dv := none) (c2 := .none) (c3 := .none) (b4 := .bool false) he hl fun h' k e1 _ => hq h' _ k e1
end
section
variable {X : Cx} {B rest : List Stmt} {D : Ends} {σ : L2.St} {H : Hp} {x q : Str} {st : Stmt} {f c cc D0 C a : Addr} {fd : FuncData} {i : Nat} {ar : Arg} {ta : TA} {e : Expr} {es : List Expr} {p0 p1 p2 p3 p4 : Pos} {pl : Sem Bool}
theorem at_supx (F : SupF X.prog X.K x q st f c cc D0 fd) (hfu : X.env.func = some f) (hco : X.env.code = .ref c) (hcl : X.env.cells.lookup ("__class__" : Str) = some cc) (hp : (fd.params.posonlyargs ++ fd.params.args).head? = some ar)
    (hks : X.env.kindOf "super" = some .globalImplicit) (hkc : X.env.kindOf "__class__" = some .free) (hka : X.env.kindOf ar.arg = some .local) (hm : X.mg "super" = none)
    (T : OexC X.K C) (sm : PySem.W.ks_superIn X.K C D0 "__init__" = some (some (.builtin "ValueError.__init__"))) (sub : PySem.W.mroIn X.K C (.ref D0) = some true) (sV : PySem.W.subIn X.K (.ref C) (.type "ValueError") = some true)
    (op : PySem.W.nsIn X.K cStatics "thirdparty.any" = some none) (hi : X.N[i]? = some ar.arg) (hs : σ[i]? = some (some (.ref a))) (ha : H a = some (exo a C none)) (pa : PA X (e :: es) ta)
    (h : ∀ u, H u = none → ta σ (upd H u (mwO a u)) fun vs H1 => vs.length ≤ 1000 ∧ H1 u = some (mwO a u) ∧ H1 a = some (exo a C none) ∧ AtSs X B rest D σ H1)
    (he : starEach (e :: es) X.env = (false, eval e X.env) :: starEach es X.env := by rfl) (hpl : (backTo p3 (starEach es X.env)).any (·.1) = false := by rfl) (hint : interactive X.env = false := by rfl)
    (hsw : swapsWith (.Call (.Attribute (.Call (.Name "super" p0) [] [] p1) "__init__" p2) (e :: es) [] p3) none p4.line X.env = pure false := by rfl)
    (hev : eval (.Call (.Attribute (.Call (.Name "super" p0) [] [] p1) "__init__" p2) (e :: es) [] p3) X.env = (do
      let ov ← attributeBase (.Call (.Name "super" p0) [] [] p1) "__init__" X.env (eval (.Call (.Name "super" p0) [] [] p1) X.env)
      standAt p2.atName
      let (ff, first) ← holding [ov] (getMethod ov "__init__" pl)
      callWith p3 ff first (backTo p3 (starEach (e :: es) X.env)) []) := by rfl) :
    AtSs X B (.Expr (.Call (.Attribute (.Call (.Name "super" p0) [] [] p1) "__init__" p2) (e :: es) [] p3) p4 :: rest) D σ H := fun pins s I => by
  obtain ⟨oc, od, kV, doc, pm, ct, an, osl, efd, lk⟩ := F.ex
  obtain ⟨ccl, cdd, vs, ccs, fl, tf, lc, hvs, hfile⟩ := F.file
  obtain ⟨cl, cld, csl, hcell⟩ := F.cell
  obtain ⟨cdD, hD⟩ := F.cls
  obtain ⟨mb, hb1, hb2⟩ := I.mod.blt
  obtain ⟨oD, hD1, hD2⟩ : ∃ oD, s.heap.get? D0 = some oD ∧ oD.data = .cls cdD := by
    unfold PySem.W.clsIn at hD
    split at hD
    · rename_i c' d' cd' sl' ho
      cases hD
      exact ⟨_, I.kIn _ _ ho, rfl⟩
    · cases hD
  obtain ⟨nm, qn, NN, bs, bm, sn, sb, ab, col, dd, k0, k1, k2, k3, k5, hC, hbm⟩ := T.cls
  have hcC : PySem.W.clsIn X.K C = some { name := nm, bases := bs, mro := .ref C :: bm, ns := NN, qualname := qn, hasDict := true, slotNames := sn, subclasses := sb, abstract := ab, collection := col, hasDel := false } := by unfold PySem.W.clsIn; rw [hC] <;> rfl
  obtain ⟨t0, hx⟩ := exo_at I.hok ha
  have IA : PySem.W.InstAt s.heap a _ C none := ⟨hx, rfl, rfl, trivial⟩
  have xC : a ≠ C := PySem.W.ks_ne I.kIn IA hcC
  refine _root_.PySem.ks_wpAt_execs_cons (_root_.PySem.ks_wpAt_Expr_any (_root_.PySem.ks_wpAt_MethodCall (pl := pl) (_root_.PySem.ks_wpAt_super_base hks hkc rfl hfu (I.kIn _ _ lk) rfl hp hco (I.kIn _ _ lc) rfl hvs hfile F.top ?_) hev) hint hsw)
  refine PySem.W.ks_loadName_global I.ok.kind hks (Calls.loadGlobal_builtin (by rw [I.ok.glob]; exact I.mod.glob.keeps I.bk) hm (by rw [I.ok.blt]; exact hb1.keeps I.bk) ((hb2 _ (by decide)).trans (by decide +kernel)) ⟨rfl, ?_⟩)
  refine wpAny_loadName_free I.ok.kind hkc hcl ⟨_, I.kIn _ _ hcell, rfl⟩ ?_
  obtain ⟨m, hn, hl⟩ := id I.loc
  obtain ⟨u, r, qq⟩ := hl i _ _ hi hs (.inl hka)
  obtain rfl : u = Value.ref a := r
  rcases qq with ⟨_, em⟩ | ⟨k, _⟩
  · refine wpAny_loadName_local I.ok.kind hka hn em ?_
    obtain ⟨hp', g, d, t, os⟩ := s
    refine _root_.PySem.ks_wpAny_isType_cls hD1 hD2 ⟨rfl, ?_⟩
    refine _root_.PySem.ks_wpAny_call_super hD1 hD2 hx rfl (fun c e => by cases e) (PySem.W.looks_mroIn I.kIn sub) (fun h' eS kS => ?_)
    have J1 : Inv X pins σ H ⟨h', g, d, t, os⟩ := I.kept (t' := t) kS
    have IA1 : PySem.W.InstAt h' a _ C none := ⟨kS _ _ hx, rfl, rfl, trivial⟩
    have sm' := sm
    unfold PySem.W.ks_superIn at sm'
    rw [hcC] at sm'
    refine PySem.W.kxs_getMethod PySem.W.kxs_ValueError eS (PySem.W.looks_opaque J1.kIn op) ((PySem.W.looks_clsIn J1.kIn hcC).andThen .now) rfl J1.kIn sm' (IA1.type.andThen (PySem.W.looks_subIn J1.kIn sV)) xC rfl ?_
    have nu : H h'.objs.size = none := J1.hok.fresh (Nat.le_refl _)
    have J2 : Inv X pins σ (upd H h'.objs.size (mwO a h'.objs.size)) ⟨h'.push (PySem.W.kxs_mw "ValueError.__init__" a), g, d, t + 1, os⟩ :=
      J1.laid (t' := t + 1) (a := h'.objs.size) (fun b o z => Heap.get?_push_of_some _ z) (Nat.le_refl _) (mwO_ok (Heap.get?_push_size _ rfl))
    show wpAny _ _ (callWith p3 (Value.ref h'.objs.size) [] (backTo p3 (starEach (e :: es) X.env)) []) _ _ _
    have hpa := pa.run p3 pins _ σ _ _ J2 (h _ nu)
    rw [he] at hpa ⊢
    refine PySem.W.kxs_callWith (i := "ValueError.__init__") (x := a) (by show (false || (backTo p3 (starEach es X.env)).any (·.1)) = false; rw [hpl]; rfl) (Calls.evalArgs_plain (thn hpa fun us s1 ⟨vs', H1, J3, r1, hlen, e1, e2, qk⟩ => ?_))
    refine ⟨mwO_at J3.hok e1, ?_⟩
    show wpAny _ _ (call (Value.ref h'.objs.size) us) _ _ _
    obtain ⟨t1, hx1⟩ := exo_at J3.hok e2
    have hul : us.length ≤ sizeLine := by
      rw [← Paired.length r1, sizeLine_eq]
      omega
    have hCx := J3.kIn _ _ hC
    have hmw := mwO_at J3.hok e1
    obtain ⟨h1, g1, d1, t1', os1⟩ := s1
    refine call_mw hCx hx1 hmw hul (fun h2 t2 k2 hx2 => ?_)
    have J4 := J3.write (t' := t1') (x := a) (e := a) (o := exo a C none) (by rw [e2]; exact True.intro) (.inl rfl) k2 ⟨_, hx2⟩ (exo_ok hx2)
    have eu : upd H1 a (exo a C none) = H1 := by
      funext b
      by_cases hb : b = a
      · rw [hb, upd_same, e2]
      · rw [upd_ne hb]
    rw [eu] at J4
    exact qk pins _ J4
  · rcases k with k | k
    · have z := k.symm.trans hka
      cases z
    · have z := k.symm.trans hka
      cases z
end
/-- what the written part says of the error class at C, named x, with the fields ns -/
structure ErrK (K : PySem.W.Frag) (mg : Str → Option Value) (x : Str) (C fI : Addr) (ns : List Str) : Prop where
  gC : mg x = some (.ref C)
  T : OexC K C
  iC : PySem.W.findIn K (.ref C) "__init__" = some (some (.ref fI))
  tI : PySem.W.typeIn K (.ref fI) = some (.type "function")
  no : ∀ n ∈ ns, PySem.W.findIn K (.ref C) n = some none
  sm : PySem.W.ks_superIn K C C "__init__" = some (some (.builtin "ValueError.__init__"))
  sub : PySem.W.mroIn K C (.ref C) = some true
  sV : PySem.W.subIn K (.ref C) (.type "ValueError") = some true
  op : PySem.W.nsIn K cStatics "thirdparty.any" = some none
  su : mg "super" = none
/-- __init__ keeps: the fields stand in a new dict -/
def spErr (C : Addr) (ns : List Str) : Sp := fun vs H Q _ => ∃ (a : Addr) (ws : List V), vs = .ref a :: ws ∧ ws.length = ns.length ∧ H a = some (exo a C none) ∧
  ∀ u d, H u = none → d ≠ u → d ≠ a → u ≠ a → H d = none → Q .non (upd (upd (upd H u (mwO a u)) d (exd d (ns.zip ws).reverse)) a (exo a C (some d)))
section
variable {P : Program} {w : World} {K : PySem.W.Frag} {mg : Str → Option Value} {base : Heap} {x q : Str} {st : Stmt} {f c cc C : Addr} {fd : FuncData} {n m : Str} {pa0 : Arg} {p0 p1 p2 p3 p4 p5 p6 q0 q1 q2 q3 r0 r1 r2 r3 : Pos}
theorem clsCell {cc : Addr} : List.lookup ("__class__" : Str) [(("__class__" : Str), cc)] = some cc := by simp [List.lookup]
/-- super().__init__(n); self.n = n -/
theorem err1_ok (F : SupF P K "__init__" q st f c cc C fd) (G : ErrK K mg x C f [n]) (S : NScope ["self", n, "__class__"] ["self", n] ["__class__"] (defScope st))
    (eb : defBody st = [.Expr (.Call (.Attribute (.Call (.Name "super" p0) [] [] p1) "__init__" p2) [.Name n p3] [] p4) p5, .Assign [.Attribute (.Name "self" q0) n q1] (.Name n q2) q3])
    (hp : (fd.params.posonlyargs ++ fd.params.args).head? = some pa0) (h0 : pa0.arg = "self") (hks : (defScope st).names.lookup ("super" : Str) = some .globalImplicit)
    (hint : ∀ L, interactive (envF (nfS "__init__" q st cc c) f L) = false)
    (hsw1 : ∀ L, swapsWith (.Call (.Attribute (.Call (.Name "super" p0) [] [] p1) "__init__" p2) [.Name n p3] [] p4) none p5.line (envF (nfS "__init__" q st cc c) f L) = pure false)
    (hev : ∀ L, ∃ pl : Sem Bool, eval (.Call (.Attribute (.Call (.Name "super" p0) [] [] p1) "__init__" p2) [.Name n p3] [] p4) (envF (nfS "__init__" q st cc c) f L) = (do
      let ov ← attributeBase (.Call (.Name "super" p0) [] [] p1) "__init__" (envF (nfS "__init__" q st cc c) f L) (eval (.Call (.Name "super" p0) [] [] p1) (envF (nfS "__init__" q st cc c) f L))
      standAt p2.atName
      let (ff, first) ← holding [ov] (getMethod ov "__init__" pl)
      callWith p4 ff first (backTo p4 (starEach [.Name n p3] (envF (nfS "__init__" q st cc c) f L))) []))
    (hsw2 : ∀ L, swapsWith (.Name n q2) (some (.Attribute (.Name "self" q0) n q1)) q3.line (envF (nfS "__init__" q st cc c) f L) = pure false) (hdb : (n == ("__debug__" : Str)) = false) (hcd : (n == ("__classdict__" : Str)) = false) : FnOk P w K mg base CX0 1 f fd ["self", n] (spErr C [n]) := by
  refine F.ok S (fun vs H Q E h => ?_) (fun A outer s H vs Q E hr h => ?_)
  · obtain ⟨a, ws, rfl, hl, _⟩ := h
    simpa using hl
  · obtain ⟨a, ws, rfl, hl, ha, hq⟩ := h
    match ws, hl with
    | [v], _ =>
      obtain ⟨pl, hev⟩ := hev s.heap.objs.size
      rw [eb]
      have vn : Vis (defScope st) n := .inl (S.par n (by simp))
      have hself : (defScope st).names.lookup ("self" : Str) = some .local := S.par "self" (by simp)
      have pN : PE (ncx CX0 P w K mg base ["self", n, "__class__"] (nfS "__init__" q st cc c) f A outer s H E) (.Name n p3) (tVar 1) := pe_var rfl vn hdb hcd
      refine at_supx (i := 0) F rfl rfl clsCell hp hks (S.frk "__class__" (by simp)) (by rw [h0]; exact hself) G.su G.T G.sm G.sub G.sV G.op (by rw [h0]; rfl) rfl ha (pa_cons pN pa_nil) (fun u hu => ?_) (hint := hint _) (hsw := hsw1 _) (hev := hev)
      have ua : u ≠ a := fun z => by
        rw [z, ha] at hu
        cases hu
      refine ⟨v, rfl, by show 1 ≤ 1000; decide, upd_same, ?_, .any ?_⟩
      · rw [upd_ne (Ne.symm ua)]
        exact ha
      · refine WSs.of (pss_one (ps_ost (pe_var (i := 0) rfl (.inl hself)) (pe_var (i := 1) rfl vn hdb hcd) (hsw2 _))) ?_
        refine ⟨v, rfl, .ref a, rfl, a, C, rfl, G.T, G.no n (by simp), .inl ⟨?_, fun d hd hda => ?_⟩⟩
        · rw [upd_ne (Ne.symm ua)]
          exact ha
        · have du : d ≠ u := fun z => by
            rw [z, upd_same] at hd
            cases hd
          rw [upd_ne du] at hd
          exact hq u d hu du hda ua hd
/-- super().__init__(n, m); self.n = n; self.m = m -/
theorem err2_ok (F : SupF P K "__init__" q st f c cc C fd) (G : ErrK K mg x C f [n, m]) (S : NScope ["self", n, m, "__class__"] ["self", n, m] ["__class__"] (defScope st))
    (eb : defBody st = [.Expr (.Call (.Attribute (.Call (.Name "super" p0) [] [] p1) "__init__" p2) [.Name n p3, .Name m p6] [] p4) p5, .Assign [.Attribute (.Name "self" q0) n q1] (.Name n q2) q3, .Assign [.Attribute (.Name "self" r0) m r1] (.Name m r2) r3])
    (hp : (fd.params.posonlyargs ++ fd.params.args).head? = some pa0) (h0 : pa0.arg = "self") (hks : (defScope st).names.lookup ("super" : Str) = some .globalImplicit)
    (hint : ∀ L, interactive (envF (nfS "__init__" q st cc c) f L) = false)
    (hsw1 : ∀ L, swapsWith (.Call (.Attribute (.Call (.Name "super" p0) [] [] p1) "__init__" p2) [.Name n p3, .Name m p6] [] p4) none p5.line (envF (nfS "__init__" q st cc c) f L) = pure false)
    (hev : ∀ L, ∃ pl : Sem Bool, eval (.Call (.Attribute (.Call (.Name "super" p0) [] [] p1) "__init__" p2) [.Name n p3, .Name m p6] [] p4) (envF (nfS "__init__" q st cc c) f L) = (do
      let ov ← attributeBase (.Call (.Name "super" p0) [] [] p1) "__init__" (envF (nfS "__init__" q st cc c) f L) (eval (.Call (.Name "super" p0) [] [] p1) (envF (nfS "__init__" q st cc c) f L))
      standAt p2.atName
      let (ff, first) ← holding [ov] (getMethod ov "__init__" pl)
      callWith p4 ff first (backTo p4 (starEach [.Name n p3, .Name m p6] (envF (nfS "__init__" q st cc c) f L))) []))
    (hsw2 : ∀ L, swapsWith (.Name n q2) (some (.Attribute (.Name "self" q0) n q1)) q3.line (envF (nfS "__init__" q st cc c) f L) = pure false) (hsw3 : ∀ L, swapsWith (.Name m r2) (some (.Attribute (.Name "self" r0) m r1)) r3.line (envF (nfS "__init__" q st cc c) f L) = pure false)
    (hdb : (n == ("__debug__" : Str)) = false) (hcd : (n == ("__classdict__" : Str)) = false) (mdb : (m == ("__debug__" : Str)) = false) (mcd : (m == ("__classdict__" : Str)) = false) : FnOk P w K mg base CX0 1 f fd ["self", n, m] (spErr C [n, m]) := by
  refine F.ok S (fun vs H Q E h => ?_) (fun A outer s H vs Q E hr h => ?_)
  · obtain ⟨a, ws, rfl, hl, _⟩ := h
    simpa using hl
  · obtain ⟨a, ws, rfl, hl, ha, hq⟩ := h
    match ws, hl with
    | [v, z], _ =>
      obtain ⟨pl, hev⟩ := hev s.heap.objs.size
      rw [eb]
      have vn : Vis (defScope st) n := .inl (S.par n (by simp))
      have vm : Vis (defScope st) m := .inl (S.par m (by simp))
      have hself : (defScope st).names.lookup ("self" : Str) = some .local := S.par "self" (by simp)
      have pN : PE (ncx CX0 P w K mg base ["self", n, m, "__class__"] (nfS "__init__" q st cc c) f A outer s H E) (.Name n p3) (tVar 1) := pe_var rfl vn hdb hcd
      have pM : PE (ncx CX0 P w K mg base ["self", n, m, "__class__"] (nfS "__init__" q st cc c) f A outer s H E) (.Name m p6) (tVar 2) := pe_var rfl vm mdb mcd
      refine at_supx (i := 0) F rfl rfl clsCell hp hks (S.frk "__class__" (by simp)) (by rw [h0]; exact hself) G.su G.T G.sm G.sub G.sV G.op (by rw [h0]; rfl) rfl ha (pa_cons pN (pa_cons pM pa_nil)) (fun u hu => ?_) (hint := hint _) (hsw := hsw1 _) (hev := hev)
      have ua : u ≠ a := fun y => by
        rw [y, ha] at hu
        cases hu
      refine ⟨v, rfl, z, rfl, by show 2 ≤ 1000; decide, upd_same, ?_, .any ?_⟩
      · rw [upd_ne (Ne.symm ua)]
        exact ha
      · refine WSs.of (pss_cons (ps_ost (pe_var (i := 0) rfl (.inl hself)) (pe_var (i := 1) rfl vn hdb hcd) (hsw2 _)) (pss_one (ps_ost (pe_var (i := 0) rfl (.inl hself)) (pe_var (i := 2) rfl vm mdb mcd) (hsw3 _)))) ?_
        refine ⟨v, rfl, .ref a, rfl, a, C, rfl, G.T, G.no n (by simp), .inl ⟨?_, fun d hd hda => ?_⟩⟩
        · rw [upd_ne (Ne.symm ua)]
          exact ha
        · have du : d ≠ u := fun y => by
            rw [y, upd_same] at hd
            cases hd
          rw [upd_ne du] at hd
          refine ⟨z, rfl, .ref a, rfl, a, C, rfl, G.T, G.no m (by simp), .inr ⟨d, _, upd_same, by rw [upd_ne hda, upd_same], by show 1 ≤ 900; decide, ?_⟩⟩
          have key := hq u d hu du hda ua hd
          have e : upd (upd (upd (upd H u (mwO a u)) d (exd d [(n, v)])) a (exo a C (some d))) d (exd d [(m, z), (n, v)]) = upd (upd (upd H u (mwO a u)) d (exd d [(m, z), (n, v)])) a (exo a C (some d)) := by
            funext b
            by_cases hb : b = d
            · subst hb
              rw [upd_same, upd_ne hda, upd_same]
            · rw [upd_ne hb]
              by_cases h2 : b = a
              · subst h2
                rw [upd_same, upd_same]
              · rw [upd_ne h2, upd_ne hb, upd_ne h2, upd_ne hb]
          show Q .non (upd (upd (upd (upd H u (mwO a u)) d (exd d [(n, v)])) a (exo a C (some d))) d (exd d [(m, z), (n, v)]))
          rw [e]
          exact key
end
abbrev XW := Value → Option Addr → En → Lg → Prop
def upW (X : Cx) (W : XW) : WX := fun cls d σ H => ∃ η L, X.N = names η ∧ σ = vals η ∧ Has H L ∧ W cls d η L
/-- the frame lets out what W tells -/
def Tk (X : Cx) (W : XW) : Prop := Takes X (upW X W)
/-- an error class that can be made -/
structure ErrC (P : Program) (w : World) (K : PySem.W.Frag) (mg : Str → Option Value) (base : Heap) (x : Str) (C : Addr) (ns : List Str) : Prop where
  ex : ∃ fI fd, ErrK K mg x C fI ns ∧ FnOk P w K mg base CX0 1 fI fd ("self" :: ns) (spErr C ns) ∧ L2.Binds K fd ("self" :: ns) []
def GMk (X : Cx) (e : Expr) (η : En) (L : Lg) (Q : XL) : Prop := X.N = names η → ∀ H, Has H L → ∀ pins s, Inv X pins (vals η) H s → wpAny (model X.prog X.w) X.A (eval e X.env) (MkP X pins (vals η) (upX Q)) X.xe s
theorem mkp_imp {X : Cx} {pins : List (Addr × Obj)} {σ : L2.St} {Q Q' : XK} {u : Value} {s : Shared} (h : MkP X pins σ Q u s) (m : ∀ c d H, Q c d H → Q' c d H) : MkP X pins σ Q' u s := by
  obtain ⟨a, oe, vs, sI, H', cls, d, h1, h2, h3, h4, h5, h6, h7, h8, h9, h10, h11, h12, q⟩ := h
  exact ⟨a, oe, vs, sI, H', cls, d, h1, h2, h3, h4, h5, h6, h7, h8, h9, h10, h11, h12, m _ _ _ q⟩
section
variable {X : Cx} {η : En} {L : Lg} {e : Expr} {es : List Expr} {pos p : Pos} {D : GD} {W : XW} {Q : QV} {j k : Nat} {x : Str} {C : Addr} {ns : List Str}
theorem gs_raise (tk : Tk X W) (h : GMk X e η L fun c d L1 => W c d η L1) (hc : X.calm = true := by rfl) : GS X (.Raise (some e) none pos) D η L := fun hN H hH =>
  WS.of (ps_raise (t := fun σ H Q => ∀ pins s, Inv X pins σ H s → wpAny (model X.prog X.w) X.A (eval e X.env) (MkP X pins σ Q) X.xe s) hc tk (fun pins s σ H Q I q => q pins s I))
    (fun pins s I => thn (h hN H hH pins s I) fun u s' z => mkp_imp z fun c d H' ⟨L', h', q⟩ => ⟨η, L', hN, rfl, h', q⟩)
theorem gmk_err {E : XL} (T : ErrC X.prog X.w X.K X.mg X.base x C ns) (hr : RoomG j X.A) (h : GA X (e :: es) η L fun vs L1 => vs.length = ns.length ∧ ∀ d, E (.ref C) (some d) ((d, .xd (ns.zip vs).reverse) :: L1)) (hn : ns.length ≤ 900) (hj : 2 ≤ j := by decide) (hg : Gl X x := by rfl)
    (hdb : (x == ("__debug__" : Str)) = false := by decide) (he : starEach (e :: es) X.env = (false, eval e X.env) :: starEach es X.env := by rfl) (hpl : (backTo pos (starEach es X.env)).any (·.1) = false := by rfl) : GMk X (.Call (.Name x p) (e :: es) [] pos) η L E := fun hN H hH pins s I => by
  obtain ⟨fI, fd, G, F, hb⟩ := T.ex
  refine pmk_oex (dvs := []) (ds := []) G.T G.iC G.tI F (hr.toRoom.mono hj) hb .nil (fun _ _ _ _ _ _ _ z => z.elim) hg G.gC pa_W hdb he hpl pins s (vals η) H _ I ?_
  refine (h hN H hH).mono fun vs H1 ⟨L1, h1, hl, q⟩ => ⟨by omega, fun a ha => ⟨a, vs, by rw [List.append_nil], hl, upd_same, fun u d hu du da ua hd => ⟨rfl, d, _, upd_same, by rw [upd_ne da, upd_same], ?_, ?_⟩⟩⟩
  · rw [upd_ne da] at hd
    exact hd
  · refine ⟨_, ?_, q d⟩
    have hd1 : H1 d = none := by
      rw [upd_ne da] at hd
      exact hd
    have hu1 : H1 u = none := by
      rw [upd_ne ua] at hu
      exact hu
    have old : ∀ b o, H1 b = some o → (upd (del (upd (upd (upd (upd H1 a (exo a C none)) u (mwO a u)) d (exd d (ns.zip vs).reverse)) a (exo a C (some d))) a) d (.xd (ns.zip vs).reverse)) b = some o := fun b o z => by
      have na := ne_of_none z ha
      rw [upd_ne (ne_of_none z hd1), del_ne na, upd_ne na, upd_ne (ne_of_none z hd1), upd_ne (ne_of_none z hu1), upd_ne na]
      exact z
    exact h1.newB hd1 old upd_same
end
section
variable {X : Cx} {η : En} {L : Lg} {e : Expr} {es : List Expr} {pos p : Pos} {W : XW} {Q : QV} {j k : Nat} {x : Str} {sp : SpL}
/-- what a callee of ours lets out, taken -/
theorem run_x {pins : List (Addr × Obj)} {H : Hp} {s : Shared} {f : Addr} {args : List Value → Args} {us : List Value} {vs : List V} (F : RunG X.prog X.w X.K X.mg X.base (L2.CX X.prog X.w) k f args (toSp sp)) (hr : RoomG k X.A) (tk : Tk X W) (hN : X.N = names η) (hH : Has H L) (I : Inv X pins (vals η) H s) (r : Vals vs us)
    (h : sp vs L Q fun c d L' => W c d η L') : wpAny (model X.prog X.w) X.A (call (.ref f) (args us).pos (args us).kw) (EP X pins (vals η) (up Q)) X.xe s := by
  have hsp : toSp sp vs H (up Q) (fun c d H' => upW X W c d (vals η) H') := ⟨L, Q, _, hH, h, fun _ L' _ h' q => ⟨L', h', q⟩, fun _ _ L' _ h' q => ⟨η, L', hN, rfl, h', q⟩⟩
  refine wpAny_call (codeAny_mono (F X.A X.stack s H us vs _ _ hr I.env0 r hsp) fun r' s' hq => ?_)
  cases r' with
  | error e => exact passAt tk (vals η) pins H s e s' I hq
  | ok fl =>
    cases fl with
    | ret u => exact I.after hq
    | next => exact hq.elim
    | brk => exact hq.elim
    | cont => exact hq.elim
theorem ge_callX (F : Fn X.prog X.w X.K X.mg X.base (L2.CX X.prog X.w) x k sp) (hr : RoomG j X.A) (tk : Tk X W) (h : GA X (e :: es) η L fun vs L1 => sp vs L1 Q fun c d L' => W c d η L') (hjk : k ≤ j := by decide) (hg : Gl X x := by rfl) (hd : (x == ("__debug__" : Str)) = false := by decide)
    (he : starEach (e :: es) X.env = (false, eval e X.env) :: starEach es X.env := by rfl) (hpl : (backTo pos (starEach es X.env)).any (·.1) = false := by rfl) : GE X (.Call (.Name x p) (e :: es) [] pos) η L Q := fun hN H hH pins s I => by
  obtain ⟨f, hm, hk, F⟩ := F
  refine wpAny_Call_Name_kw (ld_glob I hg hm (PySem.W.callWith_K (h₀ := X.base) I.ok.mod.kin hk (thn (h hN H hH pos pins s I) fun us s1 ⟨vs, H1, J, r, L1, h1, q⟩ => ⟨J.kIn, ?_⟩) he hpl) hd)
  exact run_x (args := argsP) F (hr.mono hjk) tk hN h1 J r q
end
section
variable {P : Program} {w : World} {K : PySem.W.Frag} {mg : Str → Option Value} {base : Heap}
/-- where the body of a def stands that may let errors out -/
abbrev cxR (P : Program) (w : World) (K : PySem.W.Frag) (mg : Str → Option Value) (base : Heap) (N : List Str) (x : Str) (sc : Scope) (f : Addr) (cdv : Value) (A : Around) (outer : List Env) (s : Shared) (H : Hp) (E0 : XK) : Cx := cxOf (L2.CX P w) P w K mg base N x sc f cdv A outer s H E0
/-- what is left over may be dropped -/
def drpE (E : XL) : XL := fun c d L => ∃ M, Sub M L ∧ E c d M
abbrev BodyX (P : Program) (w : World) (K : PySem.W.Frag) (mg : Str → Option Value) (base : Heap) (N : List Str) (q : Str) (st : Stmt) (k : Nat) (sp : SpL) : Prop :=
  ∀ (X : Cx) (f : Addr) (cdv : Value) (A : Around) (outer : List Env) (s : Shared) (H : Hp) (E0 : XK) (L : Lg) (vs : List V) (Q : QV) (E : XL), X = cxR P w K mg base N q (defScope st) f cdv A outer s H E0 → X.N.Nodup → RoomG k X.A → Tk X (fun c d _ L' => drpE E c d L') → sp vs L Q E → GSs X (defBody st) (bodyD Q) (begun N vs) L
theorem run_raise {x q : Str} {st : Stmt} {f : Addr} {fd : FuncData} {N ps : List Str} {k : Nat} {sp : SpL} (F : Fun K x q st f fd) (S : FnScope N ps (defScope st)) (args : List Value → Args) (pmV : List V → List V) (pmU : List Value → List Value) (hpm : ∀ vs us, Vals vs us → Vals (pmV vs) (pmU us))
    (hb : ∀ (kV doc pm : Value) (an : Option Addr) (cdv ct : Value) (us : List Value), (pmU us).length = ps.length → bindArgs (PySem.W.fnOf x q (defArgs st) (defBody st) (defScope st) .none kV doc pm an cdv ct) (args us) = pure (ps.zip (pmU us)))
    (hl : ps.length ≤ N.length) (len : ∀ vs L Q E, sp vs L Q E → vs.length = ps.length) (body : BodyX P w K mg base N q st k sp) : RunG P w K mg base (L2.CX P w) (k + 1) f args (fun vs => toSp sp (pmV vs)) := by
  obtain ⟨oc, od, kV, doc, pm, an, cdv, ct, osl, rfl, lk, hcd⟩ := F.ex
  intro A outer s H us vs Q E hr e0 r hsp
  obtain ⟨L, Ql, El, hH, h, hq, he⟩ := hsp
  have hn : (pmV vs).length = ps.length := len _ L Ql El h
  have r2 := hpm vs us r
  have hlv : (pmV vs).length ≤ N.length := by
    rw [hn]
    exact hl
  have tk : Tk (cxR P w K mg base N q (defScope st) f cdv A outer s H E) (fun c d _ L' => drpE El c d L') := (takes_of rfl rfl rfl rfl).imp fun c d σ H' ⟨η, L', _, _, h', M, sb, z⟩ => he c d M H' (sb _ h') z
  exact LamX.run_ofS (CX := L2.CX P w) lk hcd S hr.toRoom e0 (.of_eq (hb kV doc pm an cdv ct us (by rw [← r2.length]; exact hn))) r2 hn fun hr2 =>
    ⟨WSs _ (defBody st), pss_W, body_end (X := cxR P w K mg base N q (defScope st) f cdv A outer s H E) hlv hq hH (body _ f cdv A outer s H E L (pmV vs) Ql El rfl S.nd ⟨hr2, guard_deeper hr.gd⟩ tk h)⟩
/-- THE RULE for a def that may let errors out -/
theorem fn_raise {x : Str} {st : Stmt} {N ps : List Str} {k : Nat} {sp : SpL} (F : Df K mg x st) (S : FnScope N ps (defScope st))
    (hb : ∀ (kV doc pm : Value) (an : Option Addr) (cdv ct : Value) (us : List Value), us.length = ps.length → bindArgs (PySem.W.fnOf x x (defArgs st) (defBody st) (defScope st) .none kV doc pm an cdv ct) ⟨us, []⟩ = pure (ps.zip us))
    (hl : ps.length ≤ N.length) (len : ∀ vs L Q E, sp vs L Q E → vs.length = ps.length) (body : BodyX P w K mg base N x st k sp) : Fn P w K mg base (L2.CX P w) x (k + 1) sp := by
  obtain ⟨f, fd, hm, F⟩ := F
  exact ⟨f, hm, F.kp, run_raise F S argsP id id (fun _ _ r => r) hb hl len body⟩
end
/-- an error that was caught, at a: its class, its dict -/
def excH (a : Addr) (cls : Value) (d : Option Addr) : HO := .ext fun h => ∃ (oe : Obj) (vs : Array Value), h.get? a = some oe ∧ Zc cls d oe ∧ oe.data = .fields vs
theorem excH_at {P : Program} {w : World} {H : Hp} {h : Heap} {a : Addr} {cls : Value} {d : Option Addr} (hok : HOk P w H h) (e : H a = some (excH a cls d)) : ∃ (oe : Obj) (vs : Array Value), h.get? a = some oe ∧ Zc cls d oe ∧ oe.data = .fields vs := by
  obtain ⟨z, _, _⟩ := hok a _ e
  exact z
/-- an object of the heap is tracked from now on -/
theorem track {X : Cx} {pins : List (Addr × Obj)} {σ : L2.St} {H : Hp} {s : Shared} {a : Addr} {cls : Value} {d : Option Addr} {oe : Obj} {vs : Array Value} (I : Inv X pins σ H s) (ha : s.heap.get? a = some oe) (z : Zc cls d oe) (hd : oe.data = .fields vs) (na : H a = none) (nL : a ≠ X.env.locals)
    (n0 : X.s_0.heap.get? a = none) (np : ∀ p ∈ X.pn ++ pins, p.1 ≠ a) : Inv X pins σ (upd H a (excH a cls d)) s := by
  have ub : ∀ {b : Addr} {o : HO}, H b = some o → upd H a (excH a cls d) b = some o := fun {b o} q => (upd_ne (ne_of_none q na)).trans q
  refine ⟨I.ok, I.os, I.bare, ⟨I.base.keep, I.base.slot, fun b o e n hq => ?_, I.base.there, fun b xs e => ub (I.base.tups b xs e), fun b o u e => ub (I.base.frzs b o u e), fun b ps e => ?_⟩, I.loc, I.cell, ?_, fun x c e => ?_, fun p hp => ?_, fun b u e => ?_, I.len⟩
  · rw [upd_ne fun y => by rw [y, n0] at e; cases e]
    exact I.base.free b o e n hq
  · obtain ⟨m, q⟩ := I.base.tbls b ps e
    exact ⟨m, ub q⟩
  · rw [upd_ne (Ne.symm nL)]
    exact I.free
  · obtain ⟨v, o, ho, hc⟩ := I.cell x c e
    rw [upd_ne fun y => by
      rw [y, ha] at ho
      cases ho
      rw [hd] at hc
      cases hc]
    exact I.freeC x c e
  · obtain ⟨e, n, r⟩ := I.pin p hp
    exact ⟨e, by rw [upd_ne (np p hp)]; exact n, r⟩
  · by_cases hb : b = a
    · subst hb
      rw [upd_same] at e
      cases e
      exact ⟨⟨oe, vs, ha, z, hd⟩, ⟨oe, ha⟩, fun _ _ ⟨o, v, q, r⟩ k => ⟨o, v, k o q, r⟩⟩
    · rw [upd_ne hb] at e
      exact (I.hok b u e).stay (fun _ _ _ q => q) (fun _ q => ub q) fun _ _ q => ub q
/-- the slot of a name is empty again -/
inductive Clr (x : Str) : En → En → Prop
  | here {o : Option V} {η : En} : Clr x ((x, o) :: η) ((x, none) :: η)
  | there {e : Str × Option V} {η θ : En} : Clr x η θ → Clr x (e :: η) (e :: θ)
theorem Clr.idx {x : Str} {η θ : En} (h : Clr x η θ) : ∃ i : Nat, (names η)[i]? = some x ∧ vals θ = (vals η).set i none ∧ names θ = names η := by
  induction h with
  | here => exact ⟨0, rfl, rfl, rfl⟩
  | there _ ih =>
    obtain ⟨i, a, b, c⟩ := ih
    refine ⟨i + 1, a, ?_, ?_⟩
    · show _ :: vals _ = _ :: (vals _).set i none
      rw [b] <;> rfl
    · show _ :: names _ = _ :: names _
      rw [c] <;> rfl
/-- where an except suite stands -/
abbrev suX (X : Cx) (a : Addr) : Cx := { X with A := X.A.mark (some (.ref a)), calm := false, xe := fun _ _ => False }
/-- where the body of a try stands -/
abbrev trX (X : Cx) (pn : List (Addr × Obj)) (xe : Value → Shared → Prop) : Cx := { X with pn := pn, xe := xe }
/-- what is wanted behind the suite: n is empty -/
def suD (n : Str) (D : GD) : GD := { nx := fun θ L => ∃ θ', Clr n θ θ' ∧ D.nx θ' L, rt := D.rt, bk := fun θ L => ∃ θ', Clr n θ θ' ∧ D.bk θ' L, ct := fun θ L => ∃ θ', Clr n θ θ' ∧ D.ct θ' L }
/-- what the clause makes of an error -/
def exW (X : Cx) (c : Value) (n : Str) (suite : List Stmt) (D : GD) (Wout : XW) : XW := fun cls d θ L => ∃ b, PySem.W.exmOne X.K cls c = some b ∧ (b = true → ∀ a, ∃ θ', Put n (.ref a) θ θ' ∧ GSs (suX X a) suite (suD n D) θ' ((a, excH a cls d) :: L)) ∧ (b = false → Wout cls d θ L)
section
variable {X : Cx} {η : En} {L : Lg} {D : GD} {Wout : XW} {x n : Str} {c : Value} {body suite : List Stmt} {b₀ : Stmt} {np pos pos' : Pos}
theorem gs_try_as (hc : Names X x c) (tk : Tk X Wout) (hb : ∀ (X' : Cx) (pn : List (Addr × Obj)) (xe : Value → Shared → Prop), X' = trX X pn xe → PassesOwn (model X'.prog X'.w) X'.A X'.env X'.xe → X'.N.Nodup → Tk X' (exW X c n (b₀ :: suite) D Wout) → GSs X' body D η L)
    (hi : n ∈ X.N) (hn : X.N.Nodup := by assumption) (hs : X.stack = X.env :: X.outer := by rfl) (hf : X.env.frame = some X.env.locals := by rfl) (hln : X.env.kindOf n = some .local := by rfl) (hex : X.ex = [] := by rfl) :
    GS X (.Try body [.ExceptHandler (some (.Name x np)) (some n) (b₀ :: suite) pos'] [] [] pos) D η L := fun hN H hH pins s I => by
  obtain ⟨i, hi⟩ := List.mem_iff_getElem?.mp hi
  have ok := I.ok
  have fr0 : X.A.frames = some (X.env :: X.outer) := by rw [ok.frames, hs]
  have fix : ∀ {m : Nat} {θ : En}, X.N = names θ → (names θ)[m]? = some n → m = i := fun {m θ} e1 e2 => idxU hn (by rw [e1]; exact e2) hi
  -- behind the suite: the name goes
  have goes : ∀ {a : Addr} {σ6 : L2.St} {H6 : Hp} {s6 : Shared} {Q : Shared → Prop}, Inv (suX X a) pins σ6 H6 s6 → (∀ s7, Inv X pins (σ6.set i none) H6 s7 → Q s7) → wpAny (model X.prog X.w) X.A (do bindName X.env n .none; unbindBehindTheSuite X.env n pos') (fun _ s7 => Q s7) X.xe s6 := fun {a σ6 H6 s6 Q} S6 hq =>
    gone_ok (X := X) ⟨ok, S6.os, S6.bare, S6.base, S6.loc, S6.cell, S6.free, S6.freeC, S6.pin, S6.hok, S6.len⟩ hn hi hln hq
  have clr : ∀ {Q : En → Lg → Prop} {σ6 : L2.St} {H6 : Hp} {a : Addr}, upS (suX X a) (fun θ L => ∃ θ', Clr n θ θ' ∧ Q θ' L) σ6 H6 → upS X Q (σ6.set i none) H6 := fun {Q σ6 H6 a} ⟨θ, M, n1, es, h1, θ', ck, q⟩ => by
    obtain ⟨m, m1, m2, m3⟩ := ck.idx
    have mi := fix n1 m1
    subst mi
    exact ⟨θ', M, by rw [m3]; exact n1, by rw [m2, es], h1, q⟩
  refine wpAny_Try_except (wpAny_mono (hb (trX X (X.pn ++ pins) (fun e s₁ => wpAny (model X.prog X.w) X.A (noteFrame e X.env) (fun _ s₂ => wpAny (model X.prog X.w) X.A (setFlight e none) (fun _ s₃ =>
    wpAny (model X.prog X.w) X.A (handleBy e X.env [.ExceptHandler (some (.Name x np)) (some n) (b₀ :: suite) pos']) (SP X pins (D.ends X)) X.xe s₃) X.xe s₂) X.xe s₁)) _ _ rfl PassesOwn.looking hn (fun u s' air => ?_) hN H hH [] s (I.toTry _)) (fun fl s1 z => ?_) fun e s1 z => z)
  · obtain ⟨a, B, sI, pins', σ', H', cls, d, rfl, Jt, nb, up, sky, na, os, ag, θ, M, nθ, rfl, hM, b, hb1, yes, no⟩ := air
    have J : Inv X pins (vals θ) H' sI := Jt.ofTry ok
    have sk : Sky B (X.env :: X.outer) a (Zc cls d) X.env.locals s'.heap := by rw [← hs]; exact sky
    show wpAny (model X.prog X.w) X.A (noteFrame (Value.ref a) X.env) _ _ _
    refine Sky.land Zc.steady fr0 hf sk fun g3 F3 u3 => ?_
    have J3 : Inv X pins (vals θ) H' { s' with heap := g3 } := J.landed nb F3.1 (up.trans u3) os ag
    obtain ⟨o3, v3, he3, hz3, hd3⟩ := F3.there
    have out : a ∉ frs (X.env :: X.outer) := fun hm => by
      obtain ⟨_, o', e', hnf⟩ := F3.2.2.1.mem hm
      rw [he3] at e'
      cases e'
      exact hnf _ hd3
    have nL : a ≠ X.env.locals := fun z => out (List.mem_filterMap.mpr ⟨X.env, List.mem_cons_self, by rw [hf, z]⟩)
    have nF : a ∉ X.fs := fun hm => by
      obtain ⟨e, he, q⟩ := List.mem_filterMap.mp hm
      exact out (List.mem_filterMap.mpr ⟨e, List.mem_cons_of_mem _ he, q⟩)
    have aI : sI.heap.get? a = none := by
      cases e : sI.heap.get? a with
      | none => rfl
      | some o =>
        have z := nb a o e (by rw [hs]; exact out)
        rw [F3.2.1] at z
        cases z
    have S3 := J3.suite he3 hd3 na nL nF
    refine wpAny_handleBy_cons (codeAny_handlers_test ?_) (by intro q; cases q)
    have LT : PySem.W.Looks (model X.prog X.w) g3 (typeOf (.ref a)) cls := fun A Q E s k q => wpAny_typeOf_ref (k _ _ he3) (by rw [hz3.1]; exact q)
    have LM := PySem.W.exm_one (M := model X.prog X.w) J3.kIn LT hb1
    have asks : ∀ {Q : Value → Shared → Prop} {E : Value → Shared → Prop}, Q c { s' with heap := g3 } → wpAny (model X.prog X.w) (X.A.mark (some (.ref a))) (eval (.Name x np) X.env) Q E { s' with heap := g3 } := fun {Q E} q => by
      obtain ⟨hg, hdbg, hm | ⟨hm, hv, hnn⟩⟩ := hc
      · exact ld_glob (X := X.suite a ((a, o3) :: (X.pn ++ pins))) S3 hg hm q hdbg
      · exact ld_blt (X := X.suite a ((a, o3) :: (X.pn ++ pins))) S3 hg hm hv q hnn hdbg
    refine asks (LM.here ?_)
    cases b with
    | true =>
      refine codeAny_handlers_suite_as (HandSPX.lands_againZ F3 fun g4 F4 u4 => ?_)
      have J4 : Inv X pins (vals θ) H' { s' with heap := g4 } := J.landed nb F4.1 ((up.trans u3).trans u4) os ag
      obtain ⟨o4, v4, he4, hz4, hd4⟩ := F4.there
      have n0 : X.s_0.heap.get? a = none := by
        cases e : X.s_0.heap.get? a with
        | none => rfl
        | some o =>
          obtain ⟨o', e'⟩ := J.base.there a o e (by rw [hex]; exact fun z => nomatch z)
          rw [aI] at e'
          cases e'
      have T4 := track (cls := cls) (d := d) J4 he4 hz4 hd4 na nL n0 fun p hp z => by
        obtain ⟨e, _⟩ := J.pin p hp
        rw [z, aI] at e
        cases e
      have S4 : Inv (suX X a) pins (vals θ) (upd H' a (excH a cls d)) { s' with heap := g4 } := ⟨ok.suite a X.pn, T4.os, T4.bare, T4.base, T4.loc, T4.cell, T4.free, T4.freeC, T4.pin, T4.hok, T4.len⟩
      obtain ⟨θ', pu, run⟩ := yes rfl a
      obtain ⟨m, m1, m2, m3⟩ := pu.idx
      have mi := fix nθ m1
      subst mi
      have N4 : (suX X a).N = names θ' := by rw [m3]; exact nθ
      refine store_ok (X := suX X a) (v := .ref a) S4 hn hi (.inl hln) rfl (fun s5 S5 => ?_) (.inr hln)
      rw [← m2] at S5
      refine wpAny_mono (run N4 _ (hM.new na) pins s5 S5) (fun fl s6 z => ?_) fun _ _ z => z.elim
      cases fl with
      | next => exact z.elim fun σ6 z => z.elim fun H6 z => goes z.1 fun s7 J7 => ⟨_, H6, J7, clr z.2⟩
      | brk => exact z.elim fun σ6 z => z.elim fun H6 z => goes z.1 fun s7 J7 => ⟨_, H6, J7, clr z.2⟩
      | cont => exact z.elim fun σ6 z => z.elim fun H6 z => goes z.1 fun s7 J7 => ⟨_, H6, J7, clr z.2⟩
      | ret u => exact z.elim fun v6 z => z.elim fun σ6 z => z.elim fun H6 z => goes z.1 fun s7 J7 => ⟨v6, _, H6, J7, z.2.1, z.2.2⟩
    | false =>
      show wpAny _ X.A (handleBy (Value.ref a) X.env []) _ _ _
      refine wpAny_handleBy_nil ?_
      obtain ⟨_, _, _, oe, vs, T, oT, ts', he, hz, hd, h1, _⟩ := id F3
      unfold PySem.passOn
      refine wpAny_bind (wpAny_field he hd h1 ?_)
      rw [if_neg (show ¬ ((Value.ref T == Value.none) = true) from by simp)]
      have on : wpAny (model X.prog X.w) X.A (setFlight (.ref a) X.env.frame) (fun _ s4 => wpAny (model X.prog X.w) X.A (throw (.ref a) : Sem Flow) (SP X pins (D.ends X)) X.xe s4) X.xe { s' with heap := g3 } := by
        rw [hf]
        refine HandSPX.setFlight_upZ F3 fun g4 hh4 u4 => wpAny_throw (tk _ _ ⟨a, B, sI, pins, vals θ, H', cls, d, rfl, J, nb, (up.trans u3).trans u4, .inr (.inr (by rw [hs]; exact hh4)), na, os, ag, θ, M, nθ, rfl, hM, no rfl⟩)
      first
        | exact wpAny_bind (wpAny_pure (wpAny_bind on))
        | exact wpAny_bind on
  · cases fl with
    | next => exact z.elim fun σ' z => z.elim fun H' z => wpAny_execs_nil ⟨σ', H', z.1.ofTry ok, z.2⟩
    | brk => exact z.elim fun σ' z => z.elim fun H' z => ⟨σ', H', z.1.ofTry ok, z.2⟩
    | cont => exact z.elim fun σ' z => z.elim fun H' z => ⟨σ', H', z.1.ofTry ok, z.2⟩
    | ret u => exact z.elim fun v z => z.elim fun σ' z => z.elim fun H' z => ⟨v, σ', H', z.1.ofTry ok, z.2.1, z.2.2⟩
end
end G
set_option Elab.async false
set_option linter.all false
set_option maxRecDepth 100000
set_option maxHeartbeats 4000000
namespace G
open PySem PySem.Spec PyProof.Rows L2
/-- n turns; keep: what must stand at every turn; item: what comes at turn i, with the entries that come with it -/
structure Src where
  n : Nat
  keep : Lg → Prop
  item : Nat → V → Lg → Prop
structure SrcOk (J : It) (S : Src) : Prop where
  goes : ∀ i H M, i < S.n → Has H M → S.keep M → J.go i H
  stops : ∀ H M, Has H M → S.keep M → J.stop S.n H
  yields : ∀ i H x H' M, i < S.n → Has H M → S.keep M → J.yld i H x H' → ∃ E, S.item i x E ∧ Has H' (E ++ M)
theorem SrcOk.of {J : It} {n : Nat} {G : Hp → Prop} {Y : Nat → Hp → V → Hp → Prop} {keep : Lg → Prop} {item : Nat → V → Lg → Prop} (w : Walk J n G Y) (hg : ∀ H M, Has H M → keep M → G H)
    (hy : ∀ i H x H' M, i < n → Has H M → keep M → Y i H x H' → ∃ E, item i x E ∧ Has H' (E ++ M)) : SrcOk J ⟨n, keep, item⟩ :=
  ⟨fun i H M hi h k => w.goes i H hi (hg H M h k), fun H M h k => w.stops H (hg H M h k), fun i H x H' M hi h k y => hy i H x H' M hi h k (w.yields i H x H' hi (hg H M h k) y)⟩
def WI (X : Cx) (tg iter : Expr) : TI := fun σ H R => ∀ pins s, Inv X pins σ H s → wpAny (model X.prog X.w) X.A (eval iter X.env) (fun v s1 => wpAny (model X.prog X.w) X.A (pyIter v) (PIE X pins σ tg R) X.xe s1) X.xe s
theorem pi_W {X : Cx} {tg iter : Expr} : PI X tg iter (WI X tg iter) := ⟨fun pins s _ _ _ I h => h pins s I⟩
theorem WI.of {X : Cx} {tg iter : Expr} {wi : TI} {σ : L2.St} {H : Hp} {R : It → Hp → Prop} (h : PI X tg iter wi) (q : wi σ H R) : WI X tg iter σ H R := fun pins s I => h.run pins s σ H R I q
def GI (X : Cx) (tg iter : Expr) (η : En) (L : Lg) (Q : Src → Lg → Prop) : Prop := X.N = names η → ∀ H, Has H L → WI X tg iter (vals η) H fun J H1 => ∃ L1 S, Has H1 L1 ∧ SrcOk J S ∧ Q S L1
/-- one item of a list as it stands -/
def itemAt (xs : List V) : Nat → V → Lg → Prop := fun i x E => xs[i]? = some x ∧ E = []
def itemFn (f : Nat → V) : Nat → V → Lg → Prop := fun i x E => x = f i ∧ E = []
def itemPr (f g : Nat → Option V) : Nat → V → Lg → Prop := fun i v E => ∃ t x y, v = .ref t ∧ E = [(t, .tup [x, y])] ∧ f i = some x ∧ g i = some y
theorem y_at {xs : List V} {i : Nat} {H H' : Hp} {x : V} {M : Lg} (h : Has H M) (y : YAt xs i H x H') : ∃ E, itemAt xs i x E ∧ Has H' (E ++ M) := by
  obtain ⟨e, y⟩ := y
  subst e
  exact ⟨[], ⟨y, rfl⟩, h⟩
theorem y_fn {f : Nat → V} {i : Nat} {H H' : Hp} {x : V} {M : Lg} (h : Has H M) (y : YFn f i H x H') : ∃ E, itemFn f i x E ∧ Has H' (E ++ M) := by
  obtain ⟨e, y⟩ := y
  subst e
  exact ⟨[], ⟨y, rfl⟩, h⟩
theorem y_pr {f g : Nat → Option V} {i : Nat} {H H' : Hp} {x : V} {M : Lg} (h : Has H M) (y : YPair f g i H x H') : ∃ E, itemPr f g i x E ∧ Has H' (E ++ M) := by
  obtain ⟨T, u, v, e1, n, e2, e3, e4⟩ := y
  subst e1 e2
  exact ⟨[(T, .tup [u, v])], ⟨T, u, v, rfl, rfl, e3, e4⟩, h.new n⟩
/-- the list of xs at p stands in the ledger -/
def KeepL (p : Addr) (xs : List V) : Lg → Prop := fun M => (p, HO.lst xs) ∈ M
def KeepT (p : Addr) (xs : List V) : Lg → Prop := fun M => (p, HO.tup xs) ∈ M
section
variable {X : Cx} {η : En} {L : Lg} {Q : Src → Lg → Prop} {tg a b c e : Expr} {p pos : Pos}
theorem gi_list (h : GE X e η L fun v L1 => ∃ q xs, v = .ref q ∧ (q, HO.lst xs) ∈ L1 ∧ Q ⟨xs.length, KeepL q xs, itemAt xs⟩ L1) : GI X tg e η L Q := fun hN H hH =>
  WI.of (pi_list pe_W) (h.then hN hH fun v L1 H1 k1 ⟨q, xs, ev, m, z⟩ => ⟨q, ev, ⟨xs, sql k1 m⟩, L1, _, k1, SrcOk.of walk_list (fun H M hM k => sql hM k) (fun i H x H' M _ hM _ y => y_at hM y), z⟩)
theorem gi_tuple (h : GE X e η L fun v L1 => ∃ q xs, v = .ref q ∧ (q, HO.tup xs) ∈ L1 ∧ Q ⟨xs.length, KeepT q xs, itemAt xs⟩ L1) : GI X tg e η L Q := fun hN H hH =>
  WI.of (pi_tup pe_W) (h.then hN hH fun v L1 H1 k1 ⟨q, xs, ev, m, z⟩ => ⟨q, ev, ⟨xs, sqt k1 m⟩, L1, _, k1, SrcOk.of walk_tup (fun H M hM k => sqt hM k) (fun i H x H' M _ hM _ y => y_at hM y), z⟩)
theorem gi_str (h : GE X e η L fun v L1 => ∃ z : Str, v = .str z ∧ Q ⟨z.cps.size, fun _ => True, fun i v E => (∃ c, z.cps[i]? = some c ∧ v = .str ⟨#[c]⟩) ∧ E = []⟩ L1) : GI X tg e η L Q := fun hN H hH =>
  WI.of (pi_str pe_W) (h.then hN hH fun v L1 H1 k1 ⟨z, ev, q⟩ => ⟨z, ev, L1, _, k1, SrcOk.of walk_str (fun _ _ _ _ => True.intro) (fun i H x H' M _ hM _ y => ⟨[], ⟨y.2, rfl⟩, y.1 ▸ hM⟩), q⟩)
theorem gi_range1 (h : GA X [a] η L fun vs L1 => ∃ j : Int, vs = [.int j] ∧ (-(2 ^ 62) ≤ j ∧ j < 2 ^ 62) ∧ Q ⟨j.toNat, fun _ => True, itemFn fun i => .int (i : Int)⟩ L1) (hm : X.mg "range" = none) (hg : Gl X "range" := by rfl)
    (hs' : starEach [a] X.env = [(false, eval a X.env)] := by rfl) : GI X tg (.Call (.Name "range" p) [a] [] pos) η L Q := fun hN H hH =>
  WI.of (pi_range1 hg hm pa_W hs') (h.then hN hH fun vs L1 H1 k1 ⟨j, e1, bd, q⟩ => ⟨j, e1, bd.1, bd.2, L1, _, k1, SrcOk.of walk_range (fun _ _ _ _ => True.intro) (fun i H x H' M _ hM _ y => by
    obtain ⟨e, y⟩ := y
    subst e
    exact ⟨[], ⟨y.trans (congrArg V.int (Int.zero_add _)), rfl⟩, hM⟩), q⟩)
theorem gi_range2 (h : GA X [a, b] η L fun vs L1 => ∃ j k : Int, vs = [.int j, .int k] ∧ (-(2 ^ 62) ≤ j ∧ j < 2 ^ 62 ∧ -(2 ^ 62) ≤ k ∧ k < 2 ^ 62) ∧ Q ⟨(k - j).toNat, fun _ => True, itemFn fun i => .int (j + (i : Int))⟩ L1) (hm : X.mg "range" = none) (hg : Gl X "range" := by rfl)
    (hs' : starEach [a, b] X.env = [(false, eval a X.env), (false, eval b X.env)] := by rfl) (hs2 : starEach [b] X.env = [(false, eval b X.env)] := by rfl) : GI X tg (.Call (.Name "range" p) [a, b] [] pos) η L Q := fun hN H hH =>
  WI.of (pi_range2 hg hm pa_W hs' hs2) (h.then hN hH fun vs L1 H1 k1 ⟨j, k, e1, bd, q⟩ => ⟨j, k, e1, bd, L1, _, k1, SrcOk.of walk_range (fun _ _ _ _ => True.intro) (fun i H x H' M _ hM _ y => y_fn hM y), q⟩)
theorem gi_zip {elts : List Expr} {kk : Nat} {tpos : Pos} (h : GA X [e, a] η L fun vs L1 => ∃ q r xs ys, vs = [.ref q, .ref r] ∧ (q, HO.lst xs) ∈ L1 ∧ (r, HO.lst ys) ∈ L1 ∧ Q ⟨min xs.length ys.length, fun M => (q, HO.lst xs) ∈ M ∧ (r, HO.lst ys) ∈ M, itemPr (fun i => xs[i]?) (fun i => ys[i]?)⟩ L1) (hm : X.mg "zip" = none) (hg : Gl X "zip" := by rfl)
    (hs' : starEach [e, a] X.env = (false, eval e X.env) :: starEach [a] X.env := by rfl) (hpl : (backTo pos (starEach [a] X.env)).any (·.1) = false := by rfl) : GI X (.Tuple elts kk tpos) (.Call (.Name "zip" p) [e, a] [] pos) η L Q := fun hN H hH =>
  WI.of (pi_zip hg hm pa_W hs' hpl) (h.then hN hH fun vs L1 H1 k1 ⟨q, r, xs, ys, e1, m1, m2, z⟩ => ⟨q, r, xs, ys, e1, sql k1 m1, sql k1 m2, L1, _, k1, SrcOk.of (walk_zip rfl) (fun H M hM k => ⟨sql hM k.1, sql hM k.2⟩) (fun i H x H' M _ hM _ y => y_pr hM y), z⟩)
end
structure LoopS (X : Cx) (tg : Expr) (body : List Stmt) (D : GD) (S : Src) (η : En) (L : Lg) (Pv : Nat → En → Lg → Prop) : Prop where
  h0 : Pv 0 η L
  kp : ∀ i θ M, i ≤ S.n → (M.map (·.1)).Nodup → Pv i θ M → S.keep M
  hs : ∀ i x E θ M, i < S.n → S.item i x E → Pv i θ M → GG X tg x θ (E ++ M) fun θ' M' => GSs X body { nx := Pv (i + 1), rt := D.rt, bk := D.nx, ct := Pv (i + 1) } θ' M'
  hd : ∀ θ M, Pv S.n θ M → D.nx θ M
section
variable {X : Cx} {η : En} {L : Lg} {tg iter : Expr} {body : List Stmt} {pos : Pos} {D : GD}
theorem gs_for (h : GI X tg iter η L fun S L1 => ∃ Pv, LoopS X tg body D S η L1 Pv) (hp : PassesOwn (model X.prog X.w) X.A X.env X.xe := by first | exact PassesOwn.never | exact passes_of rfl | assumption) (hc : X.calm = true := by rfl)
    (hs : ∀ x, foldedSetIterable iter X.env x = pure x := by intro _; rfl) : GS X (.For tg iter body [] pos) D η L := fun hN H hH =>
  WS.of (ps_for hp hc pi_W pg_W pss_W hs) (by
    intro pins s I
    refine wpAny_mono (h hN H hH pins s I) (fun v s1 z => wpAny_mono z (fun itv s2 z2 => ?_) fun _ _ z => z) fun _ _ z => z
    obtain ⟨it, fp, tn, J, H1, ev, I2, T, t0, f2, L1, S, k1, ok, Pv, l⟩ := z2
    refine ⟨it, fp, tn, J, H1, ev, I2, T, t0, f2, ?_⟩
    refine ⟨fun i m σ H => m = S.n - i ∧ i ≤ S.n ∧ upS X (Pv i) σ H, ⟨S.n, by simp, Nat.zero_le _, η, L1, hN, rfl, k1, l.h0⟩, ?_⟩
    rintro i m σ H ⟨rfl, hi, θ, M, n1, es, h1, q1⟩
    have kk := l.kp i θ M hi h1.1 q1
    by_cases hlt : i < S.n
    · refine .inr ⟨ok.goes i H M hlt h1 kk, upS X (Pv (i + 1)), fun σ' H' p' => ⟨S.n - (i + 1), by omega, rfl, hlt, p'⟩, fun x H' y => ?_⟩
      obtain ⟨E, it', h2⟩ := ok.yields i H x H' M hlt h1 kk y
      rw [es]
      exact (l.hs i x E θ M hlt it' q1).then n1 h2 fun θ' M' H2 n2 h2 q2 => q2 n2 H2 h2
    · have e : i = S.n := by omega
      subst e
      exact .inl ⟨ok.stops H M h1 kk, θ, M, n1, es, h1, l.hd θ M q1⟩)
end
def GTs (X : Cx) (ifs : List Expr) (η : En) (L : Lg) (Q : Bool → Lg → Prop) : Prop := match ifs with
  | [] => Q true L
  | [c] => GT X c η L Q
  | _ => False
def WTs (X : Cx) (ifs : List Expr) : TT := match ifs with
  | [] => tYes
  | [c] => WT X c
  | _ => fun _ _ _ => False
theorem pts_W {X : Cx} {ifs : List Expr} : PTs X ifs (WTs X ifs) := by
  match ifs with
  | [] => exact pts_nil
  | [c] => exact pts_one pt_W
  | _ :: _ :: _ => exact ⟨fun _ _ _ _ _ _ h => h.elim⟩
theorem GTs.then {X : Cx} {ifs : List Expr} {η : En} {L : Lg} {Q : Bool → Lg → Prop} {Q' : Bool → Hp → Prop} (h : GTs X ifs η L Q) (hN : X.N = names η) {H : Hp} (hH : Has H L) (m : ∀ b L1 H1, Has H1 L1 → Q b L1 → Q' b H1) : WTs X ifs (vals η) H Q' := by
  match ifs, h with
  | [], h => exact m true L H hH h
  | [c], h => exact GT.then h hN hH m
/-- the block of a comprehension -/
abbrev blkX (X : Cx) (s : Shared) (H : Hp) (scope : Scope) (C : Addr) (cl : List (Str × Addr)) (fp : List Addr) : Cx := X.blk s H scope (compEnvC scope cl C X.env) fp
/-- one turn of a comprehension: the item stands in θ; B: the block's contexts -/
abbrev AllBlk (X : Cx) (scope : Scope) (φ : Cx → Prop) : Prop := ∀ (s : Shared) (H : Hp) (C : Addr) (cl : List (Str × Addr)) (fp : List Addr), φ (blkX X s H scope C cl fp)
abbrev LocB (X : Cx) (scope : Scope) (x : Str) : Prop := AllBlk X scope fun B => Loc B.env.scope x ∧ (B.fn x = true ∨ B.env.scope.names.lookup x = some .local)
theorem idxEq {N : List Str} (hn : N.Nodup) {i : Nat} {x : Str} (h : N[i]? = some x) : N.idxOf x = i := idxU hn (by
  have m := List.idxOf_lt_length_of_mem (List.mem_of_getElem? h)
  rw [List.getElem?_eq_getElem m, List.getElem_idxOf m]) h
def LcTurn (X : Cx) (scope : Scope) (ifs : List Expr) (elt : Expr) (D : Addr) (Nx : Lg → Prop) (θ : En) (M : Lg) : Prop :=
  AllBlk X scope fun B => GTs B ifs θ M fun b M1 => if b = true then AllBlk X scope fun B => GE B elt θ M1 fun y M2 => ∃ acc M3, (D, HO.lst acc) ∈ M2 ∧ acc.length < sizeLine ∧ Swap D (.lst (acc ++ [y])) M2 M3 ∧ Nx M3 else Nx M1
structure LcS (X : Cx) (scope : Scope) (ifs : List Expr) (elt : Expr) (S : Src) (D : Addr) (L : Lg) (st : V → Lg → (En → Lg → Prop) → Prop) (Pv : Nat → Lg → Prop) (Q : QV) : Prop where
  h0 : Pv 0 ((D, .lst []) :: L)
  kp : ∀ i M, i ≤ S.n → (M.map (·.1)).Nodup → Pv i M → S.keep M
  hs : ∀ i x E M, i < S.n → S.item i x E → ((E ++ M).map (·.1)).Nodup → Pv i M → st x (E ++ M) fun θ M' => LcTurn X scope ifs elt D (Pv (i + 1)) θ M'
  hd : ∀ M, Pv S.n M → Q (.ref D) M
theorem wipe_one {σ : L2.St} {i : Nat} {v : Option V} : wipe (σ.set i v) [i] = wipe σ [i] := by
  show (σ.set i v).set i none = σ.set i none
  rw [List.set_set]
def teB (X : Cx) (scope : Scope) (elt : Expr) : TE := fun σ H q => AllBlk X scope fun B => WE B elt σ H q
def ttB (X : Cx) (scope : Scope) (ifs : List Expr) : TT := fun σ H q => AllBlk X scope fun B => WTs B ifs σ H q
theorem pe_teB {X : Cx} {scope : Scope} {elt : Expr} (s : Shared) (H : Hp) (C : Addr) (cl : List (Str × Addr)) (fp : List Addr) : PE (blkX X s H scope C cl fp) elt (teB X scope elt) := ⟨fun pins s1 σ H1 Q I h => h s H C cl fp pins s1 I⟩
theorem pts_ttB {X : Cx} {scope : Scope} {ifs : List Expr} (s : Shared) (H : Hp) (C : Addr) (cl : List (Str × Addr)) (fp : List Addr) : PTs (blkX X s H scope C cl fp) ifs (ttB X scope ifs) := ⟨fun pins s1 σ H1 Q I h => pts_W.run pins s1 σ H1 Q I (h s H C cl fp)⟩
section
variable {X : Cx} {η : En} {L : Lg} {elt iter tg : Expr} {ifs : List Expr} {scope : Scope} {pos p1 p2 p3 : Pos} {x y : Str} {f : V → En} {Q : QV}
/-- what the library's comprehension asks, from ours -/
theorem lc_core' {g : TG} {vs : List Nat} {st : V → Lg → (En → Lg → Prop) → Prop} (nη : X.N = names η) {H : Hp} (hH : Has H L) {Qh : VK} (hq : ∀ D M H', Has H' M → Q (.ref D) M → Qh (.ref D) H')
    (hst : ∀ v M H' k Qk, Has H' M → st v M k → (∀ θ M' H2, X.N = names θ → Has H2 M' → k θ M' → wipe (vals θ) vs = wipe (vals η) vs → Qk (vals θ) H2) → g v (wipe (vals η) vs) H' Qk)
    (h : GI X tg iter η L fun S L1 => ∀ D, ∃ Pv, LcS X scope ifs elt S D L1 st Pv Q) : tLc (WI X tg iter) g (ttB X scope ifs) (teB X scope elt) vs (vals η) H Qh := by
  intro pins s I
  refine wpAny_mono (h nη H hH pins s I) (fun v s1 z => wpAny_mono z (fun itv s2 z2 => ?_) fun _ _ z => z) fun _ _ z => z
  obtain ⟨it, fp, tn, J, H1, ev, I2, T, t0, f2, L1, S, k1, ok, l⟩ := z2
  refine ⟨it, fp, tn, J, H1, ev, I2, T, t0, f2, fun D nD => ?_⟩
  obtain ⟨Pv, l⟩ := l D
  refine ⟨fun i m H => m = S.n - i ∧ i ≤ S.n ∧ ∃ M, Has H M ∧ Pv i M, ⟨S.n, by simp, Nat.zero_le _, _, k1.new nD, l.h0⟩, ?_⟩
  rintro t m H2 ⟨rfl, hi2, M, h3, q1⟩
  have kk := l.kp t M hi2 h3.1 q1
  by_cases hlt : t < S.n
  · refine .inr ⟨ok.goes t H2 M hlt h3 kk, fun H' => ∃ M, Has H' M ∧ Pv (t + 1) M, fun H' p' => ⟨S.n - (t + 1), by omega, rfl, hlt, p'⟩, fun v H3 y => ?_⟩
    obtain ⟨E, it', h4⟩ := ok.yields t H2 v H3 M hlt h3 kk y
    refine hst v (E ++ M) H3 _ _ h4 (l.hs t v E M hlt it' h4.1 q1) fun θ M' H5 nθ h5 q2 ew => ⟨ew, fun s' H' C cl fp => ?_⟩
    refine (q2 s' H' C cl fp).then nθ h5 fun b M1 H6 h6 q3 => ?_
    cases b with
    | true =>
      rw [if_pos rfl] at q3 ⊢
      refine fun s' H' C cl fp => (q3 s' H' C cl fp).then nθ h6 fun y M2 H7 h7 q4 => ?_
      obtain ⟨acc, M3, m2, z, sw, q5⟩ := q4
      exact ⟨acc, h7.get m2, z, M3, h7.swap sw, q5⟩
    | false =>
      rw [if_neg Bool.false_ne_true] at q3 ⊢
      exact ⟨M1, h6, q3⟩
  · have e : t = S.n := by omega
    subst e
    exact .inl ⟨ok.stops H2 M h3 kk, hq D M H2 h3 (l.hd M q1)⟩
/-- the store of the item: one name -/
theorem st_one {i : Nat} (P : PutF x η f) (hi : X.N[i]? = some x) (hN : X.N.Nodup) (nη : X.N = names η) : ∀ (v : V) (M : Lg) (H' : Hp) (k : En → Lg → Prop) (Qk : L2.St → Hp → Prop), Has H' M → k (f v) M → (∀ θ M' H2, X.N = names θ → Has H2 M' → k θ M' → wipe (vals θ) [i] = wipe (vals η) [i] → Qk (vals θ) H2) → gName i v (wipe (vals η) [i]) H' Qk := fun v M H' k Qk hM q hk => by
  obtain ⟨j, h1, h2⟩ := P.idx
  have ij : i = j := idxU hN hi (by rw [nη]; exact h1)
  subst ij
  have e1 : (wipe (vals η) [i]).set i (some v) = vals (f v) := by
    rw [(h2 v).1]
    show ((vals η).set i none).set i (some v) = _
    rw [List.set_set]
  have z := hk (f v) M H' (by rw [(h2 v).2]; exact nη) hM q (by rw [(h2 v).1]; exact wipe_one)
  show Qk ((wipe (vals η) [i]).set i (some v)) H'
  rw [e1]
  exact z
/-- [elt for x in iter if ..], as a value -/
theorem ge_lc1 (P : PutF x η f) (h : GI X (.Name x p1) iter η L fun S L1 => ∀ D, ∃ Pv, LcS X scope ifs elt S D L1 (fun v M k => k (f v) M) Pv Q) (hb : blkC X.N X.env.scope scope [(x, X.N.idxOf x)] = true) (hlx : LocB X scope x := by exact fun _ _ _ _ _ => ⟨.inl rfl, .inr rfl⟩)
    (hN : X.N.Nodup := by assumption) (hc : X.calm = true := by rfl) (hs : ∀ z, foldedSetIterable iter X.env z = pure z := by intro _; rfl) : GE X (.ListComp elt [⟨.Name x p1, iter, ifs, 0⟩] scope pos) η L Q := fun nη H hH => by
  obtain ⟨i, h1, _⟩ := P.idx
  have hi : X.N[i]? = some x := by rw [nη]; exact h1
  exact WE.of (pe_lc (own := [(x, i)]) hc hN pi_W (blkOk_by (by rw [idxEq hN hi] at hb; exact hb)) (fun s H C cl fp => pg_name (X := blkX X s H scope C cl fp) hN hi (hlx s H C cl fp).1 (hlx s H C cl fp).2) pts_ttB pe_teB hs)
    (lc_core' (Qh := up Q) nη hH (fun D M H' hM q => ⟨M, hM, q⟩) (st_one P hi hN nη) h)
/-- y = [elt for x in iter if ..] -/
theorem gs_lc1 {D : GD} {fy : V → En} {py : Pos} (Py : PutF y η fy) (P : PutF x η f) (h : GI X (.Name x p1) iter η L fun S L1 => ∀ d, ∃ Pv, LcS X scope ifs elt S d L1 (fun v M k => k (f v) M) Pv fun v M => D.nx (fy v) M) (hb : blkC X.N X.env.scope scope [(x, X.N.idxOf x)] = true) (hlx : LocB X scope x := by exact fun _ _ _ _ _ => ⟨.inl rfl, .inr rfl⟩)
    (hyl : X.env.scope.names.lookup y = some .local := by rfl) (hsw : swapsWith (.ListComp elt [⟨.Name x p1, iter, ifs, 0⟩] scope pos) (some (.Name y py)) p3.line X.env = pure true := by rfl)
    (hN : X.N.Nodup := by assumption) (hc : X.calm = true := by rfl) (hs : ∀ z, foldedSetIterable iter X.env z = pure z := by intro _; rfl) : GS X (.Assign [.Name y py] (.ListComp elt [⟨.Name x p1, iter, ifs, 0⟩] scope pos) p3) D η L := fun nη H hH => by
  obtain ⟨i, h1, _⟩ := P.idx
  obtain ⟨j, k1, k2⟩ := Py.idx
  have hi : X.N[i]? = some x := by rw [nη]; exact h1
  have hj : X.N[j]? = some y := by rw [nη]; exact k1
  refine WS.of (ps_setLc (own := [(x, i)]) hc hN hj hyl hsw pi_W (blkOk_by (by rw [idxEq hN hi] at hb; exact hb)) (fun s H C cl fp => pg_name (X := blkX X s H scope C cl fp) hN hi (hlx s H C cl fp).1 (hlx s H C cl fp).2) pts_ttB pe_teB hs) ?_
  refine lc_core' (Qh := fun v H1 => gName j v (vals η) H1 (D.ends X).nx) nη hH (fun d M H' hM q => ?_) (st_one P hi hN nη) h
  show upS X D.nx ((vals η).set j (some (.ref d))) H'
  exact ⟨fy (.ref d), M, by rw [(k2 _).2]; exact nη, (k2 _).1.symm, hM, q⟩
theorem wipe_two {σ : L2.St} {i j : Nat} (ne : i ≠ j) {a b : Option V} : ((wipe σ [i, j]).set i a).set j b = (σ.set i a).set j b ∧ wipe ((σ.set i a).set j b) [i, j] = wipe σ [i, j] := by
  refine ⟨?_, ?_⟩
  · show ((((σ.set j none).set i none).set i a).set j b) = _
    rw [List.set_set, List.set_comm _ _ ne, List.set_set, List.set_comm _ _ (Ne.symm ne)]
  · show ((((σ.set i a).set j b).set j none).set i none) = (σ.set j none).set i none
    rw [List.set_set, List.set_comm _ _ ne, List.set_set, List.set_comm _ _ (Ne.symm ne)]
/-- the store of an item: a pair's two names -/
theorem st_two {K : PySem.W.Frag} {g : V → V → En} {i j : Nat} (P : PutF x η f) (R : ∀ v, PutF y (f v) (g v)) (hi : X.N[i]? = some x) (hj : X.N[j]? = some y) (ne : i ≠ j) (hN : X.N.Nodup) (nη : X.N = names η) :
    ∀ (v : V) (M : Lg) (H' : Hp) (k : En → Lg → Prop) (Qk : L2.St → Hp → Prop), Has H' M → (∃ p a b, v = .ref p ∧ (p, HO.tup [a, b]) ∈ M ∧ k (g a b) M) → (∀ θ M' H2, X.N = names θ → Has H2 M' → k θ M' → wipe (vals θ) [i, j] = wipe (vals η) [i, j] → Qk (vals θ) H2) →
      gTup K 2 (gCons (gName i) (gCons (gName j) gNil)) v (wipe (vals η) [i, j]) H' Qk := fun v M H' k Qk hM ⟨p, a, b, ev, m, q⟩ hk => by
  have nf : ∀ v, X.N = names (f v) := fun v => by
    obtain ⟨_, _, h2⟩ := P.idx
    rw [(h2 v).2]
    exact nη
  have e1 : vals (f a) = (vals η).set i (some a) := (P.at hN nη hi a).1
  have e2 : vals (g a b) = (vals (f a)).set j (some b) := ((R a).at hN (nf a) hj b).1
  have nθ : X.N = names (g a b) := (nf a).trans ((R a).at hN (nf a) hj b).2.symm
  have e3 : vals (g a b) = ((vals η).set i (some a)).set j (some b) := by rw [e2, e1]
  refine ⟨p, [a, b], ev, sqt hM m, rfl, a, [b], rfl, b, [], rfl, rfl, ?_⟩
  have z := hk (g a b) M H' nθ hM q (by rw [e3]; exact (wipe_two ne).2)
  rw [e3] at z
  show Qk (((wipe (vals η) [i, j]).set i (some a)).set j (some b)) H'
  rw [(wipe_two ne).1]
  exact z
theorem pg_pair {i j : Nat} {kt : Nat} {pt : Pos} (hc : X.calm = true) (hN : X.N.Nodup) (hi : X.N[i]? = some x) (hj : X.N[j]? = some y) (hlx : LocB X scope x) (hly : LocB X scope y) :
    ∀ (s : Shared) (H : Hp) (C : Addr) (cl : List (Str × Addr)) (fp : List Addr), PG (blkX X s H scope C cl fp) (.Tuple [.Name x p1, .Name y p2] kt pt) (gTup X.K 2 (gCons (gName i) (gCons (gName j) gNil))) := fun s H C cl fp =>
  pg_tup (X := blkX X s H scope C cl fp) (n := 2) hc (pgs_cons (pg_name hN hi (hlx s H C cl fp).1 (hlx s H C cl fp).2) (pgs_cons (pg_name hN hj (hly s H C cl fp).1 (hly s H C cl fp).2) pgs_nil)) rfl rfl
/-- [elt for x, y in iter if ..], as a value -/
theorem ge_lc2 {g : V → V → En} {kt : Nat} {pt : Pos} (P : PutF x η f) (R : ∀ v, PutF y (f v) (g v)) (h : GI X (.Tuple [.Name x p1, .Name y p2] kt pt) iter η L fun S L1 => ∀ D, ∃ Pv, LcS X scope ifs elt S D L1 (fun v M k => ∃ p a b, v = .ref p ∧ (p, HO.tup [a, b]) ∈ M ∧ k (g a b) M) Pv Q)
    (hxy : x ≠ y) (hb : blkC X.N X.env.scope scope [(x, X.N.idxOf x), (y, X.N.idxOf y)] = true) (hlx : LocB X scope x := by exact fun _ _ _ _ _ => ⟨.inl rfl, .inr rfl⟩) (hly : LocB X scope y := by exact fun _ _ _ _ _ => ⟨.inl rfl, .inr rfl⟩)
    (hN : X.N.Nodup := by assumption) (hc : X.calm = true := by rfl) (hs : ∀ z, foldedSetIterable iter X.env z = pure z := by intro _; rfl) : GE X (.ListComp elt [⟨.Tuple [.Name x p1, .Name y p2] kt pt, iter, ifs, 0⟩] scope pos) η L Q := fun nη H hH => by
  obtain ⟨i, h1, h2⟩ := P.idx
  have hi : X.N[i]? = some x := by rw [nη]; exact h1
  obtain ⟨j, k1, _⟩ := (R .non).idx
  have hj : X.N[j]? = some y := by
    rw [(h2 .non).2] at k1
    rw [nη]
    exact k1
  have ne : i ≠ j := fun z => hxy (by rw [z, hj] at hi; exact (Option.some.inj hi).symm)
  exact WE.of (pe_lc (own := [(x, i), (y, j)]) hc hN pi_W (blkOk_by (by rw [idxEq hN hi, idxEq hN hj] at hb; exact hb)) (pg_pair hc hN hi hj hlx hly) pts_ttB pe_teB hs)
    (lc_core' (Qh := up Q) nη hH (fun D M H' hM q => ⟨M, hM, q⟩) (st_two P R hi hj ne hN nη) h)
end
end G
set_option Elab.async false
set_option linter.all false
set_option maxRecDepth 100000
set_option maxHeartbeats 4000000
namespace G
open PySem PySem.Spec PyProof.Rows L2
open PySem.W in
/-- what an own error class says of its instances -/
structure ErV (K : Frag) (D : Addr) : Prop where
  ga : findIn K (.ref D) "__getattribute__" = some (some (.builtin "BaseException.__getattribute__"))
  gt : findIn K (.ref D) "__getattr__" = some none
  ex : subIn K (.ref D) (.type "BaseException") = some true
  hd : hasDictIn K D = true
  cl : findIn K (.ref D) "__class__" = some (some (.builtin "object.__class__"))
  sp : specialIn K (.builtin "object.__class__") "__get__" = some (some (.builtin "getset_descriptor.__get__"))
  tk : takesIn K (.builtin "object.__class__") = some true
  mo : mroIn K D (.type "object") = some true
section
open PySem.W
variable {prog : Program} {w : World} {A : Around} {E : Value → Shared → Prop} {s : Shared} {K : Frag} {x D : Addr} {ox : Obj} {od : Option Obj}
theorem ErV.find (T : ErV K D) : findObj K D od "__class__" = some (.bind (.builtin "getset_descriptor.__get__") (.builtin "object.__class__")) := by
  obtain ⟨cd, hc, _⟩ := any_some T.hd
  unfold findObj
  rw [hc, Option.bind_some, T.cl, Option.bind_some]
  simp [T.sp, T.tk]
/-- its __class__ -/
theorem ErV.cls (T : ErV K D) {Q : Option Value → Shared → Prop} (X : K.In s.heap) (I : InstAt s.heap x ox D od) (h : Q (some (.ref D)) { s with toks := s.toks + 1 }) : wpAny (model prog w) A (getAttr? (.ref x) "__class__") Q E s := by
  obtain ⟨hh, gg, dd, tt, oo⟩ := s
  have ty := I.type (M := model prog w)
  have lga := looks_findIn (M := model prog w) X T.ga
  have lgt := looks_findIn (M := model prog w) X T.gt
  have lfi := looks_find (M := model prog w) X I T.find
  have isb : Looks (model prog w) hh (isInstance (.ref x) (.type "BaseException")) true := ty.andThen (looks_subIn X T.ex)
  have no : (Value.builtin "BaseException.__getattribute__" == Value.builtin "object.__getattribute__") = false := by decide +kernel
  have no2 : (onTheHeap (Value.ref D) && Value.builtin "BaseException.__getattribute__" == Value.builtin "object.__getattribute__") = false := by
    rw [no]
    rfl
  have no3 : (false && onTheHeap (Value.builtin "BaseException.__getattribute__")) = false := rfl
  unfold getAttr? getAttrBy? getAttrBy
  refine wpAny_bind (wpAny_mkText (wpAny_bind (wpAny_attempt (wpAny_holding (wpAny_bind (ty.at (wpAny_bind (lga.at ?_))))))))
  show wpAny _ _ (if (onTheHeap (Value.ref D) && Value.builtin "BaseException.__getattribute__" == Value.builtin "object.__getattribute__") = true then _ else _) _ _ _
  rw [no2, if_neg Bool.false_ne_true]
  unfold getAttrByItsOwn hookBefore
  refine wpAny_bind ?_
  rw [if_pos (show onTheHeap (Value.ref D) = true from rfl)]
  refine lgt.at (wpAny_bind (wpAny_attempt (wpAny_holding ?_)))
  unfold callGetattribute
  rw [no3, if_neg Bool.false_ne_true]
  unfold boundAndCalled
  rw [PySem.F.excAttr_ValueError.ga.bind (.ref x)]
  refine wpAny_bind (wpAny_pure ?_)
  show wpAny _ _ (call (.builtin "BaseException.__getattribute__") [.ref x, .str "__class__" tt]) _ _ _
  refine wpAny_call (codeAny_call_builtin PySem.F.excAttr_ValueError.ga.plain PySem.F.entry_bexc_ga (@check_slot (model prog w) _ _ ⟨hh, gg, dd, tt + 1, oo⟩ "BaseException.__getattribute__" "BaseException" "__getattribute__" (.ref x) [.str "__class__" tt] [] _ (by decide +kernel) (by decide +kernel) isb (PySem.F.args_bexc_ga (.ref x) (.str "__class__" tt)) ?_))
  unfold Builtin.«object.__getattribute__»
  refine wpAny_bind (wpAny_of_eq (a := ((Value.ref x : Value), [Value.str "__class__" tt])) (by first | rfl | (simp only [slotArgs]; rfl)) (wpAny_bind (wpAny_pure (wpAny_bind (ty.at (wpAny_bind (lfi.at ?_)))))))
  show wpAny _ _ (holding [Value.builtin "object.__class__"] (call (.builtin "getset_descriptor.__get__") [.builtin "object.__class__", .ref x, .ref D]) >>= ret) _ _ _
  refine wpAny_bind (wpAny_holding (wpAny_call (class_get (s := ⟨hh, gg, dd, tt + 1, oo⟩) (ox := ox) (od := od) X I T.mo (wpAny_pure ?_))))
  show wpAny _ _ (handedOut (.ref D)) _ _ _
  rw [handedOut_of (v := .ref D) rfl]
  first
    | exact wpAny_pure (wpAny_pure h)
    | exact wpAny_pure h
    | exact wpAny_pure (wpAny_bind (wpAny_pure (wpAny_pure h)))
theorem ErV.kit (T : ErV K D) : KitX K (.ref x) (.ref D) (fun h => ∃ ox od, InstAt h x ox D od) where
  ty := fun _ _ _ ⟨_, _, I⟩ => I.type
  it := fun _ _ X _ => by
    obtain ⟨cd, hc, _⟩ := any_some T.hd
    unfold clsIn at hc
    split at hc
    · rename_i e
      exact fun A' Q' E' s' k q => by
        unfold isType loadHead
        exact wpAny_bind (wpAny_loadPart (k _ _ (X _ _ e)) (wpAny_pure q))
    · cases hc
  ne := fun h tp dd its n sl X htp => by
    obtain ⟨cd, hc, _⟩ := any_some T.hd
    refine Bool.eq_false_iff.mpr fun q => ?_
    obtain rfl : D = tp := Value.ref.inj (beq_iff_eq.mp q)
    unfold clsIn at hc
    split at hc
    · rename_i e
      cases (X _ _ e).symm.trans htp
    · cases hc
  ca := fun X ⟨_, _, I⟩ k => T.cls X I k
end
section
variable {X : Cx} {η : En} {L : Lg} {Q : QV} {a C D : Addr} {d : Option Addr} {c : V} {e : Expr} {pos : Pos} {n : Str}
theorem exc_instD {P : Program} {w : World} {H : Hp} {h : Heap} {dd : Addr} {fs : List (Str × V)} (hok : HOk P w H h) (e : H a = some (excH a (.ref C) (some dd))) (ed : H dd = some (.xd fs)) :
    ∃ (oe od : Obj) (mA : Str → Option Value), PySem.W.InstAt h a oe C (some od) ∧ (∀ name, PySem.W.lookIn name od = some (mA name)) ∧ ∀ f, RelO (fs.lookup f) (mA f) := by
  obtain ⟨oe, vs, h1, h2, h3⟩ := excH_at hok e
  obtain ⟨mA, hns, hr⟩ := (show ObjOk P w H h dd (.xd fs) from hok dd _ ed)
  obtain ⟨od, ho, hl⟩ := lookIn_ns hns
  exact ⟨oe, od, mA, ⟨h1, h2.1, by unfold PySem.W.notCls; rw [h3] <;> rfl, by rw [h2.2]; exact ho⟩, hl, hr⟩
/-- isinstance of an error -/
theorem gc_isE {cv : Value} {b : Bool} {dd : Addr} {fs : List (Str × V)} (T : ErV X.K C) (m : (a, excH a (.ref C) (some dd)) ∈ L) (md : (dd, HO.xd fs) ∈ L) (kc : ClsV c cv) (k : PySem.W.kitOne X.K (.ref C) cv = some b) (q : Q (.bl b) L) : GC X (.builtin "isinstance") [.ref a, c] L Q := fun pins s σ H us hH I r => by
  cases r with
  | cons rx rr =>
    cases rr with
    | cons rt rr =>
      cases rr
      obtain rfl : _ = Value.ref a := rx
      have ec := kc.eq rt
      subst ec
      obtain ⟨oe, od, mA, J, _⟩ := exc_instD I.hok (hH.get m) (hH.get md)
      exact PySem.W.kia_one T.kit I.kIn ⟨_, _, J⟩ k (fun z => nomatch z) fun tk => ⟨.bl b, H, I.kept (t' := tk) fun _ _ z => z, rfl, L, hH, q⟩
/-- a field of an error -/
def GAt (X : Cx) (n : Str) (x : V) (L : Lg) (Q : QV) : Prop := ∀ pins s σ H u (ex : Bool), Has H L → Inv X pins σ H s → RelV x u → wpAny (model X.prog X.w) X.A (getAttr u n ex) (EP X pins σ (up Q)) X.xe s
theorem gat_exc {dd : Addr} {fs : List (Str × V)} {v : V} (T : ErV X.K C) (hno : PySem.W.findIn X.K (.ref C) n = some none) (m : (a, excH a (.ref C) (some dd)) ∈ L) (md : (dd, HO.xd fs) ∈ L) (l : fs.lookup n = some v) (q : Q v L) : GAt X n (.ref a) L Q := fun pins s σ H u ex hH I r => by
  obtain rfl : u = Value.ref a := r
  obtain ⟨oe, od, mA, J, hl, hr⟩ := exc_instD I.hok (hH.get m) (hH.get md)
  obtain ⟨u, hu, ru⟩ := RelO.some_of (v := v) (o := mA n) (by rw [← l]; exact hr n)
  exact HandSPX.exc_get I.kIn J T.ga T.gt T.ex (PySem.W.findObj_own T.hd hno rfl (by rw [hl, hu])) (handed_of ru) ⟨v, H, I.tok _, ru, L, hH, q⟩
theorem ge_attr (h : GE X e η L fun x L1 => GAt X n x L1 Q) (hb : attributeBase e n X.env (eval e X.env) = eval e X.env := by rfl) : GE X (.Attribute e n pos) η L Q := fun hN H hH pins s I =>
  attr_of hb (thn (h hN H hH pins s I) fun u s1 ⟨x, H1, I1, r1, L1, k1, q1⟩ => q1 pins s1 _ H1 u _ k1 I1 r1)
end
end G
set_option Elab.async false
set_option linter.all false
set_option maxRecDepth 100000
set_option maxHeartbeats 4000000
namespace G
open PySem PySem.Spec PyProof.Rows L2
/-- v is the value d, as repr reads it -/
def Rd (L : Lg) (v : V) (d : PyData) : Prop := ∀ (X : Cx) (pins : List (Addr × Obj)) (σ : L2.St) (H : Hp) (s : Shared) (u : Value), Has H L → Inv X pins σ H s → RelV v u → ∃ as, Reads s.heap u d as ∧ (d.hasDict = true → sysModules ∉ as)
end G
set_option Elab.async false
set_option linter.all false
set_option maxRecDepth 100000
set_option maxHeartbeats 4000000
namespace G
open PySem PySem.Spec PyProof.Rows L2
theorem among_left {pos : Pos} {cv : Value} (l r : List Value) (h : LamX.TabS = LamX.TabS) (t : TriplesOk l) (e : codeAmong pos l = some cv) : codeAmong pos (l ++ r) = some cv := by
  fun_induction TriplesOk l with
  | case1 => simp [codeAmong] at e
  | case2 a t0 b u x rest ih =>
    simp only [List.cons_append, codeAmong] at e ⊢
    split at e
    · rename_i q
      rw [if_pos q]
      exact e
    · rename_i q
      rw [if_neg q]
      exact ih t e
  | case3 l h1 h2 => exact t.elim
section
variable {X : Cx} {pins : List (Addr × Obj)} {σ : L2.St} {H : Hp} {s : Shared}
/-- a lambda is made; what stands in the table from now on -/
theorem lam_made {c P : Addr} {params : Arguments} {body : Expr} {scope : Scope} {pos : Pos} {E : Value → Shared → Prop} {Q : Value → Shared → Prop} (I : Inv X pins σ H s) (TB : LamX.TabB X.base X.mg c P) (hcode : X.env.code = .ref c)
    (hT : LamX.TabS H P (X.env.qual ++ "<lambda>")) (hdef : defaultsOf params X.env = ([], [])) (hfree : ∀ y ∈ scope.names, y.2 = .free → ∃ c, X.env.cells.lookup y.1 = some c)
    (h : ∀ (f c' : Addr) (pm ctv : Value) (H1 : Hp) (s' : Shared) (ps : Array Value), Inv X pins σ H1 s' → (∀ b o, b ≠ P → H b = some o → H1 b = some o) → H1 P = some (.tbl ps) → TriplesOk ps.toList → codeAmong pos ps.toList = some (.ref c') → LamX.TabS H1 P (X.env.qual ++ "<lambda>") →
      s'.heap.get? f = some (PySem.W.kla_obj "<lambda>" (X.env.qual ++ "<lambda>") params body scope (cloFrom X.env.cells scope.names []) pm c' ctv) → H1 f = none → f ∉ frs X.stack → Q (.ref f) s') :
    wpAny (model X.prog X.w) X.A (eval (.Lambda params body scope pos) X.env) Q E s := by
  obtain ⟨ps, hP, ht, ha⟩ := hT
  have bP : s.heap.BuiltinsAt X.mg P := TB.bm.keeps I.bk
  have hP' : s.heap.get? P = some { cls := .none, data := .fields ps } := I.hok P _ hP
  have nofr : ∀ f, s.heap.objs.size ≤ f → f ∉ frs X.stack := fun f hf z => by
    rcases List.mem_cons.mp (I.stkSub _ z) with e | e
    · have h1 := I.lt
      rw [← e] at h1
      exact Nat.lt_irrefl _ (Nat.lt_of_lt_of_le h1 hf)
    · exact I.nofs hf e
  refine PySem.W.kla_eval hdef ?_
  cases hc : codeAmong pos ps.toList with
  | some cv =>
    obtain ⟨c', e, hco⟩ := ha pos cv hc
    subst e
    exact PySem.W.kla_makeFunctionHit (mg := X.mg) (c := c) (P := P) (ps := ps) (closure_ok hfree) I.ok.glob (I.mod.glob.keeps I.bk) hcode (TB.code.keeps I.bk) hP' ht hc bP fun ctv h' tk hx hsz =>
      h h'.objs.size c' _ ctv H _ ps (I.kept (t' := tk) fun b o e => Heap.get?_push_of_some _ (hx b o e)) (fun _ _ _ e => e) hP ht hc ⟨ps, hP, ht, ha⟩ (Heap.get?_push_size _ rfl) (I.hok.fresh hsz) (nofr _ hsz)
  | none =>
    refine PySem.W.kla_makeFunction (mg := X.mg) (c := c) (P := P) (ps := ps) (closure_ok hfree) I.ok.glob (I.mod.glob.keeps I.bk) hcode (TB.code.keeps I.bk) hP' ht hc TB.gP bP fun c' ctv h' tk hx hge hlt hrec htb => ?_
    obtain ⟨c2, oc, vs, t, e2, hoc, hd, hv⟩ := hrec
    cases e2
    have hsz : s.heap.objs.size ≤ h'.objs.size := Nat.le_trans hge (Nat.le_of_lt hlt)
    have nC : H c' = none := I.hok.fresh hge
    have I1 := LamX.inv_table (t' := tk) (more := #[rawInt pos.line, rawInt pos.col, .ref c']) (h' := h'.push (PySem.W.kla_obj "<lambda>" (X.env.qual ++ "<lambda>") params body scope (cloFrom X.env.cells scope.names []) ((X.mg "__name__").getD .none) c' ctv)) I hP
      (fun b o hb e => Heap.get?_push_of_some _ (hx b o hb e)) (Heap.get?_push_of_some _ htb) hge ⟨oc, vs, t, Heap.get?_push_of_some _ hoc, hd, hv⟩
    have grow : ∀ b o, b ≠ P → H b = some o → upd (upd H P (.tbl (ps ++ #[rawInt pos.line, rawInt pos.col, .ref c']))) c' (LamX.CodeO c' (X.env.qual ++ "<lambda>")) b = some o := fun b o n e => by
      rw [upd_ne (ne_of_none e nC), upd_ne n]
      exact e
    have eL : (ps ++ #[rawInt pos.line, rawInt pos.col, .ref c']).toList = ps.toList ++ [rawInt pos.line, rawInt pos.col, .ref c'] := by simp
    have hP1 : upd (upd H P (.tbl (ps ++ #[rawInt pos.line, rawInt pos.col, .ref c']))) c' (LamX.CodeO c' (X.env.qual ++ "<lambda>")) P = some (.tbl (ps ++ #[rawInt pos.line, rawInt pos.col, .ref c'])) := by rw [upd_ne (ne_of_none hP nC), upd_same]
    have ht1 : TriplesOk (ps ++ #[rawInt pos.line, rawInt pos.col, .ref c']).toList := by
      rw [eL]
      exact PySem.TriplesOk_snoc _ _ _ _ ht
    refine h h'.objs.size c' _ ctv _ _ _ I1 grow hP1 ht1 (by rw [eL]; exact codeAmong_snoc _ ht hc) ⟨_, hP1, ht1, fun p' cv hcv => ?_⟩ (Heap.get?_push_size _ rfl) ?_ (nofr _ hsz)
    · rw [eL] at hcv
      rcases LamX.among_app _ ht hcv with z | z
      · obtain ⟨c0, e1, e2⟩ := ha p' cv z
        exact ⟨c0, e1, grow _ _ (fun z => LamX.codeO_ne ps (Option.some.inj (e2.symm.trans (z ▸ hP)))) e2⟩
      · exact ⟨c', z, upd_same⟩
    · have n1 : h'.objs.size ≠ c' := Nat.ne_of_gt hlt
      have n2 : h'.objs.size ≠ P := Nat.ne_of_gt (Nat.lt_of_lt_of_le (Heap.lt_size hP') hsz)
      rw [upd_ne n1, upd_ne n2]
      exact I.hok.fresh hsz
/-- the ledger behind the making -/
theorem has_made {L : Lg} {P : Addr} {q : Str} {H1 : Hp} (hH : Has H L) (m : (P, tabM q) ∈ L) (g : ∀ b o, b ≠ P → H b = some o → H1 b = some o) (t : LamX.TabS H1 P q) : Has H1 L := by
  refine ⟨hH.1, fun e he => ?_⟩
  obtain ⟨ps, hP, _⟩ := holds_tab (hH.2 _ m)
  by_cases z : e.1 = P
  · have ee : e = (P, tabM q) := by
      have key : ∀ (M : Lg), (M.map (·.1)).Nodup → e ∈ M → (P, tabM q) ∈ M → e = (P, tabM q) := fun M nd h1 h2 => by
        induction M with
        | nil => cases h1
        | cons a M ih =>
          rw [List.map_cons] at nd
          obtain ⟨n1, n2⟩ := List.nodup_cons.mp nd
          rcases List.mem_cons.mp h1 with r1 | r1
          · rcases List.mem_cons.mp h2 with r2 | r2
            · rw [r1, r2]
            · exact absurd (List.mem_map.mpr ⟨_, r2, by rw [← r1]; exact z.symm⟩) n1
          · rcases List.mem_cons.mp h2 with r2 | r2
            · exact absurd (List.mem_map.mpr ⟨_, r1, by rw [← r2]; exact z⟩) n1
            · exact ih n2 r1 r2
      exact key L hH.1 he m
    rw [ee]
    exact holds_tab' t
  · have h1 := hH.2 e he
    obtain ⟨a, o⟩ := e
    cases o with
    | tbl m =>
      obtain ⟨r, em, ps2, e1, t2, t3⟩ := h1
      refine ⟨r, em, ps2, g _ _ z e1, t2, fun pos cv hc => ?_⟩
      obtain ⟨c0, e2, e3⟩ := t3 pos cv hc
      exact ⟨c0, e2, g _ _ (fun y => LamX.codeO_ne ps (Option.some.inj (e3.symm.trans (y ▸ hP)))) e3⟩
    | _ => exact g _ _ z h1
end
/-- the body of a lambda, wherever it is called with the names η of the def that made it -/
def LamOk (X : Cx) (scope : Scope) (body : Expr) (η : En) (k : Nat) (L : Lg) (A : QV) (E : XL) : Prop :=
  ∀ (A0 : Around) (outer : List Env) (s : Shared) (H : Hp) (Ex : XK) (f c' : Addr), RoomG k (LamX.lamCx X A0 outer s H Ex scope f c').A → Tk (LamX.lamCx X A0 outer s H Ex scope f c') (fun c d _ L' => E c d L') → GE (LamX.lamCx X A0 outer s H Ex scope f c') body η L A
/-- what a def's body may use of the lambda that it got as its parameter a: it may call it in a try where the ledger is L -/
def Act (Z : Cx) (a : Str) (f : Addr) (L : Lg) (A : QV) (E : XL) : Prop :=
  ∀ (pn : List (Addr × Obj)) (xe : Value → Shared → Prop) (W : XW) (θ : En) (p1 p2 : Pos), Tk (trX Z pn xe) W → (∀ c d L', E c d L' → W c d θ L') → At a (.ref f) θ → GE (trX Z pn xe) (.Call (.Name a p1) [] [] p2) θ L A
end G
set_option Elab.async false
set_option linter.all false
set_option maxRecDepth 100000
set_option maxHeartbeats 4000000
namespace G
open PySem PySem.Spec PyProof.Rows L2 NdefX
def clsBody : Stmt → List Stmt
  | .ClassDef _ _ _ b _ _ _ _ _ _ _ => b
  | _ => []
def clsAt (c : Stmt) (j : Nat) : Stmt := (clsBody c).getD j (.Pass ⟨0, 0, 0, 0⟩)
/-- an own error class, as its user wants it -/
structure ErrT (P : Program) (w : World) (K : PySem.W.Frag) (mg : Str → Option Value) (base : Heap) (x : Str) (C : Addr) (ns : List Str) : Prop where
  gC : mg x = some (.ref C)
  ck : ErrC P w K mg base x C ns
  ev : ErV K C
  no : ∀ n ∈ ns, PySem.W.findIn K (.ref C) n = some none
section
variable {P : Program} {w : World} {K : PySem.W.Frag} {mg : Str → Option Value} {base : Heap} {x q : Str} {st : Stmt} {C fI c cc : Addr} {n m : Str}
variable {nm qn : Str} {N : Addr} {bs bm : List Value} {sn : List Str} {sub : List Value} {ab : Bool} {col : Option Bool} {dd : Option Addr} {k0 k1 k2 k3 k5 : Option Value} {oc kV doc pm ct cl ccl : Value} {od an cld cdd : Option Addr} {osl csl ccs : Array (Option Value)} {vs : Array Value} {fl : Str} {tf : Tok} {cd : ClassData}
/-- what the written part says of an own error class with its own __init__ over ValueError's -/
structure ErrFacts (P : Program) (K : PySem.W.Frag) (x q : Str) (st : Stmt) (C fI c cc : Addr) (nm qn : Str) (N : Addr) (bs bm : List Value) (sn : List Str) (sub : List Value) (ab : Bool) (col : Option Bool) (dd : Option Addr) (k0 k1 k2 k3 k5 : Option Value) (oc kV doc pm ct cl ccl : Value) (od an cld cdd : Option Addr) (osl csl ccs : Array (Option Value)) (vs : Array Value) (fl : Str) (tf : Tok) (cd : ClassData) : Prop where
  a1 : PySem.W.nsIn K mainGlobals x = some (some (.ref C))
  a2 : K.lookup C = some (excClassObj nm qn C N bs bm true sn sub ab col dd k0 k1 k2 k3 k5 "ValueError.__new__")
  a3 : PySem.HandSPX.refsVE bm = true
  a4 : PySem.W.findIn K (.ref C) "__setattr__" = some (some (.builtin "object.__setattr__"))
  a5 : PySem.W.subIn K (.ref C) (.type "BaseException") = some true
  a6 : PySem.W.typeIn K (.ref C) = some (.type "type")
  a7 : PySem.W.keepIn K (.ref C) = true
  a8 : PySem.W.findIn K (.ref C) "__init__" = some (some (.ref fI))
  a9 : PySem.W.typeIn K (.ref fI) = some (.type "function")
  b1 : PySem.W.ks_superIn K C C "__init__" = some (some (.builtin "ValueError.__init__"))
  b2 : PySem.W.mroIn K C (.ref C) = some true
  b3 : PySem.W.subIn K (.ref C) (.type "ValueError") = some true
  b4 : K.lookup fI = some ⟨oc, od, .func (PySem.W.fnX "__init__" q (defArgs st) (defBody st) (defScope st) [("__class__", cc)] .none kV doc pm an (.ref c) ct), osl⟩
  b5 : PySem.W.codeIn K (.ref c) q = true
  b6 : K.lookup cc = some ⟨cl, cld, .cell (some (.ref C)), csl⟩
  b7 : K.lookup c = some ⟨ccl, cdd, .fields vs, ccs⟩
  b8 : vs[2]? = some (.str fl tf)
  b9 : (P.main.file == fl) = true
  c1 : PySem.W.clsIn K C = some cd
  c2 : PySem.W.findIn K (.ref C) "__getattribute__" = some (some (.builtin "BaseException.__getattribute__"))
  c3 : PySem.W.findIn K (.ref C) "__getattr__" = some none
  c4 : PySem.W.hasDictIn K C = true
  c5 : PySem.W.findIn K (.ref C) "__class__" = some (some (.builtin "object.__class__"))
  c6 : PySem.W.mroIn K C (.type "object") = some true
section
variable (F : ErrFacts P K x q st C fI c cc nm qn N bs bm sn sub ab col dd k0 k1 k2 k3 k5 oc kV doc pm ct cl ccl od an cld cdd osl csl ccs vs fl tf cd)
include F
theorem ErrFacts.sup (top : (P.main.scope.names.lookup ("super" : Str)).isSome = false) : SupF P K "__init__" q st fI c cc C (PySem.W.fnX "__init__" q (defArgs st) (defBody st) (defScope st) [("__class__", cc)] .none kV doc pm an (.ref c) ct) :=
  ⟨⟨oc, od, kV, doc, pm, ct, an, osl, rfl, F.b4⟩, F.b5, ⟨cl, cld, csl, F.b6⟩, ⟨ccl, cdd, vs, ccs, fl, tf, F.b7, F.b8, F.b9⟩, ⟨cd, F.c1⟩, top⟩
theorem ErrFacts.errK {ns : List Str} {h : Heap} (X : K.In h) (G : h.Ns mainGlobals mg) (op : PySem.W.nsIn K cStatics "thirdparty.any" = some none) (su : mg "super" = none) (no : ∀ n ∈ ns, PySem.W.findIn K (.ref C) n = some none) : ErrK K mg x C fI ns :=
  ⟨PySem.W.mg_of X G F.a1, ⟨⟨_, _, _, _, _, _, _, _, _, _, _, _, _, _, _, F.a2, F.a3⟩, F.a4, F.a5, F.a6, F.a7⟩, F.a8, F.a9, no, F.b1, F.b2, F.b3, op, su⟩
theorem ErrFacts.errV (sp : PySem.W.specialIn K (.builtin "object.__class__") "__get__" = some (some (.builtin "getset_descriptor.__get__"))) (tk : PySem.W.takesIn K (.builtin "object.__class__") = some true) : ErV K C := ⟨F.c2, F.c3, F.a5, F.c4, F.c5, sp, tk, F.c6⟩
end
/-- the top's own words, needed for every error class -/
structure ErrAll (P : Program) (K : PySem.W.Frag) (mg : Str → Option Value) : Prop where
  top : (P.main.scope.names.lookup ("super" : Str)).isSome = false
  op : PySem.W.nsIn K cStatics "thirdparty.any" = some none
  su : mg "super" = none
  sp : PySem.W.specialIn K (.builtin "object.__class__") "__get__" = some (some (.builtin "getset_descriptor.__get__"))
  tk : PySem.W.takesIn K (.builtin "object.__class__") = some true
section
variable {p0 p1 p2 p3 p4 p5 p6 q0 q1 q2 q3 r0 r1 r2 r3 : Pos} {pa0 : Arg}
/-- a class of one field: def __init__(self, n): super().__init__(n); self.n = n -/
theorem err_mk1 {h : Heap} (n : Str) (X : K.In h) (G : h.Ns mainGlobals mg) (A : ErrAll P K mg) (F : ErrFacts P K x q st C fI c cc nm qn N bs bm sn sub ab col dd k0 k1 k2 k3 k5 oc kV doc pm ct cl ccl od an cld cdd osl csl ccs vs fl tf cd) (no : PySem.W.findIn K (.ref C) n = some none)
    (S : NScope ["self", n, "__class__"] ["self", n] ["__class__"] (defScope st))
    (eb : defBody st = [.Expr (.Call (.Attribute (.Call (.Name "super" p0) [] [] p1) "__init__" p2) [.Name n p3] [] p4) p5, .Assign [.Attribute (.Name "self" q0) n q1] (.Name n q2) q3])
    (hp : ((defArgs st).posonlyargs ++ (defArgs st).args).head? = some pa0) (h0 : pa0.arg = "self") (hks : (defScope st).names.lookup ("super" : Str) = some .globalImplicit)
    (hint : ∀ L, interactive (envF (nfS "__init__" q st cc c) fI L) = false)
    (hsw1 : ∀ L, swapsWith (.Call (.Attribute (.Call (.Name "super" p0) [] [] p1) "__init__" p2) [.Name n p3] [] p4) none p5.line (envF (nfS "__init__" q st cc c) fI L) = pure false)
    (hev : ∀ L, ∃ pl : Sem Bool, eval (.Call (.Attribute (.Call (.Name "super" p0) [] [] p1) "__init__" p2) [.Name n p3] [] p4) (envF (nfS "__init__" q st cc c) fI L) = (do
      let ov ← attributeBase (.Call (.Name "super" p0) [] [] p1) "__init__" (envF (nfS "__init__" q st cc c) fI L) (eval (.Call (.Name "super" p0) [] [] p1) (envF (nfS "__init__" q st cc c) fI L))
      standAt p2.atName
      let (ff, first) ← holding [ov] (getMethod ov "__init__" pl)
      callWith p4 ff first (backTo p4 (starEach [.Name n p3] (envF (nfS "__init__" q st cc c) fI L))) []))
    (hsw2 : ∀ L, swapsWith (.Name n q2) (some (.Attribute (.Name "self" q0) n q1)) q3.line (envF (nfS "__init__" q st cc c) fI L) = pure false) (hdb : (n == ("__debug__" : Str)) = false) (hcd : (n == ("__classdict__" : Str)) = false)
    (hb : ∀ us : List Value, us.length = 2 → bindArgs (PySem.W.fnX "__init__" q (defArgs st) (defBody st) (defScope st) [("__class__", cc)] .none kV doc pm an (.ref c) ct) ⟨us, []⟩ = pure ((["self", n] : List Str).zip us)) : ErrT P w K mg base x C [n] := by
  have N1 : ∀ m ∈ [n], PySem.W.findIn K (.ref C) m = some none := fun m hm => by
    rw [List.mem_singleton.mp hm]
    exact no
  have EK := F.errK (ns := [n]) X G A.op A.su N1
  exact ⟨EK.gC, ⟨fI, _, EK, err1_ok (F.sup A.top) EK S eb hp h0 hks hint hsw1 hev hsw2 hdb hcd, .all fun us hl => hb us hl⟩, F.errV A.sp A.tk, N1⟩
/-- a class of two fields -/
theorem err_mk2 {h : Heap} (n m : Str) (X : K.In h) (G : h.Ns mainGlobals mg) (A : ErrAll P K mg) (F : ErrFacts P K x q st C fI c cc nm qn N bs bm sn sub ab col dd k0 k1 k2 k3 k5 oc kV doc pm ct cl ccl od an cld cdd osl csl ccs vs fl tf cd) (no : PySem.W.findIn K (.ref C) n = some none) (no2 : PySem.W.findIn K (.ref C) m = some none)
    (S : NScope ["self", n, m, "__class__"] ["self", n, m] ["__class__"] (defScope st))
    (eb : defBody st = [.Expr (.Call (.Attribute (.Call (.Name "super" p0) [] [] p1) "__init__" p2) [.Name n p3, .Name m p6] [] p4) p5, .Assign [.Attribute (.Name "self" q0) n q1] (.Name n q2) q3, .Assign [.Attribute (.Name "self" r0) m r1] (.Name m r2) r3])
    (hp : ((defArgs st).posonlyargs ++ (defArgs st).args).head? = some pa0) (h0 : pa0.arg = "self") (hks : (defScope st).names.lookup ("super" : Str) = some .globalImplicit)
    (hint : ∀ L, interactive (envF (nfS "__init__" q st cc c) fI L) = false)
    (hsw1 : ∀ L, swapsWith (.Call (.Attribute (.Call (.Name "super" p0) [] [] p1) "__init__" p2) [.Name n p3, .Name m p6] [] p4) none p5.line (envF (nfS "__init__" q st cc c) fI L) = pure false)
    (hev : ∀ L, ∃ pl : Sem Bool, eval (.Call (.Attribute (.Call (.Name "super" p0) [] [] p1) "__init__" p2) [.Name n p3, .Name m p6] [] p4) (envF (nfS "__init__" q st cc c) fI L) = (do
      let ov ← attributeBase (.Call (.Name "super" p0) [] [] p1) "__init__" (envF (nfS "__init__" q st cc c) fI L) (eval (.Call (.Name "super" p0) [] [] p1) (envF (nfS "__init__" q st cc c) fI L))
      standAt p2.atName
      let (ff, first) ← holding [ov] (getMethod ov "__init__" pl)
      callWith p4 ff first (backTo p4 (starEach [.Name n p3, .Name m p6] (envF (nfS "__init__" q st cc c) fI L))) []))
    (hsw2 : ∀ L, swapsWith (.Name n q2) (some (.Attribute (.Name "self" q0) n q1)) q3.line (envF (nfS "__init__" q st cc c) fI L) = pure false) (hsw3 : ∀ L, swapsWith (.Name m r2) (some (.Attribute (.Name "self" r0) m r1)) r3.line (envF (nfS "__init__" q st cc c) fI L) = pure false)
    (hdb : (n == ("__debug__" : Str)) = false) (hcd : (n == ("__classdict__" : Str)) = false) (mdb : (m == ("__debug__" : Str)) = false) (mcd : (m == ("__classdict__" : Str)) = false)
    (hb : ∀ us : List Value, us.length = 3 → bindArgs (PySem.W.fnX "__init__" q (defArgs st) (defBody st) (defScope st) [("__class__", cc)] .none kV doc pm an (.ref c) ct) ⟨us, []⟩ = pure ((["self", n, m] : List Str).zip us)) : ErrT P w K mg base x C [n, m] := by
  have N1 : ∀ y ∈ [n, m], PySem.W.findIn K (.ref C) y = some none := fun y hy => by
    rcases List.mem_cons.mp hy with rfl | hy
    · exact no
    · rw [List.mem_singleton.mp hy]
      exact no2
  have EK := F.errK (ns := [n, m]) X G A.op A.su N1
  exact ⟨EK.gC, ⟨fI, _, EK, err2_ok (F.sup A.top) EK S eb hp h0 hks hint hsw1 hev hsw2 hsw3 hdb hcd mdb mcd, .all fun us hl => hb us hl⟩, F.errV A.sp A.tk, N1⟩
end
end
section
variable {X : Cx} {η : En} {L : Lg} {Q : QV} {El : XL} {CX : CXT} {x : Str} {j k : Nat} {sp : SpL} {e : Expr} {es : List Expr} {kws : List Keyword} {pos p : Pos} {W : XW}
/-- the values of keywords, one behind another -/
def GK (X : Cx) (kws : List Keyword) (η : En) (L : Lg) (Q : List V → Lg → Prop) : Prop := match kws with
  | [] => Q [] L
  | k :: r => GE X k.value η L fun v L1 => GK X r η L1 fun vs L2 => Q (v :: vs) L2
theorem gk_nil {Q : List V → Lg → Prop} (q : Q [] L) : GK X [] η L Q := q
theorem gk_cons {k : Keyword} {Q : List V → Lg → Prop} (h : GE X k.value η L fun v L1 => GK X kws η L1 fun vs L2 => Q (v :: vs) L2) : GK X (k :: kws) η L Q := h
theorem GK.run {Q : List V → Lg → Prop} : ∀ {kws : List Keyword} {L : Lg} {Q : List V → Lg → Prop}, GK X kws η L Q → X.N = names η → ∀ (pos : Pos) (pins : List (Addr × Obj)) (s : Shared) (H : Hp), Has H L → Inv X pins (vals η) H s →
    wpAny (model X.prog X.w) X.A (evalAll ((backToKw pos (keywordEach kws X.env)).map (·.2))) (fun us s' => ∃ vs H', Inv X pins (vals η) H' s' ∧ Vals vs us ∧ ∃ L', Has H' L' ∧ Q vs L') X.xe s
  | [], L, Q, h, hN, pos, pins, s, H, hH, I => wpAny_evalAll_nil ⟨[], H, I, .nil, L, hH, h⟩
  | ⟨nm, e, kp⟩ :: r, L, Q, h, hN, pos, pins, s, H, hH, I => by
    show wpAny _ _ (evalAll ((do let v ← eval e X.env; standAt pos; pure v) :: (backToKw pos (keywordEach r X.env)).map (·.2))) _ _ s
    refine wpAny_evalAll_cons (wpAny_bind (thn (h hN H hH pins s I) fun u s1 ⟨x, H1, I1, r1, L1, h1, q1⟩ => wpAny_bind (wpAny_standAt (wpAny_pure ?_))))
    exact thn (GK.run (Q := Q) q1 hN pos pins s1 H1 h1 I1) fun us s2 ⟨xs, H2, I2, r2, L2, h2, q2⟩ => ⟨x :: xs, H2, I2, .cons r1 r2, L2, h2, q2⟩
/-- what is at f, called with values that keep φ -/
def GF (X : Cx) (η : En) (f : Addr) (args : List Value → Args) (φ : List V → Lg → Prop) (Q : QV) : Prop :=
  ∀ (pins : List (Addr × Obj)) (s : Shared) (H : Hp) (us : List Value) (vs : List V) (L : Lg), Has H L → Inv X pins (vals η) H s → Vals vs us → φ vs L → wpAny (model X.prog X.w) X.A (call (.ref f) (args us).pos (args us).kw) (EP X pins (vals η) (up Q)) X.xe s
theorem gf_of {f : Addr} {args : List Value → Args} (F : RunG X.prog X.w X.K X.mg X.base CX k f args (toSp sp)) (hr : RoomG j X.A) (hx : Passes CX X (upX El)) (hjk : k ≤ j := by decide) : GF X η f args (fun vs L => sp vs L Q El) Q := fun _ _ _ _ _ _ hH I r h => run_G F (hr.mono hjk) hx I r (up_sp hH h)
theorem gf_ofX {f : Addr} {args : List Value → Args} (F : RunG X.prog X.w X.K X.mg X.base (L2.CX X.prog X.w) k f args (toSp sp)) (hN : X.N = names η) (hr : RoomG j X.A) (tk : Tk X W) (hjk : k ≤ j := by decide) : GF X η f args (fun vs L => sp vs L Q fun c d L' => W c d η L') Q := fun _ _ _ _ _ _ hH I r h => run_x F (hr.mono hjk) tk hN hH I r h
/-- a def by its name, as a value -/
theorem gv_def {f : Addr} (hm : X.mg x = some (.ref f)) (q : Q (.ref f) L) (hg : Gl X x := by rfl) (hd : (x == ("__debug__" : Str)) = false := by decide) : GE X (.Name x pos) η L Q := ge_con (pe_glob (v := .ref f) hg hm rfl hd) q
end
/-- a maker's table, from what the written part holds -/
theorem tab_mk {K : PySem.W.Frag} {x n q : Str} {f c P : Addr} {oc kV doc pm ct e : Value} {od an dd : Option Addr} {osl sl : Array (Option Value)} {vs : Array Value} {a : Arguments} {b : List Stmt} {sc : Scope} (h1 : PySem.W.nsIn K mainGlobals x = some (some (.ref f)))
    (h2 : K.lookup f = some ⟨oc, od, .func (PySem.W.fnOf n q a b sc .none kV doc pm an (.ref c) ct), osl⟩) (h3 : K.lookup c = some ⟨e, dd, .fields vs, sl⟩) (h4 : vs[11]? = some (.ref P)) : PySem.W.tabIn K x = some (c, P) := by
  unfold PySem.W.tabIn
  rw [h1]
  simp only [h2]
  show (match K.lookup c with | some ⟨_, _, .fields vs, _⟩ => (match (vs[11]? : Option Value) with | some (.ref P) => some (c, P) | _ => none) | _ => none) = _
  simp only [h3, h4]
section
variable {X : Cx} {η : En} {L : Lg} {Q : QV} {pos : Pos}
theorem gv_ValueError (B : Bi X.mg) (q : Q (.ty "ValueError") L) (hg : Gl X "ValueError" := by rfl) : GE X (.Name "ValueError" pos) η L Q := ge_tyName B.ValueError bt_ValueError q hg (by decide) (by decide)
theorem gv_LookupError (B : Bi X.mg) (q : Q (.ty "LookupError") L) (hg : Gl X "LookupError" := by rfl) : GE X (.Name "LookupError" pos) η L Q := ge_tyName B.LookupError bt_LookupError q hg (by decide) (by decide)
/-- {} -/
theorem ge_dict0 (h : ∀ p, Q (.ref p) ((p, .dK []) :: L)) : GE X (.Dict [] [] pos) η L Q := fun _ H hH => WE.of pe_dnewK fun p hp => ⟨_, hH.new hp, h p⟩
end
end G
set_option Elab.async false
set_option linter.all false
set_option maxRecDepth 100000
set_option maxHeartbeats 4000000
namespace G
open PySem PySem.Spec PyProof.Rows L2
section
variable {X : Cx} {η : En} {L : Lg} {Q : QV} {p q : Addr} {xs ys : List V} {i k : Int}
theorem go_cat (m1 : (p, HO.lst xs) ∈ L) (m2 : (q, HO.lst ys) ∈ L) (z : xs.length + ys.length ≤ sizeLine) (h : ∀ r, Q (.ref r) ((r, .lst (xs ++ ys)) :: L)) : GOp X (binaryOp .Add) (.ref p) (.ref q) L Q := GOp.of op_cat fun H hH => ⟨p, q, xs, ys, rfl, rfl, hH.get m1, hH.get m2, z, fun r hr => ⟨_, hH.new hr, h r⟩⟩
theorem go_rep (m1 : (p, HO.lst xs) ∈ L) (k0 : -(2 ^ 63) ≤ k) (k1 : k < 2 ^ 63) (z : xs.length * k.toNat ≤ sizeLine) (h : ∀ r, Q (.ref r) ((r, .lst (List.replicate k.toNat xs).flatten) :: L)) : GOp X (binaryOp .Mult) (.ref p) (.int k) L Q := GOp.of op_rep fun H hH => ⟨p, k, xs, rfl, rfl, hH.get m1, k0, k1, z, fun r hr => ⟨_, hH.new hr, h r⟩⟩
/-- lists of ints compared -/
theorem go_eqI {j : Nat} {ns ms : List Int} (hr : RoomG j X.A) (m1 : (p, HO.lst (ns.map V.int)) ∈ L) (m2 : (q, HO.lst (ms.map V.int)) ∈ L) (h : Q (.bl (decide (ns = ms))) L) : GOp X (compareOp .Eq) (.ref p) (.ref q) L Q :=
  go_eqD hr.toRoom (dl_lst m1 dls_ints) (dl_lst m2 dls_ints) (shapedL _) (shapedL _) (by rw [eqvL]; exact h)
theorem go_neI {j : Nat} {ns ms : List Int} (hr : RoomG j X.A) (m1 : (p, HO.lst (ns.map V.int)) ∈ L) (m2 : (q, HO.lst (ms.map V.int)) ∈ L) (h : Q (.bl (!decide (ns = ms))) L) : GOp X (compareOp .NotEq) (.ref p) (.ref q) L Q :=
  go_neD hr.toRoom (dl_lst m1 dls_ints) (dl_lst m2 dls_ints) (shapedL _) (shapedL _) (by rw [eqvL]; exact h)
end
/-- a datum that repr shows, within n signs and k levels -/
structure Sh (d : PyData) (n k : Nat) : Prop where
  s : d.showable = true
  dp : d.depth ≤ k
  l : d.shown.length ≤ n
theorem log_lt {i : Int} (h : i.natAbs < 2 ^ 1920) : i.natAbs.log2 < 1920 := by
  by_cases z : i.natAbs = 0
  · rw [z]
    decide
  · exact (Nat.log2_lt z).mpr h
theorem Sh.up {d : PyData} {n k n' k' : Nat} (h : Sh d n k) (a : n ≤ n') (b : k ≤ k') : Sh d n' k' := ⟨h.s, Nat.le_trans h.dp b, Nat.le_trans h.l a⟩
section
variable {X : Cx} {η : En} {L : Lg} {Q : QV} {e : Expr} {p pos : Pos} {k n m : Nat}
theorem szL (h : n ≤ 16777216) : n ≤ sizeLine := by
  rw [sizeLine_eq]
  exact h
end
theorem range_more {p : Nat → Bool} {g : Nat → V} {i : Nat} : ((List.range (i + 1)).filter p).map g = ((List.range i).filter p).map g ++ (if p i = true then [g i] else []) := by
  rw [List.range_succ, List.filter_append, List.map_append]
  congr 1
  by_cases h : p i = true
  · rw [if_pos h, List.filter_cons_of_pos h]
    rfl
  · rw [if_neg h, List.filter_cons_of_neg h]
    rfl
theorem GTs.sub {X : Cx} {ifs : List Expr} {η : En} {L M : Lg} {Q : Bool → Lg → Prop} (s : Sub M L) (h : GTs X ifs η M fun b M1 => ∀ M2, Sub M1 M2 → Q b M2) : GTs X ifs η L Q := by
  match ifs, h with
  | [], h => exact h _ s
  | [c], h => exact GT.sub s (h.imp fun b M1 q => q _ .refl)
section
variable {X : Cx} {η : En} {L : Lg} {elt iter tg : Expr} {ifs : List Expr} {scope : Scope} {pos p1 p2 p3 : Pos} {x y : Str} {f : V → En} {Q : QV}
/-- what such a comprehension is shown of; st: how an item is stored -/
structure PureC (X : Cx) (scope : Scope) (ifs : List Expr) (elt : Expr) (S : Src) (L : Lg) (st : V → Lg → (En → Lg → Prop) → Prop) (p : Nat → Bool) (g : Nat → V) : Prop where
  n : S.n ≤ 1000000
  kp : ∀ M, (∀ e ∈ L, e ∈ M) → S.keep M
  tn : ∀ i x E D acc M, i < S.n → S.item i x E → ((E ++ M).map (·.1)).Nodup → Sub ((D, .lst acc) :: L) M → st x (E ++ M) fun θ M' => AllBlk X scope fun B => GTs B ifs θ M' fun b M1 => b = p i ∧ Sub ((D, .lst acc) :: L) M1 ∧ (b = true → AllBlk X scope fun B => GE B elt θ M1 fun z M2 => z = g i ∧ Sub ((D, .lst acc) :: L) M2)
theorem GE.undrp {e : Expr} (h : GE X e η L (drp Q)) : GE X e η L Q := fun hN H hH => (h hN H hH).mono fun v H' ⟨M, hM, N, s, q⟩ => ⟨N, s H' hM, q⟩
theorem GS.undrp {st : Stmt} {D : GD} (h : GS X st { D with nx := fun θ M => ∃ N, Sub N M ∧ D.nx θ N } η L) : GS X st D η L := fun hN H hH =>
  (h hN H hH).mono (fun σ H' ⟨θ, M, n1, es, hM, N, s, q⟩ => ⟨θ, N, n1, es, s H' hM, q⟩) (fun _ _ z => z) (fun _ _ z => z) fun _ _ z => z
theorem filter_le {p : Nat → Bool} {g : Nat → V} {i : Nat} : (((List.range i).filter p).map g).length ≤ i := by
  rw [List.length_map]
  exact Nat.le_trans (List.length_filter_le _ _) (by rw [List.length_range]; exact Nat.le_refl _)
theorem PureC.lc {S : Src} {st : V → Lg → (En → Lg → Prop) → Prop} {p : Nat → Bool} {g : Nat → V} (h : PureC X scope ifs elt S L st p g) (mono : ∀ v M (k k' : En → Lg → Prop), (∀ θ M', k θ M' → k' θ M') → st v M k → st v M k') (D : Addr)
    (q : Q (.ref D) ((D, .lst (((List.range S.n).filter p).map g)) :: L)) : ∃ Pv, LcS X scope ifs elt S D L st Pv (drp Q) := by
  refine ⟨fun i M => Sub ((D, .lst (((List.range i).filter p).map g)) :: L) M, Sub.refl, fun i M _ nd s => h.kp M fun e m => (s.to nd).2 e (List.mem_cons_of_mem _ m), fun i x E M hi it nd s => ?_, fun M s => ⟨_, s, q⟩⟩
  refine mono x (E ++ M) _ _ (fun θ M' k => ?_) (h.tn i x E D _ M hi it nd s)
  intro s1 H1 C1 cl1 fp1
  have k1 := k s1 H1 C1 cl1 fp1
  have more := range_more (p := p) (g := g) (i := i)
  have key : ∀ b M1, (b = p i ∧ Sub ((D, .lst (((List.range i).filter p).map g)) :: L) M1 ∧ (b = true → AllBlk X scope fun B => GE B elt θ M1 fun z M2 => z = g i ∧ Sub ((D, .lst (((List.range i).filter p).map g)) :: L) M2)) →
      if b = true then AllBlk X scope fun B => GE B elt θ M1 fun y M2 => ∃ acc M3, (D, HO.lst acc) ∈ M2 ∧ acc.length < sizeLine ∧ Swap D (.lst (acc ++ [y])) M2 M3 ∧ Sub ((D, .lst (((List.range (i + 1)).filter p).map g)) :: L) M3 else Sub ((D, .lst (((List.range (i + 1)).filter p).map g)) :: L) M1 := fun b M1 ⟨eb, sb, hb⟩ => by
    cases b with
    | true =>
      rw [if_pos rfl]
      intro s2 H2 C2 cl2 fp2
      refine GE.nd ((hb rfl s2 H2 C2 cl2 fp2).imp fun y M2 ⟨ey, s3⟩ nd => ?_)
      have m2 := (s3.to nd).2 _ List.mem_cons_self
      obtain ⟨M3, sw⟩ := Swap.ex (o := .lst (((List.range i).filter p).map g ++ [y])) (u := .lst (((List.range i).filter p).map g)) rfl m2
      refine ⟨_, M3, m2, ?_, sw, ?_⟩
      · have := filter_le (p := p) (g := g) (i := i)
        have := h.n
        rw [sizeLine_eq]
        omega
      · rw [more, if_pos eb.symm, ← ey]
        exact s3.swap sw
    | false =>
      rw [if_neg Bool.false_ne_true, more, if_neg (by rw [← eb]; exact Bool.false_ne_true), List.append_nil]
      exact sb
  match ifs, k1 with
  | [], k1 => exact key _ _ k1
  | [c], k1 => exact k1.imp fun b M1 z => key b M1 z
theorem GI.imp {Q Q' : Src → Lg → Prop} (h : GI X tg iter η L Q) (m : ∀ S L1, Q S L1 → Q' S L1) : GI X tg iter η L Q' := fun hN H hH pins s I =>
  wpAny_mono (h hN H hH pins s I) (fun v s1 z => wpAny_mono z (fun itv s2 ⟨it, fp, tn, J, H1, ev, I2, T, t0, f2, L1, S, k1, ok, q⟩ => ⟨it, fp, tn, J, H1, ev, I2, T, t0, f2, L1, S, k1, ok, m S L1 q⟩) fun _ _ z => z) fun _ _ z => z
/-- what is shown of a pure comprehension: R what holds of the new list -/
def PureL (X : Cx) (scope : Scope) (ifs : List Expr) (elt : Expr) (st : V → Lg → (En → Lg → Prop) → Prop) (R : V → Lg → Prop) (S : Src) (L1 : Lg) : Prop := ∃ p g, PureC X scope ifs elt S L1 st p g ∧ ∀ D, R (.ref D) ((D, .lst (((List.range S.n).filter p).map g)) :: L1)
abbrev stOne (f : V → En) : V → Lg → (En → Lg → Prop) → Prop := fun v M k => k (f v) M
abbrev stTwo (g : V → V → En) : V → Lg → (En → Lg → Prop) → Prop := fun v M k => ∃ p a b, v = .ref p ∧ (p, HO.tup [a, b]) ∈ M ∧ k (g a b) M
theorem monoOne {f : V → En} : ∀ v M (k k' : En → Lg → Prop), (∀ θ M', k θ M' → k' θ M') → stOne f v M k → stOne f v M k' := fun _ _ _ _ m z => m _ _ z
theorem monoTwo {g : V → V → En} : ∀ v M (k k' : En → Lg → Prop), (∀ θ M', k θ M' → k' θ M') → stTwo g v M k → stTwo g v M k' := fun _ _ _ _ m ⟨p, a, b, e, h, z⟩ => ⟨p, a, b, e, h, m _ _ z⟩
/-- [elt for x in iter if ..], all parts pure -/
theorem ge_lcP (P : PutF x η f) (h : GI X (.Name x p1) iter η L (PureL X scope ifs elt (stOne f) Q)) (hb : blkC X.N X.env.scope scope [(x, X.N.idxOf x)] = true) (hlx : LocB X scope x := by exact fun _ _ _ _ _ => ⟨.inl rfl, .inr rfl⟩)
    (hN : X.N.Nodup := by assumption) (hc : X.calm = true := by rfl) (hs : ∀ z, foldedSetIterable iter X.env z = pure z := by intro _; rfl) : GE X (.ListComp elt [⟨.Name x p1, iter, ifs, 0⟩] scope pos) η L Q :=
  GE.undrp (ge_lc1 P (h.imp fun S L1 ⟨p, g, pc, q⟩ D => pc.lc monoOne D (q D)) hb hlx hN hc hs)
theorem ge_lcP2 {g : V → V → En} {kt : Nat} {pt : Pos} (P : PutF x η f) (R : ∀ v, PutF y (f v) (g v)) (h : GI X (.Tuple [.Name x p1, .Name y p2] kt pt) iter η L (PureL X scope ifs elt (stTwo g) Q)) (hxy : x ≠ y) (hb : blkC X.N X.env.scope scope [(x, X.N.idxOf x), (y, X.N.idxOf y)] = true) (hlx : LocB X scope x := by exact fun _ _ _ _ _ => ⟨.inl rfl, .inr rfl⟩) (hly : LocB X scope y := by exact fun _ _ _ _ _ => ⟨.inl rfl, .inr rfl⟩)
    (hN : X.N.Nodup := by assumption) (hc : X.calm = true := by rfl) (hs : ∀ z, foldedSetIterable iter X.env z = pure z := by intro _; rfl) : GE X (.ListComp elt [⟨.Tuple [.Name x p1, .Name y p2] kt pt, iter, ifs, 0⟩] scope pos) η L Q :=
  GE.undrp (ge_lc2 P R (h.imp fun S L1 ⟨p, g, pc, q⟩ D => pc.lc monoTwo D (q D)) hxy hb hlx hly hN hc hs)
theorem gs_lcP {D : GD} {fy : V → En} {py : Pos} (Py : PutF y η fy) (P : PutF x η f) (h : GI X (.Name x p1) iter η L (PureL X scope ifs elt (stOne f) fun v M => D.nx (fy v) M)) (hb : blkC X.N X.env.scope scope [(x, X.N.idxOf x)] = true) (hlx : LocB X scope x := by exact fun _ _ _ _ _ => ⟨.inl rfl, .inr rfl⟩)
    (hyl : X.env.scope.names.lookup y = some .local := by rfl) (hsw : swapsWith (.ListComp elt [⟨.Name x p1, iter, ifs, 0⟩] scope pos) (some (.Name y py)) p3.line X.env = pure true := by rfl)
    (hN : X.N.Nodup := by assumption) (hc : X.calm = true := by rfl) (hs : ∀ z, foldedSetIterable iter X.env z = pure z := by intro _; rfl) : GS X (.Assign [.Name y py] (.ListComp elt [⟨.Name x p1, iter, ifs, 0⟩] scope pos) p3) D η L :=
  GS.undrp (gs_lc1 Py P (h.imp fun S L1 ⟨p, g, pc, q⟩ d => pc.lc (Q := fun v M => D.nx (fy v) M) monoOne d (q d)) hb hlx hyl hsw hN hc hs)
end
section
variable {X : Cx} {L : Lg} {elt : Expr} {ifs : List Expr} {scope : Scope} {f : V → En} {R : V → Lg → Prop} {q : Addr} {xs : List V} {t : V → Bool} {g : V → V}
/-- a pure comprehension's turn: the test, then the element -/
abbrev TurnP (X : Cx) (scope : Scope) (ifs : List Expr) (elt : Expr) (L : Lg) (θ : En) (b0 : Bool) (z0 : V) : Prop := ∀ D acc, AllBlk X scope fun B => GTs B ifs θ ((D, .lst acc) :: L) fun b M1 => b = b0 ∧ Sub ((D, .lst acc) :: L) M1 ∧ (b = true → AllBlk X scope fun B => GE B elt θ M1 fun z M2 => z = z0 ∧ Sub ((D, .lst acc) :: L) M2)
theorem turnP_use {st : V → Lg → (En → Lg → Prop) → Prop} {θ : En} {b0 : Bool} {z0 : V} (h : TurnP X scope ifs elt L θ b0 z0) {D : Addr} {acc : List V} {M : Lg} (s : Sub ((D, .lst acc) :: L) M) :
    AllBlk X scope fun B => GTs B ifs θ M fun b M1 => b = b0 ∧ Sub ((D, .lst acc) :: L) M1 ∧ (b = true → AllBlk X scope fun B => GE B elt θ M1 fun z M2 => z = z0 ∧ Sub ((D, .lst acc) :: L) M2) := fun s1 H1 C1 cl1 fp1 => by
  refine GTs.sub s ?_
  have k := h D acc s1 H1 C1 cl1 fp1
  have key : ∀ b M1, (b = b0 ∧ Sub ((D, .lst acc) :: L) M1 ∧ (b = true → AllBlk X scope fun B => GE B elt θ M1 fun z M2 => z = z0 ∧ Sub ((D, .lst acc) :: L) M2)) → ∀ M2, Sub M1 M2 → b = b0 ∧ Sub ((D, .lst acc) :: L) M2 ∧ (b = true → AllBlk X scope fun B => GE B elt θ M2 fun z M2 => z = z0 ∧ Sub ((D, .lst acc) :: L) M2) :=
    fun b M1 ⟨e, s1, k⟩ M2 s2 => ⟨e, s1.trans s2, fun hb s3 H3 C3 cl3 fp3 => GE.sub s2 (k hb s3 H3 C3 cl3 fp3)⟩
  match ifs, k with
  | [], k => exact key _ _ k
  | [c], k => exact k.imp key
/-- over the numbers of a range -/
theorem pure_fn {n : Nat} {h : Nat → V} {p : Nat → Bool} {g : Nat → V} (hl : n ≤ 1000000) (ht : ∀ i, i < n → TurnP X scope ifs elt L (f (h i)) (p i) (g i)) (r : ∀ D, R (.ref D) ((D, .lst (((List.range n).filter p).map g)) :: L)) : PureL X scope ifs elt (stOne f) R ⟨n, fun _ => True, itemFn h⟩ L := by
  refine ⟨p, g, ⟨hl, fun _ _ => True.intro, fun i x E D acc M hi ⟨hx, hE⟩ _ s => ?_⟩, r⟩
  subst hE hx
  exact turnP_use (st := stOne f) (ht i hi) s
end
end G
set_option Elab.async false
set_option linter.all false
set_option maxRecDepth 100000
set_option maxHeartbeats 4000000
namespace G
open PySem PySem.Spec PyProof.Rows L2
abbrev penO (c : Addr) (n m : Int) : HO := .lst [.ref c, .int n, .int m]
abbrev celO (ns : List Int) : HO := .lst (ns.map V.int)
def spDraw : SpL := fun vs L Q _ => ∃ (p c : Addr) (ns : List Int) (n m many : Int) (R : Lg), vs = [.ref p, .int many] ∧ Sub ((p, penO c n m) :: (c, celO ns) :: R) L ∧ ns.length ≤ 63 ∧ 0 < many ∧ many < 2 ^ 64 ∧ 0 ≤ n ∧ n ≤ 100000 ∧ 0 ≤ m ∧
  ∀ d n' m', 0 ≤ d → d < many → 0 ≤ n' → n' ≤ n + 1 → 0 ≤ m' → Q (.int d) ((p, penO c n' m') :: (c, celO ns) :: R)
theorem cut63 {ns : List Int} : ∃ ms : List Int, ms.length ≤ 63 ∧ cutV (ns.map V.int) none (some 63) = ms.map V.int := by
  refine ⟨ns.take 63, by rw [List.length_take]; omega, ?_⟩
  unfold cutV
  have e1 : HT.sIx (ns.map V.int).length 0 none = 0 := rfl
  have e2 : HT.sIx (ns.map V.int).length (ns.map V.int).length (some 63) = min 63 (ns.map V.int).length := HT.sIx_nat _ _ 63
  rw [e1, e2, List.drop_zero, Nat.sub_zero, List.map_take, ← List.take_take, List.take_length]
/-- a list, one of which is drawn -/
def spPick : SpL := fun vs L Q _ => ∃ (p c q : Addr) (ns : List Int) (xs : List V) (n m : Int) (R : Lg), vs = [.ref p, .ref q] ∧ Sub ((p, penO c n m) :: (c, celO ns) :: R) L ∧ (q, HO.lst xs) ∈ R ∧ ns.length ≤ 63 ∧ 0 < xs.length ∧ xs.length < 1000 ∧ 0 ≤ n ∧ n ≤ 100000 ∧ 0 ≤ m ∧
  ∀ (k : Nat) (x : V) n' m', xs[k]? = some x → 0 ≤ n' → n' ≤ n + 1 → 0 ≤ m' → Q x ((p, penO c n' m') :: (c, celO ns) :: R)
theorem gts_nil {X : Cx} {η : En} {L : Lg} {Q : Bool → Lg → Prop} (q : Q true L) : GTs X [] η L Q := q
theorem tk0 {X : Cx} : Tk X (fun _ _ _ _ => False) := (L2.takes0 (X := X)).imp fun _ _ _ _ ⟨_, _, _, _, _, z⟩ => z.elim
theorem rdSub {L M : Lg} {v : V} {d : PyData} (s : Sub M L) (h : Rd M v d) : Rd L v d := fun X pins σ H s' u hH I r => h X pins σ H s' u (s H hH) I r
section
variable {X : Cx} {L : Lg} {Q : QV} {a b : Str} {i j : Int}
/-- texts that are the same -/
theorem go_eqS (e : a = b) (h : Q (.bl true) L) : GOp X (compareOp .Eq) (.str a) (.str b) L Q := go_eqV rfl (by rw [e, decide_eq_true rfl]; exact h)
theorem go_neS (e : a = b) (h : Q (.bl false) L) : GOp X (compareOp .NotEq) (.str a) (.str b) L Q := go_neV rfl (by rw [e, decide_eq_true rfl]; exact h)
end
end G
set_option Elab.async false
set_option linter.all false
set_option maxRecDepth 100000
set_option maxHeartbeats 4000000
namespace G
open PySem PySem.Spec PyProof.Rows L2
/-- the def x, and its code object -/
def DfC (K : PySem.W.Frag) (mg : Str → Option Value) (x : Str) (st : Stmt) (c : Addr) : Prop :=
  ∃ (f : Addr) (oc : Value) (od : Option Addr) (kV doc pm : Value) (an : Option Addr) (ct : Value) (osl : Array (Option Value)), mg x = some (.ref f) ∧
    K.lookup f = some ⟨oc, od, .func (PySem.W.fnOf x x (defArgs st) (defBody st) (defScope st) .none kV doc pm an (.ref c) ct), osl⟩ ∧ PySem.W.codeIn K (.ref c) x = true ∧ PySem.W.keepIn K (.ref f) = true
section
variable {P : Program} {w : World} {K : PySem.W.Frag} {mg : Str → Option Value} {base : Heap}
abbrev BodyC (P : Program) (w : World) (K : PySem.W.Frag) (mg : Str → Option Value) (base : Heap) (N : List Str) (q : Str) (st : Stmt) (k : Nat) (c : Addr) (sp : SpL) : Prop :=
  ∀ (X : Cx) (f : Addr) (A : Around) (outer : List Env) (s : Shared) (H : Hp) (E0 : XK) (L : Lg) (vs : List V) (Q : QV) (E : XL), X = cx0 P w K mg base N q (defScope st) f (.ref c) A outer s H E0 → X.N.Nodup → RoomG k X.A → sp vs L Q E → GSs X (defBody st) (bodyD Q) (begun N vs) L
theorem fn_plainC {x : Str} {st : Stmt} {N ps : List Str} {k : Nat} {c : Addr} {sp : SpL} (F : DfC K mg x st c) (S : FnScope N ps (defScope st))
    (hb : ∀ (kV doc pm : Value) (an : Option Addr) (cdv ct : Value) (us : List Value), us.length = ps.length → bindArgs (PySem.W.fnOf x x (defArgs st) (defBody st) (defScope st) .none kV doc pm an cdv ct) ⟨us, []⟩ = pure (ps.zip us))
    (hl : ps.length ≤ N.length) (len : ∀ vs L Q E, sp vs L Q E → vs.length = ps.length) (body : BodyC P w K mg base N x st k c sp) : Fn P w K mg base CX0 x (k + 1) sp := by
  obtain ⟨f, oc, od, kV, doc, pm, an, ct, osl, hm, lk, hcd, kp⟩ := F
  refine ⟨f, hm, kp, ?_⟩
  intro A outer s H us vs Q E hr e0 r hsp
  obtain ⟨L, Ql, El, hH, h, hq, _⟩ := hsp
  have hn : vs.length = ps.length := len _ L Ql El h
  have hlv : vs.length ≤ N.length := by
    rw [hn]
    exact hl
  exact LamX.run_ofS (CX := CX0) lk hcd S hr.toRoom e0 (.of_eq (hb kV doc pm an (.ref c) ct us (by rw [← r.length]; exact hn))) r hn fun hr2 =>
    ⟨WSs _ (defBody st), PSs.nox pss_W, body_end (X := cx0 P w K mg base N x (defScope st) f (.ref c) A outer s H E) hlv hq hH (body _ f A outer s H E L vs Ql El rfl S.nd ⟨hr2, guard_deeper hr.gd⟩ h)⟩
end
/-- two entries behind others -/
theorem rotL {a b : Addr × HO} {R : Lg} (l : Lg) : Sub (a :: b :: (l ++ R)) (l ++ (a :: b :: R)) := Sub.perm (by
  refine List.Perm.trans (l₂ := a :: (l ++ (b :: R))) (.cons a ?_) ?_
  · exact List.perm_middle.symm
  · exact List.perm_middle.symm)
theorem rot12 {a b c : Addr × HO} {R : Lg} : Sub (a :: b :: c :: R) (c :: a :: b :: R) := rotL [_]
section
variable {X : Cx} {L : Lg} {Q : QV} {p q : Addr}
theorem dls_strs : ∀ {ss : List Str}, Dls L (ss.map V.str) (ss.map PyData.str)
  | [] => dls_nil
  | _ :: _ => dls_cons dl_str dls_strs
theorem depthStrs : ∀ ns : List Str, PyData.depthAll (ns.map PyData.str) = 0
  | [] => by simp [PyData.depthAll]
  | n :: r => by
    have e := depthStrs r
    simp [PyData.depthAll, PyData.depth, e]
theorem layStrs : ∀ ns : List Str, (∀ s ∈ ns, PyData.strOk s = true) → PyData.canLayAll0 (ns.map PyData.str) = true
  | [], _ => by simp [PyData.canLayAll0]
  | n :: r, h => by
    have e := layStrs r fun s hs => h s (List.mem_cons_of_mem _ hs)
    have k := h n (List.mem_cons_self ..)
    simp [PyData.canLayAll0, PyData.canLay0, e, k]
theorem shapedS {ns : List Str} (h : ∀ s ∈ ns, PyData.strOk s = true) : SeqAt.shaped (.list (ns.map PyData.str)) = true := by
  have a := depthStrs ns
  have b := layStrs ns h
  simp [SeqAt.shaped, PyData.canLay0, PyData.depth, a, b]
theorem eqvStrs : ∀ ns ms : List Str, PyData.eqvAll (ns.map PyData.str) (ms.map PyData.str) = decide (ns = ms)
  | [], [] => by simp [PyData.eqvAll]
  | [], m :: r => by simp [PyData.eqvAll]
  | n :: r, [] => by simp [PyData.eqvAll]
  | n :: r, m :: q => by
    have e := eqvStrs r q
    simp [PyData.eqvAll, PyData.eqv, e]
    by_cases h : n = m <;> by_cases k : r = q <;> simp [h, k]
theorem eqvLS (ns ms : List Str) : PyData.eqv (.list (ns.map PyData.str)) (.list (ms.map PyData.str)) = decide (ns = ms) := by
  rw [← eqvStrs]
  simp [PyData.eqv]
theorem go_neLS {j : Nat} {xs ys : List V} {ns ms : List Str} (hr : RoomG j X.A) (m1 : (p, HO.lst xs) ∈ L) (m2 : (q, HO.lst ys) ∈ L) (e1 : xs = ns.map V.str) (e2 : ys = ms.map V.str) (s1 : ∀ s ∈ ns, PyData.strOk s = true) (s2 : ∀ s ∈ ms, PyData.strOk s = true) (h : Q (.bl (!decide (ns = ms))) L) : GOp X (compareOp .NotEq) (.ref p) (.ref q) L Q := by
  subst e1
  subst e2
  exact go_neD hr.toRoom (dl_lst m1 dls_strs) (dl_lst m2 dls_strs) (shapedS s1) (shapedS s2) (by rw [eqvLS]; exact h)
theorem go_eqLI {j : Nat} {xs ys : List V} {ns ms : List Int} (hr : RoomG j X.A) (m1 : (p, HO.lst xs) ∈ L) (m2 : (q, HO.lst ys) ∈ L) (e1 : xs = ns.map V.int) (e2 : ys = ms.map V.int) (h : Q (.bl (decide (ns = ms))) L) : GOp X (compareOp .Eq) (.ref p) (.ref q) L Q := by
  subst e1
  subst e2
  exact go_eqI hr m1 m2 h
theorem go_neLI {j : Nat} {xs ys : List V} {ns ms : List Int} (hr : RoomG j X.A) (m1 : (p, HO.lst xs) ∈ L) (m2 : (q, HO.lst ys) ∈ L) (e1 : xs = ns.map V.int) (e2 : ys = ms.map V.int) (h : Q (.bl (!decide (ns = ms))) L) : GOp X (compareOp .NotEq) (.ref p) (.ref q) L Q := by
  subst e1
  subst e2
  exact go_neI hr m1 m2 h
end
/-- a value that is shown, and of which the kind is known -/
structure Odd (L : Lg) (v : V) (d : PyData) : Prop where
  kd : ∃ T, Knd L v T
  rd : Rd L v d
  s : d.showable = true
  dp : d.depth ≤ 60
  sz : d.shown.length ≤ 100000
  ok : PyData.strOk d.shown = true
theorem Odd.drop {L : Lg} {v : V} {d : PyData} {a : Addr × HO} (h : Odd L v d) : Odd (a :: L) v d := by
  obtain ⟨T, k⟩ := h.kd
  exact ⟨⟨T, k.sub fun e m => memS m⟩, rdSub Sub.drop h.rd, h.s, h.dp, h.sz, h.ok⟩
theorem GG.sub {X : Cx} {tg : Expr} {v : V} {η : En} {L M : Lg} {Q : En → Lg → Prop} (s : Sub M L) (h : GG X tg v η M Q) : GG X tg v η L Q := fun hN H hH => h hN H (s H hH)
end G
set_option Elab.async false
set_option linter.all false
set_option maxRecDepth 100000
set_option maxHeartbeats 4000000
namespace G
open PySem PySem.Spec PyProof.Rows L2
theorem RoomG.make {k : Nat} {A : Around} (r : RoomG (k + 1) A) (C : Addr) (us : List Value) (kw : List (Str × Value)) : RoomG k (A.under (.builtin "type.__call__" ⟨.ref C :: us, kw⟩)) := ⟨r.toRoom.make C us kw, r.gd⟩
section
variable {X : Cx} {CX : CXT} {k : Nat} {C f : Addr} {sp : Sp} {E : XK} {args : List Value → Args}
/-- C(..): a new instance and its dict, then __init__ -/
theorem run_makeG {pins : List (Addr × Obj)} {σ : L2.St} {H : Hp} {s : Shared} {Q : VK} {us : List Value} {vs : List V} {ps : List Value} {kw : List (Str × Value)} (M : Mk X.K C f) (F : RunG X.prog X.w X.K X.mg X.base CX k f args sp) (hr : RoomG (k + 1) X.A) (hx : PassesAt CX X σ E) (I : Inv X pins σ H s) (r : Vals vs us)
    (ha : ∀ y : Value, args (y :: us) = ⟨y :: ps, kw⟩)
    (h : ∀ x dx, H x = none → H dx = none → dx ≠ x → sp (.ref x :: vs) (upd (upd H dx (.own x)) x (.ins C dx [])) (fun v H2 => v = .non ∧ Q (.ref x) H2) E) : wpAny (model X.prog X.w) X.A (call (.ref C) ps kw) (EP X pins σ Q) X.xe s := by
  have hq := h (s.heap.objs.size + 1) s.heap.objs.size (I.hok.fresh (Nat.le_succ _)) (I.hok.fresh (Nat.le_refl _)) (Nat.ne_of_lt (Nat.lt_succ_self _))
  have I2 := Inv.made (C := C) I
  have z := F _ X.stack _ _ (.ref (s.heap.objs.size + 1) :: us) (.ref (s.heap.objs.size + 1) :: vs) _ E (hr.make C ps kw) (I2.env0.make C ps kw) (.cons rfl r) hq
  rw [ha] at z
  refine wpAny_call (make_map (f := f) I.kIn M.makes M.init (beq_iff_eq.mp M.fn) (codeAny_mono z fun r s' hq' => ?_))
  cases r with
  | error e => exact hx pins _ _ e s' I2 hq'
  | ok fl =>
    cases fl with
    | ret u =>
      obtain ⟨v, H', I3, rv, ev, q3⟩ := I2.after hq'
      subst ev
      exact ⟨rv, ⟨V.ref (s.heap.objs.size + 1), H', I3, rfl, q3⟩⟩
    | next => exact False.elim hq'
    | brk => exact False.elim hq'
    | cont => exact False.elim hq'
end
section
variable {X : Cx} {CX : CXT} {j k : Nat} {C f g p : Addr} {sp : SpL} {El : XL} {args argsI : List Value → Args} {η : En} {L : Lg} {Q : QV} {W : XW} {x n m : Str} {e o value : Expr} {es : List Expr} {D : GD} {pos pos' p1 : Pos} {a dx : Addr} {fs : List (Str × V)} {v y : V} {u : Value}
/-- what __init__ is shown at the new instance -/
abbrev InitSp (C : Addr) (sp : SpL) (Q : QV) (El : XL) : List V → Lg → Prop := fun vs L => ∀ x dx, sp (.ref x :: vs) ((x, .ins C dx []) :: (dx, .own x) :: L) (fun v L' => v = .non ∧ Q (.ref x) L') El
theorem init_sp {H : Hp} {vs : List V} {E : XK} (hH : Has H L) (h : InitSp C sp Q El vs L) (he : ∀ c d L' H', Has H' L' → El c d L' → E c d H') : ∀ x dx, H x = none → H dx = none → dx ≠ x → toSp sp (.ref x :: vs) (upd (upd H dx (.own x)) x (.ins C dx [])) (fun v H2 => v = .non ∧ up Q (.ref x) H2) E := fun x dx hx hdx ne =>
  ⟨_, _, El, (hH.new hdx).new (by rw [upd_ne (Ne.symm ne)]; exact hx), h x dx, fun v L' H' h' q => ⟨q.1, L', h', q.2⟩, he⟩
theorem gf_make (M : Mk X.K C f) (F : RunG X.prog X.w X.K X.mg X.base CX k f argsI (toSp sp)) (ha : ∀ y us, argsI (y :: us) = ⟨y :: (args us).pos, (args us).kw⟩) (hr : RoomG j X.A) (hx : Passes CX X (upX El)) (hjk : k + 1 ≤ j := by decide) : GF X η C args (InitSp C sp Q El) Q := fun pins s H us vs L hH I r h =>
  run_makeG M F (hr.mono hjk) (fun pins => hx pins _) I r (fun y => ha y us) (init_sp hH h fun c d L' H' h' q => ⟨L', h', q⟩)
/-- x(..), x a global that holds a thing of which GF tells -/
theorem ge_callF {φ : List V → Lg → Prop} (hm : X.mg x = some (.ref f)) (hk : PySem.W.keepIn X.K (.ref f) = true) (F : X.N = names η → GF X η f argsP φ Q) (h : GA X (e :: es) η L φ) (hg : Gl X x := by rfl) (hd : (x == ("__debug__" : Str)) = false := by decide)
    (he : starEach (e :: es) X.env = (false, eval e X.env) :: starEach es X.env := by rfl) (hpl : (backTo pos (starEach es X.env)).any (·.1) = false := by rfl) : GE X (.Call (.Name x p1) (e :: es) [] pos) η L Q := fun hN H hH pins s I => by
  refine wpAny_Call_Name_kw (ld_glob I hg hm ?_ hd)
  refine PySem.W.callWith_K (h₀ := X.base) I.ok.mod.kin hk ?_ he hpl
  exact thn (h hN H hH pos pins s I) fun us s1 ⟨vs, H1, J, r, L1, h1, q⟩ => ⟨J.kIn, F hN pins s1 H1 us vs L1 h1 J r q⟩
theorem gat_fld (c : Cls X.K C) (no : NoAttr X.K C n) (mm : (a, HO.ins C dx fs) ∈ L) (l : fs.lookup n = some v) (q : Q v L) : GAt X n (.ref a) L Q := fun pins s σ H u ex hH I r => by
  obtain rfl : u = Value.ref a := r
  exact getattr_ok I (hH.get mm) c no l fun u' s' I' ru => ⟨v, H, I', ru, L, hH, q⟩
theorem gs_fld (h : GE X value η L fun y L1 => GE X o η L1 fun x L2 => ∃ a C dx fs M, x = .ref a ∧ (a, HO.ins C dx fs) ∈ L2 ∧ Cls X.K C ∧ NoAttr X.K C n ∧ fs.length < 1000 ∧ Swap a (.ins C dx (putF n y fs)) L2 M ∧ D.nx η M)
    (hs : swapsWith value (some (.Attribute o n pos')) pos.line X.env = pure false := by rfl) : GS X (.Assign [.Attribute o n pos'] value pos) D η L := fun hN H hH =>
  WS.of (ps_fld pe_W pe_W hs) (h.then hN hH fun y L1 H1 h1 q => q.then hN h1 fun x L2 H2 h2 ⟨a, C, dx, fs, M, ex, mm, c, no, l, sw, q2⟩ => ⟨a, C, dx, fs, ex, h2.get mm, c, no, l, η, M, hN, rfl, h2.swap sw, q2⟩)
end
end G
set_option Elab.async false
set_option linter.all false
set_option maxRecDepth 100000
set_option maxHeartbeats 4000000
namespace G
open PySem PySem.Spec PyProof.Rows L2 NdefX
end G
set_option Elab.async false
set_option linter.all false
set_option maxRecDepth 100000
set_option maxHeartbeats 4000000
namespace PySem.W
open PySem PySem.Calls PyProof.Rows
section
variable {prog : Program} {w : World} {A : Around} {E : Value → Shared → Prop} {s : Shared} {K : Frag} {x C L f : Addr} {h₀ : Heap} {m : Str → Option Value} {ox : Obj} {od : Option Obj} {b tb : Value}
theorem g_ifBound {M : Model} {args : List Value} {Q : Option Value → Shared → Prop} (X : K.In s.heap) (I : InstAt s.heap x ox C od) (hs : findIn K (.ref C) "__ne__" = some (some (.builtin "object.__ne__")))
    (h : wpAny M A (call (.builtin "object.__ne__") (.ref x :: args)) (fun v => Q (some v)) E s) : wpAny M A (callSpecialIfBound? (.ref x) "__ne__" args) Q E s := by
  simp only [callSpecialIfBound?, bindSpecialIfBound?]
  refine wpAny_holding (wpAny_bind (wpAny_bind (wpAny_bind (I.type.here ((looks_findIn X hs).here ?_)))))
  simp only [F.cmp_object.ne.bind]
  refine wpAny_bind (wpAny_askSetting (wpAny_ite ?_))
  have fin : wpAny M A (call (.builtin "object.__ne__") ([.ref x] ++ args) >>= fun v => pure (some v)) Q E s := wpAny_bind (wpAny_mono h (fun v s' h' => wpAny_pure h') fun _ _ h' => h')
  split
  · exact wpAny_bind (wpAny_pure (wpAny_pure (by exact fin)))
  · exact wpAny_tryCatch (wpAny_bind (wpAny_pure (wpAny_pure (by exact fin))))
theorem g_ne {Q : Value → Shared → Prop} (hu : A.units + 1 < cLine) (X : K.In s.heap) (I : InstAt s.heap x ox C od) (hb : Looks (model prog w) s.heap (typeOf b) tb) (hn : notFirst K C tb = true)
    (hne : findIn K (.ref C) "__ne__" = some (some (.builtin "object.__ne__"))) (heq : findIn K (.ref C) "__eq__" = some (some (.ref f))) (hf : isFn K (.ref f) = true) (ho : mroIn K C (.type "object") = some true)
    (h : wpAny (model prog w) A.in1 (call (.ref f) [.ref x, b]) (fun v s' => ∃ r, v = .bool r ∧ Q (.bool (!r)) s') E s) : wpAny (model prog w) A (richCompare .NotEq (.ref x) b) Q E s := by
  have hu0 : A.units < cLine := Nat.lt_of_succ_lt hu
  have hu1 : A.in1.units < cLine := hu
  have entry : wpAny (model prog w) A.in1 (Builtin.«object.__ne__» ⟨[.ref x, b], []⟩) (fun fin s' => ∃ r, fin = .done (.ret (.bool r)) ∧ Q (.bool r) s') E s := by
    unfold Builtin.«object.__ne__»
    refine wpAny_bind (wpAny_of_eq (a := (.ref x, [b])) (by first | rfl | kernel_rfl) ?_)
    show wpAny _ _ (cRoomFor "comparison" [.ref x, b] >>= _) _ _ _
    refine wpAny_bind (wpAny_cRoomFor hu1 ?_)
    refine wpAny_bind (ifBound_K X I heq hf (wpAny_mono h (fun v s' hv => ?_) fun _ _ e => e))
    obtain ⟨r, rfl, q⟩ := hv
    show wpAny _ _ (truthy (.bool r) >>= _) _ _ _
    exact wpAny_bind (wpAny_pure (wpAny_pure ⟨_, rfl, q⟩))
  have one : wpAny (model prog w) A (tryCompare (.ref x) "__ne__" b) (fun r s' => ∃ v, r = some v ∧ Q v s') E s := by
    unfold tryCompare
    refine wpAny_bind (g_ifBound X I hne (wpAny_call (codeAny_call_builtin F.cmp_object.ne.plain F.cmpEntry_ne (@check_slot (model prog w) _ _ s "object.__ne__" "object" "__ne__" (.ref x) [b] [] _ F.cmpKind_ne F.cmpSplit_ne
      (I.type.andThen (looks_mroIn X ho)) (F.cmpArgs_ne _ _) ?_))))
    refine wpAny_mono entry (fun fin s' z => ?_) fun _ _ e => e
    obtain ⟨r, rfl, q⟩ := z
    exact wpAny_pure ⟨_, rfl, q⟩
  unfold richCompare
  simp only [oneThing_ref]
  refine wpAny_holding (wpAny_bind (wpAny_cRoomFor hu0 ?_))
  refine wpAny_bind (I.type.here (wpAny_bind (hb.here ?_)))
  split
  · rename_i q
    have e : subIn K tb (.ref C) = some false := by
      rcases Bool.or_eq_true_iff.mp hn with e | e
      · rw [beq_iff_eq.mp e] at q; simp at q
      · exact beq_iff_eq.mp e
    refine wpAny_bind ((looks_subIn X e).here ?_)
    simp only [Bool.false_eq_true, if_false]
    refine wpAny_bind (wpAny_mono one (fun r s' z => ?_) fun _ _ e => e)
    obtain ⟨v, rfl, hq⟩ := z
    exact wpAny_pure hq
  · refine wpAny_bind (wpAny_pure ?_)
    simp only [Bool.false_eq_true, if_false]
    refine wpAny_bind (wpAny_mono one (fun r s' z => ?_) fun _ _ e => e)
    obtain ⟨v, rfl, hq⟩ := z
    exact wpAny_pure hq
end
end PySem.W
namespace G
open PySem PySem.Spec PyProof.Rows L2
/-- a class with its own __eq__ -/
structure OwnEq (K : PySem.W.Frag) (C g : Addr) : Prop where
  at_ : PySem.W.findIn K (.ref C) "__eq__" = some (some (.ref g))
  fn : PySem.W.isFn K (.ref g) = true
  ne : PySem.W.findIn K (.ref C) "__ne__" = some (some (.builtin "object.__ne__"))
  ob : PySem.W.mroIn K C (.type "object") = some true
section
variable {X : Cx} {CX : CXT} {j k : Nat} {C C' g a b dx dy : Addr} {fs gs : List (Str × V)} {sp : SpL} {El : XL} {L : Lg} {Q : QV}
theorem ins_inst {pins : List (Addr × Obj)} {σ : L2.St} {H : Hp} {s : Shared} (I : Inv X pins σ H s) (hH : Has H L) (m : (a, HO.ins C dx fs) ∈ L) : ∃ o od, PySem.W.InstAt s.heap a o C (some od) := by
  obtain ⟨mA, O, _⟩ := ins_get I.hok (hH.get m)
  obtain ⟨od, J, _⟩ := O.look
  exact ⟨_, od, J⟩
theorem RoomG.in1 {k : Nat} {A : Around} (r : RoomG (k + 1) A) : RoomG k A.in1 := ⟨r.toRoom.in1, r.gd⟩
theorem go_neM (T : OwnEq X.K C g) (F : RunG X.prog X.w X.K X.mg X.base CX k g argsP (toSp sp)) (hr : RoomG j X.A) (hx : Passes CX X (upX El)) (ma : (a, HO.ins C dx fs) ∈ L) (mb : (b, HO.ins C' dy gs) ∈ L) (hn : PySem.W.notFirst X.K C (.ref C') = true)
    (h : sp [.ref a, .ref b] L (fun v L' => ∃ r, v = .bl r ∧ Q (.bl (!r)) L') El) (hjk : k + 1 ≤ j := by decide) : GOp X (compareOp .NotEq) (.ref a) (.ref b) L Q := fun pins s σ H v u hH I rx ry => by
  obtain rfl : v = Value.ref a := rx
  obtain rfl : u = Value.ref b := ry
  obtain ⟨oa, da, J⟩ := ins_inst I hH ma
  obtain ⟨ob, db, J'⟩ := ins_inst I hH mb
  show wpAny (model X.prog X.w) X.A (richCompare .NotEq (.ref a) (.ref b)) _ _ _
  have hu : X.A.units + 1 < cLine := by
    have := hr.toRoom.units
    omega
  refine PySem.W.g_ne (tb := .ref C') hu I.kIn J J'.type hn T.ne T.at_ T.fn T.ob ?_
  refine wpAny_call (codeAny_mono (F X.A.in1 X.stack s H [.ref a, .ref b] [.ref a, .ref b] _ _ (hr.mono hjk).in1 I.env0.in1 (.cons rfl (.cons rfl .nil)) (up_sp hH h)) fun r s' hq => ?_)
  cases r with
  | error e => exact hx pins σ H s e s' I hq
  | ok fl =>
    cases fl with
    | ret w =>
      obtain ⟨z, H', I', rz, L', h', r0, ez, q⟩ := I.after hq
      subst ez
      obtain rfl : w = Value.bool r0 := rz
      exact ⟨r0, rfl, .bl (!r0), H', I', rfl, L', h', q⟩
    | next => exact hq.elim
    | brk => exact hq.elim
    | cont => exact hq.elim
/-- isinstance of an instance -/
structure OwnT (K : PySem.W.Frag) (C : Addr) : Prop where
  g : PySem.W.plainGet K C "__class__" = true
  d : PySem.W.hasDictIn K C = true
  a : PySem.W.findIn K (.ref C) "__class__" = some (some (.builtin "object.__class__"))
  n : PySem.W.specialIn K (.builtin "object.__class__") "__get__" = some (some (.builtin "getset_descriptor.__get__"))
  t : PySem.W.takesIn K (.builtin "object.__class__") = some true
  m : PySem.W.mroIn K C (.type "object") = some true
theorem gc_isI {c : V} {cv : Value} {r : Bool} (T : OwnT X.K C) (ma : (a, HO.ins C dx fs) ∈ L) (kc : ClsV c cv) (k : PySem.W.kitOne X.K (.ref C) cv = some r) (q : Q (.bl r) L) : GC X (.builtin "isinstance") [.ref a, c] L Q := fun pins s σ H us hH I rr => by
  cases rr with
  | cons rx rr =>
    cases rr with
    | cons rt rr =>
      cases rr
      obtain rfl : _ = Value.ref a := rx
      have ec := kc.eq rt
      subst ec
      obtain ⟨oe, od, J⟩ := ins_inst I hH ma
      exact PySem.W.kia_one (PySem.W.kitx_own T.g T.d T.a T.n T.t T.m) I.kIn J k (fun z => nomatch z) fun tk => ⟨.bl r, H, I.kept (t' := tk) fun _ _ z => z, rfl, L, hH, q⟩
end
end G
set_option Elab.async false
set_option linter.all false
set_option maxRecDepth 100000
set_option maxHeartbeats 4000000
namespace G
open PySem PySem.Spec PyProof.Rows L2
section
variable {X : Cx} {η : En} {L : Lg} {Q : QV} {a b c e : Expr} {es : List Expr} {op op' : CmpOp} {pos p p2 : Pos} {x : V} {q : Addr}
theorem ge_chain (h : GE X a η L fun x L1 => GE X b η L1 fun y L2 => GOp X (compareOp op) x y L2 fun z L3 => ∃ k, z = .bl k ∧ if k = true then GE X c η L3 fun w L4 => GOp X (compareOp op') y w L4 Q else Q (.bl false) L3)
    (hm : lastMarks [op, op'] [b, c] = false := by with_unfolding_all rfl) : GE X (.Compare a [op, op'] [b, c] pos) η L Q := fun hN H hH =>
  WE.of (pe_chain (r := fun x y H' Q' => ∀ pins s σ v u, Inv X pins σ H' s → RelV x v → RelV y u → wpAny (model X.prog X.w) X.A (compareOp op v u) (EP X pins σ Q') X.xe s)
    (r' := fun x y H' Q' => ∀ pins s σ v u, Inv X pins σ H' s → RelV x v → RelV y u → wpAny (model X.prog X.w) X.A (compareOp op' v u) (EP X pins σ Q') X.xe s)
    (fun pins s σ H' x y v u Q' I r1 r2 q => q pins s σ v u I r1 r2) (fun pins s σ H' x y v u Q' I r1 r2 q => q pins s σ v u I r1 r2) pe_W pe_W pe_W hm)
    (h.then hN hH fun x _ _ h1 q1 => q1.then hN h1 fun y _ _ h2 q2 => fun pins s σ v u I r1 r2 => by
      refine wpAny_mono (q2 pins s σ _ v u h2 I r1 r2) (fun z s' zz => ?_) fun _ _ z => z
      obtain ⟨zv, H3, I3, r3, L3, h3, k, ek, q3⟩ := zz
      refine ⟨zv, H3, I3, r3, k, ek, ?_⟩
      cases k with
      | true =>
        rw [if_pos rfl] at q3
        rw [if_pos rfl]
        exact q3.then hN h3 fun w L4 H4 h4 q4 => fun pins s σ v u I r1 r2 => q4 pins s σ _ v u h4 I r1 r2
      | false =>
        rw [if_neg Bool.false_ne_true] at q3
        rw [if_neg Bool.false_ne_true]
        exact ⟨L3, h3, q3⟩)
/-- *e among the values -/
theorem ga_star {Q : List V → Lg → Prop} (h : GE X e η L fun x L1 => ∃ p xs, x = .ref p ∧ ((p, HO.tup xs) ∈ L1 ∨ (p, HO.lst xs) ∈ L1) ∧ GA X es η L1 fun ys L2 => Q (xs ++ ys) L2) (hs : starEach (.Starred e p :: es) X.env = (true, eval e X.env) :: starEach es X.env := by rfl) : GA X (.Starred e p :: es) η L Q := fun hN H hH =>
  WA.of (StX.pa_star pe_W pa_W hs) (h.then hN hH fun x L1 H1 h1 ⟨p, xs, ex, m, q⟩ => ⟨p, xs, ex, m.imp (fun z => sqt h1 z) fun z => sql h1 z, q.then hN h1 fun _ L2 _ h2 q2 => ⟨L2, h2, q2⟩⟩)
end
theorem bt_sorted : bootBuiltins "sorted" = some (.builtin "sorted") := by decide +kernel
section
variable {X : Cx} {η : En} {L : Lg} {Q : QV} {e : Expr} {es : List Expr} {pos p : Pos} {x : V} {q : Addr} {T : String} {cs : List String} {b : Bool} {y : Str} {v : V} {u : Value}
theorem gb_sorted (B : Bi X.mg) (h : GA X (e :: es) η L fun xs L1 => GC X (.builtin "sorted") xs L1 Q) (hg : Gl X "sorted" := by rfl) (he : starEach (e :: es) X.env = (false, eval e X.env) :: starEach es X.env := by rfl) (hpl : (backTo pos (starEach es X.env)).any (·.1) = false := by rfl) :
    GE X (.Call (.Name "sorted" p) (e :: es) [] pos) η L Q := ge_B B.sorted bt_sorted h hg (by decide) (by decide) he hpl
/-- a global that holds a plain value -/
theorem gv_con (hm : X.mg y = some u) (r : RelV v u) (q : Q v L) (hg : Gl X y := by rfl) (hd : (y == ("__debug__" : Str)) = false := by decide) : GE X (.Name y pos) η L Q := ge_con (pe_glob hg hm r hd) q
end
end G
set_option Elab.async false
set_option linter.all false
set_option maxRecDepth 100000
set_option maxHeartbeats 4000000
namespace PySem
open Sem (wp)
open AutoSeq1 (wpAny_loadPart')
end PySem
namespace G
open PySem PySem.Spec PyProof.Rows L2
end G
set_option Elab.async false
set_option linter.all false
set_option maxRecDepth 100000
set_option maxHeartbeats 4000000
namespace G
open PySem PySem.Spec PyProof.Rows L2
abbrev P2 (p : Int × Int) : PyData := .tuple [.int p.1, .int p.2]
theorem alike2 (p q : Int × Int) : PySem.W.alike (P2 p) (P2 q) = true := by simp [PySem.W.alike, PySem.W.alikeAll]
/-- not greater, by the first, then by the second -/
def le2 (p q : Int × Int) : Prop := p.1 < q.1 ∨ (p.1 = q.1 ∧ p.2 ≤ q.2)
theorem depth2 : ∀ ps : List (Int × Int), PyData.depthAll (ps.map P2) ≤ 1
  | [] => by simp [PyData.depthAll]
  | p :: r => by
    have e := depth2 r
    simp only [List.map_cons, PyData.depthAll, PyData.depth]
    omega
/-- pairs in the ledger -/
abbrev Pr2 := Addr × Int × Int
section
variable {X : Cx} {L : Lg} {Q : QV} {q : Addr} {j : Nat}
theorem dls_prs : ∀ {ps : List Pr2}, (∀ e ∈ ps, (e.1, HO.tup [.int e.2.1, .int e.2.2]) ∈ L) → Dls L (ps.map fun e => V.ref e.1) ((ps.map fun e => e.2).map P2)
  | [], _ => dls_nil
  | e :: r, h => dls_cons (dl_tup (h e (List.mem_cons_self ..)) (dls_cons dl_int (dls_cons dl_int dls_nil))) (dls_prs fun x hx => h x (List.mem_cons_of_mem _ hx))
end
end G
set_option Elab.async false
set_option linter.all false
set_option maxRecDepth 100000
set_option maxHeartbeats 4000000
namespace PySem.W
open PySem PySem.Calls PySem.Spec PyProof.Rows
end PySem.W
namespace G
open PySem PySem.Spec PyProof.Rows L2
end G
set_option Elab.async false
set_option linter.all false
set_option maxRecDepth 100000
set_option maxHeartbeats 4000000
namespace G
open PySem PySem.Spec PyProof.Rows L2
def RowO (o : HO) (xs : List V) : Prop := o = .lst xs ∨ o = .tup xs
section
variable {X : Cx} {η : En} {L : Lg} {e tg : Expr} {elts : List Expr} {kk : Nat} {tpos p pos : Pos} {Q : Src → Lg → Prop} {o : HO} {xs : List V}
theorem gi_rowO (ro : RowO o xs) (h : GE X e η L fun v L1 => ∃ q, v = .ref q ∧ (q, o) ∈ L1 ∧ Q ⟨xs.length, fun M => (q, o) ∈ M, itemAt xs⟩ L1) : GI X tg e η L Q := by
  rcases ro with rfl | rfl
  · exact gi_list (h.imp fun v L1 ⟨q, ev, m, z⟩ => ⟨q, xs, ev, m, z⟩)
  · exact gi_tuple (h.imp fun v L1 ⟨q, ev, m, z⟩ => ⟨q, xs, ev, m, z⟩)
end
end G
namespace G
open PySem PySem.Spec PyProof.Rows L2
end G
set_option Elab.async false
set_option linter.all false
set_option maxRecDepth 100000
set_option maxHeartbeats 4000000
namespace G
open PySem PySem.Spec PyProof.Rows L2
theorem memR {α : Type} {a : α} {l r : List α} (h : a ∈ r) : a ∈ l ++ r := List.mem_append_right _ h
theorem Swap.right {p : Addr} {o : HO} {L M : Lg} (s : Swap p o L M) : ∀ {E : Lg}, Swap p o (E ++ L) (E ++ M)
  | [] => s
  | _ :: E => .there (Swap.right s (E := E))
theorem subl_app {α : Type} {l e r : List α} (h : List.Sublist l r) : List.Sublist l (e ++ r) := h.trans (List.sublist_append_right e r)
section
variable {a b x : Addr × HO} {R L es : Lg}
theorem rotStep (s : Sub (a :: b :: R) L) : Sub (a :: b :: x :: R) (x :: L) := rot12.trans (Sub.cons s)
theorem rotApp (s : Sub (a :: b :: R) L) : Sub (a :: b :: (es ++ R)) (es ++ L) := (rotL es).trans (Sub.append s)
end
/-- the references of entries -/
abbrev refs (es : Lg) : List V := es.map fun e => V.ref e.1
section
variable {X : Cx} {η : En} {L : Lg} {elt iter tg : Expr} {ifs : List Expr} {scope : Scope} {pos p1 p2 p3 : Pos} {x y : Str} {f : V → En} {g : V → V → En} {Q : QV}
/-- a turn: the test, then the element, a new object o -/
abbrev TurnF (X : Cx) (scope : Scope) (ifs : List Expr) (elt : Expr) (R : Lg) (θ : En) (b0 : Bool) (o : HO) : Prop := AllBlk X scope fun B => GTs B ifs θ R fun b M1 => b = b0 ∧ Sub R M1 ∧ (b = true → AllBlk X scope fun B => GE B elt θ M1 fun z M2 => ∃ a, z = .ref a ∧ Sub ((a, o) :: R) M2)
theorem turnF_use {θ : En} {b0 : Bool} {o : HO} {R M : Lg} (h : TurnF X scope ifs elt R θ b0 o) (s : Sub R M) :
    AllBlk X scope fun B => GTs B ifs θ M fun b M1 => b = b0 ∧ Sub R M1 ∧ (b = true → AllBlk X scope fun B => GE B elt θ M1 fun z M2 => ∃ a, z = .ref a ∧ Sub ((a, o) :: R) M2) := fun s1 H1 C1 cl1 fp1 => by
  refine GTs.sub s ?_
  have k := h s1 H1 C1 cl1 fp1
  have key : ∀ b M1, (b = b0 ∧ Sub R M1 ∧ (b = true → AllBlk X scope fun B => GE B elt θ M1 fun z M2 => ∃ a, z = .ref a ∧ Sub ((a, o) :: R) M2)) → ∀ M2, Sub M1 M2 → b = b0 ∧ Sub R M2 ∧ (b = true → AllBlk X scope fun B => GE B elt θ M2 fun z M2 => ∃ a, z = .ref a ∧ Sub ((a, o) :: R) M2) :=
    fun b M1 ⟨e, s1, k⟩ M2 s2 => ⟨e, s1.trans s2, fun hb s3 H3 C3 cl3 fp3 => GE.sub s2 (k hb s3 H3 C3 cl3 fp3)⟩
  match ifs, k with
  | [], k => exact key _ _ k
  | [c], k => exact k.imp key
/-- what such a comprehension is shown of -/
structure FreshC (X : Cx) (scope : Scope) (ifs : List Expr) (elt : Expr) (S : Src) (L : Lg) (st : V → Lg → (En → Lg → Prop) → Prop) (p : Nat → Bool) (pl : Nat → HO) : Prop where
  n : S.n ≤ 1000000
  kp : ∀ M, (∀ e ∈ L, e ∈ M) → S.keep M
  tn : ∀ i x E R M, i < S.n → S.item i x E → ((E ++ M).map (·.1)).Nodup → (∀ e ∈ L, e ∈ R) → Sub R M → st x (E ++ M) fun θ M' => AllBlk X scope fun B => GTs B ifs θ M' fun b M1 => b = p i ∧ Sub R M1 ∧ (b = true → AllBlk X scope fun B => GE B elt θ M1 fun z M2 => ∃ a, z = .ref a ∧ Sub ((a, pl i) :: R) M2)
theorem range_moreO {p : Nat → Bool} {g : Nat → HO} {i : Nat} : ((List.range (i + 1)).filter p).map g = ((List.range i).filter p).map g ++ (if p i = true then [g i] else []) := by
  rw [List.range_succ, List.filter_append, List.map_append]
  congr 1
  by_cases h : p i = true
  · rw [if_pos h, List.filter_cons_of_pos h]
    rfl
  · rw [if_neg h, List.filter_cons_of_neg h]
    rfl
theorem rotE {a b : Addr × HO} {es L : Lg} : Sub (b :: ((es ++ [a]) ++ L)) (b :: a :: (es ++ L)) := Sub.perm (by
  refine .cons b ?_
  rw [List.append_assoc]
  exact List.perm_middle)
theorem rotE2 {a b : Addr × HO} {R : Lg} : Sub (b :: a :: R) (a :: b :: R) := Sub.perm (.swap _ _ _)
theorem FreshC.lc {S : Src} {st : V → Lg → (En → Lg → Prop) → Prop} {p : Nat → Bool} {pl : Nat → HO} (h : FreshC X scope ifs elt S L st p pl) (mono : ∀ v M (k k' : En → Lg → Prop), (∀ θ M', k θ M' → k' θ M') → st v M k → st v M k') (D : Addr)
    (q : ∀ es : Lg, es.map (·.2) = ((List.range S.n).filter p).map pl → Q (.ref D) ((D, .lst (refs es)) :: (es ++ L))) : ∃ Pv, LcS X scope ifs elt S D L st Pv (drp Q) := by
  refine ⟨fun i M => ∃ es : Lg, es.map (·.2) = ((List.range i).filter p).map pl ∧ Sub ((D, .lst (refs es)) :: (es ++ L)) M, ⟨[], rfl, Sub.refl⟩, fun i M _ nd ⟨es, _, s⟩ => h.kp M fun e m => (s.to nd).2 e (List.mem_cons_of_mem _ (memR m)), fun i x E M hi it nd ⟨es, e0, s⟩ => ?_, fun M ⟨es, e0, s⟩ => ⟨_, s, q es e0⟩⟩
  refine mono x (E ++ M) _ _ (fun θ M' k => ?_) (h.tn i x E _ M hi it nd (fun e m => List.mem_cons_of_mem _ (memR m)) s)
  intro s1 H1 C1 cl1 fp1
  have k1 := k s1 H1 C1 cl1 fp1
  have more := range_moreO (p := p) (g := pl) (i := i)
  have key : ∀ b M1, (b = p i ∧ Sub ((D, .lst (refs es)) :: (es ++ L)) M1 ∧ (b = true → AllBlk X scope fun B => GE B elt θ M1 fun z M2 => ∃ a, z = .ref a ∧ Sub ((a, pl i) :: (D, .lst (refs es)) :: (es ++ L)) M2)) →
      if b = true then AllBlk X scope fun B => GE B elt θ M1 fun y M2 => ∃ acc M3, (D, HO.lst acc) ∈ M2 ∧ acc.length < sizeLine ∧ Swap D (.lst (acc ++ [y])) M2 M3 ∧ ∃ es : Lg, es.map (·.2) = ((List.range (i + 1)).filter p).map pl ∧ Sub ((D, .lst (refs es)) :: (es ++ L)) M3
      else ∃ es : Lg, es.map (·.2) = ((List.range (i + 1)).filter p).map pl ∧ Sub ((D, .lst (refs es)) :: (es ++ L)) M1 := fun b M1 ⟨eb, sb, hb⟩ => by
    cases b with
    | true =>
      rw [if_pos rfl]
      intro s2 H2 C2 cl2 fp2
      refine GE.nd ((hb rfl s2 H2 C2 cl2 fp2).imp fun y M2 ⟨a, ey, s3⟩ nd => ?_)
      have s4 : Sub ((D, .lst (refs es)) :: (a, pl i) :: (es ++ L)) M2 := rotE2.trans s3
      have m2 := (s4.to nd).2 _ List.mem_cons_self
      obtain ⟨M3, sw⟩ := Swap.ex (o := .lst (refs es ++ [y])) (u := .lst (refs es)) rfl m2
      have len : es.length ≤ i := by
        have e1 := congrArg List.length e0
        rw [List.length_map, List.length_map] at e1
        have := List.length_filter_le p (List.range i)
        rw [List.length_range] at this
        omega
      refine ⟨_, M3, m2, ?_, sw, es ++ [(a, pl i)], ?_, ?_⟩
      · rw [List.length_map, sizeLine_eq]
        have := h.n
        omega
      · rw [more, if_pos eb.symm, List.map_append, e0]
        rfl
      · subst ey
        have z : Sub ((D, .lst (refs es ++ [V.ref a])) :: (a, pl i) :: (es ++ L)) M3 := s4.swap sw
        have e2 : refs (es ++ [(a, pl i)]) = refs es ++ [V.ref a] := by
          show List.map _ _ = _
          rw [List.map_append]
          rfl
        rw [e2]
        exact rotE.trans z
    | false =>
      rw [if_neg Bool.false_ne_true]
      refine ⟨es, ?_, sb⟩
      rw [more, if_neg (by rw [← eb]; exact Bool.false_ne_true), List.append_nil]
      exact e0
  match ifs, k1 with
  | [], k1 => exact key _ _ k1
  | [c], k1 => exact k1.imp fun b M1 z => key b M1 z
def FreshL (X : Cx) (scope : Scope) (ifs : List Expr) (elt : Expr) (st : V → Lg → (En → Lg → Prop) → Prop) (R : V → Lg → Prop) (S : Src) (L1 : Lg) : Prop := ∃ p pl, FreshC X scope ifs elt S L1 st p pl ∧ ∀ D es, es.map (·.2) = ((List.range S.n).filter p).map pl → R (.ref D) ((D, .lst (refs es)) :: (es ++ L1))
/-- [elt for x in iter if ..], each turn makes one new object -/
theorem ge_lcF (P : PutF x η f) (h : GI X (.Name x p1) iter η L (FreshL X scope ifs elt (stOne f) Q)) (hb : blkC X.N X.env.scope scope [(x, X.N.idxOf x)] = true) (hlx : LocB X scope x := by exact fun _ _ _ _ _ => ⟨.inl rfl, .inr rfl⟩)
    (hN : X.N.Nodup := by assumption) (hc : X.calm = true := by rfl) (hs : ∀ z, foldedSetIterable iter X.env z = pure z := by intro _; rfl) : GE X (.ListComp elt [⟨.Name x p1, iter, ifs, 0⟩] scope pos) η L Q :=
  GE.undrp (ge_lc1 P (h.imp fun S L1 ⟨p, g, pc, q⟩ D => pc.lc monoOne D (q D)) hb hlx hN hc hs)
theorem ge_lcF2 {kt : Nat} {pt : Pos} (P : PutF x η f) (R : ∀ v, PutF y (f v) (g v)) (h : GI X (.Tuple [.Name x p1, .Name y p2] kt pt) iter η L (FreshL X scope ifs elt (stTwo g) Q)) (hxy : x ≠ y) (hb : blkC X.N X.env.scope scope [(x, X.N.idxOf x), (y, X.N.idxOf y)] = true) (hlx : LocB X scope x := by exact fun _ _ _ _ _ => ⟨.inl rfl, .inr rfl⟩) (hly : LocB X scope y := by exact fun _ _ _ _ _ => ⟨.inl rfl, .inr rfl⟩)
    (hN : X.N.Nodup := by assumption) (hc : X.calm = true := by rfl) (hs : ∀ z, foldedSetIterable iter X.env z = pure z := by intro _; rfl) : GE X (.ListComp elt [⟨.Tuple [.Name x p1, .Name y p2] kt pt, iter, ifs, 0⟩] scope pos) η L Q :=
  GE.undrp (ge_lc2 P R (h.imp fun S L1 ⟨p, g, pc, q⟩ D => pc.lc monoTwo D (q D)) hxy hb hlx hly hN hc hs)
variable {R : V → Lg → Prop} {q : Addr} {o : HO} {xs : List V} {p : Nat → Bool} {pl : Nat → HO}
/-- over a row -/
theorem fresh_rowO (mq : (q, o) ∈ L) (hl : xs.length ≤ 1000000) (ht : ∀ i v R, xs[i]? = some v → (∀ e ∈ L, e ∈ R) → TurnF X scope ifs elt R (f v) (p i) (pl i)) (r : ∀ D es, es.map (·.2) = ((List.range xs.length).filter p).map pl → R (.ref D) ((D, .lst (refs es)) :: (es ++ L))) : FreshL X scope ifs elt (stOne f) R ⟨xs.length, fun M => (q, o) ∈ M, itemAt xs⟩ L := by
  refine ⟨p, pl, ⟨hl, fun M h => h _ mq, fun i x E R M hi ⟨hx, hE⟩ _ hR s => ?_⟩, r⟩
  subst hE
  exact turnF_use (ht i x R hx hR) s
theorem fresh_list (mq : (q, HO.lst xs) ∈ L) (hl : xs.length ≤ 1000000) (ht : ∀ i v R, xs[i]? = some v → (∀ e ∈ L, e ∈ R) → TurnF X scope ifs elt R (f v) (p i) (pl i)) (r : ∀ D es, es.map (·.2) = ((List.range xs.length).filter p).map pl → R (.ref D) ((D, .lst (refs es)) :: (es ++ L))) : FreshL X scope ifs elt (stOne f) R ⟨xs.length, KeepL q xs, itemAt xs⟩ L := fresh_rowO mq hl ht r
/-- over a range -/
theorem fresh_fn {n : Nat} {h : Nat → V} (hl : n ≤ 1000000) (ht : ∀ i R, i < n → (∀ e ∈ L, e ∈ R) → TurnF X scope ifs elt R (f (h i)) (p i) (pl i)) (r : ∀ D es, es.map (·.2) = ((List.range n).filter p).map pl → R (.ref D) ((D, .lst (refs es)) :: (es ++ L))) : FreshL X scope ifs elt (stOne f) R ⟨n, fun _ => True, itemFn h⟩ L := by
  refine ⟨p, pl, ⟨hl, fun M h => True.intro, fun i x E R M hi ⟨hx, hE⟩ _ hR s => ?_⟩, r⟩
  subst hE hx
  exact turnF_use (ht i R hi hR) s
/-- a pure comprehension over pairs that stand in the ledger -/
theorem pure_row2 {pg : Nat → V} {pt : Nat → Bool} (mq : (q, o) ∈ L) (hl : xs.length ≤ 1000000) (ht : ∀ i v, xs[i]? = some v → ∃ t a b, v = .ref t ∧ (t, HO.tup [a, b]) ∈ L ∧ TurnP X scope ifs elt L (g a b) (pt i) (pg i)) (r : ∀ D, R (.ref D) ((D, .lst (((List.range xs.length).filter pt).map pg)) :: L)) : PureL X scope ifs elt (stTwo g) R ⟨xs.length, fun M => (q, o) ∈ M, itemAt xs⟩ L := by
  refine ⟨pt, pg, ⟨hl, fun M h => h _ mq, fun i x E D acc M hi ⟨hx, hE⟩ nd s => ?_⟩, r⟩
  subst hE
  obtain ⟨t, a, b, ev, m, k⟩ := ht i x hx
  exact ⟨t, a, b, ev, (s.to nd).2 _ (memS m), turnP_use (st := stTwo g) k s⟩
end
theorem range_get {α β : Type} {l : List α} {f : Nat → β} {g : α → β} (h : ∀ i a, l[i]? = some a → f i = g a) : ((List.range l.length).filter fun _ => true).map f = l.map g := by
  rw [List.filter_eq_self.mpr fun _ _ => rfl]
  refine List.ext_getElem? fun i => ?_
  rw [List.getElem?_map, List.getElem?_map]
  by_cases z : i < l.length
  · rw [List.getElem?_range z, List.getElem?_eq_getElem z]
    exact congrArg some (h i _ (List.getElem?_eq_getElem z))
  · rw [List.getElem?_eq_none (by rw [List.length_range]; omega), List.getElem?_eq_none (by omega)]
    rfl
theorem es_pairs : ∀ {es : Lg} {ds : List (Int × Int)}, es.map (·.2) = ds.map (fun d => HO.tup [.int d.1, .int d.2]) → ∃ ps : List Pr2, ps.map (fun e => (e.1, HO.tup [.int e.2.1, .int e.2.2])) = es ∧ ps.map (·.2) = ds
  | [], [], _ => ⟨[], rfl, rfl⟩
  | [], _ :: _, h => by cases h
  | _ :: _, [], h => by cases h
  | e :: es, d :: ds, h => by
    rw [List.map_cons, List.map_cons] at h
    injection h with h1 h2
    obtain ⟨ps, l, e2⟩ := es_pairs h2
    refine ⟨(e.1, d) :: ps, ?_, by rw [List.map_cons, e2]⟩
    rw [List.map_cons, l, ← h1]
section
variable {X : Cx} {η : En} {L : Lg} {a b c : Expr} {op op' : CmpOp} {pos : Pos} {Q : Bool → Lg → Prop}
/-- a < b < c as a test -/
theorem gt_chain (h : GE X a η L fun x L1 => GE X b η L1 fun y L2 => GOp X (compareOp op) x y L2 fun z L3 => ∃ k, z = .bl k ∧ if k = true then GE X c η L3 fun w L4 => GOp X (compareOp op') y w L4 fun z L5 => ∃ k, z = .bl k ∧ Q k L5 else Q false L3)
    (hm : lastMarks [op, op'] [b, c] = false := by with_unfolding_all rfl) : GT X (.Compare a [op, op'] [b, c] pos) η L Q := fun hN H hH =>
  WT.of (pt_chain (r := fun x y H' Q' => ∀ pins s σ v u, Inv X pins σ H' s → RelV x v → RelV y u → wpAny (model X.prog X.w) X.A (compareOp op v u) (EP X pins σ Q') X.xe s)
    (r' := fun x y H' Q' => ∀ pins s σ v u, Inv X pins σ H' s → RelV x v → RelV y u → wpAny (model X.prog X.w) X.A (compareOp op' v u) (EP X pins σ Q') X.xe s)
    (fun pins s σ H' x y v u Q' I r1 r2 q => q pins s σ v u I r1 r2) (fun pins s σ H' x y v u Q' I r1 r2 q => q pins s σ v u I r1 r2) pe_W pe_W pe_W hm)
    (h.then hN hH fun x _ _ h1 q1 => q1.then hN h1 fun y _ _ h2 q2 => fun pins s σ v u I r1 r2 => by
      refine wpAny_mono (q2 pins s σ _ v u h2 I r1 r2) (fun z s' zz => ?_) fun _ _ z => z
      obtain ⟨zv, H3, I3, r3, L3, h3, k, ek, q3⟩ := zz
      refine ⟨zv, H3, I3, r3, k, ek, ?_⟩
      cases k with
      | true =>
        rw [if_pos rfl] at q3
        rw [if_pos rfl]
        exact q3.then hN h3 fun w L4 H4 h4 q4 => fun pins s σ v u I r1 r2 => thn (q4 pins s σ _ v u h4 I r1 r2) fun _ _ ⟨z, H5, J, r5, L5, h5, k5, ek5, q5⟩ => ⟨z, H5, J, r5, k5, ek5, L5, h5, q5⟩
      | false =>
        rw [if_neg Bool.false_ne_true] at q3
        rw [if_neg Bool.false_ne_true]
        exact ⟨false, rfl, L3, h3, q3⟩)
end
theorem gat_fldA {X : Cx} {L : Lg} {Q : QV} {a C dx : Addr} {fs : List (Str × V)} {n : Str} {v : V} (mm : (a, HO.ins C dx fs) ∈ L) (c : L2.Cls X.K C) (no : NoAttr X.K C n) (l : fs.lookup n = some v) (q : Q v L) : GAt X n (.ref a) L Q := gat_fld c no mm l q
section
variable {X : Cx} {L : Lg} {Q : QV} {p : Addr} {xs : List V}
theorem gc_tupL (m : (p, HO.lst xs) ∈ L) (h : ∀ q, Q (.ref q) ((q, .tup xs) :: L)) : GC X (.type "tuple") [.ref p] L Q := GC.of call_tuple_of fun H hH => ⟨p, xs, rfl, .inl ⟨sql hH m, fun l hl => ⟨_, hH.new hl, h l⟩⟩⟩
end
end G
set_option Elab.async false
set_option linter.all false
set_option maxRecDepth 100000
set_option maxHeartbeats 4000000
namespace G
open PySem PySem.Spec PyProof.Rows L2 NdefX ClX
section
variable {X : Cx} {CX : CXT} {j k : Nat} {C g a b dx dy : Addr} {fs gs : List (Str × V)} {sp : SpL} {El : XL} {L : Lg} {Q : QV} {y : V} {T : String} {r : Bool}
/-- str(x) by an own __str__ -/
theorem gc_strM (hs : PySem.W.findIn X.K (.ref C) "__str__" = some (some (.ref g))) (hf : PySem.W.isFn X.K (.ref g) = true) (F : RunG X.prog X.w X.K X.mg X.base CX k g argsP (toSp sp)) (hr : RoomG j X.A) (hx : Passes CX X (upX El)) (ma : (a, HO.ins C dx fs) ∈ L)
    (h : sp [.ref a] L (fun v L' => ∃ z, v = .str z ∧ Q (.str z) L') El) (hjk : k + 2 ≤ j := by decide) : GC X (.type "str") [.ref a] L Q := fun pins s σ H us hH I rr => by
  rw [Vals.ref1 rr]
  obtain ⟨oe, od, J⟩ := ins_inst I hH ma
  have hu : X.A.in1.in1.units < cLine := ((hr.mono hjk).in1).in1.toRoom.units0
  refine PySem.W.kso_call hu I.kIn J hs hf (wpAny_call (codeAny_mono (F X.A.in1.in1 X.stack s H [.ref a] [.ref a] _ _ ((hr.mono hjk).in1).in1 I.env0.in1.in1 (.cons rfl .nil) (up_sp hH h)) fun r s' hq => ?_))
  cases r with
  | error e => exact hx pins σ H s e s' I hq
  | ok fl =>
    cases fl with
    | ret w =>
      obtain ⟨z, H', I', rz, L', h', y, ez, q⟩ := I.after hq
      subst ez
      obtain ⟨t, rfl⟩ : ∃ t, w = Value.str y t := rz
      exact ⟨.str y, H', I', ⟨t, rfl⟩, L', h', q⟩
    | next => exact hq.elim
    | brk => exact hq.elim
    | cont => exact hq.elim
end
def GJs (X : Cx) (es : List Expr) (η : En) (acc : Str) (L : Lg) (Q : Str → Lg → Prop) : Prop := match es with
  | [] => Q acc L
  | e :: r => GE X e η L fun x L1 => ∃ y : Str, x = .str y ∧ (acc ++ y).length ≤ sizeLine ∧ GJs X r η (acc ++ y) L1 Q
section
variable {X : Cx} {η : En} {L : Lg} {Q : QV} {e : Expr} {pos : Pos}
theorem pj_W : ∀ {es : List Expr}, PJ X es (es.map (WE X))
  | [] => .nil
  | _ :: _ => .cons pe_W pj_W
theorem GJs.to : ∀ {es : List Expr} {acc : Str} {L : Lg} {Q : Str → Lg → Prop} {Q' : Str → Hp → Prop}, GJs X es η acc L Q → X.N = names η → ∀ {H : Hp}, Has H L → (∀ v L1 H1, Has H1 L1 → Q v L1 → Q' v H1) → tJs (es.map (WE X)) acc (vals η) H Q'
  | [], acc, L, Q, Q', h, hN, H, hH, m => m _ _ _ hH h
  | e :: r, acc, L, Q, Q', h, hN, H, hH, m => GE.then h hN hH fun x L1 H1 h1 ⟨y, ey, z, q⟩ => ⟨y, ey, z, GJs.to q hN h1 m⟩
theorem ge_joined {v1 v2 : Expr} {rest : List Expr} (h : GJs X (v1 :: v2 :: rest) η Str.empty L fun out L1 => Q (.str out) L1) : GE X (.JoinedStr (v1 :: v2 :: rest) pos) η L Q := fun hN H hH =>
  WE.of (pe_joined pj_W) (GJs.to h hN hH fun v L1 H1 h1 q => ⟨L1, h1, q⟩)
theorem ge_fmtI (h : GE X e η L fun x L1 => ∃ i : Int, x = .int i ∧ i.natAbs.log2 < 1920 ∧ Q (.str (toString i)) L1) : GE X (.FormattedValue e (-1) none pos) η L Q := fun hN H hH =>
  WE.of (pe_fmt pe_W) (h.then hN hH fun x L1 H1 h1 ⟨i, ex, z, q⟩ => .inr ⟨i, ex, z, L1, h1, q⟩)
theorem ge_fmtS (h : GE X e η L fun x L1 => ∃ y : Str, x = .str y ∧ y.length ≤ sizeLine ∧ Q (.str y) L1) : GE X (.FormattedValue e (-1) none pos) η L Q := fun hN H hH =>
  WE.of (pe_fmt pe_W) (h.then hN hH fun x L1 H1 h1 ⟨y, ex, z, q⟩ => .inl ⟨y, ex, z, L1, h1, q⟩)
/-- parts, with the length so far -/
theorem gjs_int {acc : Str} {n : Nat} {r : List Expr} {Q : Str → Lg → Prop} (ha : acc.length ≤ n) (hn : n ≤ 1000000) (h : GE X e η L fun x L1 => ∃ i : Int, x = .int i ∧ i.natAbs < 2 ^ 1920 ∧ ((acc ++ toString i).length ≤ n + 1921 → GJs X r η (acc ++ toString i) L1 Q)) : GJs X (.FormattedValue e (-1) none pos :: r) η acc L Q :=
  ge_fmtI (h.imp fun x L1 ⟨i, ex, hi, q⟩ => by
    have l := int_text_len_1921 (log_lt hi)
    have l2 : (acc ++ toString i).length ≤ n + 1921 := by
      rw [Str.length_append]
      omega
    exact ⟨i, ex, log_lt hi, _, rfl, by rw [sizeLine_eq]; omega, q l2⟩)
theorem gjs_lit {acc z : Str} {n : Nat} {r : List Expr} {j} {Q : Str → Lg → Prop} (ha : acc.length ≤ n) (hn : n ≤ 1000000) (h : (acc ++ z).length ≤ n + 100 → GJs X r η (acc ++ z) L Q) (hz : z.length ≤ 100 := by decide) : GJs X (.Constant (.str z) j pos :: r) η acc L Q := by
  have l2 : (acc ++ z).length ≤ n + 100 := by
    rw [Str.length_append]
    omega
  exact ge_str ⟨z, rfl, by rw [sizeLine_eq]; omega, h l2⟩
theorem gjs_nil {acc : Str} {Q : Str → Lg → Prop} (q : Q acc L) : GJs X [] η acc L Q := q
end
end G
set_option Elab.async false
set_option linter.all false
set_option maxRecDepth 100000
set_option maxHeartbeats 4000000
namespace PySem.W
open PySem PySem.Calls PyProof.Rows
end PySem.W
namespace G
open PySem PySem.Spec PyProof.Rows L2
section
variable {X : Cx} {η : En} {L : Lg} {Q : QV} {j k : Nat} {x a : Str} {st : Stmt} {Ng : List Str} {params : Arguments} {body : Expr} {scope : Scope} {p lpos pos : Pos} {c P : Addr}
/-- the same, where the def that gets the lambda may have laid more by then -/
theorem ge_lamcallM {AM : Lg → QV} {EM : Lg → XL} (F : Df X.K X.mg x st) (S : FnScope Ng [a] (defScope st)) (hb : ∀ (kV doc pm : Value) (an : Option Addr) (cdv ct : Value) (us : List Value), us.length = [a].length → bindArgs (PySem.W.fnOf x x (defArgs st) (defBody st) (defScope st) .none kV doc pm an cdv ct) ⟨us, []⟩ = pure ([a].zip us))
    (hl : 1 ≤ Ng.length) (TB : LamX.TabB X.base X.mg c P) (hcode : X.env.code = .ref c) (mT : (P, tabM (X.env.qual ++ "<lambda>")) ∈ L) (hr : RoomG (k + 2) X.A)
    (hS : LamX.LamS X.env.scope scope) (lam : ∀ M, (∀ e ∈ L, e ∈ M) → LamOk X scope body η k M (AM M) (EM M))
    (heard : ∀ (Z : Cx) (g f : Addr) (cdv : Value) (s : Shared) (H : Hp) (E0 : XK), Z = cx0 X.prog X.w X.K X.mg X.base Ng x (defScope st) g cdv X.A X.stack s H E0 → Z.N.Nodup → RoomG (k + 1) Z.A → (∀ M, (∀ e ∈ L, e ∈ M) → Act Z a f M (AM M) (EM M)) → GSs Z (defBody st) (bodyD Q) (begun Ng [.ref f]) L)
    (hdef : defaultsOf params X.env = ([], []) := by rfl) (hbind : ∀ (q : Str) (cl : List (Str × Addr)) (pm cv ctv : Value), bindArgs (PySem.W.kla_fn "<lambda>" q params body scope cl pm cv ctv) ⟨[], []⟩ = pure [] := by intros; rfl) (hg : Gl X x := by rfl)
    (hdb : (x == ("__debug__" : Str)) = false := by decide) (hd : (a == ("__debug__" : Str)) = false := by decide) (hcd : (a == ("__classdict__" : Str)) = false := by decide) :
    GE X (.Call (.Name x p) [.Lambda params body scope lpos] [] pos) η L Q := fun hN H hH pins s I => by
  obtain ⟨g, fd, hm, F⟩ := F
  obtain ⟨oc, od, kV, doc, pm, an, cdv, ct, osl, rfl, lk, hcg⟩ := F.ex
  refine wpAny_Call_Name_kw (ld_glob I hg hm ?_ hdb)
  refine PySem.W.callWith_K (h₀ := X.base) I.ok.mod.kin F.kp ?_ (by rfl) (by rfl)
  show wpAny _ _ (spliced ((false, eval (.Lambda params body scope lpos) X.env) :: backTo pos (starEach [] X.env))) _ _ s
  refine Calls.spliced_cons (lam_made I TB hcode (holds_tab (hH.2 _ mT)) hdef (hS.has I.ok) fun f c' pm' ctv H1 s1 ps I1 gr hP1 ht1 hc1 T1 hf hfn hfr => ?_)
  have hH1 := has_made hH mT gr T1
  refine Calls.spliced_nil ⟨I1.kIn, ?_⟩
  have rc : codeAny (model X.prog X.w) X.A (.call (.ref g) ⟨[.ref f], []⟩) (CR CX0 X.stack X.prog X.w H1 s1 (up Q) fun _ _ _ => False) s1 := by
    refine LamX.run_ofS (CX := CX0) (N := Ng) (ps := [a]) (us := [.ref f]) (vs := [.ref f]) lk hcg S hr.toRoom I1.env0 (.of_eq (hb kV doc pm an cdv ct [.ref f] rfl)) (.cons rfl .nil) rfl fun hr2 => ?_
    let Z : Cx := cx0 X.prog X.w X.K X.mg X.base Ng x (defScope st) g cdv X.A X.stack s1 H1 (fun _ _ _ => False)
    have act : ∀ M, (∀ e ∈ L, e ∈ M) → Act Z a f M (AM M) (EM M) := fun M hM pn xe W θ p1 p2 tk hW hat hNθ HZ hHZ pinsZ sZ IZ => by
      obtain ⟨i, i1, i2⟩ := hat.idx
      have va : Vis (trX Z pn xe).env.scope a := (S.par a (List.mem_singleton.mpr rfl)).elim .inl fun z => .inr (.inl z)
      refine wpAny_Call_Name_kw (thn ((pe_var (X := trX Z pn xe) (pos := p1) (i := i) (by rw [hNθ]; exact i1) va hd hcd).run pinsZ sZ (vals θ) HZ (fun v H2 => v = .ref f ∧ H2 = HZ) IZ ⟨.ref f, i2, rfl, rfl⟩) fun u s2 ⟨v, H2, I2, r2, q2⟩ => ?_)
      obtain ⟨ev, eH⟩ := q2
      subst ev
      rw [eH] at I2
      obtain rfl : u = Value.ref f := r2
      have un : Un (frs X.stack) [] H1 HZ s1.heap s2.heap := I2.base
      have of2 : s2.heap.get? f = some (PySem.W.kla_obj "<lambda>" (X.env.qual ++ "<lambda>") params body scope (cloFrom X.env.cells scope.names []) pm' c' ctv) := un.keep f _ hf hfn hfr (fun z => nomatch (show f ∈ ([] : List Addr) from z))
      refine PySem.W.callWith_F0 ⟨_, _, _, _, of2⟩ ?_
      -- the code object still stands
      obtain ⟨more, hP2⟩ := un.tbls P ps hP1
      obtain ⟨ps2, hP3, ht3, ha3⟩ := holds_tab (hHZ.2 _ (hM _ mT))
      have eps : ps2 = ps ++ more := by
        have z := hP3.symm.trans hP2
        exact HO.tbl.inj (Option.some.inj z)
      obtain ⟨c2, e2, hco⟩ := ha3 lpos (.ref c') (by rw [eps, Array.toList_append]; exact among_left _ _ rfl ht1 hc1)
      cases e2
      obtain ⟨⟨oc2, vs2, t2, hoc, hdc, hvc⟩, _, _⟩ := I2.hok c' _ hco
      have rcl : codeAny (model X.prog X.w) (trX Z pn xe).A (.call (.ref f) ⟨[], []⟩) (CR (L2.CX X.prog X.w) (trX Z pn xe).stack X.prog X.w HZ s2 (up (AM M)) (upX (EM M))) s2 := by
        refine PySem.W.kla_callFunE hr2.depth of2 rfl hS.co hS.gen rfl ⟨c', oc2, vs2, t2, rfl, hoc, hdc, hvc⟩ ?_
        rw [hbind]
        refine wpAny_pure (wpAny_newFunctionEnv (fun y hy => (hS.own y hy).2) (fun y hy => absurd hy (by simp)) (fun h₁ hns hsb => ⟨I2.nolimit.fresh _ hsb, ?_⟩) hS.kind)
        show codeAny _ _ (.expr body (LamX.lamEnv X scope s2.heap.objs.size f c')) _ _
        have kp : ∀ b o, s2.heap.get? b = some o → h₁.get? b = some o := fun b o e => hsb.extBut b o (Nat.ne_of_lt (Heap.lt_size e)) (Heap.get?_push_of_some _ e)
        have J := LamX.lam_start2 (tk := s2.toks + ([] : List (Str × Value)).length) (E := upX (EM M)) (f := f) (c' := c') I1 hS I2.env0 hr2.hd un hns kp
        have rb : RoomG k ((trX Z pn xe).A.deeper (LamX.lamEnv X scope s2.heap.objs.size f c')) := ⟨hr2.deeper _, guard_deeper (guard_deeper hr.gd)⟩
        have tkb : Tk (LamX.lamCx X (trX Z pn xe).A (trX Z pn xe).stack s2 HZ (upX (EM M)) scope f c') (fun c d _ L' => EM M c d L') := (takes_of rfl rfl rfl rfl).imp fun c d σ H' ⟨η', L', _, _, h', z⟩ => ⟨L', h', z⟩
        refine PySem.W.kla_codeExpr (wpAny_mono (lam M hM (trX Z pn xe).A (trX Z pn xe).stack s2 HZ (upX (EM M)) f c' rb tkb hN HZ hHZ [] _ J) (fun v s' hq => ?_) fun e s' hq => hq)
        obtain ⟨w', H', J', rv, q⟩ := hq
        exact ⟨w', H', J'.os, J'.bare, J'.base, J'.hok, rv, q⟩
      refine wpAny_call (codeAny_mono rcl fun r s' hq => ?_)
      cases r with
      | error e => exact tk e s' (XE.of_call (E := upX (EM M)) I2 (fun cls d H' ⟨L', h', z⟩ => ⟨θ, L', hNθ, rfl, h', hW _ _ _ z⟩) hq)
      | ok fl =>
        cases fl with
        | ret u => exact I2.after hq
        | next => exact False.elim hq
        | brk => exact False.elim hq
        | cont => exact False.elim hq
    exact ⟨WSs _ (defBody st), PSs.nox pss_W, body_end (X := Z) (vs := [.ref f]) hl (fun v L' H' h' q => ⟨L', h', q⟩) hH1 (heard Z g f cdv s1 H1 _ rfl S.nd ⟨hr2, guard_deeper hr.gd⟩ act)⟩
  refine wpAny_call (codeAny_mono rc fun r s2 hq => ?_)
  cases r with
  | error e => exact (show False from hq).elim
  | ok fl =>
    cases fl with
    | ret u => exact I1.after hq
    | next => exact False.elim hq
    | brk => exact False.elim hq
    | cont => exact False.elim hq
end
end G
set_option Elab.async false
set_option linter.all false
set_option maxRecDepth 100000
set_option maxHeartbeats 4000000
namespace PySem.HandSPX
open Builtin Builtin.ObjectAttr
end PySem.HandSPX
set_option Elab.async false
set_option linter.all false
set_option maxRecDepth 100000
set_option maxHeartbeats 4000000
namespace G
open PySem PySem.Spec PyProof.Rows L2 NdefX
section
variable {X : Cx} {η : En} {L : Lg} {Q : QV} {a C D dd : Addr} {fs : List (Str × V)} {c v : V} {cv : Value} {b : Bool} {n : Str}
/-- an error object in the ledger, of one class -/
inductive ErO (C : Addr) (a : Addr) (L : Lg) : Prop
  | own {dd : Addr} {fs : List (Str × V)} (m : (a, exo a C (some dd)) ∈ L) (md : (dd, exd dd fs) ∈ L) : ErO C a L
  | bare (m : (a, ExO (.ref C) a) ∈ L) : ErO C a L
theorem ErO.mono {L M : Lg} (h : ErO C a L) (s : ∀ e ∈ L, e ∈ M) : ErO C a M := by
  cases h with
  | own m md => exact .own (s _ m) (s _ md)
  | bare m => exact .bare (s _ m)
end
end G
set_option Elab.async false
set_option linter.all false
set_option maxRecDepth 100000
set_option maxHeartbeats 4000000
namespace G
open PySem PySem.Spec PyProof.Rows L2
/-- v is the value d, read without sys.modules -/
def RdS (L : Lg) (v : V) (d : PyData) : Prop := ∀ (X : Cx) (pins : List (Addr × Obj)) (σ : L2.St) (H : Hp) (s : Shared) (u : Value), Has H L → Inv X pins σ H s → RelV v u → ∃ as, Reads s.heap u d as ∧ sysModules ∉ as
section
variable {L : Lg} {v : V} {d : PyData} {p : Addr} {x : Str} {i : Int} {vs : List V} {ds : List PyData}
theorem RdS.rd (h : RdS L v d) : Rd L v d := fun X pins σ H s u hH I r => by
  obtain ⟨as, q, n⟩ := h X pins σ H s u hH I r
  exact ⟨as, q, fun _ => n⟩
theorem RdS.sub {M : Lg} (s : Sub L M) (h : RdS L v d) : RdS M v d := fun X pins σ H s' u hH I r => h X pins σ H s' u (s H hH) I r
/-- values in a row -/
inductive RdA (L : Lg) : List V → List PyData → Prop
  | nil : RdA L [] []
  | cons {v : V} {d : PyData} {vs : List V} {ds : List PyData} (h : RdS L v d) (r : RdA L vs ds) : RdA L (v :: vs) (d :: ds)
theorem RdA.run {X : Cx} {pins : List (Addr × Obj)} {σ : L2.St} {H : Hp} {s : Shared} (hH : Has H L) (I : Inv X pins σ H s) : ∀ {vs : List V} {ds : List PyData} {us : List Value}, RdA L vs ds → Vals vs us → ∃ as, ReadsAll s.heap us ds as ∧ sysModules ∉ as
  | _, _, _, .nil, .nil => ⟨[], .nil, by simp⟩
  | _, _, _, .cons h r, .cons q t => by
    obtain ⟨as, a1, a2⟩ := h X pins σ H s _ hH I q
    obtain ⟨bs, b1, b2⟩ := r.run hH I t
    exact ⟨as ++ bs, .cons a1 b1, by simp [a2, b2]⟩
end
/-- a value that is shown, alone or in a list -/
structure OddS (L : Lg) (v : V) (d : PyData) : Prop where
  o : Odd L v d
  r : RdS L v d
  dp : d.depth ≤ 10
theorem OddS.drop {L : Lg} {v : V} {d : PyData} {a : Addr × HO} (h : OddS L v d) : OddS (a :: L) v d := ⟨h.o.drop, h.r.sub Sub.drop, h.dp⟩
/-- a comprehension of whose turns none keeps anything -/
theorem lc_none {X : Cx} {L : Lg} {Q : QV} {f : V → En} {scope : Scope} {c elt : Expr} {S : Src} (hE : ∀ i x E, S.item i x E → E = []) (kp : ∀ M, (∀ e ∈ L, e ∈ M) → S.keep M)
    (turn : ∀ (D : Addr) i x, i < S.n → S.item i x [] → AllBlk X scope fun B => GT B c (f x) ((D, .lst []) :: L) fun b M1 => b = false ∧ Sub ((D, .lst []) :: L) M1) (q : ∀ D, Q (.ref D) ((D, .lst []) :: L)) (D : Addr) :
    ∃ Pv, LcS X scope [c] elt S D L (fun v M k => k (f v) M) Pv (drp Q) :=
  ⟨fun _ M => Sub ((D, .lst []) :: L) M, Sub.refl, fun i M _ nd s => kp M fun e m => (s.to nd).2 e (List.mem_cons_of_mem _ m), fun i x E M hi it nd s => by
    obtain rfl := hE i x E it
    intro s1 H1 C1 cl1 fp1
    refine GT.sub s ((turn D i x hi it s1 H1 C1 cl1 fp1).imp fun b M1 ⟨e, s2⟩ => ?_)
    subst e
    exact s2, fun M s => ⟨_, s, q D⟩⟩
/-- it, as a value -/
theorem ge_lcNone {X : Cx} {η : En} {L : Lg} {Q : QV} {f : V → En} {scope : Scope} {c elt iter : Expr} {x : Str} {p1 pos : Pos} (P : PutF x η f)
    (h : GI X (.Name x p1) iter η L fun S L1 => (∀ i x E, S.item i x E → E = []) ∧ (∀ M, (∀ e ∈ L1, e ∈ M) → S.keep M) ∧ (∀ (D : Addr) i x, i < S.n → S.item i x [] → AllBlk X scope fun B => GT B c (f x) ((D, .lst []) :: L1) fun b M1 => b = false ∧ Sub ((D, .lst []) :: L1) M1) ∧ ∀ D, Q (.ref D) ((D, .lst []) :: L1))
    (hb : blkC X.N X.env.scope scope [(x, X.N.idxOf x)] = true) (hlx : LocB X scope x := by exact fun _ _ _ _ _ => ⟨.inl rfl, .inr rfl⟩)
    (hN : X.N.Nodup := by assumption) (hc : X.calm = true := by rfl) (hs : ∀ z, foldedSetIterable iter X.env z = pure z := by intro _; rfl) : GE X (.ListComp elt [⟨.Name x p1, iter, [c], 0⟩] scope pos) η L Q :=
  GE.undrp (ge_lc1 P (h.imp fun S L1 ⟨a, b, t, q⟩ D => lc_none a b t q D) hb hlx hN hc hs)
end G
set_option Elab.async false
set_option linter.all false
set_option maxRecDepth 100000
set_option maxHeartbeats 4000000
namespace G
open PySem PySem.Spec PyProof.Rows L2
section
variable {X : Cx} {L : Lg} {Q : QV} {q : Addr}
theorem gc_anyB {bs : List Bool} (hc : X.calm = true) (m : (q, HO.lst (bs.map V.bl)) ∈ L) (h : Q (.bl (bs.any id)) L) : GC X (.builtin "any") [.ref q] L Q := GC.of (cr_any hc) fun H hH => ⟨q, bs, rfl, sql hH m, L, hH, h⟩
theorem gc_allB {bs : List Bool} (hc : X.calm = true) (m : (q, HO.lst (bs.map V.bl)) ∈ L) (h : Q (.bl (bs.all id)) L) : GC X (.builtin "all") [.ref q] L Q := GC.of (cr_all hc) fun H hH => ⟨q, bs, rfl, sql hH m, L, hH, h⟩
theorem gc_sumI {ns : List Int} (hc : X.calm = true) (m : (q, HO.lst (ns.map V.int)) ∈ L) (h : Q (.int ns.sum) L) : GC X (.builtin "sum") [.ref q] L Q := GC.of (cr_sum hc) fun H hH => ⟨q, ns, rfl, sql hH m, L, hH, h⟩
theorem gc_max2 {i j : Int} (hc : X.calm = true) (h : Q (.int (if j > i then j else i)) L) : GC X (.builtin "max") [.int i, .int j] L Q := GC.of (call_max2 hc) fun H hH => ⟨i, j, rfl, L, hH, h⟩
/-- the pair at an address -/
def keyP (ps : List Pr2) : V → Int × Int
  | .ref a => ((ps.find? fun e => e.1 == a).map (·.2)).getD (0, 0)
  | _ => (0, 0)
theorem keyP_at {ps : List Pr2} {H : Hp} (hH : Has H L) (ht : ∀ e ∈ ps, (e.1, HO.tup [.int e.2.1, .int e.2.2]) ∈ L) {e : Pr2} (he : e ∈ ps) : keyP ps (.ref e.1) = e.2 := by
  have f : ∃ e', ps.find? (fun e' => e'.1 == e.1) = some e' := by
    cases z : ps.find? (fun e' => e'.1 == e.1) with
    | some e' => exact ⟨e', rfl⟩
    | none =>
      have := List.find?_eq_none.mp z e he
      simp at this
  obtain ⟨e', z⟩ := f
  have m' := List.mem_of_find?_eq_some z
  have k' : e'.1 = e.1 := by
    have := List.find?_some z
    simpa using this
  have h1 := hH.get (ht e he)
  have h2 := hH.get (ht e' m')
  rw [k', h1] at h2
  show ((ps.find? fun e' => e'.1 == e.1).map (·.2)).getD (0, 0) = e.2
  rw [z]
  show e'.2 = e.2
  have t := Option.some.inj h2
  injection t with t
  injection t with t1 t2
  injection t2 with t2 _
  exact Prod.ext (V.int.inj t1).symm (V.int.inj t2).symm
/-- sorted of pairs -/
theorem gc_sortedP {ps : List Pr2} (m : (q, HO.lst (ps.map fun e => V.ref e.1)) ∈ L) (ht : ∀ e ∈ ps, (e.1, HO.tup [.int e.2.1, .int e.2.2]) ∈ L)
    (h : ∀ (qs : List Pr2) p, qs.Perm ps → (qs.map (·.2)).Pairwise le2 → Q (.ref p) ((p, .lst (qs.map fun e => V.ref e.1)) :: L)) : GC X (.builtin "sorted") [.ref q] L Q :=
  GC.of cr_sortedPO fun H hH => ⟨q, _, keyP ps, rfl, sql hH m, fun x hx => by
    obtain ⟨e, he, rfl⟩ := List.mem_map.mp hx
    refine ⟨e.1, rfl, ?_⟩
    rw [keyP_at hH ht he]
    exact hH.get (ht e he), fun ys p srt stb hp => by
    obtain ⟨qs, hq, rfl⟩ : ∃ qs : List Pr2, qs.Perm ps ∧ ys = qs.map fun e => V.ref e.1 := by
      clear h
      have pm := stb.perm
      clear stb srt
      generalize e1 : (ps.map fun e => V.ref e.1) = zs at pm
      clear m
      have key : ∀ (ys zs : List V), ys.Perm zs → ∀ ps : List Pr2, (ps.map fun e => V.ref e.1) = zs → ∃ qs : List Pr2, qs.Perm ps ∧ ys = qs.map fun e => V.ref e.1 := fun ys zs pm => by
        induction pm with
        | nil => exact fun ps e => ⟨[], by rw [List.map_eq_nil_iff.mp e], rfl⟩
        | cons x _ ih =>
          intro ps e
          obtain ⟨a, r, rfl, e2, e3⟩ := List.map_eq_cons_iff.mp e
          obtain ⟨qs, h1, h2⟩ := ih r e3
          exact ⟨a :: qs, h1.cons a, by rw [h2, ← e2]; rfl⟩
        | swap x y l =>
          intro ps e
          obtain ⟨a, r, rfl, e2, e3⟩ := List.map_eq_cons_iff.mp e
          obtain ⟨b, s, rfl, e4, e5⟩ := List.map_eq_cons_iff.mp e3
          exact ⟨b :: a :: s, .swap _ _ _, by rw [← e2, ← e4, ← e5]; rfl⟩
        | trans _ _ ih1 ih2 =>
          intro ps e
          obtain ⟨qs, h1, h2⟩ := ih2 ps e
          obtain ⟨rs, h3, h4⟩ := ih1 qs h2.symm
          exact ⟨rs, h3.trans h1, h4⟩
      exact key ys zs pm ps e1
    refine ⟨_, hH.new hp, h qs p hq ?_⟩
    rw [List.pairwise_map]
    have s2 : qs.Pairwise fun x y => SrtO.lexB (keyP ps (.ref y.1)) (keyP ps (.ref x.1)) = false := List.pairwise_map.mp srt
    refine s2.imp_of_mem fun {a b} ha hb z => ?_
    rw [keyP_at hH ht (hq.mem_iff.mp ha), keyP_at hH ht (hq.mem_iff.mp hb)] at z
    have := SrtO.lexB_no.mp z
    unfold le2
    omega⟩
end
theorem bt_any : bootBuiltins "any" = some (.builtin "any") := by decide +kernel
theorem bt_all : bootBuiltins "all" = some (.builtin "all") := by decide +kernel
theorem bt_sum : bootBuiltins "sum" = some (.builtin "sum") := by decide +kernel
theorem bt_max : bootBuiltins "max" = some (.builtin "max") := by decide +kernel
section
variable {X : Cx} {η : En} {L : Lg} {Q : QV} {e : Expr} {es : List Expr} {pos p : Pos}
theorem gb_any (B : Bi X.mg) (h : GA X (e :: es) η L fun xs L1 => GC X (.builtin "any") xs L1 Q) (hg : Gl X "any" := by rfl) (he : starEach (e :: es) X.env = (false, eval e X.env) :: starEach es X.env := by rfl) (hpl : (backTo pos (starEach es X.env)).any (·.1) = false := by rfl) :
    GE X (.Call (.Name "any" p) (e :: es) [] pos) η L Q := ge_B B.any bt_any h hg (by decide) (by decide) he hpl
theorem gb_all (B : Bi X.mg) (h : GA X (e :: es) η L fun xs L1 => GC X (.builtin "all") xs L1 Q) (hg : Gl X "all" := by rfl) (he : starEach (e :: es) X.env = (false, eval e X.env) :: starEach es X.env := by rfl) (hpl : (backTo pos (starEach es X.env)).any (·.1) = false := by rfl) :
    GE X (.Call (.Name "all" p) (e :: es) [] pos) η L Q := ge_B B.all bt_all h hg (by decide) (by decide) he hpl
theorem gb_sum (B : Bi X.mg) (h : GA X (e :: es) η L fun xs L1 => GC X (.builtin "sum") xs L1 Q) (hg : Gl X "sum" := by rfl) (he : starEach (e :: es) X.env = (false, eval e X.env) :: starEach es X.env := by rfl) (hpl : (backTo pos (starEach es X.env)).any (·.1) = false := by rfl) :
    GE X (.Call (.Name "sum" p) (e :: es) [] pos) η L Q := ge_B B.sum bt_sum h hg (by decide) (by decide) he hpl
theorem gb_max (B : Bi X.mg) (h : GA X (e :: es) η L fun xs L1 => GC X (.builtin "max") xs L1 Q) (hg : Gl X "max" := by rfl) (he : starEach (e :: es) X.env = (false, eval e X.env) :: starEach es X.env := by rfl) (hpl : (backTo pos (starEach es X.env)).any (·.1) = false := by rfl) :
    GE X (.Call (.Name "max" p) (e :: es) [] pos) η L Q := ge_B B.max bt_max h hg (by decide) (by decide) he hpl
end
theorem cut_front {ms : List V} {l : V} : cutV (ms ++ [l]) none (some (-1)) = ms := by
  unfold cutV
  have e1 : HT.sIx (ms ++ [l]).length 0 none = 0 := rfl
  have e2 : HT.sIx (ms ++ [l]).length (ms ++ [l]).length (some (-1)) = ms.length := by
    show (if (-1 : Int) < 0 then ((-1 : Int) + ((ms ++ [l]).length : Int)).toNat else min (-1 : Int).toNat (ms ++ [l]).length) = _
    rw [if_pos (by decide), List.length_append, List.length_singleton]
    omega
  rw [e1, e2, List.drop_zero, Nat.sub_zero, List.take_left]
theorem cut_from {xs : List V} {k : Nat} (h : k ≤ xs.length) : cutV xs (some (k : Int)) none = xs.drop k := by
  unfold cutV
  rw [HT.sIx_nat, HT.sIx_none, Nat.min_eq_left h]
  exact List.take_of_length_le (by rw [List.length_drop]; exact Nat.le_refl _)
theorem cut_to {xs : List V} {k : Nat} (h : k ≤ xs.length) : cutV xs none (some (k : Int)) = xs.take k := by
  unfold cutV
  rw [HT.sIx_nat, HT.sIx_none, Nat.min_eq_left h, List.drop_zero, Nat.sub_zero]
theorem cut_mid {ms : List V} {l : V} {k : Nat} (h : k ≤ ms.length) : cutV (ms ++ [l]) (some (k : Int)) (some (-1)) = ms.drop k := by
  unfold cutV
  have e2 : HT.sIx (ms ++ [l]).length (ms ++ [l]).length (some (-1)) = ms.length := by
    show (if (-1 : Int) < 0 then ((-1 : Int) + ((ms ++ [l]).length : Int)).toNat else min (-1 : Int).toNat (ms ++ [l]).length) = _
    rw [if_pos (by decide), List.length_append, List.length_singleton]
    omega
  rw [HT.sIx_nat, e2, Nat.min_eq_left (by rw [List.length_append]; omega), List.drop_append_of_le_length h]
  exact List.take_left' (by rw [List.length_drop])
theorem eqvP2 (p q : Int × Int) : PyData.eqv (P2 p) (P2 q) = decide (p = q) := by
  have e : PyData.eqv (P2 p) (P2 q) = (decide (p.1 = q.1) && decide (p.2 = q.2)) := by
    simp only [PyData.eqv, PyData.eqvAll, Bool.and_true]
    rfl
  rw [e]
  obtain ⟨a, b⟩ := p
  obtain ⟨c, d⟩ := q
  by_cases h : a = c <;> by_cases k : b = d <;> simp [h, k]
theorem eqvPs : ∀ ns ms : List (Int × Int), PyData.eqvAll (ns.map P2) (ms.map P2) = decide (ns = ms)
  | [], [] => by simp [PyData.eqvAll]
  | [], m :: r => by simp [PyData.eqvAll]
  | n :: r, [] => by simp [PyData.eqvAll]
  | n :: r, m :: q => by
    have e := eqvPs r q
    rw [List.map_cons, List.map_cons, PyData.eqvAll, eqvP2, e]
    by_cases h : n = m <;> by_cases k : r = q <;> simp [h, k]
theorem layPs : ∀ ns : List (Int × Int), PyData.canLayAll0 (ns.map P2) = true
  | [] => by simp [PyData.canLayAll0]
  | n :: r => by
    have e := layPs r
    simp [PyData.canLayAll0, PyData.canLay0, e]
theorem depthPs (ns : List (Int × Int)) : PyData.depthAll (ns.map P2) ≤ 1 := depth2 ns
theorem shapedPL (ns : List (Int × Int)) : SeqAt.shaped (.list (ns.map P2)) = true := by
  have a := depthPs ns
  have b := layPs ns
  simp [SeqAt.shaped, PyData.canLay0, PyData.depth, b]
  omega
theorem shapedPT (ns : List (Int × Int)) : SeqAt.shaped (.tuple (ns.map P2)) = true := by
  have a := depthPs ns
  have b := layPs ns
  simp [SeqAt.shaped, PyData.canLay0, PyData.depth, b]
  omega
section
variable {X : Cx} {L : Lg} {Q : QV} {j : Nat} {p q : Addr} {xs ys : List V} {ps qs : List Pr2}
abbrev PrL (ps : List Pr2) (L : Lg) : Prop := ∀ e ∈ ps, (e.1, HO.tup [.int e.2.1, .int e.2.2]) ∈ L
theorem dl_prL (m : (p, HO.lst xs) ∈ L) (e : xs = ps.map fun e => V.ref e.1) (h : PrL ps L) : Dl L (.ref p) (.list ((ps.map (·.2)).map P2)) := dl_lst m (e ▸ dls_prs h)
theorem dl_prT (m : (p, HO.tup xs) ∈ L) (e : xs = ps.map fun e => V.ref e.1) (h : PrL ps L) : Dl L (.ref p) (.tuple ((ps.map (·.2)).map P2)) := dl_tup m (e ▸ dls_prs h)
theorem go_eqPL (hr : RoomG j X.A) (m1 : (p, HO.lst xs) ∈ L) (m2 : (q, HO.lst ys) ∈ L) (e1 : xs = ps.map fun e => V.ref e.1) (e2 : ys = qs.map fun e => V.ref e.1) (h1 : PrL ps L) (h2 : PrL qs L) (h : Q (.bl (decide (ps.map (·.2) = qs.map (·.2)))) L) : GOp X (compareOp .Eq) (.ref p) (.ref q) L Q :=
  go_eqD hr.toRoom (dl_prL m1 e1 h1) (dl_prL m2 e2 h2) (shapedPL _) (shapedPL _) (by
    have e : PyData.eqv (.list ((ps.map (·.2)).map P2)) (.list ((qs.map (·.2)).map P2)) = PyData.eqvAll ((ps.map (·.2)).map P2) ((qs.map (·.2)).map P2) := by simp [PyData.eqv]
    rw [e, eqvPs]
    exact h)
theorem go_nePL (hr : RoomG j X.A) (m1 : (p, HO.lst xs) ∈ L) (m2 : (q, HO.lst ys) ∈ L) (e1 : xs = ps.map fun e => V.ref e.1) (e2 : ys = qs.map fun e => V.ref e.1) (h1 : PrL ps L) (h2 : PrL qs L) (h : Q (.bl (!decide (ps.map (·.2) = qs.map (·.2)))) L) : GOp X (compareOp .NotEq) (.ref p) (.ref q) L Q :=
  go_neD hr.toRoom (dl_prL m1 e1 h1) (dl_prL m2 e2 h2) (shapedPL _) (shapedPL _) (by
    have e : PyData.eqv (.list ((ps.map (·.2)).map P2)) (.list ((qs.map (·.2)).map P2)) = PyData.eqvAll ((ps.map (·.2)).map P2) ((qs.map (·.2)).map P2) := by simp [PyData.eqv]
    rw [e, eqvPs]
    exact h)
theorem go_eqPT (hr : RoomG j X.A) (m1 : (p, HO.tup xs) ∈ L) (m2 : (q, HO.tup ys) ∈ L) (e1 : xs = ps.map fun e => V.ref e.1) (e2 : ys = qs.map fun e => V.ref e.1) (h1 : PrL ps L) (h2 : PrL qs L) (h : Q (.bl (decide (ps.map (·.2) = qs.map (·.2)))) L) : GOp X (compareOp .Eq) (.ref p) (.ref q) L Q :=
  go_eqD hr.toRoom (dl_prT m1 e1 h1) (dl_prT m2 e2 h2) (shapedPT _) (shapedPT _) (by
    have e : PyData.eqv (.tuple ((ps.map (·.2)).map P2)) (.tuple ((qs.map (·.2)).map P2)) = PyData.eqvAll ((ps.map (·.2)).map P2) ((qs.map (·.2)).map P2) := by simp [PyData.eqv]
    rw [e, eqvPs]
    exact h)
/-- a row of pairs and the empty list -/
theorem go_nePN (hr : RoomG j X.A) (m1 : (p, HO.lst xs) ∈ L) (m2 : (q, HO.lst []) ∈ L) (e1 : xs = ps.map fun e => V.ref e.1) (h1 : PrL ps L) (h : Q (.bl (!ps.isEmpty)) L) : GOp X (compareOp .NotEq) (.ref p) (.ref q) L Q :=
  go_nePL (ps := ps) (qs := []) hr m1 m2 e1 rfl h1 (fun _ z => nomatch z) (by
    rw [show decide (ps.map (·.2) = ([] : List Pr2).map (·.2)) = ps.isEmpty by cases ps <;> simp]
    exact h)
end
/-- the pairs at addresses -/
abbrev prV (ps : List Pr2) : List V := ps.map fun e => V.ref e.1
def Prs2 (ps : List Pr2) (L : Lg) : Prop := ∀ e ∈ ps, (e.1, HO.tup [.int e.2.1, .int e.2.2]) ∈ L
theorem Prs2.mono {ps : List Pr2} {L M : Lg} (h : Prs2 ps L) (s : ∀ e ∈ L, e ∈ M) : Prs2 ps M := fun e he => s _ (h e he)
theorem Prs2.snoc {ps : List Pr2} {e : Pr2} {L : Lg} (h : Prs2 ps L) (k : (e.1, HO.tup [.int e.2.1, .int e.2.2]) ∈ L) : Prs2 (ps ++ [e]) L := fun x hx => by
  rcases List.mem_append.mp hx with hx | hx
  · exact h x hx
  · rw [List.mem_singleton.mp hx]
    exact k
theorem GG.nd {X : Cx} {tg : Expr} {v : V} {η : En} {L : Lg} {Q : En → Lg → Prop} (h : (L.map (·.1)).Nodup → GG X tg v η L Q) : GG X tg v η L Q := fun hN H hH => h hH.1 hN H hH
theorem filter_listA {α : Type} {xs : List α} {t : α → Bool} {β : Type} {g : α → β} {p : Nat → Bool} {h : Nat → β} (hp : ∀ i v, xs[i]? = some v → p i = t v ∧ h i = g v) : ((List.range xs.length).filter p).map h = (xs.filter t).map g := by
  have key : ∀ k, k ≤ xs.length → ((List.range k).filter p).map h = ((xs.take k).filter t).map g := fun k => by
    induction k with
    | zero => intro _; rfl
    | succ k ih =>
      intro hk
      have e : xs[k]? = some xs[k] := List.getElem?_eq_getElem (by omega)
      obtain ⟨a, b⟩ := hp k _ e
      rw [List.range_succ, List.filter_append, List.map_append, ih (by omega), List.take_succ, e, List.filter_append, List.map_append]
      congr 1
      show (List.filter p [k]).map h = (List.filter t [xs[k]]).map g
      by_cases z : t xs[k] = true
      · rw [List.filter_cons_of_pos (by rw [a]; exact z), List.filter_cons_of_pos z]
        show [h k] = [g xs[k]]
        rw [b]
      · rw [List.filter_cons_of_neg (by rw [a]; exact z), List.filter_cons_of_neg z]
        rfl
  have z := key xs.length (Nat.le_refl _)
  rw [List.take_length] at z
  exact z
theorem prV_at {ps : List Pr2} {i : Nat} {x : V} (h : (prV ps)[i]? = some x) : ∃ e, ps[i]? = some e ∧ V.ref e.1 = x := by
  unfold prV at h
  rw [List.getElem?_map] at h
  exact Option.map_eq_some_iff.mp h
theorem prV_len {ps : List Pr2} : (prV ps).length = ps.length := List.length_map ..
section
variable {X : Cx} {L : Lg} {elt : Expr} {ifs : List Expr} {scope : Scope} {f : V → En} {R : V → Lg → Prop} {q : Addr} {o : HO} {ps : List Pr2} {t : Pr2 → Bool} {g : Pr2 → V} {pl : Pr2 → HO}
def pr0 : Pr2 := (0, 0, 0)
theorem pure_rowPr (mq : (q, o) ∈ L) (hl : ps.length ≤ 1000000) (ht : ∀ e ∈ ps, TurnP X scope ifs elt L (f (.ref e.1)) (t e) (g e)) (h : ∀ D, R (.ref D) ((D, .lst ((ps.filter t).map g)) :: L)) : PureL X scope ifs elt (stOne f) R ⟨(prV ps).length, fun M => (q, o) ∈ M, itemAt (prV ps)⟩ L := by
  refine ⟨fun i => t (ps.getD i pr0), fun i => g (ps.getD i pr0), ⟨by show (prV ps).length ≤ _; rw [prV_len]; exact hl, fun M h => h _ mq, fun i x E D acc M hi ⟨hx, hE⟩ _ s => ?_⟩, fun D => ?_⟩
  · subst hE
    obtain ⟨e, he, rfl⟩ := prV_at hx
    have k := turnP_use (st := stOne f) (ht e (List.mem_of_getElem? he)) s
    have e2 : ps.getD i pr0 = e := by rw [List.getD_eq_getElem?_getD, he]; rfl
    rw [e2]
    exact k
  · have z := filter_listA (xs := ps) (t := t) (g := g) (p := fun i => t (ps.getD i pr0)) (h := fun i => g (ps.getD i pr0)) fun i v e => by
      have e2 : ps.getD i pr0 = v := by rw [List.getD_eq_getElem?_getD, e]; rfl
      rw [e2]
      exact ⟨rfl, rfl⟩
    show R (.ref D) ((D, .lst (((List.range (prV ps).length).filter _).map _)) :: L)
    rw [prV_len, z]
    exact h D
theorem fresh_rowPr (mq : (q, o) ∈ L) (hl : ps.length ≤ 1000000) (ht : ∀ e ∈ ps, ∀ N, (∀ x ∈ L, x ∈ N) → TurnF X scope ifs elt N (f (.ref e.1)) (t e) (pl e)) (r : ∀ D es, es.map (·.2) = (ps.filter t).map pl → R (.ref D) ((D, .lst (refs es)) :: (es ++ L))) : FreshL X scope ifs elt (stOne f) R ⟨(prV ps).length, fun M => (q, o) ∈ M, itemAt (prV ps)⟩ L := by
  have z := filter_listA (xs := ps) (t := t) (g := pl) (p := fun i => t (ps.getD i pr0)) (h := fun i => pl (ps.getD i pr0)) fun i v e => by
    have e2 : ps.getD i pr0 = v := by rw [List.getD_eq_getElem?_getD, e]; rfl
    rw [e2]
    exact ⟨rfl, rfl⟩
  refine fresh_rowO (p := fun i => t (ps.getD i pr0)) (pl := fun i => pl (ps.getD i pr0)) mq (by rw [prV_len]; exact hl) (fun i v N hx hN => ?_) fun D es he => r D es ?_
  · obtain ⟨e, he, rfl⟩ := prV_at hx
    have e2 : ps.getD i pr0 = e := by rw [List.getD_eq_getElem?_getD, he]; rfl
    rw [e2]
    exact ht e (List.mem_of_getElem? he) N hN
  · rw [he, prV_len, z]
end
section
variable {X : Cx} {L : Lg} {elt : Expr} {ifs : List Expr} {scope : Scope} {g : V → V → En} {R : V → Lg → Prop} {q r : Addr} {xs ys : List V} {p : Nat → Bool} {pl : Nat → HO}
theorem fresh_zip (mq : (q, HO.lst xs) ∈ L) (mr : (r, HO.lst ys) ∈ L) (hl : xs.length ≤ 1000000) (ht : ∀ i x y N, xs[i]? = some x → ys[i]? = some y → (∀ e ∈ L, e ∈ N) → TurnF X scope ifs elt N (g x y) (p i) (pl i)) (h : ∀ D es, es.map (·.2) = ((List.range (min xs.length ys.length)).filter p).map pl → R (.ref D) ((D, .lst (refs es)) :: (es ++ L))) :
    FreshL X scope ifs elt (stTwo g) R ⟨min xs.length ys.length, fun M => (q, HO.lst xs) ∈ M ∧ (r, HO.lst ys) ∈ M, itemPr (fun i => xs[i]?) (fun i => ys[i]?)⟩ L := by
  refine ⟨p, pl, ⟨Nat.le_trans (Nat.min_le_left _ _) hl, fun M h => ⟨h _ mq, h _ mr⟩, fun i x E N M hi it nd hN s => ?_⟩, h⟩
  obtain ⟨T, a, b, rfl, rfl, ea, eb⟩ := it
  exact ⟨T, a, b, rfl, mem0, turnF_use (ht i a b N ea eb hN) (s.trans Sub.drop)⟩
end
/-- the first of what is picked -/
theorem filter_head {n : Nat} {p : Nat → Bool} {i : Nat} {t : List Nat} (h : (List.range n).filter p = i :: t) : i < n ∧ p i = true ∧ ∀ j, j < i → p j = false := by
  have mi : i ∈ (List.range n).filter p := by rw [h]; exact List.mem_cons_self
  obtain ⟨a, b⟩ := List.mem_filter.mp mi
  refine ⟨List.mem_range.mp a, b, fun j hj => ?_⟩
  cases z : p j with
  | false => rfl
  | true =>
    have mj : j ∈ (List.range n).filter p := List.mem_filter.mpr ⟨List.mem_range.mpr (by have := List.mem_range.mp a; omega), z⟩
    have pw : ((List.range n).filter p).Pairwise (· < ·) := List.Pairwise.filter p List.pairwise_lt_range
    rw [h] at mj pw
    rcases List.mem_cons.mp mj with e | m
    · omega
    · have := (List.pairwise_cons.mp pw).1 j m
      omega
end G
set_option Elab.async false
set_option linter.all false
set_option maxRecDepth 100000
set_option maxHeartbeats 4000000
namespace G
open PySem PySem.Spec PyProof.Rows L2 ClX
/-- C.m is a staticmethod: its record at p, its def at g -/
structure CSta (K : PySem.W.Frag) (C : Addr) (mc : Value) (m : Str) (p g : Addr) : Prop where
  r : CRead K C mc
  at_ : PySem.W.findCls K (.ref C) mc m = some (.get (.builtin "staticmethod.__get__") (.ref p) .none (.ref C))
  rc : ∃ rest, PySem.W.recIn K p "staticmethod" = some (.ref g :: rest)
  kp : PySem.W.keepIn K (.ref g) = true
section
variable {X : Cx} {η : En} {L : Lg} {Q : QV} {o e : Expr} {es : List Expr} {kws : List Keyword} {pos pos' : Pos} {C p g : Addr} {mc : Value} {m : Str} {pl : Sem Bool} {φ : List V → Lg → Prop}
theorem getsta_ok {pins : List (Addr × Obj)} {σ : L2.St} {H : Hp} {s : Shared} {A : Around} {E : Value → Shared → Prop} {Q : Value × List Value → Shared → Prop} (I : Inv X pins σ H s) (k : CSta X.K C mc m p g)
    (h : ∀ s', Inv X pins σ H s' → Q (.ref g, []) s') : wpAny (model X.prog X.w) A (getMethod (.ref C) m pl) Q E s := by
  refine PySem.W.method_cls I.kIn k.r.ga ?_
  obtain ⟨rest, hp⟩ := k.rc
  refine PySem.W.cls_bind I.kIn k.r.rd k.at_ ?_
  refine wpAny_call (PySem.W.sm_get (s := { s with toks := s.toks + 1 }) I.kIn hp (PySem.W.handed_on rfl ?_))
  exact h _ (I.tok _)
/-- C.m(e, ..) -/
theorem ge_sta (k : CSta X.K C mc m p g) (F : X.N = names η → GF X η g argsP φ Q) (h : GE X o η L fun x L1 => x = .ref C ∧ GA X (e :: es) η L1 φ)
    (hst : starEach (e :: es) X.env = (false, eval e X.env) :: starEach es X.env := by rfl) (hpl : (backTo pos (starEach es X.env)).any (·.1) = false := by rfl)
    (ht : eval (.Call (.Attribute o m pos') (e :: es) [] pos) X.env = (do
      let ov ← eval o X.env
      standAt pos'.atName
      let (f, first) ← holding [ov] (getMethod ov m pl)
      callWith pos f first (backTo pos (starEach (e :: es) X.env)) (backToKw pos (keywordEach [] X.env))) := by rfl) : GE X (.Call (.Attribute o m pos') (e :: es) [] pos) η L Q := fun hN H hH pins s I => by
  refine PySem.W.methodCall_KW (pl := pl) (thn (h hN H hH pins s I) fun u s1 ⟨x, H1, I1, rx, L1, h1, ex, q⟩ => ?_) ht
  subst ex
  obtain rfl : u = Value.ref C := rx
  refine getsta_ok I1 k fun s2 I2 => ?_
  refine PySem.W.callWith_K (first := []) (h₀ := X.base) I.ok.mod.kin k.kp (thn (q hN H1 h1 pos pins s2 I2) fun us s3 ⟨vs, H2, I3, r, L2, h2, q2⟩ => ⟨I3.kIn, ?_⟩) hst hpl
  exact F hN pins s3 H2 us vs L2 h2 I3 r q2
/-- C.m(k = ..) -/
theorem ge_staK {ks : List Str} (k : CSta X.K C mc m p g) (F : X.N = names η → GF X η g (argsK 0 ks) φ Q) (h : GE X o η L fun x L1 => x = .ref C ∧ GK X kws η L1 φ)
    (hks : (backToKw pos (keywordEach kws X.env)).filterMap (·.1) = ks := by rfl) (hall : (backToKw pos (keywordEach kws X.env)).all (·.1.isSome) = true := by rfl) (hpl : ((backTo pos (starEach [] X.env)).any (·.1) || (backToKw pos (keywordEach kws X.env)).any (·.1.isNone)) = false := by rfl)
    (ht : eval (.Call (.Attribute o m pos') [] kws pos) X.env = (do
      let ov ← eval o X.env
      standAt pos'.atName
      let (f, first) ← holding [ov] (getMethod ov m pl)
      callWith pos f first (backTo pos (starEach [] X.env)) (backToKw pos (keywordEach kws X.env))) := by rfl) : GE X (.Call (.Attribute o m pos') [] kws pos) η L Q := fun hN H hH pins s I => by
  refine PySem.W.methodCall_KW (pl := pl) (thn (h hN H hH pins s I) fun u s1 ⟨x, H1, I1, rx, L1, h1, ex, q⟩ => ?_) ht
  subst ex
  obtain rfl : u = Value.ref C := rx
  refine getsta_ok I1 k fun s2 I2 => ?_
  refine PySem.W.callWith_KW0 (h₀ := X.base) I.ok.mod.kin k.kp hall (thn (GK.run (Q := φ) q hN pos pins s2 H1 h1 I2) fun ws s3 ⟨zs, H2, I3, r2, L2, h2, q2⟩ => ⟨I3.kIn, ?_⟩) hpl
  rw [hks]
  exact F hN pins s3 H2 ws zs L2 h2 I3 r2 q2
end
end G
set_option Elab.async false
set_option linter.all false
set_option maxRecDepth 100000
set_option maxHeartbeats 4000000
namespace PySem.W
open PySem PySem.Calls PySem.Spec PyProof.Rows Builtin
section
variable {prog : Program} {w : World} {M : Model} {A : Around} {E : Value → Shared → Prop} {s : Shared} {K : Frag} {x C f : Addr} {ox : Obj} {odd : Option Obj} {v : Value}
theorem g_len_own {Q : Value → Shared → Prop} (X : K.In s.heap) (I : InstAt s.heap x ox C odd) (hs : findIn K (.ref C) "__len__" = some (some (.ref f))) (hf : isFn K (.ref f) = true)
    (h : wpAny (model prog w) A.in1 (call (.ref f) [.ref x]) (fun r s₁ => ∃ (n : Int) (t : Tok), r = Value.int n t ∧ 0 ≤ n ∧ n < 2 ^ 62 ∧ ∀ tk t', Q (.int n t') { s₁ with toks := tk }) E s) : wpAny (model prog w) A (call (.builtin "len") [.ref x]) Q E s := by
  refine Calls.call_function_entry (by decide +kernel) (by decide +kernel) PySem.entry_len (PySem.args_len1 _) ?_
  unfold Builtin.«len»
  refine wpAny_bind (wpAny_of_eq (a := Value.ref x) (by first | rfl | kernel_rfl) ?_)
  refine wpAny_bind (special_fn X I hs (beq_iff_eq.mp hf) (wpAny_mono h (fun r s₁ hr => ?_) fun _ _ y => y))
  obtain ⟨n, t, rfl, n0, n1, q⟩ := hr
  have ix : asIndex (Value.int n t) = pure n := by first | rfl | kernel_rfl
  dsimp only
  refine wpAny_bind (wpAny_holding (wpAny_of_eq (a := n) ix ?_))
  have c1 : ¬ (n < 0) := by omega
  have c2 : ¬ (n ≥ 2 ^ 63) := by omega
  simp only [c1, c2, if_false]
  repeat lk
  exact ⟨_, rfl, q _ _⟩
end
end PySem.W
namespace G
open PySem PySem.Spec PyProof.Rows L2 ItX
section
variable {X : Cx} {CX : CXT} {j k : Nat} {C g a dx : Addr} {fs : List (Str × V)} {sp : SpL} {El : XL} {L : Lg} {Q : QV} {y : V}
/-- len(o) by an own __len__ -/
theorem gc_lenM (hs : PySem.W.findIn X.K (.ref C) "__len__" = some (some (.ref g))) (hf : PySem.W.isFn X.K (.ref g) = true) (F : RunG X.prog X.w X.K X.mg X.base CX k g argsP (toSp sp)) (hr : RoomG j X.A) (hx : Passes CX X (upX El)) (ma : (a, HO.ins C dx fs) ∈ L)
    (h : sp [.ref a] L (fun v L' => ∃ n : Int, v = .int n ∧ 0 ≤ n ∧ n < 2 ^ 62 ∧ Q (.int n) L') El) (hjk : k + 1 ≤ j := by decide) : GC X (.builtin "len") [.ref a] L Q := fun pins s σ H us hH I rr => by
  rw [Vals.ref1 rr]
  obtain ⟨oe, od, J⟩ := ins_inst I hH ma
  refine PySem.W.g_len_own I.kIn J hs hf (wpAny_call (codeAny_mono (F X.A.in1 X.stack s H [.ref a] [.ref a] _ _ (hr.mono hjk).in1 I.env0.in1 (.cons rfl .nil) (up_sp hH h)) fun r s' hq => ?_))
  cases r with
  | error e => exact hx pins σ H s e s' I hq
  | ok fl =>
    cases fl with
    | ret w =>
      obtain ⟨z, H', I', rz, L', h', n, ez, n0, n1, q⟩ := I.after hq
      subst ez
      obtain ⟨t, rfl⟩ : ∃ t, w = Value.int n t := rz
      exact ⟨n, t, rfl, n0, n1, fun tk t' => ⟨.int n, H', I'.kept (t' := tk) fun _ _ z => z, ⟨t', rfl⟩, L', h', q⟩⟩
    | next => exact hq.elim
    | brk => exact hq.elim
    | cont => exact hq.elim
end
section
variable {X : Cx} {L : Lg} {elt : Expr} {ifs : List Expr} {scope : Scope} {f2 : V → V → En} {R : V → Lg → Prop} {q : Addr} {o : HO} {ps : List Pr2} {t : Pr2 → Bool} {g : Pr2 → V} {pl : Pr2 → HO}
/-- over a row of pairs, both items named -/
theorem pure_rowP2 (mq : (q, o) ∈ L) (hp : Prs2 ps L) (hl : ps.length ≤ 1000000) (ht : ∀ e ∈ ps, TurnP X scope ifs elt L (f2 (.int e.2.1) (.int e.2.2)) (t e) (g e)) (h : ∀ D, R (.ref D) ((D, .lst ((ps.filter t).map g)) :: L)) : PureL X scope ifs elt (stTwo f2) R ⟨(prV ps).length, fun M => (q, o) ∈ M, itemAt (prV ps)⟩ L := by
  refine pure_row2 (pt := fun i => t (ps.getD i pr0)) (pg := fun i => g (ps.getD i pr0)) mq (by rw [prV_len]; exact hl) (fun i v hx => ?_) fun D => ?_
  · obtain ⟨e, he, rfl⟩ := prV_at hx
    have em := List.mem_of_getElem? he
    have e2 : ps.getD i pr0 = e := by rw [List.getD_eq_getElem?_getD, he]; rfl
    rw [e2]
    exact ⟨e.1, _, _, rfl, hp e em, ht e em⟩
  · have z := filter_listA (xs := ps) (t := t) (g := g) (p := fun i => t (ps.getD i pr0)) (h := fun i => g (ps.getD i pr0)) fun i v e => by
      have e2 : ps.getD i pr0 = v := by rw [List.getD_eq_getElem?_getD, e]; rfl
      rw [e2]
      exact ⟨rfl, rfl⟩
    rw [prV_len, z]
    exact h D
end
theorem dls_bools {L : Lg} : ∀ {bs : List Bool}, Dls L (bs.map V.bl) (bs.map PyData.bool)
  | [] => dls_nil
  | _ :: _ => dls_cons dl_bl dls_bools
theorem depthBools : ∀ ns : List Bool, PyData.depthAll (ns.map PyData.bool) = 0
  | [] => by simp [PyData.depthAll]
  | n :: r => by
    have e := depthBools r
    simp [PyData.depthAll, PyData.depth, e]
theorem layBools : ∀ ns : List Bool, PyData.canLayAll0 (ns.map PyData.bool) = true
  | [] => by simp [PyData.canLayAll0]
  | n :: r => by
    have e := layBools r
    simp [PyData.canLayAll0, PyData.canLay0, e]
theorem shapedB (ns : List Bool) : SeqAt.shaped (.list (ns.map PyData.bool)) = true := by
  have a := depthBools ns
  have b := layBools ns
  simp [SeqAt.shaped, PyData.canLay0, PyData.depth, a, b]
theorem eqvBools : ∀ ns ms : List Bool, PyData.eqvAll (ns.map PyData.bool) (ms.map PyData.bool) = decide (ns = ms)
  | [], [] => by simp [PyData.eqvAll]
  | [], m :: r => by simp [PyData.eqvAll]
  | n :: r, [] => by simp [PyData.eqvAll]
  | n :: r, m :: q => by
    have e := eqvBools r q
    simp [PyData.eqvAll, PyData.eqv, e]
    by_cases h : n = m <;> by_cases k : r = q <;> simp [h, k]
theorem eqvBL (ns ms : List Bool) : PyData.eqv (.list (ns.map PyData.bool)) (.list (ms.map PyData.bool)) = decide (ns = ms) := by
  rw [← eqvBools]
  simp [PyData.eqv]
theorem go_eqBL {X : Cx} {L : Lg} {Q : QV} {j : Nat} {p q : Addr} {xs ys : List V} {ns ms : List Bool} (hr : RoomG j X.A) (m1 : (p, HO.lst xs) ∈ L) (m2 : (q, HO.lst ys) ∈ L) (e1 : xs = ns.map V.bl) (e2 : ys = ms.map V.bl) (h : Q (.bl (decide (ns = ms))) L) : GOp X (compareOp .Eq) (.ref p) (.ref q) L Q := by
  subst e1
  subst e2
  exact go_eqD hr.toRoom (dl_lst m1 dls_bools) (dl_lst m2 dls_bools) (shapedB ns) (shapedB ms) (by rw [eqvBL]; exact h)
theorem inV_ints {i : Int} : ∀ {ns : List Int}, inV (.int i) (ns.map V.int) = decide (i ∈ ns)
  | [] => rfl
  | n :: r => by
    have ih := inV_ints (i := i) (ns := r)
    unfold inV at ih ⊢
    rw [List.map_cons, List.any_cons, ih]
    have e : eqV (V.int n) (V.int i) = decide (n = i) := by
      first
        | rfl
        | (simp [eqV])
    rw [e]
    by_cases h : n = i
    · simp [h]
    · have h' : ¬ i = n := fun z => h z.symm
      simp [h, h']
theorem flat_ints : ∀ {ns : List Int}, (ns.map V.int).all flatV = true
  | [] => rfl
  | n :: r => by
    rw [List.map_cons, List.all_cons, flat_ints (ns := r)]
    rfl
section
variable {X : Cx} {L : Lg} {Q : QV} {q : Addr} {i : Int} {ns : List Int}
theorem go_inI (m : (q, HO.lst (ns.map V.int)) ∈ L) (h : Q (.bl (decide (i ∈ ns))) L) : GOp X (compareOp .In) (.int i) (.ref q) L Q := GOp.of op_in_seq fun H hH => ⟨q, _, rfl, .inl (sql hH m), rfl, flat_ints, L, hH, by rw [inV_ints]; exact h⟩
end
end G
namespace G
open PySem PySem.Spec PyProof.Rows L2
section
variable {X : Cx} {η : En} {L : Lg} {Q : QV} {o e : Expr} {pos apos : Pos}
theorem ge_join (h : GE X o η L fun v L1 => ∃ a : Str, v = .str a ∧ GE X e η L1 fun y L2 => ∃ (p : Addr) (ys : List Str), y = .ref p ∧ (p, HO.lst (ys.map V.str)) ∈ L2 ∧ (ys.map (·.length)).sum + ys.length * a.length ≤ 16777216 ∧ Q (.str (Txt.join a ys)) L2)
    (hs : starEach [e] X.env = [(false, eval e X.env)] := by rfl) (hbase : attributeBase o "join" X.env (eval o X.env) = eval o X.env := by rfl) (hline : (apos.endLine == pos.line) = true := by rfl) : GE X (.Call (.Attribute o "join" apos) [e] [] pos) η L Q := fun hN H hH =>
  WE.of (pe_join pe_W pe_W hs hbase hline) (h.then hN hH fun v L1 H1 k1 ⟨a, ev, q⟩ => by
    subst ev
    exact ⟨⟨_, rfl⟩, q.then hN k1 fun y L2 H2 k2 ⟨p, ys, ey, m, z, q2⟩ => ⟨a, p, ys, rfl, by rw [ey], .inl (sql k2 m), z, L2, k2, q2⟩⟩)
end
end G
set_option Elab.async false
set_option linter.all false
set_option maxRecDepth 100000
set_option maxHeartbeats 4000000
namespace PySem.W
open PySem PySem.Calls PySem.Spec PyProof.Rows Builtin
end PySem.W
namespace G
open PySem PySem.Spec PyProof.Rows L2
end G
set_option Elab.async false
set_option linter.all false
set_option maxRecDepth 100000
set_option maxHeartbeats 4000000
namespace PySem.W
open PySem PySem.Calls PySem.Spec PyProof.Rows Builtin
section
variable {prog : Program} {w : World} {A : Around} {E : Value → Shared → Prop} {s : Shared} {K : Frag} {x C f : Addr} {ox : Obj} {od : Option Obj} {nm T : String}
theorem g_bin1T {b : Value} {fo ro rc : Option Value} {Q : Value → Shared → Prop} (X : K.In s.heap) (I : InstAt s.heap x ox C od) (hb : typeOf b = pure (.type T)) (hc : selfFirst K C = true)
    (hs : findIn K (.ref C) (PySem.dunder nm) = some (some (.ref f))) (hf : isFn K (.ref f) = true) (hr : findIn K (.ref C) (dunderR nm) = some rc) (hp : rc = none ∨ ∃ g : Addr, rc = some (.ref g))
    (h1 : findIn K (.type T) (PySem.dunder nm) = some fo) (h2 : findIn K (.type T) (dunderR nm) = some ro) (hsub : subIn K (.type T) (.ref C) = some false)
    (h : wpAny (model prog w) A (call (.ref f) [.ref x, b]) (CmpBack Q) E s) : wpAny (model prog w) A (binaryOp1 nm (.ref x) b) (fun r s' => ∃ v, r = some v ∧ Q v s') E s := by
  obtain ⟨cd, rest, hcd, hm⟩ := ksp_first hc
  have one := ksp_try X I hs hf h
  obtain ⟨hh, g, d, tt, os⟩ := s
  have L1 : Looks (model prog w) hh (typeOf (.ref x)) (.ref C) := I.type
  have L2 : Looks (model prog w) hh (typeOf b) (.type T) := Looks.of_pure hb
  have L3 : Looks (model prog w) hh (fillsNumberSlot (.ref C) nm) true := fills_K X hcd hm hs
  have L4 : Looks (model prog w) hh (fillsNumberSlot (.type T) nm) ((fo.isSome && !isSeqSlot fo) || (ro.isSome && !isSeqSlot ro)) := ksp_fillsT X h1 h2
  have L5 : Looks (model prog w) hh (isSubtype (.type T) (.ref C)) false := looks_subIn X hsub
  have L6 : Looks (model prog w) hh (numberSlotInPython (.ref C) nm) true := ksp_inPy X hs hr hp
  have L7 : Looks (model prog w) hh (numberSlotInPython (.type T) nm) false := Looks.of_pure rfl
  have L8 : Looks (model prog w) hh (typeLookup (.type T) (dunderR nm)) ro := looks_findIn X h2
  generalize ((fo.isSome && !isSeqSlot fo) || (ro.isSome && !isSeqSlot ro)) = right at L4
  have hne : (Value.ref C == Value.type T) = false := Bool.eq_false_iff.mpr fun q => by cases beq_iff_eq.mp q
  unfold binaryOp1
  refine wpAny_bind (L1.at (wpAny_bind (L2.at (wpAny_bind (L3.at ?_)))))
  simp only [hne, Bool.false_eq_true, if_false]
  cases right with
  | false =>
    ksp_lk
    refine wpAny_mono one (fun r s' hr' => ?_) fun _ _ e => e
    obtain ⟨v, rfl, hq⟩ := hr'
    ksp_lk
    exact ⟨v, rfl, hq⟩
  | true =>
    ksp_lk
    refine wpAny_mono one (fun r s' hr' => ?_) fun _ _ e => e
    obtain ⟨v, rfl, hq⟩ := hr'
    ksp_lk
    exact ⟨v, rfl, hq⟩
theorem g_binOf {op : Operator} {a b : Value} {Q : Value → Shared → Prop} (h : wpAny (model prog w) A (binaryOp1 op.info.2 a b) (fun r s' => ∃ v, r = some v ∧ Q v s') E s) : wpAny (model prog w) A (binaryOp op a b) Q E s := by
  unfold binaryOp
  refine wpAny_holding (wpAny_bind (wpAny_mono h (fun r s' hr => ?_) fun _ _ e => e))
  obtain ⟨v, rfl, hq⟩ := hr
  exact wpAny_pure hq
end
end PySem.W
namespace G
open PySem PySem.Spec PyProof.Rows L2
/-- the class C has an operator of its own -/
structure OwnBin (K : PySem.W.Frag) (C : Addr) (nm : String) (g : Addr) : Prop where
  sf : PySem.W.selfFirst K C = true
  at_ : PySem.W.findIn K (.ref C) (PySem.dunder nm) = some (some (.ref g))
  fn : PySem.W.isFn K (.ref g) = true
/-- against a built-in class -/
structure BinT (K : PySem.W.Frag) (C : Addr) (nm : String) (T : String) : Prop where
  r : PySem.W.findIn K (.ref C) (dunderR nm) = some none
  h1 : ∃ fo, PySem.W.findIn K (.type T) (PySem.dunder nm) = some fo
  h2 : ∃ ro, PySem.W.findIn K (.type T) (dunderR nm) = some ro
  sub : PySem.W.subIn K (.type T) (.ref C) = some false
section
variable {X : Cx} {CX : CXT} {j k : Nat} {C g a b dx dy : Addr} {fs gs : List (Str × V)} {sp : SpL} {El : XL} {L : Lg} {Q : QV} {op : Operator} {i : Int}
theorem no_ni {v : V} {u : Value} (r : RelV v u) : u ≠ .notImplemented := by
  intro e
  subst e
  cases v <;> first | exact nomatch (show Value.notImplemented = Value.none from r) | exact nomatch (show Value.notImplemented = Value.bool _ from r) | exact nomatch (show Value.notImplemented = Value.ref _ from r) | exact nomatch (show Value.notImplemented = Value.type _ from r) | (obtain ⟨t, h⟩ := id r; exact nomatch h)
theorem back_of {Q : Value → Shared → Prop} {u : Value} {s : Shared} (n : u ≠ .notImplemented) (h : Q u s) : PySem.W.CmpBack Q u s := by
  cases u <;> first | exact absurd rfl n | exact h
/-- the call of the operator's method -/
theorem own_call {pins : List (Addr × Obj)} {σ : L2.St} {H : Hp} {s : Shared} {us : List Value} {vs : List V} {Qv : Value → Shared → Prop} (F : RunG X.prog X.w X.K X.mg X.base CX k g argsP (toSp sp)) (hr : RoomG j X.A) (hx : Passes CX X (upX El)) (I : Inv X pins σ H s) (hH : Has H L) (rr : Vals vs us)
    (h : sp vs L Q El) (hq : ∀ u s', EP X pins σ (up Q) u s' → Qv u s') (hjk : k ≤ j) : wpAny (model X.prog X.w) X.A (call (.ref g) us) (PySem.W.CmpBack Qv) X.xe s :=
  thn (run_G (args := argsP) F (hr.mono hjk) hx I rr (up_sp hH h)) fun u s' hu => by
    obtain ⟨v, H', J, r, q⟩ := id hu
    exact back_of (no_ni r) (hq u s' hu)
/-- a op i, an integer -/
theorem go_binI (O : OwnBin X.K C op.info.2 g) (O2 : BinT X.K C op.info.2 "int") (F : RunG X.prog X.w X.K X.mg X.base CX k g argsP (toSp sp)) (hr : RoomG j X.A) (hx : Passes CX X (upX El)) (ma : (a, HO.ins C dx fs) ∈ L) (h : sp [.ref a, .int i] L Q El) (hjk : k ≤ j := by decide) : GOp X (binaryOp op) (.ref a) (.int i) L Q := fun pins s σ H v u hH I r1 r2 => by
  obtain rfl : v = Value.ref a := id r1
  obtain ⟨t, rfl⟩ := id r2
  obtain ⟨oe, od, J⟩ := ins_inst I hH ma
  obtain ⟨fo, h1⟩ := O2.h1
  obtain ⟨ro, h2⟩ := O2.h2
  exact PySem.W.g_binOf (PySem.W.g_bin1T I.kIn J rfl O.sf O.at_ O.fn O2.r (.inl rfl) h1 h2 O2.sub (own_call F hr hx I hH (.cons r1 (.cons r2 .nil)) h (fun _ _ z => z) hjk))
end
end G
set_option Elab.async false
set_option linter.all false
set_option maxRecDepth 100000
set_option maxHeartbeats 4000000
namespace G
open PySem PySem.Spec PyProof.Rows L2
theorem wipe_get {σ : L2.St} {k : Nat} : ∀ {vs : List Nat}, (wipe σ vs)[k]? = if k ∈ vs then (if k < σ.length then some none else none) else σ[k]?
  | [] => by simp [wipe]
  | v :: vs => by
    show ((wipe σ vs).set v none)[k]? = _
    rw [List.getElem?_set, wipe_length]
    by_cases e : v = k
    · subst e
      simp
    · rw [if_neg e, wipe_get (vs := vs)]
      have : (k ∈ v :: vs) = (k ∈ vs) := by
        rw [List.mem_cons]
        exact propext ⟨fun h => h.elim (fun z => absurd z.symm e) id, .inr⟩
      simp only [this]
theorem wipe_mem {σ : L2.St} {i : Nat} {a : Option V} {vs : List Nat} (h : i ∈ vs) : wipe (σ.set i a) vs = wipe σ vs := by
  apply List.ext_getElem?
  intro k
  rw [wipe_get, wipe_get, List.length_set]
  by_cases hk : k ∈ vs
  · rw [if_pos hk, if_pos hk]
  · rw [if_neg hk, if_neg hk, List.getElem?_set_ne]
    intro e
    exact hk (e ▸ h)
theorem GI.nd {X : Cx} {tg iter : Expr} {η : En} {L : Lg} {Q : Src → Lg → Prop} (h : GI X tg iter η L fun S L1 => (L1.map (·.1)).Nodup → Q S L1) : GI X tg iter η L Q := fun hN H hH pins s I =>
  wpAny_mono (h hN H hH pins s I) (fun v s1 z => wpAny_mono z (fun itv s2 ⟨it, fp, tn, J, H1, ev, I2, T, t0, f2, L1, S, k1, ok, q⟩ => ⟨it, fp, tn, J, H1, ev, I2, T, t0, f2, L1, S, k1, ok, q k1.1⟩) fun _ _ z => z) fun _ _ z => z
theorem GI.sub {X : Cx} {tg iter : Expr} {η : En} {L M : Lg} {Q : Src → Lg → Prop} (s : Sub M L) (h : GI X tg iter η M Q) : GI X tg iter η L Q := fun hN H hH => h hN H (s.has H hH)
/-- what a store asks may be asked of less -/
def StLift (st : V → Lg → (En → Lg → Prop) → Prop) : Prop := ∀ v N M (k k' : En → Lg → Prop), (M.map (·.1)).Nodup → Sub N M → (∀ θ, k' θ N → k θ M) → st v N k' → st v M k
theorem lift_one {f : V → En} : StLift (stOne f) := fun _ _ _ _ _ _ _ h z => h _ z
theorem gts_out {X : Cx} {η : En} {L : Lg} {Q : Bool → Lg → Prop} (h : GTs X [] η L Q) : Q true L := h
theorem yes_in {σ : L2.St} {H : Hp} {Q : Bool → Hp → Prop} (h : Q true H) : tYes σ H Q := h
theorem ite_out {A B : Prop} (h : if true = true then A else B) : A := h
section
variable {X : Cx} {η : En} {L : Lg} {elt iter tg tg1 iter1 : Expr} {scope : Scope} {pos p1 p2 p3 p4 : Pos} {x y z w : Str} {f : V → En} {Q : QV}
/-- each row's values stand for data -/
inductive Reps {α : Type} (R : V → α → Prop) : List V → List α → Prop
  | nil : Reps R [] []
  | cons {v : V} {a : α} {vs : List V} {as : List α} : R v a → Reps R vs as → Reps R (v :: vs) (a :: as)
theorem Reps.snoc {α : Type} {R : V → α → Prop} : ∀ {vs : List V} {as : List α} {v : V} {a : α}, Reps R vs as → R v a → Reps R (vs ++ [v]) (as ++ [a])
  | _, _, _, _, .nil, h => .cons h .nil
  | _, _, _, _, .cons k t, h => .cons k (t.snoc h)
theorem Reps.imp {α : Type} {R R' : V → α → Prop} (m : ∀ v a, R v a → R' v a) : ∀ {vs : List V} {as : List α}, Reps R vs as → Reps R' vs as
  | _, _, .nil => .nil
  | _, _, .cons k t => .cons (m _ _ k) (t.imp m)
theorem Reps.len {α : Type} {R : V → α → Prop} : ∀ {vs : List V} {as : List α}, Reps R vs as → vs.length = as.length
  | _, _, .nil => rfl
  | _, _, .cons _ t => by rw [List.length_cons, List.length_cons, t.len]
theorem Reps.get {α : Type} {R : V → α → Prop} : ∀ {vs : List V} {as : List α} {i : Nat} {v : V}, Reps R vs as → vs[i]? = some v → ∃ a, as[i]? = some a ∧ R v a
  | _, _, _, _, .nil, e => by simp at e
  | _, _, 0, _, .cons r _, e => by simp at e; subst e; exact ⟨_, rfl, r⟩
  | _, _, i + 1, x, .cons _ t, e => by
    obtain ⟨u, h1, h2⟩ := t.get (i := i) (v := x) (by simpa using e)
    exact ⟨u, by simpa using h1, h2⟩
/-- what a kind of standing for must keep -/
def RepMono {α : Type} (Rep : Lg → V → α → Prop) : Prop := ∀ M N v a, (∀ e ∈ M, e ∈ N) → Rep M v a → Rep N v a
/-- what a turn's element is shown of -/
abbrev EltR {α : Type} (X : Cx) (scope : Scope) (elt : Expr) (Rep : Lg → V → α → Prop) (D : Addr) (zs : List V) (R : Lg) (a : α) (θ : En) (M : Lg) : Prop :=
  AllBlk X scope fun B => GE B elt θ M fun z M2 => ∃ R', Sub ((D, .lst zs) :: R') M2 ∧ (∀ e ∈ R, e ∈ R') ∧ Rep R' z a
theorem elt_turn {α : Type} {Rep : Lg → V → α → Prop} (mono : RepMono Rep) {D : Addr} {zs : List V} {R N M : Lg} {a : α} {as : List α} {θ : En} (hz : zs.length < 10000000) (rp : Reps (Rep R) zs as) (h : EltR X scope elt Rep D zs R a θ N) (s : Sub N M) :
    LcTurn X scope [] elt D (fun M => ∃ zs R', Sub ((D, .lst zs) :: R') M ∧ (∀ e ∈ R, e ∈ R') ∧ Reps (Rep R') zs (as ++ [a])) θ M := by
  intro s1 H1 C1 cl1 fp1
  refine gts_nil (ite_t ?_)
  intro s2 H2 C2 cl2 fp2
  refine GE.sub s (GE.nd ((h s2 H2 C2 cl2 fp2).imp fun y M2 ⟨R', sb, up, rq⟩ => fun nd => ?_))
  have m2 := (sb.to nd).2 _ List.mem_cons_self
  obtain ⟨M3, sw⟩ := Swap.ex (o := .lst (zs ++ [y])) rfl m2
  exact ⟨zs, M3, m2, Nat.lt_of_lt_of_le hz (szL (by decide)), sw, zs ++ [y], R', sb.swap sw, up, (rp.imp fun v b k => mono _ _ _ _ up k).snoc rq⟩
def wiB (X : Cx) (scope : Scope) (tg1 iter1 : Expr) : TI := fun σ H R => AllBlk X scope fun B => WI B tg1 iter1 σ H R
theorem pi_wiB (s : Shared) (H : Hp) (C : Addr) (cl : List (Str × Addr)) (fp : List Addr) : PI (blkX X s H scope C cl fp) tg1 iter1 (wiB X scope tg1 iter1) := ⟨fun pins s1 σ H1 R I h => h s H C cl fp pins s1 I⟩
/-- the turns within a turn -/
structure InnS (X : Cx) (scope : Scope) (elt : Expr) (S : Src) (D : Addr) (L : Lg) (st : V → Lg → (En → Lg → Prop) → Prop) (Pw : Nat → Lg → Prop) (Nx : Lg → Prop) : Prop where
  h0 : Pw 0 L
  kp : ∀ i M, i ≤ S.n → (M.map (·.1)).Nodup → Pw i M → S.keep M
  hs : ∀ i x E M, i < S.n → S.item i x E → ((E ++ M).map (·.1)).Nodup → Pw i M → st x (E ++ M) fun θ M' => LcTurn X scope [] elt D (Pw (i + 1)) θ M'
  hd : ∀ M, Pw S.n M → Nx M
structure Lc2S (X : Cx) (scope : Scope) (tg1 iter1 elt : Expr) (S : Src) (D : Addr) (L : Lg) (st : V → Lg → (En → Lg → Prop) → Prop) (st1 : En → V → Lg → (En → Lg → Prop) → Prop) (Pv : Nat → Lg → Prop) (Q : QV) : Prop where
  h0 : Pv 0 ((D, .lst []) :: L)
  kp : ∀ i M, i ≤ S.n → (M.map (·.1)).Nodup → Pv i M → S.keep M
  hs : ∀ i x E M, i < S.n → S.item i x E → ((E ++ M).map (·.1)).Nodup → Pv i M → st x (E ++ M) fun θ M' => AllBlk X scope fun B => GI B tg1 iter1 θ M' fun S1 M2 => ∃ Pw, InnS X scope elt S1 D M2 (st1 θ) Pw (Pv (i + 1))
  hd : ∀ M, Pv S.n M → Q (.ref D) M
theorem lc2_core' {g g1 : TG} {vs vs1 : List Nat} {st : V → Lg → (En → Lg → Prop) → Prop} {st1 : En → V → Lg → (En → Lg → Prop) → Prop} (nη : X.N = names η) {H : Hp} (hH : Has H L) {Qh : VK} (hq : ∀ D M H', Has H' M → Q (.ref D) M → Qh (.ref D) H')
    (hst : ∀ v M H' k Qk, Has H' M → st v M k → (∀ θ M' H2, X.N = names θ → Has H2 M' → k θ M' → wipe (vals θ) vs = wipe (vals η) vs → Qk (vals θ) H2) → g v (wipe (vals η) vs) H' Qk)
    (hst1 : ∀ θ, X.N = names θ → ∀ v M H' k Qk, Has H' M → st1 θ v M k → (∀ θ' M' H2, X.N = names θ' → Has H2 M' → k θ' M' → wipe (vals θ') vs1 = wipe (vals θ) vs1 → Qk (vals θ') H2) → g1 v (wipe (vals θ) vs1) H' Qk)
    (h : GI X tg iter η L fun S L1 => ∀ D, ∃ Pv, Lc2S X scope tg1 iter1 elt S D L1 st st1 Pv Q) : tLc2 (WI X tg iter) g tYes (wiB X scope tg1 iter1) g1 tYes (teB X scope elt) vs vs1 (vals η) H Qh := by
  intro pins s I
  refine wpAny_mono (h nη H hH pins s I) (fun v s1 z => wpAny_mono z (fun itv s2 z2 => ?_) fun _ _ z => z) fun _ _ z => z
  obtain ⟨it, fp, tn, J, H1, ev, I2, T, t0, f2, L1, S, k1, ok, l⟩ := z2
  refine ⟨it, fp, tn, J, H1, ev, I2, T, t0, f2, fun D nD => ?_⟩
  obtain ⟨Pv, l⟩ := l D
  refine ⟨fun i m H => m = S.n - i ∧ i ≤ S.n ∧ ∃ M, Has H M ∧ Pv i M, ⟨S.n, by simp, Nat.zero_le _, _, k1.new nD, l.h0⟩, ?_⟩
  rintro t m H2 ⟨rfl, hi2, M, h3, q1⟩
  have kk := l.kp t M hi2 h3.1 q1
  by_cases hlt : t < S.n
  · refine .inr ⟨ok.goes t H2 M hlt h3 kk, fun H' => ∃ M, Has H' M ∧ Pv (t + 1) M, fun H' p' => ⟨S.n - (t + 1), by omega, rfl, hlt, p'⟩, fun v H3 y => ?_⟩
    obtain ⟨E, it', h4⟩ := ok.yields t H2 v H3 M hlt h3 kk y
    refine hst v (E ++ M) H3 _ _ h4 (l.hs t v E M hlt it' h4.1 q1) fun θ M' H5 nθ h5 q2 ew => ⟨ew, ?_⟩
    refine yes_in (ite_t ?_)
    intro s' H' C cl fp' pins2 s3 I3
    refine wpAny_mono (q2 s' H' C cl fp' nθ H5 h5 pins2 s3 I3) (fun v s1 z => wpAny_mono z (fun itv s2 z2 => ?_) fun _ _ z => z) fun _ _ z => z
    obtain ⟨it2, fp2, tn2, J2, H6, ev2, I4, T2, t02, f3, L2, S1, k2, ok1, Pw, w⟩ := z2
    refine ⟨it2, fp2, tn2, J2, H6, ev2, I4, T2, t02, f3, fun j m H => m = S1.n - j ∧ j ≤ S1.n ∧ ∃ M, Has H M ∧ Pw j M, ⟨S1.n, by simp, Nat.zero_le _, _, k2, w.h0⟩, ?_⟩
    rintro j m2 H7 ⟨rfl, hj2, M7, h7, p7⟩
    have kk1 := w.kp j M7 hj2 h7.1 p7
    by_cases hlt1 : j < S1.n
    · refine .inr ⟨ok1.goes j H7 M7 hlt1 h7 kk1, fun H' => ∃ M, Has H' M ∧ Pw (j + 1) M, fun H' p' => ⟨S1.n - (j + 1), by omega, rfl, hlt1, p'⟩, fun v1 H8 y1 => ?_⟩
      obtain ⟨E1, it1, h8⟩ := ok1.yields j H7 v1 H8 M7 hlt1 h7 kk1 y1
      refine hst1 θ nθ v1 (E1 ++ M7) H8 _ _ h8 (w.hs j v1 E1 M7 hlt1 it1 h8.1 p7) fun θ' M8 H9 nθ' h9 q9 ew1 => ⟨ew1, ?_⟩
      refine yes_in (ite_t ?_)
      intro s4 H10 C1 cl1 fp1
      refine (ite_out (gts_out (q9 s4 H10 C1 cl1 fp1)) s4 H10 C1 cl1 fp1).then nθ' h9 fun y2 M2 H11 h11 q4 => ?_
      obtain ⟨acc, M3, m2, z, sw, q5⟩ := q4
      exact ⟨acc, h11.get m2, z, M3, h11.swap sw, q5⟩
    · have e : j = S1.n := by omega
      subst e
      exact .inl ⟨ok1.stops H7 M7 h7 kk1, M7, h7, w.hd M7 p7⟩
  · have e : t = S.n := by omega
    subst e
    exact .inl ⟨ok.stops H2 M h3 kk, hq D M H2 h3 (l.hd M q1)⟩
/-- the store of an inner item: one name -/
abbrev stPut (y : Str) : En → V → Lg → (En → Lg → Prop) → Prop := fun θ v M k => ∃ θ', Put y v θ θ' ∧ k θ' M
theorem lift_put {θ : En} : StLift (stPut y θ) := fun _ _ _ _ _ _ _ h ⟨θ', p, z⟩ => ⟨θ', p, h _ z⟩
theorem st_put {j : Nat} (hj : X.N[j]? = some y) (hN : X.N.Nodup) : ∀ θ, X.N = names θ → ∀ v M H' k Qk, Has H' M → stPut y θ v M k → (∀ θ' M' H2, X.N = names θ' → Has H2 M' → k θ' M' → wipe (vals θ') [j] = wipe (vals θ) [j] → Qk (vals θ') H2) → gName j v (wipe (vals θ) [j]) H' Qk := fun θ nθ v M H' k Qk hM ⟨θ', p, q⟩ hk => by
  obtain ⟨i, h1, h2, h3⟩ := p.idx
  have ij : j = i := idxU hN hj (by rw [nθ]; exact h1)
  subst ij
  have e1 : (wipe (vals θ) [j]).set j (some v) = vals θ' := by
    rw [h2]
    show ((vals θ).set j none).set j (some v) = _
    rw [List.set_set]
  have z := hk θ' M H' (by rw [h3]; exact nθ) hM q (by rw [h2]; exact wipe_one)
  show Qk ((wipe (vals θ) [j]).set j (some v)) H'
  rw [e1]
  exact z
end
section
variable {X : Cx} {η : En} {L : Lg} {elt iter tg tg1 iter1 : Expr} {scope : Scope} {pos p1 p2 p3 p4 : Pos} {x y z w : Str} {f : V → En} {Q : QV}
/-- what the turns within a turn are shown of -/
abbrev InnR {α : Type} (X : Cx) (scope : Scope) (elt : Expr) (st1 : En → V → Lg → (En → Lg → Prop) → Prop) (Rep : Lg → V → α → Prop) (D : Addr) (zs : List V) (R : Lg) (ds : List α) (θ : En) (S1 : Src) (N : Lg) : Prop :=
  ∃ R', Sub ((D, .lst zs) :: R') N ∧ (∀ e ∈ R, e ∈ R') ∧ S1.n = ds.length ∧ (∀ M, (∀ e ∈ R', e ∈ M) → S1.keep M) ∧
    ∀ j y E zs2 R2, j < S1.n → S1.item j y E → (∀ e ∈ R', e ∈ R2) → ((E ++ ((D, HO.lst zs2) :: R2)).map (·.1)).Nodup → ∃ a, ds[j]? = some a ∧ st1 θ y (E ++ ((D, .lst zs2) :: R2)) fun θ' M' => EltR X scope elt Rep D zs2 R2 a θ' M'
def Rep2L (X : Cx) (scope : Scope) (tg1 iter1 elt : Expr) (st : V → Lg → (En → Lg → Prop) → Prop) (st1 : En → V → Lg → (En → Lg → Prop) → Prop) (Q : V → Lg → Prop) (S : Src) (L1 : Lg) : Prop :=
  ∃ (α : Type) (Rep : Lg → V → α → Prop) (ds : Nat → List α), RepMono Rep ∧ ((List.range S.n).flatMap ds).length ≤ 1000000 ∧ (∀ M, (∀ e ∈ L1, e ∈ M) → S.keep M) ∧
    (∀ D i x E zs R, i < S.n → S.item i x E → (∀ e ∈ L1, e ∈ R) → ((E ++ ((D, HO.lst zs) :: R)).map (·.1)).Nodup → st x (E ++ ((D, .lst zs) :: R)) fun θ M' => AllBlk X scope fun B => GI B tg1 iter1 θ M' fun S1 N => InnR X scope elt st1 Rep D zs R (ds i) θ S1 N) ∧
    ∀ D zs R, (∀ e ∈ L1, e ∈ R) → Reps (Rep R) zs ((List.range S.n).flatMap ds) → Q (.ref D) ((D, .lst zs) :: R)
theorem lc2_rep {st : V → Lg → (En → Lg → Prop) → Prop} {st1 : En → V → Lg → (En → Lg → Prop) → Prop} (lift : StLift st) (lift1 : ∀ θ, StLift (st1 θ)) {S : Src} (h : Rep2L X scope tg1 iter1 elt st st1 Q S L) (D : Addr) : ∃ Pv, Lc2S X scope tg1 iter1 elt S D L st st1 Pv (drp Q) := by
  obtain ⟨α, Rep, ds, mono, hn, kp, tn, q⟩ := h
  have pre : ∀ i, i ≤ S.n → ∃ r, (List.range S.n).flatMap ds = (List.range i).flatMap ds ++ r := fun i hi => by
    have e : List.range S.n = List.range i ++ (List.range (S.n - i)).map (i + ·) := by
      rw [show S.n = i + (S.n - i) by omega, List.range_add]
      simp
    rw [e, List.flatMap_append]
    exact ⟨_, rfl⟩
  refine ⟨fun i M => ∃ zs R, Sub ((D, .lst zs) :: R) M ∧ (∀ e ∈ L, e ∈ R) ∧ Reps (Rep R) zs ((List.range i).flatMap ds), ⟨[], L, Sub.refl, fun _ h => h, .nil⟩, ?_, ?_, ?_⟩
  · rintro i M _ nd ⟨zs, R, sb, up, -⟩
    exact kp M fun e he => (sb.to nd).2 _ (List.mem_cons_of_mem _ (up e he))
  · rintro i x E M hi it nd ⟨zs, R, sb, up, rp⟩
    have sE := Sub.append sb (E := E)
    refine lift _ _ _ _ _ nd sE (fun θ h => ?_) (tn D i x E zs R hi it up (sE.to nd).1)
    intro s1 H1 C1 cl1 fp1
    refine GI.sub sE ((h s1 H1 C1 cl1 fp1).imp fun S1 N ⟨R', sb1, up1, en, kp1, tn1⟩ => ?_)
    refine ⟨fun j M => ∃ zs2 R2, Sub ((D, .lst zs2) :: R2) M ∧ (∀ e ∈ R', e ∈ R2) ∧ Reps (Rep R2) zs2 ((List.range i).flatMap ds ++ (ds i).take j), ⟨zs, R', sb1, fun _ h => h, by rw [List.take_zero, List.append_nil]; exact rp.imp fun v b k => mono _ _ _ _ up1 k⟩, ?_, ?_, ?_⟩
    · rintro j M2 _ nd2 ⟨zs2, R2, sb2, up2, -⟩
      exact kp1 M2 fun e he => (sb2.to nd2).2 _ (List.mem_cons_of_mem _ (up2 e he))
    · rintro j y E1 M2 hj it1 nd2 ⟨zs2, R2, sb2, up2, rp2⟩
      have sE2 := Sub.append sb2 (E := E1)
      obtain ⟨a, ga, tt⟩ := tn1 j y E1 zs2 R2 hj it1 up2 (sE2.to nd2).1
      refine lift1 θ _ _ _ _ _ nd2 sE2 (fun θ' h' => ?_) tt
      have hl := rp2.len
      have small : zs2.length < 10000000 := by
        obtain ⟨r, er⟩ := pre (i + 1) (by omega)
        rw [er, List.range_succ, List.flatMap_append, List.length_append, List.length_append] at hn
        simp only [List.flatMap_cons, List.flatMap_nil, List.append_nil] at hn
        rw [List.length_append, List.length_take] at hl
        omega
      have z := elt_turn mono small rp2 h' sE2
      have e : (List.range i).flatMap ds ++ (ds i).take j ++ [a] = (List.range i).flatMap ds ++ (ds i).take (j + 1) := by
        rw [List.append_assoc, List.take_succ, ga]
        rfl
      rw [e] at z
      intro s2 H2 C2 cl2 fp2
      refine gts_nil (ite_t ?_)
      intro s3 H3 C3 cl3 fp3
      exact (ite_out (gts_out (z s2 H2 C2 cl2 fp2)) s3 H3 C3 cl3 fp3).imp fun y M2 ⟨acc, M3, a1, a2, a3, zs', R3, b1, b2, b3⟩ => ⟨acc, M3, a1, a2, a3, zs', R3, b1, fun e he => b2 _ (up2 e he), b3⟩
    · rintro M2 ⟨zs2, R2, sb2, up2, rp2⟩
      refine ⟨zs2, R2, sb2, fun e he => up2 _ (up1 _ (up e he)), ?_⟩
      rw [List.take_of_length_le (by omega)] at rp2
      rw [List.range_succ, List.flatMap_append]
      simpa using rp2
  · rintro M ⟨zs, R, sb, up, rp⟩
    exact ⟨_, sb, q D zs R up rp⟩
end
section
variable {X : Cx} {η : En} {L : Lg} {Q : QV} {f : Addr} {x : Str} {e : Expr} {es : List Expr} {pos p1 : Pos}
/-- x(e, .., *es) -/
theorem ge_callFS {φ : List V → Lg → Prop} (hm : X.mg x = some (.ref f)) (hk : PySem.W.keepIn X.K (.ref f) = true) (F : X.N = names η → GF X η f argsP φ Q) (h : GA X (e :: es) η L φ) (hg : Gl X x := by rfl) (hd : (x == ("__debug__" : Str)) = false := by decide)
    (he : starEach (e :: es) X.env = (false, eval e X.env) :: starEach es X.env := by rfl) (hst : (backTo pos (starEach es X.env)).any (·.1) = true := by rfl) : GE X (.Call (.Name x p1) (e :: es) [] pos) η L Q := fun hN H hH pins s I => by
  refine wpAny_Call_Name_kw (ld_glob I hg hm ?_ hd)
  refine PySem.W.callWith_S2 (h₀ := X.base) I.ok.mod.kin hk ?_ he hst
  exact thn (h hN H hH pos pins s I) fun us s1 ⟨vs, H1, J, r, L1, h1, q⟩ => ⟨J.kIn, F hN pins s1 H1 us vs L1 h1 J r q⟩
end
end G
set_option Elab.async false
set_option linter.all false
set_option maxRecDepth 100000
set_option maxHeartbeats 4000000
namespace G
open PySem PySem.Spec PyProof.Rows L2
section
variable {X : Cx} {η : En} {L : Lg} {elt iter tg tg1 iter1 : Expr} {scope : Scope} {pos p1 p2 p3 p4 : Pos} {x y z w : Str} {f : V → En} {Q : QV}
/-- u = [elt for x in iter for y in iter1] -/
theorem gs_lc11 {D : GD} {u : Str} {fu : V → En} {pu : Pos} (Pu : PutF u η fu) (P : PutF x η f) (h : GI X (.Name x p1) iter η L fun S L1 => ∀ d, ∃ Pv, Lc2S X scope (.Name y p2) iter1 elt S d L1 (stOne f) (stPut y) Pv fun v M => D.nx (fu v) M) (hyN : y ∈ X.N) (hb : blkC X.N X.env.scope scope [(x, X.N.idxOf x), (y, X.N.idxOf y)] = true) (hw : wipe (vals η) [X.N.idxOf x, X.N.idxOf y] = vals η)
    (hlx : LocB X scope x := by exact fun _ _ _ _ _ => ⟨.inl rfl, .inr rfl⟩) (hly : LocB X scope y := by exact fun _ _ _ _ _ => ⟨.inl rfl, .inr rfl⟩)
    (hul : X.env.scope.names.lookup u = some .local := by rfl) (hsw : swapsWith (.ListComp elt [⟨.Name x p1, iter, [], 0⟩, ⟨.Name y p2, iter1, [], 0⟩] scope pos) (some (.Name u pu)) p3.line X.env = pure true := by rfl)
    (hN : X.N.Nodup := by assumption) (hc : X.calm = true := by rfl) (hs : ∀ z, foldedSetIterable iter X.env z = pure z := by intro _; rfl) (hs1 : ∀ env z, foldedSetIterable iter1 env z = pure z := by intro _ _; rfl) : GS X (.Assign [.Name u pu] (.ListComp elt [⟨.Name x p1, iter, [], 0⟩, ⟨.Name y p2, iter1, [], 0⟩] scope pos) p3) D η L := fun nη H hH => by
  obtain ⟨i, h1, h2⟩ := P.idx
  obtain ⟨k, k1, k2⟩ := Pu.idx
  have hi : X.N[i]? = some x := by rw [nη]; exact h1
  have hk : X.N[k]? = some u := by rw [nη]; exact k1
  have jl := List.idxOf_lt_length_of_mem hyN
  have hj : X.N[X.N.idxOf y]? = some y := by rw [List.getElem?_eq_getElem jl, List.getElem_idxOf jl]
  generalize X.N.idxOf y = j at *
  rw [idxEq hN hi] at hb hw
  refine WS.of (ps_setLc2 (own := [(x, i), (y, j)]) (vs1 := [j]) hc hN hk hul hsw pi_W (blkOk_by hb) (by simp) (fun s H C cl fp => pg_name (X := blkX X s H scope C cl fp) hN hi (hlx s H C cl fp).1 (hlx s H C cl fp).2) (fun s H C cl fp => pts_nil) pi_wiB (fun s H C cl fp => pg_name (X := blkX X s H scope C cl fp) hN hj (hly s H C cl fp).1 (hly s H C cl fp).2) (fun s H C cl fp => pts_nil) pe_teB hs hs1) ?_
  refine lc2_core' (Qh := fun v H1 => gName k v (vals η) H1 (D.ends X).nx) (st := stOne f) nη hH (fun d M H' hM q => ?_) (fun v M H' k Qk hM q hk => ?_) (st_put hj hN) h
  · show upS X D.nx ((vals η).set k (some (.ref d))) H'
    exact ⟨fu (.ref d), M, by rw [(k2 _).2]; exact nη, (k2 _).1.symm, hM, q⟩
  · show Qk ((wipe (vals η) [i, j]).set i (some v)) H'
    rw [hw]
    have z := hk (f v) M H' (by rw [(h2 v).2]; exact nη) hM q (by rw [(h2 v).1]; exact wipe_mem (by simp))
    rw [(h2 v).1] at z
    exact z
theorem gs_lcR11 {D : GD} {u : Str} {fu : V → En} {pu : Pos} (Pu : PutF u η fu) (P : PutF x η f) (h : GI X (.Name x p1) iter η L (Rep2L X scope (.Name y p2) iter1 elt (stOne f) (stPut y) fun v M => D.nx (fu v) M)) (hyN : y ∈ X.N) (hb : blkC X.N X.env.scope scope [(x, X.N.idxOf x), (y, X.N.idxOf y)] = true) (hw : wipe (vals η) [X.N.idxOf x, X.N.idxOf y] = vals η)
    (hlx : LocB X scope x := by exact fun _ _ _ _ _ => ⟨.inl rfl, .inr rfl⟩) (hly : LocB X scope y := by exact fun _ _ _ _ _ => ⟨.inl rfl, .inr rfl⟩)
    (hul : X.env.scope.names.lookup u = some .local := by rfl) (hsw : swapsWith (.ListComp elt [⟨.Name x p1, iter, [], 0⟩, ⟨.Name y p2, iter1, [], 0⟩] scope pos) (some (.Name u pu)) p3.line X.env = pure true := by rfl)
    (hN : X.N.Nodup := by assumption) (hc : X.calm = true := by rfl) (hs : ∀ z, foldedSetIterable iter X.env z = pure z := by intro _; rfl) (hs1 : ∀ env z, foldedSetIterable iter1 env z = pure z := by intro _ _; rfl) : GS X (.Assign [.Name u pu] (.ListComp elt [⟨.Name x p1, iter, [], 0⟩, ⟨.Name y p2, iter1, [], 0⟩] scope pos) p3) D η L :=
  GS.undrp (gs_lc11 Pu P (h.imp fun S L1 r d => lc2_rep (Q := fun v M => D.nx (fu v) M) lift_one (fun _ => lift_put) r d) hyN hb hw hlx hly hul hsw hN hc hs hs1)
end
end G
set_option Elab.async false
set_option linter.all false
set_option maxRecDepth 100000
set_option maxHeartbeats 4000000
namespace G
open PySem PySem.Spec PyProof.Rows L2
end G
set_option Elab.async false
set_option linter.all false
set_option maxRecDepth 100000
set_option maxHeartbeats 4000000
namespace L2
open PySem PySem.Spec PyProof.Rows
end L2
namespace G
open PySem PySem.Spec PyProof.Rows L2
end G
set_option Elab.async false
set_option linter.all false
set_option maxRecDepth 100000
set_option maxHeartbeats 4000000
namespace G
open PySem PySem.Spec PyProof.Rows L2
end G
set_option Elab.async false
set_option linter.all false
set_option maxRecDepth 100000
set_option maxHeartbeats 4000000
namespace L2
open PySem PySem.Spec PyProof.Rows
theorem turn_long {P : Program} {w : World} {K : PySem.W.Frag} {tg : Expr} (it : Addr) (lo c : Int) (n : Nat) : Turn P w K tg (Itc lo c n) [it] it (fun i h => IsLongIter h it (lo + (i : Nat) * c) ((n : Int) - (i : Nat)) c) where
  mem := by simp
  obj := fun i h st b hb => by
    have e : b = it := by simpa using hb
    subst e
    exact ⟨_, st, fun v z => nomatch z⟩
  keep := fun i h h' st k => k it (by simp) _ st
  item := by
    intro X hP hw hK hc i pins s σ H E I hf st hg
    subst hP hw hK
    obtain ⟨f0, f1, f2, f3, f4, f5⟩ := hf it (by simp)
    refine (Walks.longrange (prog := X.prog) (w := X.w) (I.ok.hd hc) it lo c n).item i s _ _ hg st fun v h' tk hv st' kk => ?_
    obtain ⟨t, rfl⟩ := hv
    have I1 : Inv X pins σ H { s with heap := h', toks := tk } := I.turned (fun b o hb e => kk b o (by simpa using hb) e) f0 f1 f3 f4 f5
    exact ⟨_, rfl, go_of (s := { s with heap := h', toks := tk }) (n := "longrange_iterator") st' rfl rfl (by decide) ⟨.int (lo + (i : Nat) * c), H, I1, ⟨t, rfl⟩, ⟨rfl, rfl⟩, st', fun b hb => (hf b hb).1⟩⟩
  done := by
    intro X hP hw hK hc i pins s σ H E I hf st hg
    subst hP hw hK
    obtain ⟨f0, f1, f2, f3, f4, f5⟩ := hf it (by simp)
    exact wpAny_pyNext_long_end (I.ok.hd hc) st (by have : n ≤ i := hg; omega) fun h' eb => ⟨rfl, I.turned (t' := s.toks) (fun b o hb e => eb b o hb e) f0 f1 f3 f4 f5⟩
  self := fun A i s Q E st h => wpAny_pyIter_longiter st h
/-- n items, the step above 0 -/
def RgB (i j c : Int) (n : Nat) : Prop := 0 < c ∧ c.natAbs.log2 < 9000 ∧ Builtin.Range.rangeSize i j c = n
end L2
namespace G
open PySem PySem.Spec PyProof.Rows L2
/-- how many are from i on and below j, by a step -/
def stepsN (i j c : Int) : Nat := if i < j then ((j - i - 1) / c).toNat + 1 else 0
theorem RgB.of {i j c : Int} (c0 : 0 < c) (cb : c.natAbs.log2 < 9000) : RgB i j c (stepsN i j c) := by
  refine ⟨c0, cb, ?_⟩
  unfold Builtin.Range.rangeSize stepsN
  rw [if_pos c0]
  split
  · have := Int.ediv_nonneg (a := j - i - 1) (b := c) (by omega) (by omega)
    omega
  · rfl
theorem log2_lt {c : Int} {k : Nat} (h : c.natAbs < 2 ^ k) (hk : k ≤ 9000) : c.natAbs.log2 < 9000 := by
  by_cases h0 : c.natAbs = 0
  · rw [h0]
    decide +kernel
  · have := (Nat.log2_lt h0).mpr h
    omega
end G
set_option Elab.async false
set_option linter.all false
set_option maxRecDepth 100000
set_option maxHeartbeats 4000000
namespace G
open PySem PySem.Spec PyProof.Rows L2
end G
set_option Elab.async false
set_option linter.all false
set_option maxRecDepth 100000
set_option maxHeartbeats 4000000
namespace G
open PySem PySem.Spec PyProof.Rows L2
end G
set_option Elab.async false
set_option linter.all false
set_option maxRecDepth 100000
set_option maxHeartbeats 4000000
namespace G
open PySem PySem.Spec PyProof.Rows L2
end G
set_option Elab.async false
set_option linter.all false
set_option maxRecDepth 100000
set_option maxHeartbeats 4000000
namespace G
open PySem PySem.Spec PyProof.Rows L2
class St (P : Prop) (P' : outParam Prop) : Prop where
  to : P' → P
class AtI (x : Str) (v : outParam V) (η : En) : Prop where
  h : At x v η
instance (priority := high) atiH {x : Str} {v : V} {η : En} : AtI x v ((x, some v) :: η) := ⟨.here⟩
instance (priority := low) atiT {x : Str} {v : V} {e : Str × Option V} {η : En} [a : AtI x v η] : AtI x v (e :: η) := ⟨.there a.h⟩
class MemI (p : Addr) (o : outParam HO) (L : Lg) : Prop where
  h : (p, o) ∈ L
instance (priority := high) memiH {p : Addr} {o : HO} {L : Lg} : MemI p o ((p, o) :: L) := ⟨mem0⟩
instance (priority := low) memiT {p : Addr} {o : HO} {e : Addr × HO} {L : Lg} [m : MemI p o L] : MemI p o (e :: L) := ⟨memS m.h⟩
class NStar (e : Expr) : Prop where
  h : ∀ es env, starEach (e :: es) env = (false, eval e env) :: starEach es env
instance {a b} : NStar (.Name a b) := ⟨fun _ _ => rfl⟩
instance {a b c} : NStar (.Constant a b c) := ⟨fun _ _ => rfl⟩
instance {a b c d} : NStar (.BinOp a b c d) := ⟨fun _ _ => rfl⟩
instance {a b c} : NStar (.UnaryOp a b c) := ⟨fun _ _ => rfl⟩
instance {a b c} : NStar (.BoolOp a b c) := ⟨fun _ _ => rfl⟩
instance {a b c d} : NStar (.Compare a b c d) := ⟨fun _ _ => rfl⟩
instance {a b c d} : NStar (.Call a b c d) := ⟨fun _ _ => rfl⟩
instance {a b c} : NStar (.Attribute a b c) := ⟨fun _ _ => rfl⟩
instance {a b c} : NStar (.Subscript a b c) := ⟨fun _ _ => rfl⟩
instance {a b c} : NStar (.Tuple a b c) := ⟨fun _ _ => rfl⟩
instance {a b} : NStar (.List a b) := ⟨fun _ _ => rfl⟩
instance {a b c d} : NStar (.IfExp a b c d) := ⟨fun _ _ => rfl⟩
instance {a b c} : NStar (.NamedExpr a b c) := ⟨fun _ _ => rfl⟩
instance {a b c d} : NStar (.Lambda a b c d) := ⟨fun _ _ => rfl⟩
instance {a b c} : NStar (.Dict a b c) := ⟨fun _ _ => rfl⟩
instance {a b c} : NStar (.Set a b c) := ⟨fun _ _ => rfl⟩
instance {a b c d} : NStar (.ListComp a b c d) := ⟨fun _ _ => rfl⟩
instance {a b c d} : NStar (.SetComp a b c d) := ⟨fun _ _ => rfl⟩
instance {a b c d f} : NStar (.DictComp a b c d f) := ⟨fun _ _ => rfl⟩
instance {a b c d} : NStar (.GeneratorExp a b c d) := ⟨fun _ _ => rfl⟩
instance {a b} : NStar (.JoinedStr a b) := ⟨fun _ _ => rfl⟩
instance {a b c d} : NStar (.FormattedValue a b c d) := ⟨fun _ _ => rfl⟩
class NMark (op : CmpOp) (b : Expr) : Prop where
  h : behindInMarks op b = false
instance {op a b} : NMark op (.Name a b) := ⟨rfl⟩
instance {op a b c} : NMark op (.Constant a b c) := ⟨rfl⟩
instance {op a b c d} : NMark op (.BinOp a b c d) := ⟨rfl⟩
instance {op a b c} : NMark op (.UnaryOp a b c) := ⟨rfl⟩
instance {op a b c d} : NMark op (.Call a b c d) := ⟨rfl⟩
instance {op a b c} : NMark op (.Attribute a b c) := ⟨rfl⟩
instance {op a b c} : NMark op (.Subscript a b c) := ⟨rfl⟩
instance {op a b c} : NMark op (.Tuple a b c) := ⟨rfl⟩
instance {op a b} : NMark op (.List a b) := ⟨rfl⟩
instance {op a b c} : NMark op (.NamedExpr a b c) := ⟨rfl⟩
instance {op a b c d} : NMark op (.Lambda a b c d) := ⟨rfl⟩
instance {op a b c} : NMark op (.Dict a b c) := ⟨rfl⟩
instance {op a b c d} : NMark op (.ListComp a b c d) := ⟨rfl⟩
instance {op a b c d} : NMark op (.SetComp a b c d) := ⟨rfl⟩
instance {op a b c d f} : NMark op (.DictComp a b c d f) := ⟨rfl⟩
instance {op a b c d} : NMark op (.GeneratorExp a b c d) := ⟨rfl⟩
instance {op a b} : NMark op (.JoinedStr a b) := ⟨rfl⟩
instance {op a b c d} : NMark op (.FormattedValue a b c d) := ⟨rfl⟩
instance {op a b c} : NMark op (.BoolOp a b c) := ⟨rfl⟩
instance {op a b c d} : NMark op (.Compare a b c d) := ⟨rfl⟩
instance {op a b c d} : NMark op (.IfExp a b c d) := ⟨rfl⟩
section
variable {X : Cx} {η : En} {L : Lg} {Q : QV} {a b c e : Expr} {pos : Pos}
instance {i : Int} {j} : St (GE X (.Constant (.int i) j pos) η L Q) (Q (.int i) L) := ⟨ge_int⟩
instance {i : Bool} {j} : St (GE X (.Constant (.bool i) j pos) η L Q) (Q (.bl i) L) := ⟨ge_bl⟩
instance {j} : St (GE X (.Constant .none j pos) η L Q) (Q .non L) := ⟨ge_non⟩
instance {i : Str} {j} : St (GE X (.Constant (.str i) j pos) η L Q) (Q (.str i) L) := ⟨ge_str⟩
instance {op : Operator} : St (GE X (.BinOp a op b pos) η L Q) (GE X a η L fun x L1 => GE X b η L1 fun y L2 => GOp X (binaryOp op) x y L2 Q) := ⟨ge_bin⟩
instance {op : UnaryOp} : St (GE X (.UnaryOp op a pos) η L Q) (GE X a η L fun x L1 => GUn X (unaryOp op) x L1 Q) := ⟨ge_un⟩
instance (priority := high) : St (GE X (.UnaryOp .Not a pos) η L Q) (GE X a η L fun x L1 => ∃ k, x = .bl k ∧ Q (.bl (!k)) L1) := ⟨ge_not⟩
instance {op : CmpOp} [m : NMark op b] : St (GE X (.Compare a [op] [b] pos) η L Q) (GE X a η L fun x L1 => GE X b η L1 fun y L2 => GOp X (compareOp op) x y L2 Q) := ⟨fun h => ge_cmp h m.h⟩
instance {op : BoolOp} : St (GE X (.BoolOp op [a] pos) η L Q) (GE X a η L Q) := ⟨ge_one⟩
instance {rest : List Expr} : St (GE X (.BoolOp .And (a :: b :: rest) pos) η L Q) (GE X a η L fun x L1 => ∃ k, x = .bl k ∧ if k = true then GE X (.BoolOp .And (b :: rest) pos) η L1 Q else Q (.bl false) L1) := ⟨ge_and⟩
instance {rest : List Expr} : St (GE X (.BoolOp .Or (a :: b :: rest) pos) η L Q) (GE X a η L fun x L1 => ∃ k, x = .bl k ∧ if k = true then Q (.bl true) L1 else GE X (.BoolOp .Or (b :: rest) pos) η L1 Q) := ⟨ge_or⟩
instance : St (GE X (.IfExp c a b pos) η L Q) (GT X c η L fun k L1 => if k = true then GE X a η L1 Q else GE X b η L1 Q) := ⟨ge_if⟩
instance {es : List Expr} {x1} : St (GE X (.Tuple es x1 pos) η L Q) (GA X es η L fun xs L1 => xs.length ≤ sizeLine ∧ ∀ p, Q (.ref p) ((p, .tup xs) :: L1)) := ⟨ge_tup⟩
instance {es : List Expr} : St (GE X (.List es pos) η L Q) (GA X es η L fun xs L1 => xs.length ≤ sizeLine ∧ ∀ p, Q (.ref p) ((p, .lst xs) :: L1)) := ⟨ge_lst⟩
instance {Q : List V → Lg → Prop} : St (GA X [] η L Q) (Q [] L) := ⟨ga_nil⟩
instance {es : List Expr} {Q : List V → Lg → Prop} [n : NStar e] : St (GA X (e :: es) η L Q) (GE X e η L fun x L1 => GA X es η L1 fun xs L2 => Q (x :: xs) L2) := ⟨fun h => ga_cons h (n.h _ _)⟩
instance {i j : Int} : St (GOp X (binaryOp .Add) (.int i) (.int j) L Q) (Q (.int (i + j)) L) := ⟨go_add⟩
instance {i j : Int} : St (GOp X (binaryOp .Sub) (.int i) (.int j) L Q) (Q (.int (i - j)) L) := ⟨go_sub⟩
instance {i j : Int} : St (GOp X (compareOp .Lt) (.int i) (.int j) L Q) (Q (.bl (decide (i < j))) L) := ⟨go_lt⟩
instance {i j : Int} : St (GOp X (compareOp .LtE) (.int i) (.int j) L Q) (Q (.bl (decide (i ≤ j))) L) := ⟨go_le⟩
instance {i j : Int} : St (GOp X (compareOp .Eq) (.int i) (.int j) L Q) (Q (.bl (decide (i = j))) L) := ⟨go_eq⟩
instance {i j : Int} : St (GOp X (compareOp .Gt) (.int i) (.int j) L Q) (Q (.bl (decide (j < i))) L) := ⟨go_gt⟩
instance {i j : Int} : St (GOp X (compareOp .GtE) (.int i) (.int j) L Q) (Q (.bl (decide (j ≤ i))) L) := ⟨go_ge⟩
instance {i j : Int} : St (GOp X (compareOp .NotEq) (.int i) (.int j) L Q) (Q (.bl (!decide (i = j))) L) := ⟨go_ne⟩
end
section
variable {X : Cx} {η : En} {L : Lg} {Q : Bool → Lg → Prop} {a b c e : Expr} {pos : Pos}
instance {op : CmpOp} [m : NMark op b] : St (GT X (.Compare a [op] [b] pos) η L Q) (GE X a η L fun x L1 => GE X b η L1 fun y L2 => GOp X (compareOp op) x y L2 fun z L3 => ∃ k, z = .bl k ∧ Q k L3) := ⟨fun h => gt_cmp h m.h⟩
instance {op : BoolOp} {es : List Expr} : St (GT X (.BoolOp op es pos) η L Q) (GW X (.BoolOp op es pos) η L Q) := ⟨gt_w⟩
instance : St (GT X (.UnaryOp .Not a pos) η L Q) (GT X a η L fun k L1 => Q (!k) L1) := ⟨gt_not⟩
instance {x : Str} : St (GT X (.Name x pos) η L Q) (GE X (.Name x pos) η L fun x L1 => ∃ k, x = .bl k ∧ Q k L1) := ⟨gt_val⟩
instance {f : Expr} {es ks} : St (GT X (.Call f es ks pos) η L Q) (GE X (.Call f es ks pos) η L fun x L1 => ∃ k, x = .bl k ∧ Q k L1) := ⟨gt_val⟩
instance : St (GW X (.BoolOp .And [a] pos) η L Q) (GT X a η L Q) := ⟨gw_and1⟩
instance : St (GW X (.BoolOp .Or [a] pos) η L Q) (GT X a η L Q) := ⟨gw_or1⟩
instance {rest : List Expr} : St (GW X (.BoolOp .And (a :: b :: rest) pos) η L Q) (GT X a η L fun k L1 => if k = true then GW X (.BoolOp .And (b :: rest) pos) η L1 Q else Q false L1) := ⟨gw_and⟩
instance {rest : List Expr} : St (GW X (.BoolOp .Or (a :: b :: rest) pos) η L Q) (GT X a η L fun k L1 => if k = true then Q true L1 else GW X (.BoolOp .Or (b :: rest) pos) η L1 Q) := ⟨gw_or⟩
end
section
variable {X : Cx} {η : En} {L : Lg} {e : Expr} {pos : Pos} {D : GD}
instance {st : Stmt} {rest : List Stmt} : St (GSs X (st :: rest) D η L) (GS X st { nx := fun θ L1 => GSs X rest D θ L1, rt := D.rt, bk := D.bk, ct := D.ct } η L) := ⟨gss_cons⟩
instance : St (GSs X [] D η L) (D.nx η L) := ⟨gss_nil⟩
instance : St (GS X (.Return (some e) pos) D η L) (GE X e η L D.rt) := ⟨gs_ret⟩
instance : St (GS X (.Return none pos) D η L) (D.rt .non L) := ⟨gs_retN⟩
instance : St (GS X (.Pass pos) D η L) (D.nx η L) := ⟨gs_pass⟩
instance : St (GS X (.Break pos) D η L) (D.bk η L) := ⟨gs_break⟩
instance : St (GS X (.Continue pos) D η L) (D.ct η L) := ⟨gs_continue⟩
instance {Q : En → Lg → Prop} : St (GGs X [] [] η L Q) (Q η L) := ⟨ggs_nil⟩
end
instance {p q : Prop} : St (if true = true then p else q) p := ⟨fun h => h⟩
instance {p q : Prop} : St (if false = true then p else q) q := ⟨fun h => h⟩
instance {p q : Prop} : St (if (!true) = true then p else q) q := ⟨fun h => h⟩
instance {p q : Prop} : St (if (!false) = true then p else q) p := ⟨fun h => h⟩
instance {k : Bool} {q : Bool → Prop} : St (∃ j, V.bl k = .bl j ∧ q j) (q k) := ⟨fun h => ⟨_, rfl, h⟩⟩
/-- the names of a def, as its scope has them -/
def chkN (N : List Str) (sc : Scope) : Bool := N.all fun x => (sc.names.lookup x == some .local || sc.names.lookup x == some .cell) && !(x == ("__debug__" : Str)) && !(x == ("__classdict__" : Str))
class OkL (sc : Scope) (M : outParam (List Str)) : Prop where
  k : chkN M sc = true
class InS (x : Str) (M : List Str) : Prop where
  h : x ∈ M
instance (priority := high) insH {x : Str} {M : List Str} : InS x (x :: M) := ⟨mem0⟩
instance (priority := low) insT {x y : Str} {M : List Str} [i : InS x M] : InS x (y :: M) := ⟨memS i.h⟩
class NdI (N : List Str) : Prop where
  n : N.Nodup
class VisX (X : Cx) : Prop where
  n : X.N.Nodup
  f : ∀ x, X.fn x = true
  c : X.calm = true
class OkX (X : Cx) (x : Str) : Prop where
  l : Loc X.env.scope x
  d : (x == ("__debug__" : Str)) = false ∧ (x == ("__classdict__" : Str)) = false
theorem chkN_at {N : List Str} {sc : Scope} (h : chkN N sc = true) {x : Str} (m : x ∈ N) : Loc sc x ∧ (x == ("__debug__" : Str)) = false ∧ (x == ("__classdict__" : Str)) = false := by
  have := List.all_eq_true.mp h x m
  simp only [Bool.and_eq_true, Bool.or_eq_true, beq_iff_eq, Bool.not_eq_true'] at this
  exact ⟨this.1.1, this.1.2, this.2⟩
instance {P : Program} {w : World} {K : PySem.W.Frag} {mg : Str → Option Value} {base : Heap} {N : List Str} {x : Str} {sc : Scope} {f : Addr} {cdv : Value} {A : Around} {outer : List Env} {s : Shared} {H : Hp} {E0 : XK} [k : NdI N] : VisX (cx0 P w K mg base N x sc f cdv A outer s H E0) := ⟨k.n, fun _ => rfl, rfl⟩
instance {P : Program} {w : World} {K : PySem.W.Frag} {mg : Str → Option Value} {base : Heap} {N : List Str} {x : Str} {sc : Scope} {f : Addr} {cdv : Value} {A : Around} {outer : List Env} {s : Shared} {H : Hp} {E0 : XK} {y : Str} {M : List Str} [k : OkL sc M] [i : InS y M] : OkX (cx0 P w K mg base N x sc f cdv A outer s H E0) y := ⟨(chkN_at k.k i.h).1, (chkN_at k.k i.h).2⟩
class PutFI (x : Str) (η : En) (f : outParam (V → En)) : Prop where
  h : PutF x η f
instance (priority := high) putfiH {x : Str} {o : Option V} {η : En} : PutFI x ((x, o) :: η) (fun v => (x, some v) :: η) := ⟨.here⟩
instance (priority := low) putfiT {x : Str} {e : Str × Option V} {η : En} {f : V → En} [p : PutFI x η f] : PutFI x (e :: η) (fun v => e :: f v) := ⟨.there p.h⟩
class PutI (x : Str) (v : V) (η : En) (θ : outParam En) : Prop where
  h : Put x v η θ
instance (priority := high) putiH {x : Str} {v : V} {o : Option V} {η : En} : PutI x v ((x, o) :: η) ((x, some v) :: η) := ⟨.here⟩
instance (priority := low) putiT {x : Str} {v : V} {e : Str × Option V} {η θ : En} [p : PutI x v η θ] : PutI x v (e :: η) (e :: θ) := ⟨.there p.h⟩
class NSwap (e : Expr) : Prop where
  h : ∀ t l env, swapsWith e t l env = pure false
instance {a b} : NSwap (.Name a b) := ⟨fun _ _ _ => rfl⟩
instance {a b c} : NSwap (.Constant a b c) := ⟨fun _ _ _ => rfl⟩
instance {a b c d} : NSwap (.BinOp a b c d) := ⟨fun _ _ _ => rfl⟩
instance {a b c} : NSwap (.UnaryOp a b c) := ⟨fun _ _ _ => rfl⟩
instance {a b c} : NSwap (.BoolOp a b c) := ⟨fun _ _ _ => rfl⟩
instance {a b c d} : NSwap (.Compare a b c d) := ⟨fun _ _ _ => rfl⟩
instance {a b c d} : NSwap (.Call a b c d) := ⟨fun _ _ _ => rfl⟩
instance {a b c} : NSwap (.Attribute a b c) := ⟨fun _ _ _ => rfl⟩
instance {a b c} : NSwap (.Subscript a b c) := ⟨fun _ _ _ => rfl⟩
instance {a b c} : NSwap (.Tuple a b c) := ⟨fun _ _ _ => rfl⟩
instance {a b} : NSwap (.List a b) := ⟨fun _ _ _ => rfl⟩
instance {a b c d} : NSwap (.IfExp a b c d) := ⟨fun _ _ _ => rfl⟩
instance {a b c} : NSwap (.NamedExpr a b c) := ⟨fun _ _ _ => rfl⟩
instance {a b c d} : NSwap (.Lambda a b c d) := ⟨fun _ _ _ => rfl⟩
instance {a b c} : NSwap (.Dict a b c) := ⟨fun _ _ _ => rfl⟩
instance {a b c} : NSwap (.Set a b c) := ⟨fun _ _ _ => rfl⟩
instance {a b c d} : NSwap (.GeneratorExp a b c d) := ⟨fun _ _ _ => rfl⟩
instance {a b} : NSwap (.JoinedStr a b) := ⟨fun _ _ _ => rfl⟩
instance {a b c d} : NSwap (.FormattedValue a b c d) := ⟨fun _ _ _ => rfl⟩
class PIx (e : Expr) : Prop where
  h : PlainIx e
instance {a b} : PIx (.Name a b) := ⟨fun _ _ => rfl⟩
instance {a b c} : PIx (.Constant a b c) := ⟨fun _ _ => rfl⟩
instance {a b c d} : PIx (.BinOp a b c d) := ⟨fun _ _ => rfl⟩
instance {a b c} : PIx (.UnaryOp a b c) := ⟨fun _ _ => rfl⟩
instance {a b c} : PIx (.BoolOp a b c) := ⟨fun _ _ => rfl⟩
instance {a b c d} : PIx (.Compare a b c d) := ⟨fun _ _ => rfl⟩
instance {a b c d} : PIx (.Call a b c d) := ⟨fun _ _ => rfl⟩
instance {a b c} : PIx (.Attribute a b c) := ⟨fun _ _ => rfl⟩
instance {a b c} : PIx (.Subscript a b c) := ⟨fun _ _ => rfl⟩
instance {a b c} : PIx (.Tuple a b c) := ⟨fun _ _ => rfl⟩
instance {a b} : PIx (.List a b) := ⟨fun _ _ => rfl⟩
instance {a b c d} : PIx (.IfExp a b c d) := ⟨fun _ _ => rfl⟩
instance {a b c} : PIx (.NamedExpr a b c) := ⟨fun _ _ => rfl⟩
instance {a b c d} : PIx (.Lambda a b c d) := ⟨fun _ _ => rfl⟩
instance {a b c} : PIx (.Dict a b c) := ⟨fun _ _ => rfl⟩
instance {a b c} : PIx (.Set a b c) := ⟨fun _ _ => rfl⟩
instance {a b c d} : PIx (.ListComp a b c d) := ⟨fun _ _ => rfl⟩
instance {a b c d} : PIx (.SetComp a b c d) := ⟨fun _ _ => rfl⟩
instance {a b c d f} : PIx (.DictComp a b c d f) := ⟨fun _ _ => rfl⟩
instance {a b c d} : PIx (.GeneratorExp a b c d) := ⟨fun _ _ => rfl⟩
instance {a b} : PIx (.JoinedStr a b) := ⟨fun _ _ => rfl⟩
instance {a b c d} : PIx (.FormattedValue a b c d) := ⟨fun _ _ => rfl⟩
class NBase (e : Expr) : Prop where
  h : ∀ n env, attributeBase e n env (eval e env) = eval e env
instance {a b} : NBase (.Name a b) := ⟨fun _ _ => rfl⟩
instance {a b c} : NBase (.Attribute a b c) := ⟨fun _ _ => rfl⟩
instance {a b c} : NBase (.Subscript a b c) := ⟨fun _ _ => rfl⟩
class NTgt (e : Expr) : Prop where
  h : ∀ ts env, assignEach (e :: ts) env = (false, assign e env) :: assignEach ts env
instance {a b} : NTgt (.Name a b) := ⟨fun _ _ => rfl⟩
instance {a b c} : NTgt (.Attribute a b c) := ⟨fun _ _ => rfl⟩
instance {a b c} : NTgt (.Subscript a b c) := ⟨fun _ _ => rfl⟩
instance {a b c} : NTgt (.Tuple a b c) := ⟨fun _ _ => rfl⟩
class NTgts (es : List Expr) : Prop where
  h : ∀ env, (assignEach es env).length = es.length ∧ (assignEach es env).findIdx? (·.1) = none
instance : NTgts [] := ⟨fun _ => ⟨rfl, rfl⟩⟩
instance {e : Expr} {es : List Expr} [a : NTgt e] [b : NTgts es] : NTgts (e :: es) := ⟨fun env => by
  have := b.h env
  rw [a.h]
  exact ⟨by simp [this.1], by simp [List.findIdx?_cons, this.2]⟩⟩
class SLen {α β : Type} (xs : List α) (es : List β) : Prop where
  h : xs.length = es.length
instance {α β : Type} : SLen ([] : List α) ([] : List β) := ⟨rfl⟩
instance {α β : Type} {x : α} {xs : List α} {y : β} {ys : List β} [a : SLen xs ys] : SLen (x :: xs) (y :: ys) := ⟨by simp [a.h]⟩
section
variable {X : Cx} {η : En} {L : Lg} {Q : QV} {a b e : Expr} {pos : Pos} {D : GD}
instance {x : Str} {v : V} [k : OkX X x] [t : AtI x v η] : St (GE X (.Name x pos) η L Q) (Q v L) := ⟨fun q => ge_var t.h q (k.l.elim .inl fun z => .inr (.inl z)) k.d.1 k.d.2⟩
instance [i : PIx b] : St (GE X (.Subscript a b pos) η L Q) (GE X a η L fun x L1 => GE X b η L1 fun y L2 => GIx X x y L2 Q) := ⟨fun h => ge_ix h i.h⟩
instance {n : Str} [i : NBase e] : St (GE X (.Attribute e n pos) η L Q) (GE X e η L fun x L1 => GAt X n x L1 Q) := ⟨fun h => ge_attr h (i.h _ _)⟩
instance {x : Str} {f : V → En} {pos' : Pos} [k : VisX X] [o : OkX X x] [p : PutFI x η f] [s : NSwap e] : St (GS X (.Assign [.Name x pos'] e pos) D η L) (GE X e η L fun v L1 => D.nx (f v) L1) := ⟨fun h => gs_set p.h h k.n o.l (s.h _ _ _) (.inl (k.f x))⟩
instance [s : NSwap e] : St (GS X (.Expr e pos) D η L) (GE X e η L fun x L1 => D.nx η L1) := ⟨fun h => gs_expr h (s.h _ _ _)⟩
instance {x : Str} {y : V} {f : V → En} {pos' : Pos} {op : Operator} [k : VisX X] [o : OkX X x] [t : AtI x y η] [p : PutFI x η f] : St (GS X (.AugAssign (.Name x pos') op e pos) D η L) (GE X e η L fun z L1 => GIp X op y z L1 fun w L2 => D.nx (f w) L2) := ⟨fun h => gs_aug t.h p.h h k.n o.l (.inl (k.f x))⟩
instance {x : Str} {v : V} {θ : En} {Q : En → Lg → Prop} [k : VisX X] [o : OkX X x] [p : PutI x v η θ] : St (GG X (.Name x pos) v η L Q) (Q θ L) := ⟨fun h => gg_name p.h h k.n o.l (.inl (k.f x))⟩
instance {v : V} {ts : List Expr} {vs : List V} {Q : En → Lg → Prop} [n : NTgt e] : St (GGs X (e :: ts) (v :: vs) η L Q) (GG X e v η L fun θ L1 => GGs X ts vs θ L1 Q) := ⟨fun h => ggs_cons h (by rw [n.h]; rfl)⟩
instance {es : List Expr} {k : Nat} {p : Addr} {xs : List V} {Q : En → Lg → Prop} [v : VisX X] [m : MemI p (.tup xs) L] [n : NTgts es] [s : SLen xs es] : St (GG X (.Tuple es k pos) (.ref p) η L Q) (GGs X es xs η L Q) := ⟨fun h => gg_tup m.h h s.h v.c (n.h _).1 (n.h _).2⟩
instance {i j : Int} : St (GIp X .Add (.int i) (.int j) L Q) (Q (.int (i + j)) L) := ⟨gp_add⟩
instance {i j : Int} : St (GIp X .Sub (.int i) (.int j) L Q) (Q (.int (i - j)) L) := ⟨gp_sub⟩
instance {i : Int} : St (GUn X (unaryOp .USub) (.int i) L Q) (Q (.int (-i)) L) := ⟨gu_neg⟩
instance : St (GOp X (compareOp .Is) .non .non L Q) (Q (.bl true) L) := ⟨isN_non⟩
instance : St (GOp X (compareOp .IsNot) .non .non L Q) (Q (.bl false) L) := ⟨notN_non⟩
instance {i : Int} : St (GOp X (compareOp .Is) (.int i) .non L Q) (Q (.bl false) L) := ⟨isN_int⟩
instance {i : Int} : St (GOp X (compareOp .IsNot) (.int i) .non L Q) (Q (.bl true) L) := ⟨notN_int⟩
instance {i : Addr} : St (GOp X (compareOp .Is) (.ref i) .non L Q) (Q (.bl false) L) := ⟨isN_ref⟩
instance {i : Addr} : St (GOp X (compareOp .IsNot) (.ref i) .non L Q) (Q (.bl true) L) := ⟨notN_ref⟩
end
instance {i : Int} {q : Int → Prop} : St (∃ j, V.int i = .int j ∧ q j) (q i) := ⟨fun h => ⟨_, rfl, h⟩⟩
instance {i : Addr} {q : Addr → Prop} : St (∃ j, V.ref i = .ref j ∧ q j) (q i) := ⟨fun h => ⟨_, rfl, h⟩⟩
instance {a : V} {q : V → Prop} : St (∃ v, [a] = [v] ∧ q v) (q a) := ⟨fun h => ⟨_, rfl, h⟩⟩
instance {a b : V} {q : V → V → Prop} : St (∃ v w, [a, b] = [v, w] ∧ q v w) (q a b) := ⟨fun h => ⟨_, _, rfl, h⟩⟩
instance {a b c : V} {q : V → V → V → Prop} : St (∃ u v w, [a, b, c] = [u, v, w] ∧ q u v w) (q a b c) := ⟨fun h => ⟨_, _, _, rfl, h⟩⟩
class NSt (t e : Expr) : Prop where
  h : ∀ env, swappedStores [t] e env = pure none
instance {ts k p a b} : NSt (.Tuple ts k p) (.Name a b) := ⟨fun _ => rfl⟩
instance {ts k p a b c} : NSt (.Tuple ts k p) (.Constant a b c) := ⟨fun _ => rfl⟩
instance {ts k p a b c d} : NSt (.Tuple ts k p) (.BinOp a b c d) := ⟨fun _ => rfl⟩
instance {ts k p a b c} : NSt (.Tuple ts k p) (.UnaryOp a b c) := ⟨fun _ => rfl⟩
instance {ts k p a b c} : NSt (.Tuple ts k p) (.BoolOp a b c) := ⟨fun _ => rfl⟩
instance {ts k p a b c d} : NSt (.Tuple ts k p) (.Compare a b c d) := ⟨fun _ => rfl⟩
instance {ts k p a b c d} : NSt (.Tuple ts k p) (.Call a b c d) := ⟨fun _ => rfl⟩
instance {ts k p a b c} : NSt (.Tuple ts k p) (.Attribute a b c) := ⟨fun _ => rfl⟩
instance {ts k p a b c} : NSt (.Tuple ts k p) (.Subscript a b c) := ⟨fun _ => rfl⟩
instance {ts k p a b} : NSt (.Tuple ts k p) (.List a b) := ⟨fun _ => rfl⟩
instance {ts k p a b c d} : NSt (.Tuple ts k p) (.IfExp a b c d) := ⟨fun _ => rfl⟩
instance {u v p e} : NSt (.Subscript u v p) e := ⟨fun _ => by cases e <;> rfl⟩
class NAsg (t : Expr) : Prop where
  h : ∀ env, (assignEach [t] env).map (·.2) = [assign t env]
instance {ts k p} : NAsg (.Tuple ts k p) := ⟨fun _ => rfl⟩
instance {u v p} : NAsg (.Subscript u v p) := ⟨fun _ => rfl⟩
instance {X : Cx} {η : En} {L : Lg} {t e : Expr} {pos : Pos} {D : GD} [s : NSwap e] [n : NSt t e] [a : NAsg t] : St (GS X (.Assign [t] e pos) D η L) (GE X e η L fun v L1 => GG X t v η L1 D.nx) := ⟨fun h => gs_asg h (s.h _ _ _) (n.h _) (a.h _)⟩
/-- a step by a built-in's name -/
class StB (P : Prop) (mg : outParam (Str → Option Value)) (C P' : outParam Prop) : Prop where
  to : Bi mg → C → P' → P
section
variable {X : Cx} {η : En} {L : Lg} {Q : QV} {e : Expr} {es : List Expr} {pos p : Pos}
instance [n : NStar e] : StB (GE X (.Call (.Name "len" p) (e :: es) [] pos) η L Q) X.mg (Gl X "len" ∧ (backTo pos (starEach es X.env)).any (·.1) = false) (GA X (e :: es) η L fun xs L1 => GC X (.builtin "len") xs L1 Q) := ⟨fun B c h => gb_len B h c.1 (n.h _ _) c.2⟩
instance [n : NStar e] : StB (GE X (.Call (.Name "abs" p) (e :: es) [] pos) η L Q) X.mg (Gl X "abs" ∧ (backTo pos (starEach es X.env)).any (·.1) = false) (GA X (e :: es) η L fun xs L1 => GC X (.builtin "abs") xs L1 Q) := ⟨fun B c h => gb_abs B h c.1 (n.h _ _) c.2⟩
instance [n : NStar e] : StB (GE X (.Call (.Name "min" p) (e :: es) [] pos) η L Q) X.mg (Gl X "min" ∧ (backTo pos (starEach es X.env)).any (·.1) = false) (GA X (e :: es) η L fun xs L1 => GC X (.builtin "min") xs L1 Q) := ⟨fun B c h => gb_min B h c.1 (n.h _ _) c.2⟩
instance [n : NStar e] : StB (GE X (.Call (.Name "max" p) (e :: es) [] pos) η L Q) X.mg (Gl X "max" ∧ (backTo pos (starEach es X.env)).any (·.1) = false) (GA X (e :: es) η L fun xs L1 => GC X (.builtin "max") xs L1 Q) := ⟨fun B c h => gb_max B h c.1 (n.h _ _) c.2⟩
instance [n : NStar e] : StB (GE X (.Call (.Name "sum" p) (e :: es) [] pos) η L Q) X.mg (Gl X "sum" ∧ (backTo pos (starEach es X.env)).any (·.1) = false) (GA X (e :: es) η L fun xs L1 => GC X (.builtin "sum") xs L1 Q) := ⟨fun B c h => gb_sum B h c.1 (n.h _ _) c.2⟩
instance [n : NStar e] : StB (GE X (.Call (.Name "sorted" p) (e :: es) [] pos) η L Q) X.mg (Gl X "sorted" ∧ (backTo pos (starEach es X.env)).any (·.1) = false) (GA X (e :: es) η L fun xs L1 => GC X (.builtin "sorted") xs L1 Q) := ⟨fun B c h => gb_sorted B h c.1 (n.h _ _) c.2⟩
instance [n : NStar e] : StB (GE X (.Call (.Name "any" p) (e :: es) [] pos) η L Q) X.mg (Gl X "any" ∧ (backTo pos (starEach es X.env)).any (·.1) = false) (GA X (e :: es) η L fun xs L1 => GC X (.builtin "any") xs L1 Q) := ⟨fun B c h => gb_any B h c.1 (n.h _ _) c.2⟩
instance [n : NStar e] : StB (GE X (.Call (.Name "all" p) (e :: es) [] pos) η L Q) X.mg (Gl X "all" ∧ (backTo pos (starEach es X.env)).any (·.1) = false) (GA X (e :: es) η L fun xs L1 => GC X (.builtin "all") xs L1 Q) := ⟨fun B c h => gb_all B h c.1 (n.h _ _) c.2⟩
instance [n : NStar e] : StB (GE X (.Call (.Name "isinstance" p) (e :: es) [] pos) η L Q) X.mg (Gl X "isinstance" ∧ (backTo pos (starEach es X.env)).any (·.1) = false) (GA X (e :: es) η L fun xs L1 => GC X (.builtin "isinstance") xs L1 Q) := ⟨fun B c h => gb_isinstance B h c.1 (n.h _ _) c.2⟩
instance [n : NStar e] : StB (GE X (.Call (.Name "int" p) (e :: es) [] pos) η L Q) X.mg (Gl X "int" ∧ (backTo pos (starEach es X.env)).any (·.1) = false) (GA X (e :: es) η L fun xs L1 => GC X (.type "int") xs L1 Q) := ⟨fun B c h => gb_int B h c.1 (n.h _ _) c.2⟩
instance [n : NStar e] : StB (GE X (.Call (.Name "list" p) (e :: es) [] pos) η L Q) X.mg (Gl X "list" ∧ (backTo pos (starEach es X.env)).any (·.1) = false) (GA X (e :: es) η L fun xs L1 => GC X (.type "list") xs L1 Q) := ⟨fun B c h => gb_list B h c.1 (n.h _ _) c.2⟩
instance [n : NStar e] : StB (GE X (.Call (.Name "tuple" p) (e :: es) [] pos) η L Q) X.mg (Gl X "tuple" ∧ (backTo pos (starEach es X.env)).any (·.1) = false) (GA X (e :: es) η L fun xs L1 => GC X (.type "tuple") xs L1 Q) := ⟨fun B c h => gb_tuple B h c.1 (n.h _ _) c.2⟩
instance [n : NStar e] : StB (GE X (.Call (.Name "bool" p) (e :: es) [] pos) η L Q) X.mg (Gl X "bool" ∧ (backTo pos (starEach es X.env)).any (·.1) = false) (GA X (e :: es) η L fun xs L1 => GC X (.type "bool") xs L1 Q) := ⟨fun B c h => gb_bool B h c.1 (n.h _ _) c.2⟩
instance [n : NStar e] : StB (GE X (.Call (.Name "str" p) (e :: es) [] pos) η L Q) X.mg (Gl X "str" ∧ (backTo pos (starEach es X.env)).any (·.1) = false) (GA X (e :: es) η L fun xs L1 => GC X (.type "str") xs L1 Q) := ⟨fun B c h => gb_str B h c.1 (n.h _ _) c.2⟩
instance : StB (GE X (.Name "int" pos) η L Q) X.mg (Gl X "int" ∧ 0 = 0) (Q (.ty "int") L) := ⟨fun B c q => gv_int B q c.1⟩
instance : StB (GE X (.Name "bool" pos) η L Q) X.mg (Gl X "bool" ∧ 0 = 0) (Q (.ty "bool") L) := ⟨fun B c q => gv_bool B q c.1⟩
instance : StB (GE X (.Name "tuple" pos) η L Q) X.mg (Gl X "tuple" ∧ 0 = 0) (Q (.ty "tuple") L) := ⟨fun B c q => gv_tuple B q c.1⟩
instance : StB (GE X (.Name "list" pos) η L Q) X.mg (Gl X "list" ∧ 0 = 0) (Q (.ty "list") L) := ⟨fun B c q => gv_list B q c.1⟩
instance : StB (GE X (.Name "str" pos) η L Q) X.mg (Gl X "str" ∧ 0 = 0) (Q (.ty "str") L) := ⟨fun B c q => gv_str B q c.1⟩
instance : StB (GE X (.Name "ValueError" pos) η L Q) X.mg (Gl X "ValueError" ∧ 0 = 0) (Q (.ty "ValueError") L) := ⟨fun B c q => gv_ValueError B q c.1⟩
instance : StB (GE X (.Name "LookupError" pos) η L Q) X.mg (Gl X "LookupError" ∧ 0 = 0) (Q (.ty "LookupError") L) := ⟨fun B c q => gv_LookupError B q c.1⟩
instance {i : Int} : St (GC X (.type "int") [.int i] L Q) (Q (.int i) L) := ⟨gc_int⟩
instance {k : Bool} : St (GC X (.type "int") [.bl k] L Q) (Q (.int (if k = true then 1 else 0)) L) := ⟨gc_intB⟩
instance {i : Int} : St (GC X (.builtin "abs") [.int i] L Q) (Q (.int i.natAbs) L) := ⟨gc_abs⟩
instance {i j : Int} [v : VisX X] : St (GC X (.builtin "min") [.int i, .int j] L Q) (Q (.int (if j < i then j else i)) L) := ⟨gc_min2 v.c⟩
instance {i j : Int} [v : VisX X] : St (GC X (.builtin "max") [.int i, .int j] L Q) (Q (.int (if j > i then j else i)) L) := ⟨gc_max2 v.c⟩
instance {q : Addr} {xs : List V} [m : MemI q (.lst xs) L] : St (GC X (.builtin "len") [.ref q] L Q) (Q (.int xs.length) L) := ⟨gc_lenL m.h⟩
instance {q : Addr} {xs : List V} [m : MemI q (.tup xs) L] : St (GC X (.builtin "len") [.ref q] L Q) (Q (.int xs.length) L) := ⟨gc_lenT m.h⟩
theorem isE (h : GE X e η L Q) : GE X e η L Q := h
theorem isC {f : Value} {xs : List V} (h : GC X f xs L Q) : GC X f xs L Q := h
theorem isIx {x y : V} (h : GIx X x y L Q) : GIx X x y L Q := h
theorem isAt {n : Str} {x : V} (h : GAt X n x L Q) : GAt X n x L Q := h
theorem isS {st : Stmt} {D : GD} (h : GS X st D η L) : GS X st D η L := h
theorem isT {Q : Bool → Lg → Prop} (h : GT X e η L Q) : GT X e η L Q := h
theorem isA {Q : List V → Lg → Prop} (h : GA X es η L Q) : GA X es η L Q := h
theorem isSt {o i v : V} {Q : Lg → Prop} (h : GSt X o i v L Q) : GSt X o i v L Q := h
theorem isG {v : V} {Q : En → Lg → Prop} (h : GG X e v η L Q) : GG X e v η L Q := h
end
end G
set_option Elab.async false
set_option linter.all false
set_option maxRecDepth 100000
set_option maxHeartbeats 4000000
namespace G
open PySem PySem.Spec PyProof.Rows L2
end G
set_option Elab.async false
set_option linter.all false
set_option maxRecDepth 100000
set_option maxHeartbeats 4000000
namespace G
open PySem PySem.Spec PyProof.Rows L2
/-- a tuple that stands in the program's heap -/
def TupK (K : PySem.W.Frag) (a : Addr) (xs : List V) : Prop := ∃ (o : Obj) (its : Array Value) (n : Nat), K.lookup a = some o ∧ o.cls = .type "tuple" ∧ o.data = .seq its n ∧ its.size ≤ sizeLine ∧ Vals xs its.toList
theorem TupK.sq {K : PySem.W.Frag} {a : Addr} {xs : List V} (h : TupK K a xs) (H : Hp) : SqT K H a xs := .inr h
/-- the constant (1, ((0, 0),)) -/
structure EvT (K : PySem.W.Frag) (mg : Str → Option Value) (x : Str) where
  e : Addr
  r : Addr
  p : Addr
  at_ : mg x = some (.ref e)
  te : TupK K e [.int 1, .ref r]
  tr : TupK K r [.ref p]
  tp : TupK K p [.int 0, .int 0]
theorem EvT.dp {K : PySem.W.Frag} {mg : Str → Option Value} {x : Str} (T : EvT K mg x) (H : Hp) : Dp K H (.ref T.e) (.tuple [.int 1, .tuple [.tuple [.int 0, .int 0]]]) :=
  .tup (T.te.sq H) (.cons (.int 1) (.cons (.tup (T.tr.sq H) (.cons (.tup (T.tp.sq H) (.cons (.int 0) (.cons (.int 0) .nil))) .nil)) .nil))
end G
set_option Elab.async false
set_option linter.all false
set_option maxRecDepth 100000
set_option maxHeartbeats 4000000
namespace L2
open PySem PySem.Spec PyProof.Rows
def iRngB2 (ta : TA) : TI := fun σ H R => ta σ H fun vs H1 => ∃ (i j : Int) (n : Nat), vs = [.int i, .int j] ∧ RgB i j 1 n ∧ R (Itc i 1 n) H1
theorem pi_rangeB2 {X : Cx} {tg a b : Expr} {ta : TA} {p pos : Pos} (hg : Gl X "range") (hm : X.mg "range" = none) (ha : PA X [a, b] ta)
    (hs : starEach [a, b] X.env = (false, eval a X.env) :: starEach [b] X.env := by rfl) (hpl : (backTo pos (starEach [b] X.env)).any (·.1) = false := by rfl) :
    PI X tg (.Call (.Name "range" p) [a, b] [] pos) (iRngB2 ta) := by
  refine ⟨fun pins s σ H R I h => ?_⟩
  refine Call_ (ld_blt I hg hm boot_range (PyProof.Rows.callWith_type1 (thn (ha.run pos pins s σ H _ I h) fun us s1 ⟨vs, H1, I1, r1, q1⟩ => ?_) hs hpl))
  obtain ⟨i, j, n, e, ⟨c0, c1, c3⟩, q⟩ := q1
  subst e
  cases r1 with
  | cons r rr =>
    cases rr with
    | cons r' rr =>
      cases rr
      obtain ⟨t, rfl⟩ := r
      obtain ⟨t', rfl⟩ := r'
      refine PySem.call_range_2 ?_
      have I2 : Inv X pins σ H1 { s1 with heap := s1.heap.push { cls := .type "range", data := .fields #[.int i t, .int j t', .int 1 s1.toks] }, toks := s1.toks + 1 } := I1.kept (t' := s1.toks + 1) fun b o e => Heap.get?_push_of_some _ e
      have e1 : i + ((0 : Nat) : Int) * 1 = i := by simp
      have e2 : (n : Int) - ((0 : Nat) : Int) = Builtin.Range.rangeSize i j 1 := by rw [c3]; simp
      by_cases sm : Builtin.Range.small i j 1 = true
      · refine wpAny_pyIter_range (IsRange.new ..) sm ?_
        refine pi_one (tk := s1.toks + 1) I2 _ (turn_rangeC _ i 1 n) ?_ q
        show IsRangeIter _ _ (i + ((0 : Nat) : Int) * 1) ((n : Int) - ((0 : Nat) : Int)) 1
        rw [e1, e2]
        exact Heap.get?_push_size _ rfl
      · refine wpAny_pyIter_longrange (IsRange.new ..) (by simpa using sm) ?_
        refine pi_one (tk := s1.toks + 1) I2 _ (turn_long _ i 1 n) ?_ q
        show IsLongIter _ _ (i + ((0 : Nat) : Int) * 1) ((n : Int) - ((0 : Nat) : Int)) 1
        rw [e1, e2]
        exact Heap.get?_push_size _ rfl
end L2
namespace G
open PySem PySem.Spec PyProof.Rows L2
section
variable {X : Cx} {η : En} {L : Lg} {Q : Src → Lg → Prop} {a b tg : Expr} {p pos : Pos}
/-- range of two ints of any size -/
theorem gi_rangeB2 (h : GA X [a, b] η L fun vs L1 => ∃ (i j : Int), vs = [.int i, .int j] ∧ Q ⟨(j - i).toNat, fun _ => True, itemFn fun t => .int (i + (t : Nat))⟩ L1) (hm : X.mg "range" = none) (hg : Gl X "range" := by rfl)
    (hs' : starEach [a, b] X.env = (false, eval a X.env) :: starEach [b] X.env := by rfl) (hs2 : (backTo pos (starEach [b] X.env)).any (·.1) = false := by rfl) : GI X tg (.Call (.Name "range" p) [a, b] [] pos) η L Q := fun hN H hH =>
  WI.of (pi_rangeB2 hg hm pa_W hs' hs2) (h.then hN hH fun vs L1 H1 k1 ⟨i, j, e1, q⟩ => ⟨i, j, (j - i).toNat, e1, by
    have := RgB.of (i := i) (j := j) (c := 1) (by decide) (by decide +kernel)
    rwa [show stepsN i j 1 = (j - i).toNat by unfold stepsN; rw [Int.ediv_one]; split <;> omega] at this, L1, _, k1, SrcOk.of walk_rangeC (fun _ _ _ _ => True.intro) (fun i H x H' M _ hM _ y => y_fn hM y), by simpa only [Int.mul_one] using q⟩)
end
end G
set_option Elab.async false
set_option linter.all false
set_option maxRecDepth 100000
set_option maxHeartbeats 4000000
namespace G
open PySem PySem.Spec PyProof.Rows L2
end G
set_option Elab.async false
set_option linter.all false
set_option maxRecDepth 100000
set_option maxHeartbeats 4000000
namespace PySem.W
open PySem PySem.Calls PySem.Spec PyProof.Rows Builtin
end PySem.W
namespace G
open PySem PySem.Spec PyProof.Rows L2
end G
set_option Elab.async false
set_option linter.all false
set_option maxRecDepth 100000
set_option maxHeartbeats 4000000
namespace G
open PySem PySem.Spec PyProof.Rows L2
end G
set_option Elab.async false
set_option linter.all false
set_option maxRecDepth 100000
set_option maxHeartbeats 4000000
namespace PySem.SeqAt
open AutoSeq1 (wpAny_loadPart')
open MeetsSeq MeetsSeq2 MeetsSeq3 SeqRoads2
end PySem.SeqAt
namespace G
open PySem PySem.Spec PyProof.Rows L2
end G
set_option Elab.async false
set_option linter.all false
set_option maxRecDepth 100000
set_option maxHeartbeats 4000000
namespace G
open PySem PySem.Spec PyProof.Rows L2
end G
set_option Elab.async false
set_option linter.all false
set_option maxRecDepth 100000
set_option maxHeartbeats 4000000
namespace G
open PySem PySem.Spec PyProof.Rows L2
end G
set_option Elab.async false
set_option linter.all false
set_option maxRecDepth 100000
set_option maxHeartbeats 4000000
namespace G
open PySem PySem.Spec PyProof.Rows L2
end G
set_option Elab.async false
set_option linter.all false
set_option maxRecDepth 100000
set_option maxHeartbeats 4000000
namespace G
open PySem PySem.Spec PyProof.Rows L2
end G
set_option Elab.async false
set_option linter.all false
set_option maxRecDepth 100000
set_option maxHeartbeats 4000000
namespace G
open PySem PySem.Spec PyProof.Rows L2
section
variable {X : Cx} {j k : Nat} {η : En} {L : Lg} {x : Str} {e : Expr} {pos p1 p2 : Pos} {sp : SpL} {W : XW}
/-- an error of the class C with these fields is let out, whatever stands beside it -/
def telX (C : Addr) (fs : List (Str × V)) (E : XL) (L : Lg) : Prop := ∀ (d : Addr) (M : Lg), Sub ((d, HO.xd fs) :: L) M → E (.ref C) (some d) M
theorem telX.sub {C : Addr} {fs : List (Str × V)} {E : XL} {L L' : Lg} (h : telX C fs E L) (s : Sub L L') : telX C fs E L' := fun d M k => h d M (Sub.trans (Sub.cons s) k)
end
end G
set_option Elab.async false
set_option linter.all false
set_option maxRecDepth 100000
set_option maxHeartbeats 4000000
namespace G
open PySem PySem.Spec PyProof.Rows L2
section
variable {X : Cx} {η : En} {L : Lg} {Q : QV} {o e a b : Expr} {pos apos : Pos} {x y : Str} {i : Int}
theorem ge_split (h : GE X o η L fun v L1 => ∃ z : Str, v = .str z ∧ GE X e η L1 fun u L2 => ∃ s : Str, u = .str s ∧ (s.length == 0) = false ∧ z.length + 2 ≤ sizeLine ∧ ∀ p, Q (.ref p) ((p, .lst ((Txt.split z s).map V.str)) :: L2))
    (hs : starEach [e] X.env = [(false, eval e X.env)] := by rfl) (hbase : attributeBase o "split" X.env (eval o X.env) = eval o X.env := by rfl) (hline : (apos.endLine == pos.line) = true := by rfl) : GE X (.Call (.Attribute o "split" apos) [e] [] pos) η L Q := fun hN H hH =>
  WE.of (pe_split pe_W pe_W hs hbase hline) (h.then hN hH fun v L1 H1 k1 ⟨z, ev, q⟩ => by
    subst ev
    exact ⟨⟨_, rfl⟩, q.then hN k1 fun u L2 H2 k2 ⟨s, eu, n, l, q2⟩ => ⟨z, s, rfl, by rw [eu], n, l, fun p hp => ⟨_, k2.new hp, q2 p⟩⟩⟩)
theorem gi_sx {c : Nat} (hl : x.length ≤ sizeLine) (h : atI x.cps.toList i = some c) (q : Q (.str ⟨#[c]⟩) L) : GIx X (.str x) (.int i) L Q := GIx.of ix_str fun H hH => ⟨x, i, c, rfl, rfl, hl, h, L, hH, q⟩
theorem go_notInS {c : Nat} (h : Q (.bl (!decide (c ∈ y.cps.toList))) L) : GOp X (compareOp .NotIn) (.str ⟨#[c]⟩) (.str y) L Q := GOp.of op_notInS fun H hH => ⟨c, y, rfl, rfl, L, hH, h⟩
theorem go_catS (z : x.length + y.length ≤ sizeLine) (h : Q (.str (x ++ y)) L) : GOp X (binaryOp .Add) (.str x) (.str y) L Q := GOp.of op_add_str fun H hH => ⟨x, y, rfl, rfl, z, L, hH, h⟩
theorem gc_lenS (z : x.length ≤ sizeLine) (h : Q (.int x.length) L) : GC X (.builtin "len") [.str x] L Q := GC.of call_len_str fun H hH => ⟨x, rfl, z, L, hH, h⟩
theorem gc_intS {n : Int} (e : PySem.intText? x = some n) (z : x.length ≤ 640) (h : Q (.int n) L) : GC X (.type "int") [.str x] L Q := GC.of call_int_str fun H hH => ⟨x, n, rfl, e, z, L, hH, h⟩
theorem gc_strI (z : i.natAbs < 2 ^ 1920) (h : Q (.str (toString i)) L) : GC X (.type "str") [.int i] L Q := GC.of call_str_int fun H hH => ⟨i, rfl, PySem.Flt.log2_lt_of (by decide) z, L, hH, h⟩
/-- a value in a row of texts -/
theorem go_inT {v : V} {xs : List V} {p : Addr} (m : (p, HO.tup xs) ∈ L ∨ (p, HO.lst xs) ∈ L) (f : flatV v = true) (fs : xs.all flatV = true) (h : Q (.bl (inV v xs)) L) : GOp X (compareOp .In) v (.ref p) L Q := GOp.of op_in_seq fun H hH => ⟨p, xs, rfl, m.elim (fun m => .inr (sqt hH m)) (fun m => .inl (sql hH m)), f, fs, L, hH, h⟩
theorem go_repS (z : MulOk x i) (h : Q (.str (Txt.mul x i)) L) : GOp X (binaryOp .Mult) (.str x) (.int i) L Q := fun pins s σ H v u hH I rx ry => by
  obtain ⟨t, rfl⟩ := rx
  obtain ⟨t2, rfl⟩ := ry
  exact SB.mul z fun t' k => ⟨.str (Txt.mul x i), H, I.tok _, ⟨_, rfl⟩, L, hH, h⟩
end
section
variable {X : Cx} {L : Lg} {elt : Expr} {ifs : List Expr} {scope : Scope} {f : V → En} {R : V → Lg → Prop} {z : Str} {t : Nat → Bool} {g : Nat → V}
/-- a pure comprehension over the signs of a text -/
theorem pure_str (hl : z.length ≤ 1000000) (ht : ∀ c ∈ z.cps.toList, TurnP X scope ifs elt L (f (.str ⟨#[c]⟩)) (t c) (g c)) (h : ∀ D, R (.ref D) ((D, .lst ((z.cps.toList.filter t).map g)) :: L)) : PureL X scope ifs elt (stOne f) R ⟨z.cps.size, fun _ => True, fun i v E => (∃ c, z.cps[i]? = some c ∧ v = .str ⟨#[c]⟩) ∧ E = []⟩ L := by
  refine ⟨fun i => t (z.cps.toList.getD i 0), fun i => g (z.cps.toList.getD i 0), ⟨hl, fun _ _ => True.intro, fun i x E D acc M hi ⟨⟨c, hc, hx⟩, hE⟩ _ s => ?_⟩, fun D => ?_⟩
  · subst hE hx
    have hc' : z.cps.toList[i]? = some c := by simpa using hc
    have k := turnP_use (st := stOne f) (ht c (List.mem_of_getElem? hc')) s
    have e2 : z.cps.toList.getD i 0 = c := by rw [List.getD_eq_getElem?_getD, hc']; rfl
    rw [e2]
    exact k
  · have zz := filter_listA (xs := z.cps.toList) (t := t) (g := g) (p := fun i => t (z.cps.toList.getD i 0)) (h := fun i => g (z.cps.toList.getD i 0)) fun i v e => by
      have e2 : z.cps.toList.getD i 0 = v := by rw [List.getD_eq_getElem?_getD, e]; rfl
      rw [e2]
      exact ⟨rfl, rfl⟩
    show R (.ref D) ((D, .lst (((List.range z.cps.size).filter _).map _)) :: L)
    rw [show z.cps.size = z.cps.toList.length by simp, zz]
    exact h D
end
end G
set_option Elab.async false
set_option linter.all false
set_option maxRecDepth 100000
set_option maxHeartbeats 4000000
namespace PySem.W
open PySem PySem.Calls PySem.Spec PyProof.Rows Builtin
end PySem.W
namespace G
open PySem PySem.Spec PyProof.Rows L2
end G
set_option Elab.async false
set_option linter.all false
set_option maxRecDepth 100000
set_option maxHeartbeats 4000000
namespace PySem.W
open PySem PySem.Calls PyProof.Rows
end PySem.W
namespace G
open PySem PySem.Spec PyProof.Rows L2
end G
set_option Elab.async false
set_option linter.all false
set_option maxRecDepth 100000
set_option maxHeartbeats 4000000
namespace G
open PySem PySem.Spec PyProof.Rows L2
end G
set_option Elab.async false
set_option linter.all false
set_option maxRecDepth 100000
set_option maxHeartbeats 4000000
namespace PySem.W
open PySem PySem.Calls PyProof.Rows
end PySem.W
namespace G
open PySem PySem.Spec PyProof.Rows L2
end G
set_option Elab.async false
set_option linter.all false
set_option maxRecDepth 100000
set_option maxHeartbeats 4000000
namespace G
open PySem PySem.Spec PyProof.Rows L2
end G
set_option Elab.async false
set_option linter.all false
set_option maxRecDepth 100000
set_option maxHeartbeats 400000
namespace PySem
end PySem
namespace PySem
structure ZipGot (P1 P2 : Nat → Value → Prop) (lo : Addr) (h : Heap) (as : List Addr) : Prop where
  rise : as.Pairwise (· < ·)
  above : ∀ a ∈ as, lo < a
  pairs : ∀ (j : Nat) (a : Addr), as[j]? = some a → ∃ x1 x2, P1 j x1 ∧ P2 j x2 ∧ IsTupOf2 h a x1 x2
section
variable {prog : Program} {w : World} {A : Around} {E : Value → Shared → Prop} {s : Shared} {z TI TO i1 i2 S : Addr} {fp1 fp2 : List Addr} {n1 n2 i : Nat} {P1 P2 : Nat → Value → Prop} {St1 St2 : Nat → Heap → Prop}
theorem ZipGot.there {lo : Addr} {h : Heap} {as : List Addr} (g : ZipGot P1 P2 lo h as) {a : Addr} (ha : a ∈ as) : a < h.objs.size := by
  obtain ⟨j, hj⟩ := List.mem_iff_getElem?.mp ha
  obtain ⟨_, _, _, _, e⟩ := g.pairs j a hj
  exact Heap.lt_size e
variable {R : Result → Shared → Prop}
end
end PySem
namespace G
open PySem PySem.Spec PyProof.Rows L2
end G
set_option Elab.async false
set_option linter.all false
set_option maxRecDepth 100000
set_option maxHeartbeats 4000000
namespace G
open PySem PySem.Spec PyProof.Rows L2
end G
set_option Elab.async false
set_option linter.all false
set_option maxRecDepth 100000
set_option maxHeartbeats 400000
namespace G
open PySem PySem.Spec PyProof.Rows L2
/-- the lacking names are looked up, one behind another; then r -/
def KwCh {α : Type} (D : Addr) : List (Str × Value) → Sem α → Sem α → Prop
  | [], t, r => t = r
  | q :: l, t, r => ∃ (β γ : Type) (k1 : Option Value → Sem β) (k2 : β → Sem γ) (k3 : γ → Sem α) (a : β), t = ((nsGet D q.1 >>= k1) >>= k2) >>= k3 ∧ k1 (some q.2) = pure a ∧ KwCh D l (k2 a >>= k3) r
theorem KwCh.run {α : Type} {K : PySem.W.Frag} {M : Model} {A : Around} {E : Value → Shared → Prop} {Q : α → Shared → Prop} {s : Shared} {D : Addr} (X : K.In s.heap) : ∀ {l : List (Str × Value)} {t r : Sem α}, (∀ q ∈ l, PySem.W.nsIn K D q.1 = some (some q.2)) → KwCh D l t r → wpAny M A r Q E s → wpAny M A t Q E s
  | [], t, r, _, e, h => by
    have e : t = r := e
    rw [e]
    exact h
  | q :: l, t, r, hl, e, h => by
    obtain ⟨β, γ, k1, k2, k3, a, e1, e2, e3⟩ := e
    have z := KwCh.run X (fun p hp => hl p (List.mem_cons_of_mem _ hp)) e3 h
    have l1 : PySem.W.Looks M s.heap (nsGet D q.1 >>= k1) a := (PySem.W.looks_nsIn X (hl q (List.mem_cons_self ..))).andThen (PySem.W.Looks.of_pure e2)
    rw [e1, bind_assoc]
    exact wpAny_bind (l1.here z)
end G
set_option Elab.async false
set_option linter.all false
set_option maxRecDepth 100000
set_option maxHeartbeats 400000
namespace PySem.W
open PySem PySem.Calls PySem.Spec PyProof.Rows
end PySem.W
namespace G
open PySem PySem.Spec PyProof.Rows L2
/-- the defaults as the dict at D holds them -/
inductive KwHas (K : PySem.W.Frag) (D : Addr) : List (Str × V) → Prop
  | nil : KwHas K D []
  | cons {x : Str} {v : V} {u : Value} {l : List (Str × V)} (h : PySem.W.nsIn K D x = some (some u)) (r : RelV v u) (t : KwHas K D l) : KwHas K D ((x, v) :: l)
theorem KwHas.all {K : PySem.W.Frag} {D : Addr} : ∀ {l : List (Str × V)}, KwHas K D l → ∀ p ∈ l, ∃ u, PySem.W.nsIn K D p.1 = some (some u) ∧ RelV p.2 u
  | _, .nil, _, h => nomatch h
  | _, .cons h r t, p, hp => by
    rcases List.mem_cons.mp hp with rfl | hp
    · exact ⟨_, h, r⟩
    · exact t.all p hp
end G
set_option Elab.async false
set_option linter.all false
set_option maxRecDepth 100000
set_option maxHeartbeats 400000
namespace G
open PySem PySem.Spec PyProof.Rows L2
end G
set_option Elab.async false
set_option linter.all false
set_option maxRecDepth 100000
set_option maxHeartbeats 4000000
namespace G
open PySem PySem.Spec PyProof.Rows L2
/-- one item cut out of a list -/
theorem cut_one {xs : List V} {i : Nat} {v : V} (h : xs[i]? = some v) : cutV xs (some (i : Int)) (some ((i : Int) + 1)) = [v] := by
  obtain ⟨hi, rfl⟩ := List.getElem?_eq_some_iff.mp h
  unfold cutV
  rw [show ((i : Int) + 1) = ((i + 1 : Nat) : Int) from rfl, HT.sIx_nat, HT.sIx_nat, Nat.min_eq_left (by omega), Nat.min_eq_left (by omega), show i + 1 - i = 1 by omega, List.drop_eq_getElem_cons hi]
  rfl
end G
set_option Elab.async false
set_option linter.all false
set_option maxRecDepth 100000
set_option maxHeartbeats 4000000
namespace G
open PySem PySem.Spec PyProof.Rows L2
end G
set_option Elab.async false
set_option linter.all false
set_option maxRecDepth 100000
set_option maxHeartbeats 4000000
namespace G
open PySem PySem.Spec PyProof.Rows L2
end G
set_option Elab.async false
set_option linter.all false
set_option maxRecDepth 100000
set_option maxHeartbeats 4000000
namespace G
open PySem PySem.Spec PyProof.Rows L2
end G
set_option Elab.async false
set_option linter.all false
set_option maxRecDepth 100000
set_option maxHeartbeats 4000000
namespace G
open PySem PySem.Spec PyProof.Rows L2
end G
set_option Elab.async false
set_option linter.all false
set_option maxRecDepth 100000
set_option maxHeartbeats 4000000
namespace G
open PySem PySem.Spec PyProof.Rows L2
section
variable {X : Cx} {η : En} {L : Lg} {Q : QV} {e : Expr} {k : Nat} {p1 p2 p3 pos : Pos}
theorem ge_revL (h : GE X e η L fun v L1 => ∃ p xs, v = .ref p ∧ (p, HO.lst xs) ∈ L1 ∧ ∀ q, Q (.ref q) ((q, .lst xs.reverse) :: L1)) : GE X (.Subscript e (.Slice none none (some (.UnaryOp .USub (.Constant (.int 1) k p1) p2)) p3) pos) η L Q := fun hN H hH =>
  WE.of (pe_revL pe_W) (h.then hN hH fun v L1 H1 k1 ⟨p, xs, ev, m, q⟩ => ⟨p, xs, ev, sql k1 m, fun r hr => ⟨_, k1.new hr, q r⟩⟩)
end
end G
local macro_rules | `(tactic| tm_at "g_at") => `(tactic| first | with_reducible apply G.At.here | (with_reducible apply G.At.there; tm_at "g_at"))
local macro_rules | `(tactic| tm_at "g_put") => `(tactic| first | with_reducible apply G.PutF.here | (with_reducible apply G.PutF.there; tm_at "g_put"))
local macro_rules | `(tactic| tm_at "g_pv") => `(tactic| first | with_reducible apply G.Put.here | (with_reducible apply G.Put.there; tm_at "g_pv"))
local macro_rules | `(tactic| tm_at "g_mem") => `(tactic| first | with_reducible apply G.mem0 | (with_reducible apply G.memS; tm_at "g_mem") | (with_reducible apply G.memR; tm_at "g_mem") | with_reducible assumption)
local macro_rules | `(tactic| tm_at "g_memd") => `(tactic| first | apply G.mem0 | (apply G.memS; tm_at "g_memd") | (with_reducible apply G.memR; tm_at "g_memd"))
local macro_rules | `(tactic| tm_at "g_swap") => `(tactic| first | ((with_reducible apply G.Swap.here); rfl) | with_reducible assumption | ((with_reducible apply G.Swap.there); tm_at "g_swap") | ((with_reducible apply G.Swap.right); tm_at "g_swap"))
local macro_rules | `(tactic| tm_at "g_sub") => `(tactic| first | with_reducible apply G.Sub.refl | (refine G.Sub.trans ?_ G.Sub.drop; tm_at "g_sub"))
local macro_rules | `(tactic| tm_at "g_subl") => `(tactic| first | with_reducible exact List.Sublist.refl _ | with_reducible apply List.Sublist.cons_cons | with_reducible apply List.Sublist.cons)
local macro_rules | `(tactic| tm_at "g_end") => `(tactic| (refine G.Sub.sublist ?_; repeat (first | with_reducible exact List.Sublist.refl _ | with_reducible apply List.Sublist.cons_cons | with_reducible apply List.Sublist.cons | with_reducible apply G.subl_app)))
local macro_rules | `(tactic| tm_at "g_br") => `(tactic| first | with_reducible apply G.br0 | with_reducible apply G.br1 | with_reducible apply G.br2 | with_reducible apply G.br3 | with_reducible apply G.br4 | with_reducible apply G.br5 | with_reducible apply G.br6)
local macro_rules | `(tactic| tm_at "g_len") => `(tactic| (intro vs L Q E h; repeat (first | (obtain ⟨e, _⟩ := h; subst e; rfl) | (obtain ⟨_, h⟩ := h))))
local macro_rules | `(tactic| tm_at "g_size") => `(tactic| first | exact G.sz1 | exact G.sz2 | exact G.sz3 | exact G.sz_le (n := 0) (by decide) | exact G.sz_le (n := 4) (by decide) | exact G.sz_le (n := 5) (by decide) | exact G.sz_le (n := 6) (by decide) | exact G.sz_le (n := 7) (by decide) | exact G.sz_le (n := 8) (by decide) | exact G.sz_le (by first | decide | omega | (simp only [List.length_append, List.length_cons, List.length_nil, List.length_map]; omega)))
/-- all steps but a test's -/
local macro_rules | `(tactic| tm_at "f_e") => `(tactic| first
  | ((with_reducible show G.GE _ (PySem.Expr.Call (PySem.Expr.Attribute _ "append" _) _ _ _) _ _ _); refine G.ge_append ?_)
  | ((with_reducible show G.GE _ (PySem.Expr.Compare _ [_, _] _ _) _ _ _); refine G.ge_chain ?_)
  | ((with_reducible show G.GE _ (PySem.Expr.Subscript _ (PySem.Expr.Slice _ _ none _) _) _ _ _); refine G.ge_sliceL ?_)
  | ((with_reducible show G.GE _ (PySem.Expr.Name _ _) _ _ _); refine G.ge_var (by tm_at "g_at") ?_)
  | ((with_reducible show G.GE _ (PySem.Expr.Dict [] [] _) _ _ _); refine G.ge_dict0 (fun p => ?_))
  | ((with_reducible show G.GE _ (PySem.Expr.Compare _ _ _ _) _ _ _); refine G.ge_cmp ?_)
  | ((with_reducible show G.GE _ (PySem.Expr.Subscript _ _ _) _ _ _); refine G.ge_ix ?_)
  | ((with_reducible show G.GE _ (PySem.Expr.Attribute _ _ _) _ _ _); refine G.ge_attr ?_))
local macro_rules | `(tactic| tm_at "f_t") => `(tactic| first
  | ((with_reducible show G.GT _ (PySem.Expr.Compare _ [_, _] _ _) _ _ _); refine G.gt_chain ?_)
  | ((with_reducible show G.GT _ (PySem.Expr.Compare _ _ _ _) _ _ _); refine G.gt_cmp ?_)
  | refine G.gt_val ?_)
local macro_rules | `(tactic| tm_at "f_s") => `(tactic| first
  | ((with_reducible show G.GS _ (PySem.Stmt.Assign [PySem.Expr.Name _ _] _ _) _ _ _); refine G.gs_set (by tm_at "g_put") ?_)
  | ((with_reducible show G.GS _ (PySem.Stmt.Assign [PySem.Expr.Tuple [PySem.Expr.Name _ _, PySem.Expr.Name _ _] _ _] (PySem.Expr.Tuple _ _ _) _) _ _ _); refine G.gs_par (by tm_at "g_put") (fun _ => by tm_at "g_put") ?_)
  | ((with_reducible show G.GS _ (PySem.Stmt.Assign [PySem.Expr.Tuple [PySem.Expr.Name _ _, PySem.Expr.Name _ _, PySem.Expr.Name _ _] _ _] (PySem.Expr.Tuple _ _ _) _) _ _ _); refine G.gs_par3 (by tm_at "g_put") (fun _ => by tm_at "g_put") (fun _ _ => by tm_at "g_put") ?_)
  | ((with_reducible show G.GS _ (PySem.Stmt.Assign [PySem.Expr.Attribute _ _ _] _ _) _ _ _); refine G.gs_fld ?_)
  | ((with_reducible show G.GS _ (PySem.Stmt.Assign _ _ _) _ _ _); refine G.gs_asg ?_)
  | ((with_reducible show G.GS _ (PySem.Stmt.AugAssign _ _ _ _) _ _ _); refine G.gs_aug (by tm_at "g_at") (by tm_at "g_put") ?_)
  | ((with_reducible show G.GS _ (PySem.Stmt.Expr _ _) _ _ _); refine G.gs_expr ?_))
local macro_rules | `(tactic| tm_at "f_c") => `(tactic| first
  | ((with_reducible show G.GC _ (PySem.Value.builtin "len") _ _ _); first | refine G.gc_lenL (by tm_at "g_mem") ?_ | refine G.gc_lenT (by tm_at "g_mem") ?_)
  | ((with_reducible show G.GC _ (PySem.Value.builtin "min") [L2.V.int _, L2.V.int _] _ _); refine G.gc_min2 rfl ?_)
  | ((with_reducible show G.GC _ (PySem.Value.builtin "max") [L2.V.int _, L2.V.int _] _ _); refine G.gc_max2 rfl ?_))
local macro_rules | `(tactic| tm_at "f_g") => `(tactic| first
  | ((with_reducible show G.GG _ (PySem.Expr.Name _ _) _ _ _ _); refine G.gg_name (by tm_at "g_pv") ?_)
  | ((with_reducible show G.GG _ (PySem.Expr.Tuple _ _ _) _ _ _ _); refine G.gg_tup (by tm_at "g_mem") ?_)
  | ((with_reducible show G.GG _ (PySem.Expr.Subscript _ _ _) _ _ _ _); refine G.gg_sub ?_))
local macro_rules | `(tactic| tm_at "f_st") => `(tactic| first
  | refine G.gst_30 (by tm_at "g_mem") (by tm_at "g_swap") ?_
  | refine G.gst_31 (by tm_at "g_mem") (by tm_at "g_swap") ?_
  | refine G.gst_32 (by tm_at "g_mem") (by tm_at "g_swap") ?_)
local macro_rules | `(tactic| tm_at "f_i") => `(tactic| first
  | ((with_reducible show ∃ _, _ = _ ∧ _); with_reducible refine ⟨_, rfl, ?_⟩)
  | ((with_reducible show ∃ _ _, _ = _ ∧ _ ∈ _ ∧ _); refine ⟨_, _, rfl, (by tm_at "g_mem"), ?_⟩)
  | ((with_reducible show ∃ _ _, _ ∈ _ ∧ _ < _ ∧ _); refine ⟨_, _, (by tm_at "g_mem"), (by exact G.sz_lt (by simp only [List.length_append, List.length_cons, List.length_nil, List.length_map]; omega)), (by tm_at "g_swap"), ?_⟩)
  | ((with_reducible show ∃ _ _, _ = _ ∧ _); with_reducible refine ⟨_, _, rfl, ?_⟩)
  | ((with_reducible show ∃ _ _ _, _ = _ ∧ _); with_reducible refine ⟨_, _, _, rfl, ?_⟩))
local macro_rules | `(tactic| tm_at "f_a") => `(tactic| first
  | ((with_reducible show G.GA _ (PySem.Expr.Starred _ _ :: _) _ _ _); refine G.ga_star ?_)
  | refine G.ga_cons ?_)
local macro_rules | `(tactic| tm_at "f_k") => `(tactic| first
  | ((with_reducible show G.GK _ (_ :: _) _ _ _); refine G.gk_cons ?_)
  | ((with_reducible show G.GK _ [] _ _ _); refine G.gk_nil ?_)
  | ((with_reducible show G.GGs _ (_ :: _) _ _ _ _); refine G.ggs_cons ?_))
local macro_rules | `(tactic| tm_at "f1") => `(tactic| first
  | ((with_reducible apply G.isE); tm_at "f_e")
  | ((with_reducible apply G.isS); tm_at "f_s")
  | ((with_reducible apply G.isAt); refine G.gat_fldA (by tm_at "g_mem") (by assumption) (by assumption) (by exact rfl) ?_)
  | ((with_reducible apply G.isIx); first | refine G.gi_lst (by tm_at "g_mem") (by exact rfl) ?_ | refine G.gi_tup (by tm_at "g_mem") (by exact rfl) ?_)
  | ((with_reducible apply G.isT); tm_at "f_t")
  | ((with_reducible apply G.isC); tm_at "f_c")
  | ((with_reducible apply G.isG); tm_at "f_g")
  | ((with_reducible apply G.isA); tm_at "f_a")
  | ((with_reducible apply G.isSt); tm_at "f_st")
  | tm_at "f_i"
  | tm_at "f_k")
local macro_rules | `(tactic| tm_at "gx1") => `(tactic| first
  | refine G.St.to ?_
  | ((with_reducible show _ ∧ _); refine ⟨(by tm_at "g_size"), fun p => ?_⟩)
  | refine G.StB.to (by assumption) ⟨rfl, rfl⟩ ?_
  | tm_at "f1")
local macro_rules | `(tactic| tm_at "g1") => `(tactic| first
  | refine G.St.to ?_
  | with_reducible apply G.gs_if
  | ((with_reducible show _ ∧ _); refine ⟨(by tm_at "g_size"), fun p => ?_⟩)
  | refine G.StB.to (by assumption) ⟨rfl, rfl⟩ ?_
  | tm_at "f1")
local macro_rules | `(tactic| tm_at "g") => `(tactic| repeat (tm_at "g1"; try dsimp only [G.bodyD]))
local macro_rules | `(tactic| tm_at "gx") => `(tactic| repeat (tm_at "gx1"; try dsimp only [G.bodyD]))
local macro_rules | `(tactic| tm_at "g_rot") => `(tactic| first | with_reducible apply G.Sub.refl | (with_reducible apply G.rotStep; tm_at "g_rot") | (with_reducible apply G.rotApp; tm_at "g_rot"))
/-- what a draw is shown of; then intro d n m d0 d1 a0 a1 a2 -/
local macro_rules | `(tactic| tm_at "g_dr") => `(tactic| refine ⟨_, _, _, _, _, _, _, rfl, by tm_at "g_rot", by assumption, by omega, by omega, by omega, by omega, by omega, ?_⟩)
local macro_rules | `(tactic| tm_at "g_draw") => `(tactic| (refine G.ge_call (El := G.NoX) (by assumption) (by assumption) G.passA ?_; tm_at "g"; tm_at "g_dr"))
/-- what a pick is shown of; then intro k x n m hx a0 a1 a2 -/
local macro_rules | `(tactic| tm_at "g_pk") => `(tactic| refine ⟨_, _, _, _, _, _, _, _, rfl, by tm_at "g_rot", by tm_at "g_mem", by assumption, by first | exact Nat.le_of_ble_eq_true rfl | (simp only [List.length_append, List.length_cons, List.length_nil, List.length_map]; omega), by first | exact Nat.le_of_ble_eq_true rfl | (simp only [List.length_append, List.length_cons, List.length_nil, List.length_map]; omega), by omega, by omega, by omega, ?_⟩)
namespace T
open PySem PySem.Spec PyProof.Rows L2 G
def top (i : Nat) : Stmt := PySem.Challenge.pw_wheelreach_k14_texts_of_lots.main.body.getD i (.Pass ⟨0, 0, 0, 0⟩)
abbrev s_BadNumber_init : Stmt := clsAt (top 3) 0
abbrev N_BadNumber_init : List Str := ["self", "value", "__class__"]
theorem sc_BadNumber_init : NdefX.NScope N_BadNumber_init ["self", "value"] ["__class__"] (defScope s_BadNumber_init) := NdefX.nscope_by (by decide +kernel)
abbrev s_BadLot_init : Stmt := clsAt (top 4) 0
abbrev N_BadLot_init : List Str := ["self", "part", "__class__"]
theorem sc_BadLot_init : NdefX.NScope N_BadLot_init ["self", "part"] ["__class__"] (defScope s_BadLot_init) := NdefX.nscope_by (by decide +kernel)
abbrev s_BadText_init : Stmt := clsAt (top 5) 0
abbrev N_BadText_init : List Str := ["self", "line", "word", "__class__"]
theorem sc_BadText_init : NdefX.NScope N_BadText_init ["self", "line", "word"] ["__class__"] (defScope s_BadText_init) := NdefX.nscope_by (by decide +kernel)
abbrev s_NoPlace_init : Stmt := clsAt (top 7) 0
abbrev N_NoPlace_init : List Str := ["self", "at", "__class__"]
theorem sc_NoPlace_init : NdefX.NScope N_NoPlace_init ["self", "at"] ["__class__"] (defScope s_NoPlace_init) := NdefX.nscope_by (by decide +kernel)
abbrev s_TooMany_init : Stmt := clsAt (top 8) 0
abbrev N_TooMany_init : List Str := ["self", "what", "most", "__class__"]
theorem sc_TooMany_init : NdefX.NScope N_TooMany_init ["self", "what", "most"] ["__class__"] (defScope s_TooMany_init) := NdefX.nscope_by (by decide +kernel)
abbrev s_Lot_init : Stmt := clsAt (top 43) 1
abbrev N_Lot_init : List Str := ["self", "period", "runs", "found", "least", "run"]
theorem sc_Lot_init : FnScope N_Lot_init ["self", "period", "runs"] (defScope s_Lot_init) := ⟨rfl, rfl, rfl, by decide +kernel, rfl, by decide +kernel, by decide +kernel⟩
instance : G.NdI N_Lot_init := ⟨sc_Lot_init.nd⟩
instance : G.OkL (defScope s_Lot_init) ["self", "period", "runs", "found", "least"] := ⟨by decide +kernel⟩
abbrev s_Lot_every : Stmt := clsAt (top 43) 2
abbrev N_Lot_every : List Str := []
theorem sc_Lot_every : FnScope N_Lot_every [] (defScope s_Lot_every) := ⟨rfl, rfl, rfl, by decide +kernel, rfl, by decide +kernel, by decide +kernel⟩
instance : G.NdI N_Lot_every := ⟨sc_Lot_every.nd⟩
instance : G.OkL (defScope s_Lot_every) [] := ⟨by decide +kernel⟩
abbrev s_Lot_none : Stmt := clsAt (top 43) 3
abbrev N_Lot_none : List Str := []
theorem sc_Lot_none : FnScope N_Lot_none [] (defScope s_Lot_none) := ⟨rfl, rfl, rfl, by decide +kernel, rfl, by decide +kernel, by decide +kernel⟩
instance : G.NdI N_Lot_none := ⟨sc_Lot_none.nd⟩
instance : G.OkL (defScope s_Lot_none) [] := ⟨by decide +kernel⟩
abbrev s_Lot_read : Stmt := clsAt (top 43) 6
abbrev N_Lot_read : List Str := ["text"]
theorem sc_Lot_read : FnScope N_Lot_read ["text"] (defScope s_Lot_read) := ⟨rfl, rfl, rfl, by decide +kernel, rfl, by decide +kernel, by decide +kernel⟩
instance : G.NdI N_Lot_read := ⟨sc_Lot_read.nd⟩
instance : G.OkL (defScope s_Lot_read) ["text"] := ⟨by decide +kernel⟩
abbrev s_Lot_len : Stmt := clsAt (top 43) 7
abbrev N_Lot_len : List Str := ["self"]
theorem sc_Lot_len : FnScope N_Lot_len ["self"] (defScope s_Lot_len) := ⟨rfl, rfl, rfl, by decide +kernel, rfl, by decide +kernel, by decide +kernel⟩
instance : G.NdI N_Lot_len := ⟨sc_Lot_len.nd⟩
instance : G.OkL (defScope s_Lot_len) ["self"] := ⟨by decide +kernel⟩
abbrev s_Lot_iter : Stmt := clsAt (top 43) 8
abbrev N_Lot_iter : List Str := ["self"]
theorem sc_Lot_iter : FnScope N_Lot_iter ["self"] (defScope s_Lot_iter) := ⟨rfl, rfl, rfl, by decide +kernel, rfl, by decide +kernel, by decide +kernel⟩
instance : G.NdI N_Lot_iter := ⟨sc_Lot_iter.nd⟩
instance : G.OkL (defScope s_Lot_iter) ["self"] := ⟨by decide +kernel⟩
abbrev s_Lot_eq : Stmt := clsAt (top 43) 11
abbrev N_Lot_eq : List Str := ["self", "other"]
theorem sc_Lot_eq : FnScope N_Lot_eq ["self", "other"] (defScope s_Lot_eq) := ⟨rfl, rfl, rfl, by decide +kernel, rfl, by decide +kernel, by decide +kernel⟩
instance : G.NdI N_Lot_eq := ⟨sc_Lot_eq.nd⟩
instance : G.OkL (defScope s_Lot_eq) ["self", "other"] := ⟨by decide +kernel⟩
abbrev s_Lot_mul : Stmt := clsAt (top 43) 18
abbrev N_Lot_mul : List Str := ["self", "n", "members", "run", "at"]
theorem sc_Lot_mul : FnScope N_Lot_mul ["self", "n"] (defScope s_Lot_mul) := ⟨rfl, rfl, rfl, by decide +kernel, rfl, by decide +kernel, by decide +kernel⟩
instance : G.NdI N_Lot_mul := ⟨sc_Lot_mul.nd⟩
instance : G.OkL (defScope s_Lot_mul) ["self", "n", "members"] := ⟨by decide +kernel⟩
abbrev s_Lot_str : Stmt := clsAt (top 43) 30
abbrev N_Lot_str : List Str := ["self", "words", "run"]
theorem sc_Lot_str : FnScope N_Lot_str ["self"] (defScope s_Lot_str) := ⟨rfl, rfl, rfl, by decide +kernel, rfl, by decide +kernel, by decide +kernel⟩
instance : G.NdI N_Lot_str := ⟨sc_Lot_str.nd⟩
instance : G.OkL (defScope s_Lot_str) ["self", "words"] := ⟨by decide +kernel⟩
abbrev s_is_whole : Stmt := top 10
abbrev N_is_whole : List Str := ["value"]
theorem sc_is_whole : FnScope N_is_whole ["value"] (defScope s_is_whole) := ⟨rfl, rfl, rfl, by decide +kernel, rfl, by decide +kernel, by decide +kernel⟩
instance : G.NdI N_is_whole := ⟨sc_is_whole.nd⟩
instance : G.OkL (defScope s_is_whole) ["value"] := ⟨by decide +kernel⟩
abbrev s_need_whole : Stmt := top 11
abbrev N_need_whole : List Str := ["value"]
theorem sc_need_whole : FnScope N_need_whole ["value"] (defScope s_need_whole) := ⟨rfl, rfl, rfl, by decide +kernel, rfl, by decide +kernel, by decide +kernel⟩
instance : G.NdI N_need_whole := ⟨sc_need_whole.nd⟩
instance : G.OkL (defScope s_need_whole) ["value"] := ⟨by decide +kernel⟩
abbrev s_divisor_of : Stmt := top 13
abbrev N_divisor_of : List Str := ["one", "other"]
theorem sc_divisor_of : FnScope N_divisor_of ["one", "other"] (defScope s_divisor_of) := ⟨rfl, rfl, rfl, by decide +kernel, rfl, by decide +kernel, by decide +kernel⟩
instance : G.NdI N_divisor_of := ⟨sc_divisor_of.nd⟩
instance : G.OkL (defScope s_divisor_of) ["one", "other"] := ⟨by decide +kernel⟩
abbrev s_common : Stmt := top 14
abbrev N_common : List Str := ["numbers", "number", "found"]
theorem sc_common : FnScope N_common ["numbers"] (defScope s_common) := ⟨rfl, rfl, rfl, by decide +kernel, rfl, by decide +kernel, by decide +kernel⟩
instance : G.NdI N_common := ⟨sc_common.nd⟩
instance : G.OkL (defScope s_common) ["numbers", "number", "found"] := ⟨by decide +kernel⟩
abbrev s_is_run : Stmt := top 18
abbrev N_is_run : List Str := ["value"]
theorem sc_is_run : FnScope N_is_run ["value"] (defScope s_is_run) := ⟨rfl, rfl, rfl, by decide +kernel, rfl, by decide +kernel, by decide +kernel⟩
instance : G.NdI N_is_run := ⟨sc_is_run.nd⟩
instance : G.OkL (defScope s_is_run) ["value"] := ⟨by decide +kernel⟩
abbrev s_length_of : Stmt := top 19
abbrev N_length_of : List Str := ["run"]
theorem sc_length_of : FnScope N_length_of ["run"] (defScope s_length_of) := ⟨rfl, rfl, rfl, by decide +kernel, rfl, by decide +kernel, by decide +kernel⟩
instance : G.NdI N_length_of := ⟨sc_length_of.nd⟩
instance : G.OkL (defScope s_length_of) ["run"] := ⟨by decide +kernel⟩
abbrev s_melted : Stmt := top 29
abbrev N_melted : List Str := ["runs", "found", "run"]
theorem sc_melted : FnScope N_melted ["runs"] (defScope s_melted) := ⟨rfl, rfl, rfl, by decide +kernel, rfl, by decide +kernel, by decide +kernel⟩
instance : G.NdI N_melted := ⟨sc_melted.nd⟩
instance : G.OkL (defScope s_melted) ["runs", "found", "run"] := ⟨by decide +kernel⟩
abbrev s_closed_round : Stmt := top 30
abbrev N_closed_round : List Str := ["period", "runs", "many", "end"]
theorem sc_closed_round : FnScope N_closed_round ["period", "runs"] (defScope s_closed_round) := ⟨rfl, rfl, rfl, by decide +kernel, rfl, by decide +kernel, by decide +kernel⟩
instance : G.NdI N_closed_round := ⟨sc_closed_round.nd⟩
instance : G.OkL (defScope s_closed_round) ["period", "runs", "many", "end"] := ⟨by decide +kernel⟩
abbrev s_maximal : Stmt := top 31
abbrev N_maximal : List Str := ["period", "runs", "moved", "found", "run"]
theorem sc_maximal : FnScope N_maximal ["period", "runs"] (defScope s_maximal) := ⟨rfl, rfl, rfl, by decide +kernel, rfl, by decide +kernel, by decide +kernel⟩
instance : G.NdI N_maximal := ⟨sc_maximal.nd⟩
instance : G.OkL (defScope s_maximal) ["period", "runs", "moved", "found"] := ⟨by decide +kernel⟩
abbrev s_least_form : Stmt := top 32
abbrev N_least_form : List Str := ["period", "runs", "many", "nexts", "row", "turns", "few", "run", "later", "turn", "pair"]
theorem sc_least_form : FnScope N_least_form ["period", "runs"] (defScope s_least_form) := ⟨rfl, rfl, rfl, by decide +kernel, rfl, by decide +kernel, by decide +kernel⟩
instance : G.NdI N_least_form := ⟨sc_least_form.nd⟩
instance : G.OkL (defScope s_least_form) ["period", "runs", "many", "nexts", "row", "turns", "few"] := ⟨by decide +kernel⟩
abbrev s_need_times : Stmt := top 40
abbrev N_need_times : List Str := ["value"]
theorem sc_need_times : FnScope N_need_times ["value"] (defScope s_need_times) := ⟨rfl, rfl, rfl, by decide +kernel, rfl, by decide +kernel, by decide +kernel⟩
instance : G.NdI N_need_times := ⟨sc_need_times.nd⟩
instance : G.OkL (defScope s_need_times) ["value"] := ⟨by decide +kernel⟩
abbrev s_need_few : Stmt := top 42
abbrev N_need_few : List Str := ["many"]
theorem sc_need_few : FnScope N_need_few ["many"] (defScope s_need_few) := ⟨rfl, rfl, rfl, by decide +kernel, rfl, by decide +kernel, by decide +kernel⟩
instance : G.NdI N_need_few := ⟨sc_need_few.nd⟩
instance : G.OkL (defScope s_need_few) ["many"] := ⟨by decide +kernel⟩
abbrev s_lot_of : Stmt := top 44
abbrev N_lot_of : List Str := ["period", "runs"]
theorem sc_lot_of : FnScope N_lot_of ["period", "runs"] (defScope s_lot_of) := ⟨rfl, rfl, rfl, by decide +kernel, rfl, by decide +kernel, by decide +kernel⟩
instance : G.NdI N_lot_of := ⟨sc_lot_of.nd⟩
instance : G.OkL (defScope s_lot_of) ["period", "runs"] := ⟨by decide +kernel⟩
abbrev s_written : Stmt := top 48
abbrev N_written : List Str := ["word", "least", "most", "sign"]
theorem sc_written : FnScope N_written ["word", "least", "most"] (defScope s_written) := ⟨rfl, rfl, rfl, by decide +kernel, rfl, by decide +kernel, by decide +kernel⟩
instance : G.NdI N_written := ⟨sc_written.nd⟩
instance : G.OkL (defScope s_written) ["word", "least", "most"] := ⟨by decide +kernel⟩
abbrev s_number_in : Stmt := top 49
abbrev N_number_in : List Str := ["words", "at", "least", "most", "found"]
theorem sc_number_in : FnScope N_number_in ["words", "at", "least", "most"] (defScope s_number_in) := ⟨rfl, rfl, rfl, by decide +kernel, rfl, by decide +kernel, by decide +kernel⟩
instance : G.NdI N_number_in := ⟨sc_number_in.nd⟩
instance : G.OkL (defScope s_number_in) ["words", "at", "least", "most", "found"] := ⟨by decide +kernel⟩
abbrev s_need_word : Stmt := top 50
abbrev N_need_word : List Str := ["words", "at", "word"]
theorem sc_need_word : FnScope N_need_word ["words", "at", "word"] (defScope s_need_word) := ⟨rfl, rfl, rfl, by decide +kernel, rfl, by decide +kernel, by decide +kernel⟩
instance : G.NdI N_need_word := ⟨sc_need_word.nd⟩
instance : G.OkL (defScope s_need_word) ["words", "at", "word"] := ⟨by decide +kernel⟩
abbrev s_read_runs : Stmt := top 51
abbrev N_read_runs : List Str := ["words", "period", "found", "at", "is_open", "least", "begin", "first", "end"]
theorem sc_read_runs : FnScope N_read_runs ["words", "period"] (defScope s_read_runs) := ⟨rfl, rfl, rfl, by decide +kernel, rfl, by decide +kernel, by decide +kernel⟩
instance : G.NdI N_read_runs := ⟨sc_read_runs.nd⟩
instance : G.OkL (defScope s_read_runs) ["words", "period", "found", "at", "is_open", "least", "begin", "first", "end"] := ⟨by decide +kernel⟩
abbrev s_read_lot : Stmt := top 52
abbrev N_read_lot : List Str := ["text", "words", "period", "runs", "found"]
theorem sc_read_lot : FnScope N_read_lot ["text"] (defScope s_read_lot) := ⟨rfl, rfl, rfl, by decide +kernel, rfl, by decide +kernel, by decide +kernel⟩
instance : G.NdI N_read_lot := ⟨sc_read_lot.nd⟩
instance : G.OkL (defScope s_read_lot) ["text", "words", "period", "runs", "found"] := ⟨by decide +kernel⟩
abbrev s_law_pen : Stmt := top 54
abbrev N_law_pen : List Str := ["_law_script"]
theorem sc_law_pen : FnScope N_law_pen ["_law_script"] (defScope s_law_pen) := ⟨rfl, rfl, rfl, by decide +kernel, rfl, by decide +kernel, by decide +kernel⟩
instance : G.NdI N_law_pen := ⟨sc_law_pen.nd⟩
instance : G.OkL (defScope s_law_pen) ["_law_script"] := ⟨by decide +kernel⟩
abbrev s_law_draw : Stmt := top 55
abbrev N_law_draw : List Str := ["_law_pen_here", "_law_many", "_law_digit", "_law_tick", "_law_cell", "_law_great", "_law_mixed"]
theorem sc_law_draw : FnScope N_law_draw ["_law_pen_here", "_law_many"] (defScope s_law_draw) := ⟨rfl, rfl, rfl, by decide +kernel, rfl, by decide +kernel, by decide +kernel⟩
instance : G.NdI N_law_draw := ⟨sc_law_draw.nd⟩
instance : G.OkL (defScope s_law_draw) ["_law_pen_here", "_law_many", "_law_digit", "_law_tick", "_law_cell", "_law_great", "_law_mixed"] := ⟨by decide +kernel⟩
abbrev s_law_pick : Stmt := top 56
abbrev N_law_pick : List Str := ["_law_pen_here", "_law_some"]
theorem sc_law_pick : FnScope N_law_pick ["_law_pen_here", "_law_some"] (defScope s_law_pick) := ⟨rfl, rfl, rfl, by decide +kernel, rfl, by decide +kernel, by decide +kernel⟩
instance : G.NdI N_law_pick := ⟨sc_law_pick.nd⟩
instance : G.OkL (defScope s_law_pick) ["_law_pen_here", "_law_some"] := ⟨by decide +kernel⟩
abbrev s_law_runs : Stmt := top 57
abbrev N_law_runs : List Str := ["_law_pen_here", "_law_period", "_law_found", "_law_turn", "_law_begin"]
theorem sc_law_runs : FnScope N_law_runs ["_law_pen_here", "_law_period"] (defScope s_law_runs) := ⟨rfl, rfl, rfl, by decide +kernel, rfl, by decide +kernel, by decide +kernel⟩
instance : G.NdI N_law_runs := ⟨sc_law_runs.nd⟩
instance : G.OkL (defScope s_law_runs) ["_law_pen_here", "_law_period", "_law_found", "_law_turn", "_law_begin"] := ⟨by decide +kernel⟩
abbrev s_law_members : Stmt := top 58
abbrev N_law_members : List Str := ["_law_period", "_law_runs_here", "_law_at", "_law_begin", "_law_end"]
theorem sc_law_members : FnScope N_law_members ["_law_period", "_law_runs_here"] (defScope s_law_members) := ⟨rfl, rfl, rfl, by decide +kernel, rfl, by decide +kernel, by decide +kernel⟩
instance : G.NdI N_law_members := ⟨sc_law_members.nd⟩
instance : G.OkL (defScope s_law_members) ["_law_period", "_law_runs_here"] := ⟨by decide +kernel⟩
abbrev s_law_made : Stmt := top 59
abbrev N_law_made : List Str := ["_law_period", "_law_runs_here", "_law_some"]
theorem sc_law_made : FnScope N_law_made ["_law_period", "_law_runs_here"] (defScope s_law_made) := ⟨rfl, rfl, rfl, by decide +kernel, rfl, by decide +kernel, by decide +kernel⟩
instance : G.NdI N_law_made := ⟨sc_law_made.nd⟩
instance : G.OkL (defScope s_law_made) ["_law_period", "_law_runs_here", "_law_some"] := ⟨by decide +kernel⟩
abbrev s_law_least : Stmt := top 60
abbrev N_law_least : List Str := ["_law_period", "_law_members_here", "_law_inside", "_law_turn", "_law_found", "_law_begin", "_law_end", "_law_at", "_law_k"]
theorem sc_law_least : FnScope N_law_least ["_law_period", "_law_members_here"] (defScope s_law_least) := ⟨rfl, rfl, rfl, by decide +kernel, rfl, by decide +kernel, by decide +kernel⟩
instance : G.NdI N_law_least := ⟨sc_law_least.nd⟩
instance : G.OkL (defScope s_law_least) ["_law_period", "_law_members_here", "_law_inside", "_law_turn", "_law_found", "_law_begin", "_law_end"] := ⟨by decide +kernel⟩
abbrev s_law_heard : Stmt := top 61
abbrev N_law_heard : List Str := ["_law_ask", "_law_caught", "error"]
theorem sc_law_heard : FnScope N_law_heard ["_law_ask"] (defScope s_law_heard) := ⟨rfl, rfl, rfl, by decide +kernel, rfl, by decide +kernel, by decide +kernel⟩
instance : G.NdI N_law_heard := ⟨sc_law_heard.nd⟩
instance : G.OkL (defScope s_law_heard) ["_law_ask", "_law_caught", "error"] := ⟨by decide +kernel⟩
abbrev s_law_text : Stmt := top 62
abbrev N_law_text : List Str := ["_law_period", "_law_told", "_law_begin", "_law_end"]
theorem sc_law_text : FnScope N_law_text ["_law_period", "_law_told"] (defScope s_law_text) := ⟨rfl, rfl, rfl, by decide +kernel, rfl, by decide +kernel, by decide +kernel⟩
instance : G.NdI N_law_text := ⟨sc_law_text.nd⟩
instance : G.OkL (defScope s_law_text) ["_law_period", "_law_told"] := ⟨by decide +kernel⟩
abbrev s_law_is_number : Stmt := top 63
abbrev N_law_is_number : List Str := ["_law_word", "_law_low", "_law_high", "_law_sign"]
theorem sc_law_is_number : FnScope N_law_is_number ["_law_word", "_law_low", "_law_high"] (defScope s_law_is_number) := ⟨rfl, rfl, rfl, by decide +kernel, rfl, by decide +kernel, by decide +kernel⟩
instance : G.NdI N_law_is_number := ⟨sc_law_is_number.nd⟩
instance : G.OkL (defScope s_law_is_number) ["_law_word", "_law_low", "_law_high"] := ⟨by decide +kernel⟩
abbrev s_law_runs_wrong : Stmt := top 64
abbrev N_law_runs_wrong : List Str := ["_law_words", "_law_period", "_law_found", "_law_at", "_law_row", "_law_begin", "_law_first"]
theorem sc_law_runs_wrong : FnScope N_law_runs_wrong ["_law_words", "_law_period"] (defScope s_law_runs_wrong) := ⟨rfl, rfl, rfl, by decide +kernel, rfl, by decide +kernel, by decide +kernel⟩
instance : G.NdI N_law_runs_wrong := ⟨sc_law_runs_wrong.nd⟩
instance : G.OkL (defScope s_law_runs_wrong) ["_law_words", "_law_period", "_law_found", "_law_at", "_law_row", "_law_begin", "_law_first"] := ⟨by decide +kernel⟩
abbrev s_law_wrong : Stmt := top 65
abbrev N_law_wrong : List Str := ["_law_page", "_law_words", "_law_wrong_here", "_law_runs_here", "_law_period", "_law_row", "_law_pairs", "_law_turns", "_law_at", "_law_k"]
theorem sc_law_wrong : FnScope N_law_wrong ["_law_page"] (defScope s_law_wrong) := ⟨rfl, rfl, rfl, by decide +kernel, rfl, by decide +kernel, by decide +kernel⟩
instance : G.NdI N_law_wrong := ⟨sc_law_wrong.nd⟩
instance : G.OkL (defScope s_law_wrong) ["_law_page", "_law_words", "_law_wrong_here", "_law_runs_here", "_law_period", "_law_row", "_law_pairs", "_law_turns"] := ⟨by decide +kernel⟩
abbrev s_law_bent : Stmt := top 66
abbrev N_law_bent : List Str := ["_law_pen_here", "_law_page", "_law_words", "_law_spot", "_law_way", "_law_word"]
theorem sc_law_bent : FnScope N_law_bent ["_law_pen_here", "_law_page"] (defScope s_law_bent) := ⟨rfl, rfl, rfl, by decide +kernel, rfl, by decide +kernel, by decide +kernel⟩
instance : G.NdI N_law_bent := ⟨sc_law_bent.nd⟩
instance : G.OkL (defScope s_law_bent) ["_law_pen_here", "_law_page", "_law_words", "_law_spot", "_law_way", "_law_word"] := ⟨by decide +kernel⟩
abbrev s_law_right : Stmt := top 67
abbrev N_law_right : List Str := ["_law_page", "_law_wrong_here", "_law_due", "_law_heard_here"]
theorem sc_law_right : FnScope N_law_right ["_law_page"] (defScope s_law_right) := ⟨rfl, rfl, rfl, by decide +kernel, rfl, by decide +kernel, by decide +kernel⟩
instance : G.NdI N_law_right := ⟨sc_law_right.nd⟩
instance : G.OkL (defScope s_law_right) ["_law_page", "_law_wrong_here", "_law_due", "_law_heard_here"] := ⟨by decide +kernel⟩
abbrev s_law : Stmt := top 68
abbrev N_law : List Str := ["_law_script", "_law_pen_here", "_law_turn", "_law_period", "_law_runs_here", "_law_made_here", "_law_least_so", "_law_page", "_law_bent_here", "_law_odd", "_law_some", "_law_wide", "_law_far", "_law_more"]
theorem sc_law : FnScope N_law ["_law_script"] (defScope s_law) := ⟨rfl, rfl, rfl, by decide +kernel, rfl, by decide +kernel, by decide +kernel⟩
instance : G.NdI N_law := ⟨sc_law.nd⟩
instance : G.OkL (defScope s_law) ["_law_script", "_law_pen_here", "_law_turn", "_law_period", "_law_runs_here", "_law_made_here", "_law_least_so", "_law_page", "_law_bent_here", "_law_odd", "_law_some", "_law_wide", "_law_far", "_law_more"] := ⟨by decide +kernel⟩
namespace Lt
abbrev Rn := Int × Int
/-- n lies in one of the runs, moved by whole rounds -/
def In (p : Int) (rs : List Rn) (n : Int) : Prop := ∃ r ∈ rs, ∃ z : Int, r.1 ≤ n + p * z ∧ n + p * z ≤ r.2
/-- the cases of a whole round -/
theorem rnd {p z : Int} (hp : 0 < p) : z = 0 ∧ p * z = 0 ∨ z = 1 ∧ p * z = p ∨ z = -1 ∧ p * z = -p ∨ 2 ≤ z ∧ 2 * p ≤ p * z ∨ z ≤ -2 ∧ p * z ≤ -(2 * p) := by
  rcases (show z = 0 ∨ z = 1 ∨ z = -1 ∨ 2 ≤ z ∨ z ≤ -2 by omega) with rfl | rfl | rfl | h | h
  · simp
  · simp
  · simp
  · refine .inr (.inr (.inr (.inl ⟨h, ?_⟩)))
    have := Int.mul_le_mul_of_nonneg_left h (Int.le_of_lt hp)
    omega
  · refine .inr (.inr (.inr (.inr ⟨h, ?_⟩)))
    have := Int.mul_le_mul_of_nonneg_left h (Int.le_of_lt hp)
    omega
theorem in_mod {p : Int} (hp : 0 < p) {r : Rn} (h : r.1 ≤ r.2) (n : Int) : ((n - r.1) % p ≤ r.2 - r.1) ↔ ∃ z : Int, r.1 ≤ n + p * z ∧ n + p * z ≤ r.2 := by
  have e := Int.mul_ediv_add_emod (n - r.1) p
  have m0 := Int.emod_nonneg (n - r.1) (show p ≠ 0 by omega)
  have m1 := Int.emod_lt_of_pos (n - r.1) hp
  constructor
  · intro k
    refine ⟨-((n - r.1) / p), ?_, ?_⟩
    · rw [Int.mul_neg]
      omega
    · rw [Int.mul_neg]
      omega
  · rintro ⟨z, h1, h2⟩
    have e2 : (n - r.1) % p = (n + p * z - r.1) % p := by
      rw [show n + p * z - r.1 = (n - r.1) + p * z by omega, Int.add_mul_emod_self_left]
    have e3 := Int.mul_ediv_add_emod (n + p * z - r.1) p
    have e4 := Int.mul_nonneg (Int.le_of_lt hp) (Int.ediv_nonneg (show 0 ≤ n + p * z - r.1 by omega) (Int.le_of_lt hp))
    omega
structure NF (w p : Int) (rs : List Rn) : Prop where
  le : ∀ r ∈ rs, r.1 ≤ r.2
  wd : ∀ r ∈ rs, w ≤ r.1 ∧ r.1 < w + p
  ap : rs.Pairwise fun r s => r.2 + 1 < s.1
  cl : ∀ r ∈ rs, ∀ s ∈ rs, r.2 + 1 < s.1 + p
section
variable {w p : Int} {rs ss : List Rn}
theorem In.shift {n : Int} (h : In p rs n) (z : Int) : In p rs (n + p * z) := by
  obtain ⟨r, hr, y, h1, h2⟩ := h
  refine ⟨r, hr, y - z, ?_⟩
  rw [Int.mul_sub]
  omega
/-- two of the runs: the same, or apart -/
theorem pair_or {α : Type} {R : α → α → Prop} {l : List α} (h : l.Pairwise R) {a b : α} (ha : a ∈ l) (hb : b ∈ l) : a = b ∨ R a b ∨ R b a := by
  induction h with
  | nil => cases ha
  | cons hx _ ih =>
    rcases List.mem_cons.mp ha with ea | ha
    · rcases List.mem_cons.mp hb with eb | hb
      · exact .inl (ea.trans eb.symm)
      · exact .inr (.inl (ea ▸ hx _ hb))
    · rcases List.mem_cons.mp hb with eb | hb
      · exact .inr (.inr (eb ▸ hx _ ha))
      · exact ih ha hb
theorem NF.two (h : NF w p rs) {r s : Rn} (hr : r ∈ rs) (hs : s ∈ rs) : r = s ∨ r.2 + 1 < s.1 ∨ s.2 + 1 < r.1 := pair_or h.ap hr hs
theorem NF.pos (h : NF w p rs) {r : Rn} (hr : r ∈ rs) : 0 < p := by have := h.wd r hr; omega
theorem NF.before (h : NF w p rs) {r : Rn} (hr : r ∈ rs) : ¬ In p rs (r.1 - 1) := by
  rintro ⟨s, hs, z, h1, h2⟩
  have hp := h.pos hr
  have a := h.wd r hr
  have b := h.wd s hs
  have c := h.le r hr
  have d := h.le s hs
  have e := h.cl r hr s hs
  have f := h.cl s hs r hr
  rcases rnd (z := z) hp with ⟨_, k⟩ | ⟨_, k⟩ | ⟨_, k⟩ | ⟨_, k⟩ | ⟨_, k⟩ <;> rcases h.two hr hs with g | g | g <;> first | (subst g; omega) | omega
theorem NF.behind (h : NF w p rs) {r : Rn} (hr : r ∈ rs) : ¬ In p rs (r.2 + 1) := by
  rintro ⟨s, hs, z, h1, h2⟩
  have hp := h.pos hr
  have a := h.wd r hr
  have b := h.wd s hs
  have c := h.le r hr
  have d := h.le s hs
  have e := h.cl r hr s hs
  have f := h.cl s hs r hr
  rcases rnd (z := z) hp with ⟨_, k⟩ | ⟨_, k⟩ | ⟨_, k⟩ | ⟨_, k⟩ | ⟨_, k⟩ <;> rcases h.two hr hs with g | g | g <;> first | (subst g; omega) | omega
theorem NF.mem_of (_h : NF w p rs) {r : Rn} (hr : r ∈ rs) {n : Int} (h1 : r.1 ≤ n) (h2 : n ≤ r.2) : In p rs n := ⟨r, hr, 0, by rw [Int.mul_zero]; omega⟩
/-- a run, told by the members alone -/
def IsRun (w p : Int) (S : Int → Prop) (r : Rn) : Prop := (w ≤ r.1 ∧ r.1 < w + p) ∧ r.1 ≤ r.2 ∧ (∀ n, r.1 ≤ n → n ≤ r.2 → S n) ∧ ¬ S (r.1 - 1) ∧ ¬ S (r.2 + 1)
theorem NF.isRun (h : NF w p rs) {r : Rn} (hr : r ∈ rs) : IsRun w p (In p rs) r := ⟨h.wd r hr, h.le r hr, fun _ a b => h.mem_of hr a b, h.before hr, h.behind hr⟩
/-- a member lies in one run, moved by rounds -/
theorem NF.of_begin (h : NF w p rs) {b : Int} (hw : w ≤ b ∧ b < w + p) (hb : In p rs b) (hn : ¬ In p rs (b - 1)) : ∃ r ∈ rs, r.1 = b := by
  obtain ⟨s, hs, z, h1, h2⟩ := hb
  have hp := h.pos hs
  have a := h.wd s hs
  have d := h.le s hs
  have c := h.cl s hs s hs
  have e : s.1 = b + p * z := by
    rcases (show s.1 = b + p * z ∨ s.1 < b + p * z by omega) with e | e
    · exact e
    · exact absurd ⟨s, hs, z, by omega, by omega⟩ hn
  refine ⟨s, hs, ?_⟩
  rcases rnd (z := z) hp with ⟨_, k⟩ | ⟨_, k⟩ | ⟨_, k⟩ | ⟨_, k⟩ | ⟨_, k⟩ <;> omega
theorem NF.isRun_iff (h : NF w p rs) (r : Rn) : r ∈ rs ↔ IsRun w p (In p rs) r := by
  refine ⟨fun hr => h.isRun hr, fun ⟨hw, hle, hin, hb, ha⟩ => ?_⟩
  obtain ⟨s, hs, e⟩ := h.of_begin hw (hin r.1 (Int.le_refl _) hle) hb
  have d := h.le s hs
  have e2 : r.2 = s.2 := by
    rcases Int.lt_trichotomy r.2 s.2 with k | k | k
    · exact absurd (h.mem_of hs (show s.1 ≤ r.2 + 1 by omega) (by omega)) ha
    · exact k
    · exact absurd (hin (s.2 + 1) (by omega) (by omega)) (h.behind hs)
  have : r = s := Prod.ext e.symm e2
  rw [this]
  exact hs
theorem NF.lt (h : NF w p rs) : rs.Pairwise fun r s => r.1 < s.1 := by
  refine h.ap.imp_of_mem fun {r s} hr _ k => ?_
  have := h.le r hr
  omega
theorem sorted_ext : ∀ {rs ss : List Rn}, (rs.Pairwise fun r s => r.1 < s.1) → (ss.Pairwise fun r s => r.1 < s.1) → (∀ r, r ∈ rs ↔ r ∈ ss) → rs = ss := fun {rs ss} a b k => by
  have nd : ∀ {l : List Rn}, (l.Pairwise fun r s => r.1 < s.1) → l.Nodup := fun h => h.imp fun {x y} z e => by rw [e] at z; omega
  refine List.Perm.eq_of_pairwise (le := fun r s => r.1 < s.1) (fun x y _ _ h1 h2 => by omega) a b ((List.perm_ext_iff_of_nodup (nd a) (nd b)).mpr k)
/-- such a form is one alone -/
theorem NF.unique (h : NF w p rs) (k : NF w p ss) (e : ∀ n, In p rs n ↔ In p ss n) : rs = ss := by
  refine sorted_ext h.lt k.lt fun r => ?_
  rw [h.isRun_iff, k.isRun_iff, show In p rs = In p ss from funext fun n => propext (e n)]
end
structure Ch (m : Nat) (p : Int) (B E : Nat → Int) : Prop where
  pos : 0 < m
  be : ∀ i, B i ≤ E i
  ap : ∀ i, E i + 1 < B (i + 1)
  pB : ∀ i, B (i + m) = B i + p
  pE : ∀ i, E (i + m) = E i + p
  b0 : 0 ≤ B 0
  bl : B (m - 1) < p
def Per (S : Int → Prop) (k : Int) : Prop := ∀ n, S (n + k) ↔ S n
theorem Per.nmul {S : Int → Prop} {k : Int} (h : Per S k) : ∀ (c : Nat) (n : Int), S (n + k * (c : Int)) ↔ S n
  | 0, n => by simp
  | c + 1, n => by
    have e := h (n + k * (c : Int))
    have ih := h.nmul c n
    rw [show n + k * ((c + 1 : Nat) : Int) = n + k * (c : Int) + k by rw [Int.natCast_add, Int.mul_add]; omega]
    exact e.trans ih
theorem Per.mul {S : Int → Prop} {k : Int} (h : Per S k) (c : Int) (n : Int) : S (n + k * c) ↔ S n := by
  rcases Int.le_total 0 c with h0 | h0
  · have := h.nmul c.toNat n
    rw [Int.toNat_of_nonneg h0] at this
    exact this
  · have := h.nmul (-c).toNat (n + k * c)
    rw [Int.toNat_of_nonneg (show 0 ≤ -c by omega), show n + k * c + k * -c = n by rw [Int.mul_neg]; omega] at this
    exact this.symm
section
variable {m : Nat} {p : Int} {B E : Nat → Int}
/-- what lies in a chain -/
def InC (p : Int) (B E : Nat → Int) (n : Int) : Prop := ∃ (i : Nat) (z : Int), B i ≤ n + p * z ∧ n + p * z ≤ E i
theorem Ch.lt1 (h : Ch m p B E) (i : Nat) : B i < B (i + 1) := by
  have := h.be i
  have := h.ap i
  omega
theorem Ch.mono (h : Ch m p B E) {i j : Nat} (k : i ≤ j) : B i ≤ B j := by
  induction k with
  | refl => exact Int.le_refl _
  | step _ ih => exact Int.le_trans ih (Int.le_of_lt (h.lt1 _))
theorem Ch.smono (h : Ch m p B E) {i j : Nat} (k : i < j) : B i < B j := by
  have := h.lt1 i
  have := h.mono (show i + 1 ≤ j from k)
  omega
theorem Ch.inj (h : Ch m p B E) {i j : Nat} (e : B i = B j) : i = j := by
  rcases Nat.lt_trichotomy i j with k | k | k
  · have := h.smono k
    omega
  · exact k
  · have := h.smono k
    omega
theorem Ch.apart (h : Ch m p B E) {i j : Nat} (k : i < j) : E i + 1 < B j := by
  have := h.ap i
  have := h.mono (show i + 1 ≤ j from k)
  omega
theorem Ch.p0 (h : Ch m p B E) : 0 < p := by
  have := h.b0
  have := h.bl
  have := h.mono (Nat.zero_le (m - 1))
  omega
theorem Ch.pBm (h : Ch m p B E) (i : Nat) : ∀ c : Nat, B (i + m * c) = B i + p * c ∧ E (i + m * c) = E i + p * c
  | 0 => by simp
  | c + 1 => by
    obtain ⟨a, b⟩ := h.pBm i c
    have e : i + m * (c + 1) = i + m * c + m := by rw [Nat.mul_add]; omega
    rw [e, h.pB, h.pE, a, b, Int.natCast_add, Int.mul_add]
    omega
/-- moved by whole rounds: a place in the chain -/
theorem Ch.place (h : Ch m p B E) {n : Int} (hn : InC p B E n) : ∃ c0 : Nat, ∀ c : Nat, c0 ≤ c → ∃ i, m ≤ i ∧ B i ≤ n + p * c ∧ n + p * c ≤ E i := by
  obtain ⟨i, z, h1, h2⟩ := hn
  refine ⟨z.toNat + 1, fun c hc => ?_⟩
  obtain ⟨d, hd⟩ : ∃ d : Nat, (c : Int) = z + d := ⟨(c - z).toNat, by omega⟩
  obtain ⟨a, b⟩ := h.pBm i d
  refine ⟨i + m * d, ?_, ?_, ?_⟩
  · have : 1 ≤ d := by omega
    have := Nat.mul_le_mul_left m this
    omega
  · rw [a, hd, Int.mul_add]
    omega
  · rw [b, hd, Int.mul_add]
    omega
/-- alike behind a shift of t runs -/
def Rot (B E : Nat → Int) (t : Nat) (q : Int) : Prop := ∀ i, B (i + t) = B i + q ∧ E (i + t) = E i + q
theorem Ch.per_rot (h : Ch m p B E) {t : Nat} {q : Int} (ht : t ≤ m) (r : Rot B E t q) : Per (InC p B E) q := fun n => by
  constructor
  · intro k
    obtain ⟨c0, k⟩ := h.place k
    obtain ⟨i, hi, h1, h2⟩ := k c0 (Nat.le_refl _)
    obtain ⟨a, b⟩ := r (i - t)
    rw [Nat.sub_add_cancel (by omega)] at a b
    exact ⟨i - t, c0, by omega, by omega⟩
  · rintro ⟨i, z, h1, h2⟩
    obtain ⟨a, b⟩ := r i
    exact ⟨i + t, z, by omega, by omega⟩
/-- a begin within a round -/
theorem Ch.begins (h : Ch m p B E) {b : Int} (hb : InC p B E b) (hn : ¬ InC p B E (b - 1)) (h0 : B 0 ≤ b) : ∃ i, B i = b := by
  obtain ⟨c0, k⟩ := h.place hb
  obtain ⟨i, hi, h1, h2⟩ := k c0 (Nat.le_refl _)
  have e : B i = b + p * c0 := by
    rcases (show B i = b + p * c0 ∨ B i < b + p * c0 by omega) with e | e
    · exact e
    · exact absurd ⟨i, c0, by omega, by omega⟩ hn
  -- i lies c0 rounds in
  have e0 := (h.pBm 0 c0).1
  rw [Nat.zero_add] at e0
  have le : m * c0 ≤ i := by
    rcases Nat.lt_or_ge i (m * c0) with k | k
    · have := h.smono k
      omega
    · exact k
  refine ⟨i - m * c0, ?_⟩
  have e1 := (h.pBm (i - m * c0) c0).1
  rw [Nat.sub_add_cancel le] at e1
  omega
theorem Ch.no_before (h : Ch m p B E) (i : Nat) : ¬ InC p B E (B i - 1) := fun hn => by
  obtain ⟨c0, k⟩ := h.place hn
  obtain ⟨j, hj, h1, h2⟩ := k c0 (Nat.le_refl _)
  have e := (h.pBm i c0).1
  rcases Nat.lt_or_ge j (i + m * c0) with k | k
  · have := h.apart k
    omega
  · have := h.mono k
    omega
theorem Ch.no_behind (h : Ch m p B E) (i : Nat) : ¬ InC p B E (E i + 1) := fun hn => by
  obtain ⟨c0, k⟩ := h.place hn
  obtain ⟨j, hj, h1, h2⟩ := k c0 (Nat.le_refl _)
  have e := (h.pBm i c0).2
  have e' := (h.pBm i c0).1
  rcases Nat.lt_trichotomy j (i + m * c0) with k | k | k
  · have := h.apart k
    have := h.be i
    have := h.be (i + m * c0)
    omega
  · subst k
    omega
  · have := h.apart k
    omega
theorem Ch.mem (_h : Ch m p B E) {i : Nat} {n : Int} (h1 : B i ≤ n) (h2 : n ≤ E i) : InC p B E n := ⟨i, 0, by rw [Int.mul_zero]; omega, by rw [Int.mul_zero]; omega⟩
/-- a period of the members moves the chain -/
theorem Ch.rot_per (h : Ch m p B E) {q : Int} (hq : 0 < q) (k : Per (InC p B E) q) : ∃ t : Nat, 0 < t ∧ Rot B E t q := by
  -- where the first run goes
  have up : ∀ i, ∃ j, B j = B i + q := fun i => h.begins ((k (B i)).mpr (h.mem (Int.le_refl _) (h.be i))) (fun z => h.no_before i ((k (B i - 1)).mp (by rw [show B i - 1 + q = B i + q - 1 by omega]; exact z))) (by have := h.mono (Nat.zero_le i); omega)
  have ends : ∀ {i j : Nat}, B j = B i + q → E j = E i + q := fun {i j} e => by
    rcases Int.lt_trichotomy (E j) (E i + q) with a | a | a
    · refine absurd ((k (E j + 1 - q)).mpr (h.mem (i := i) ?_ ?_)) ?_
      · have := h.be j
        omega
      · omega
      · rw [show E j + 1 - q + q = E j + 1 by omega]
        exact h.no_behind j
    · exact a
    · refine absurd ((k (E i + 1)).mp (h.mem (i := j) ?_ ?_)) (h.no_behind i)
      · have := h.be i
        omega
      · omega
  obtain ⟨t, ht⟩ := up 0
  have t0 : 0 < t := by
    rcases Nat.eq_zero_or_pos t with rfl | z
    · omega
    · exact z
  refine ⟨t, t0, fun i => ?_⟩
  have main : B (i + t) = B i + q := by
    induction i with
    | zero => rw [Nat.zero_add]; exact ht
    | succ i ih =>
      obtain ⟨j, hj⟩ := up (i + 1)
      -- j is the next one behind i + t
      have l1 := h.lt1 i
      have j1 : i + t < j := by
        rcases Nat.lt_or_ge (i + t) j with z | z
        · exact z
        · have := h.mono z
          omega
      rcases Nat.eq_or_lt_of_le (show i + t + 1 ≤ j from j1) with e | e
      · rw [show i + 1 + t = i + t + 1 by omega, e]
        exact hj
      · -- a run between: it comes of one between
        exfalso
        have m1 := h.lt1 (i + t)
        have m2 := h.smono e
        have eE := ends ih
        have ea := h.ap (i + t)
        -- its begin less q is a begin between those of i and i + 1
        have nb := h.no_before (i + t + 1)
        have hb : InC p B E (B (i + t + 1) - q) := (k _).mp (by rw [show B (i + t + 1) - q + q = B (i + t + 1) by omega]; exact h.mem (Int.le_refl _) (h.be _))
        have hn : ¬ InC p B E (B (i + t + 1) - q - 1) := fun z => nb ((show B (i + t + 1) - q - 1 + q = B (i + t + 1) - 1 by omega) ▸ (k _).mpr z)
        obtain ⟨x, hx⟩ := h.begins hb hn (by have := h.mono (Nat.zero_le i); omega)
        have x1 : i < x := by
          rcases Nat.lt_or_ge i x with z | z
          · exact z
          · have := h.mono z
            omega
        have x2 : x < i + 1 := by
          rcases Nat.lt_or_ge x (i + 1) with z | z
          · exact z
          · have := h.mono z
            omega
        omega
  exact ⟨main, ends main⟩
theorem Rot.mul {t : Nat} {q : Int} (r : Rot B E t q) (i : Nat) : ∀ c : Nat, B (i + t * c) = B i + q * c ∧ E (i + t * c) = E i + q * c
  | 0 => by simp
  | c + 1 => by
    obtain ⟨a, b⟩ := r.mul i c
    have e : i + t * (c + 1) = i + t * c + t := by rw [Nat.mul_add]; omega
    rw [e, (r _).1, (r _).2, a, b, Int.natCast_add, Int.mul_add]
    omega
end
/-- the form of a set of integers: its least period, its runs in a round -/
structure Form (S : Int → Prop) (q : Int) (few : List Rn) : Prop where
  pos : 0 < q
  per : Per S q
  least : ∀ k, 0 < k → Per S k → q ≤ k
  runs : ((∀ n, S n) ∧ few = [(0, 0)]) ∨ (NF 0 q few ∧ ∀ n, In q few n ↔ S n)
theorem NF.not_all {w p : Int} {rs : List Rn} (h : NF w p rs) : ¬ ∀ n, In p rs n := fun k => by
  cases rs with
  | nil =>
    obtain ⟨r, hr, _⟩ := k 0
    cases hr
  | cons r rs => exact h.behind List.mem_cons_self (k _)
theorem Form.unique {S : Int → Prop} {q q' : Int} {f f' : List Rn} (h : Form S q f) (k : Form S q' f') : q = q' ∧ f = f' := by
  have e : q = q' := Int.le_antisymm (h.least _ k.pos k.per) (k.least _ h.pos h.per)
  subst e
  refine ⟨rfl, ?_⟩
  rcases h.runs with ⟨a, b⟩ | ⟨a, b⟩
  · rcases k.runs with ⟨c, d⟩ | ⟨c, d⟩
    · rw [b, d]
    · exact absurd (fun n => (d n).mpr (a n)) c.not_all
  · rcases k.runs with ⟨c, d⟩ | ⟨c, d⟩
    · exact absurd (fun n => (b n).mpr (c n)) a.not_all
    · exact a.unique c fun n => (b n).trans (d n).symm
/-- there is a least period -/
theorem least_per {S : Int → Prop} : ∀ (b : Nat) (k : Int), 0 < k → k ≤ b → Per S k → ∃ q, 0 < q ∧ Per S q ∧ ∀ k', 0 < k' → Per S k' → q ≤ k'
  | 0, k, h0, h1, _ => by omega
  | b + 1, k, h0, h1, hk => by
    by_cases z : ∃ k' : Int, 0 < k' ∧ k' ≤ b ∧ Per S k'
    · obtain ⟨k', a, c, d⟩ := z
      exact least_per b k' a c d
    · refine ⟨k, h0, hk, fun k' a c => ?_⟩
      rcases Int.lt_or_le k' k with e | e
      · exact absurd ⟨k', a, by omega, c⟩ z
      · exact e
/-- it divides each period -/
theorem least_dvd {S : Int → Prop} {q p : Int} (q0 : 0 < q) (hq : Per S q) (ql : ∀ k', 0 < k' → Per S k' → q ≤ k') (hp : Per S p) : q ∣ p := by
  have e := Int.mul_ediv_add_emod p q
  have m0 := Int.emod_nonneg p (show q ≠ 0 by omega)
  have m1 := Int.emod_lt_of_pos p q0
  rcases Int.lt_or_eq_of_le m0 with z | z
  · have r : Per S (p % q) := fun n => by
      have a := hq.mul (p / q) (n + p % q)
      rw [show n + p % q + q * (p / q) = n + p by omega] at a
      exact a.symm.trans (hp n)
    have := ql _ z r
    omega
  · exact Int.dvd_of_emod_eq_zero z.symm
section
variable {p : Int} {rs : List Rn}
/-- the begins and ends of the runs, on and on -/
def bOf (p : Int) (rs : List Rn) (i : Nat) : Int := (rs.getD (i % rs.length) (0, 0)).1 + p * ((i / rs.length : Nat) : Int)
def eOf (p : Int) (rs : List Rn) (i : Nat) : Int := (rs.getD (i % rs.length) (0, 0)).2 + p * ((i / rs.length : Nat) : Int)
theorem getD_mem {α : Type} {l : List α} {i : Nat} {d : α} (h : i < l.length) : l.getD i d ∈ l ∧ l[i]? = some (l.getD i d) := by
  rw [List.getD_eq_getElem?_getD, List.getElem?_eq_getElem h]
  exact ⟨List.getElem_mem h, rfl⟩
theorem bOf_lt {i : Nat} (h : i < rs.length) : bOf p rs i = (rs.getD i (0, 0)).1 ∧ eOf p rs i = (rs.getD i (0, 0)).2 := by
  unfold bOf eOf
  rw [Nat.mod_eq_of_lt h, Nat.div_eq_of_lt h]
  simp
theorem bOf_add (h : 0 < rs.length) (i : Nat) : bOf p rs (i + rs.length) = bOf p rs i + p ∧ eOf p rs (i + rs.length) = eOf p rs i + p := by
  unfold bOf eOf
  rw [Nat.add_mod_right, Nat.add_div_right _ h, Int.natCast_succ, Int.mul_add]
  omega
theorem NF.ch (h : NF 0 p rs) (ne : rs ≠ []) : Ch rs.length p (bOf p rs) (eOf p rs) := by
  have pos : 0 < rs.length := List.length_pos_iff.mpr ne
  have sr := h.ap
  refine ⟨pos, fun i => ?_, fun i => ?_, fun i => (bOf_add pos i).1, fun i => (bOf_add pos i).2, ?_, ?_⟩
  · have m := (getD_mem (d := ((0, 0) : Rn)) (Nat.mod_lt i pos)).1
    have := h.le _ m
    unfold bOf eOf
    omega
  · have a := Nat.mod_lt i pos
    have ma := getD_mem (d := ((0, 0) : Rn)) a
    rcases Nat.lt_or_ge (i % rs.length + 1) rs.length with k | k
    · have mb := getD_mem (d := ((0, 0) : Rn)) k
      have e1 : (i + 1) % rs.length = i % rs.length + 1 := by
        have z2 := Nat.div_add_mod i rs.length
        rw [show i + 1 = rs.length * (i / rs.length) + (i % rs.length + 1) by omega, Nat.mul_add_mod, Nat.mod_eq_of_lt k]
      have e2 : (i + 1) / rs.length = i / rs.length := by
        have z1 := Nat.div_add_mod (i + 1) rs.length
        have z2 := Nat.div_add_mod i rs.length
        have z3 : rs.length * ((i + 1) / rs.length) = rs.length * (i / rs.length) := by omega
        exact Nat.eq_of_mul_eq_mul_left pos z3
      unfold bOf eOf
      rw [e1, e2]
      have ap := List.pairwise_iff_getElem.mp sr (i % rs.length) (i % rs.length + 1) a k (Nat.lt_succ_self _)
      rw [List.getD_eq_getElem?_getD, List.getD_eq_getElem?_getD, List.getElem?_eq_getElem a, List.getElem?_eq_getElem k]
      show rs[i % rs.length].2 + _ + 1 < rs[i % rs.length + 1].1 + _
      omega
    · have z1 := Nat.div_add_mod (i + 1) rs.length
      have z2 := Nat.div_add_mod i rs.length
      have e0 : i + 1 = rs.length * (i / rs.length + 1) := by
        rw [Nat.mul_add]
        omega
      have e1 : (i + 1) % rs.length = 0 := by rw [e0, Nat.mul_mod_right]
      have e2 : (i + 1) / rs.length = i / rs.length + 1 := by rw [e0, Nat.mul_div_cancel_left _ pos]
      unfold bOf eOf
      rw [e1, e2]
      have mb := getD_mem (d := ((0, 0) : Rn)) pos
      have := h.cl _ ma.1 _ mb.1
      rw [Int.natCast_succ, Int.mul_add]
      omega
  · rw [(bOf_lt pos).1]
    exact (h.wd _ (getD_mem pos).1).1
  · have k : rs.length - 1 < rs.length := by omega
    rw [(bOf_lt k).1]
    have := (h.wd _ (getD_mem (d := ((0, 0) : Rn)) k).1).2
    omega
theorem in_ch (ne : rs ≠ []) (n : Int) : In p rs n ↔ InC p (bOf p rs) (eOf p rs) n := by
  have pos : 0 < rs.length := List.length_pos_iff.mpr ne
  constructor
  · rintro ⟨r, hr, z, h1, h2⟩
    obtain ⟨i, hi, rfl⟩ := List.mem_iff_getElem.mp hr
    have e : rs.getD i (0, 0) = rs[i] := by rw [List.getD_eq_getElem?_getD, List.getElem?_eq_getElem hi]; rfl
    refine ⟨i, z, ?_, ?_⟩
    · rw [(bOf_lt hi).1, e]
      exact h1
    · rw [(bOf_lt hi).2, e]
      exact h2
  · rintro ⟨i, z, h1, h2⟩
    unfold bOf at h1
    unfold eOf at h2
    refine ⟨_, (getD_mem (d := ((0, 0) : Rn)) (Nat.mod_lt i pos)).1, z - ((i / rs.length : Nat) : Int), ?_, ?_⟩
    · rw [Int.mul_sub]
      omega
    · rw [Int.mul_sub]
      omega
/-- a run's length, and how far it is to the next one's begin -/
def fR (p : Int) (rs : List Rn) (i : Nat) : Int × Int := (eOf p rs i - bOf p rs i + 1, bOf p rs (i + 1) - bOf p rs i)
theorem fR_add (h : 0 < rs.length) (i : Nat) : fR p rs (i + rs.length) = fR p rs i := by
  unfold fR
  rw [show i + rs.length + 1 = i + 1 + rs.length by omega, (bOf_add h i).1, (bOf_add h i).2, (bOf_add h (i + 1)).1]
  congr 1 <;> omega
theorem fR_mul (h : 0 < rs.length) (i : Nat) : ∀ c, fR p rs (i + rs.length * c) = fR p rs i
  | 0 => by simp
  | c + 1 => by rw [show i + rs.length * (c + 1) = i + rs.length * c + rs.length by rw [Nat.mul_add]; omega, fR_add h, fR_mul h i c]
theorem fR_mod (h : 0 < rs.length) (i : Nat) : fR p rs (i % rs.length) = fR p rs i := by
  have e := Nat.mod_add_div i rs.length
  have := fR_mul (p := p) h (i % rs.length) (i / rs.length)
  rw [e] at this
  exact this.symm
/-- the row of all runs -/
def rowOf (p : Int) (rs : List Rn) : List (Int × Int) := (List.range rs.length).map (fR p rs)
theorem rowOf_len : (rowOf p rs).length = rs.length := by simp [rowOf]
theorem rowOf_get {i : Nat} (h : i < rs.length) : (rowOf p rs)[i]? = some (fR p rs i) := by
  unfold rowOf
  rw [List.getElem?_map, List.getElem?_range h]
  rfl
/-- turned by t, an item -/
theorem turned_get {α : Type} {l : List α} {t i : Nat} (ht : t ≤ l.length) (hi : i < l.length) : (l.drop t ++ l.take t)[i]? = l[(i + t) % l.length]? := by
  rcases Nat.lt_or_ge i (l.length - t) with k | k
  · rw [List.getElem?_append_left (by rw [List.length_drop]; exact k), List.getElem?_drop, Nat.add_comm t i, Nat.mod_eq_of_lt (by omega)]
  · rw [List.getElem?_append_right (by rw [List.length_drop]; exact k), List.length_drop, List.getElem?_take]
    have e : (i + t) % l.length = i - (l.length - t) := by
      rw [show i + t = (i - (l.length - t)) + l.length by omega, Nat.add_mod_right, Nat.mod_eq_of_lt (by omega)]
    rw [e, if_pos (by omega)]
theorem turned_len {α : Type} {l : List α} {t : Nat} (ht : t ≤ l.length) : (l.drop t ++ l.take t).length = l.length := by
  rw [List.length_append, List.length_drop, List.length_take]
  omega
theorem turned_iff {α : Type} {l : List α} {t : Nat} (ht : t ≤ l.length) : l.drop t ++ l.take t = l ↔ ∀ i, i < l.length → l[(i + t) % l.length]? = l[i]? := by
  constructor
  · intro e i hi
    rw [← turned_get ht hi, e]
  · intro h
    refine List.ext_getElem? fun i => ?_
    rcases Nat.lt_or_ge i l.length with k | k
    · rw [turned_get ht k, h i k]
    · rw [List.getElem?_eq_none (by rw [turned_len ht]; exact k), List.getElem?_eq_none k]
/-- the row turned by t is the row: the chain is alike behind t runs -/
theorem row_turned (ne : rs ≠ []) {t : Nat} (ht : t ≤ rs.length) : (rowOf p rs).drop t ++ (rowOf p rs).take t = rowOf p rs ↔ Rot (bOf p rs) (eOf p rs) t (bOf p rs t - bOf p rs 0) := by
  have pos : 0 < rs.length := List.length_pos_iff.mpr ne
  rw [turned_iff (by rw [rowOf_len]; exact ht), rowOf_len]
  constructor
  · intro h
    have f : ∀ i, fR p rs (i + t) = fR p rs i := fun i => by
      have k := h (i % rs.length) (Nat.mod_lt i pos)
      rw [rowOf_get (Nat.mod_lt _ pos), rowOf_get (Nat.mod_lt _ pos), Nat.mod_add_mod] at k
      have k := Option.some.inj k
      rw [fR_mod pos, fR_mod pos] at k
      exact k
    have main : ∀ i, bOf p rs (i + t) = bOf p rs i + (bOf p rs t - bOf p rs 0) := fun i => by
      induction i with
      | zero => rw [Nat.zero_add]; omega
      | succ i ih =>
        have k := congrArg Prod.snd (f i)
        unfold fR at k
        dsimp only at k
        rw [show i + 1 + t = i + t + 1 by omega]
        omega
    refine fun i => ⟨main i, ?_⟩
    have k := congrArg Prod.fst (f i)
    unfold fR at k
    dsimp only at k
    have := main i
    omega
  · intro r i hi
    rw [rowOf_get (Nat.mod_lt _ pos), rowOf_get hi, fR_mod pos]
    unfold fR
    rw [show i + t + 1 = i + 1 + t by omega, (r i).1, (r i).2, (r (i + 1)).1]
    congr 2 <;> omega
/-- the gaps of the first runs -/
theorem row_sum {t : Nat} (ht : t ≤ rs.length) : (((rowOf p rs).take t).map (·.2)).sum = bOf p rs t - bOf p rs 0 := by
  induction t with
  | zero => simp
  | succ t ih =>
    have k := ih (by omega)
    rw [List.take_succ, rowOf_get (by omega), List.map_append, List.sum_append, k]
    simp [fR]
    omega
/-- THE RULE: the least turn of the row gives the least form -/
theorem least_form {t : Nat} (h : NF 0 p rs) (ne : rs ≠ []) (t1 : 1 ≤ t) (t2 : t ≤ rs.length) (td : rs.length % t = 0) (tr : (rowOf p rs).drop t ++ (rowOf p rs).take t = rowOf p rs)
    (tm : ∀ s, 1 ≤ s → s < t → rs.length % s = 0 → (rowOf p rs).drop s ++ (rowOf p rs).take s ≠ rowOf p rs) : Form (In p rs) ((((rowOf p rs).take t).map (·.2)).sum) (rs.take t) := by
  have pos : 0 < rs.length := List.length_pos_iff.mpr ne
  have C := h.ch ne
  have eS : In p rs = InC p (bOf p rs) (eOf p rs) := funext fun n => propext (in_ch ne n)
  have R := (row_turned ne t2).mp tr
  rw [row_sum t2]
  obtain ⟨q, eq⟩ : ∃ q, q = bOf p rs t - bOf p rs 0 := ⟨_, rfl⟩
  rw [← eq] at R ⊢
  have q0 : 0 < q := by
    have := C.smono (show 0 < t from t1)
    omega
  have hq : Per (In p rs) q := by
    rw [eS]
    exact C.per_rot t2 R
  obtain ⟨c, hc⟩ : ∃ c, rs.length = t * c := ⟨rs.length / t, by
    have := Nat.div_add_mod rs.length t
    omega⟩
  have qc : p = q * c := by
    have e1 := (R.mul 0 c).1
    rw [Nat.zero_add, ← hc] at e1
    have e2 := C.pB 0
    rw [Nat.zero_add] at e2
    omega
  have hp0 := C.p0
  have pp : Per (In p rs) p := fun n => ⟨fun ⟨r, hr, z, h1, h2⟩ => ⟨r, hr, z + 1, by rw [Int.mul_add]; omega, by rw [Int.mul_add]; omega⟩, fun ⟨r, hr, z, h1, h2⟩ => ⟨r, hr, z - 1, by rw [Int.mul_sub]; omega, by rw [Int.mul_sub]; omega⟩⟩
  have blt : bOf p rs (t - 1) < q := by
    have e := (R (rs.length - 1)).1
    have e2 := C.pB (t - 1)
    rw [show rs.length - 1 + t = t - 1 + rs.length by omega] at e
    have := C.bl
    omega
  have lt_of : ∀ r ∈ rs.take t, ∃ i, i < t ∧ r.1 = bOf p rs i ∧ r.2 = eOf p rs i ∧ r ∈ rs := fun r hr => by
    obtain ⟨i, hi, rfl⟩ := List.mem_iff_getElem.mp hr
    rw [List.length_take] at hi
    have hi2 : i < rs.length := by omega
    refine ⟨i, by omega, ?_, ?_, List.mem_of_mem_take hr⟩
    · rw [(bOf_lt hi2).1, List.getElem_take, List.getD_eq_getElem?_getD, List.getElem?_eq_getElem hi2]
      rfl
    · rw [(bOf_lt hi2).2, List.getElem_take, List.getD_eq_getElem?_getD, List.getElem?_eq_getElem hi2]
      rfl
  refine ⟨q0, hq, fun k k0 hk => ?_, .inr ⟨⟨fun r hr => h.le r (List.mem_of_mem_take hr), fun r hr => ?_, h.ap.sublist (List.take_sublist _ _), fun r hr s hs => ?_⟩, fun n => ?_⟩⟩
  · -- the least period of all comes of a turn, too
    obtain ⟨k0', a0, a1, a2⟩ := least_per k.toNat k k0 (by omega) hk
    have dv := least_dvd a0 a1 a2 pp
    obtain ⟨u, hu⟩ := dv
    rw [eS] at a1
    obtain ⟨s, s0, sr⟩ := C.rot_per a0 a1
    have u0 : 0 < u := by
      rcases Int.lt_or_le 0 u with z | z
      · exact z
      · have := Int.mul_le_mul_of_nonneg_left z (Int.le_of_lt a0)
        omega
    have eu : (u.toNat : Int) = u := Int.toNat_of_nonneg (by omega)
    have es : s * u.toNat = rs.length := by
      have e1 := (sr.mul 0 u.toNat).1
      have e2 := C.pB 0
      rw [Nat.zero_add] at e1 e2
      rw [eu] at e1
      exact C.inj (by omega)
    have sl : s ≤ rs.length := by
      rw [← es]
      exact Nat.le_mul_of_pos_right s (by omega)
    have es0 : bOf p rs s = bOf p rs 0 + k0' := by
      have := (sr 0).1
      rw [Nat.zero_add] at this
      exact this
    have st : t ≤ s := by
      rcases Nat.lt_or_ge s t with z | z
      · refine absurd ((row_turned ne sl).mpr ?_) (tm s s0 z ?_)
        · rw [show bOf p rs s - bOf p rs 0 = k0' by omega]
          exact sr
        · rw [← es, Nat.mul_mod_right]
      · exact z
    have := C.mono st
    have := a2 k k0 hk
    omega
  · obtain ⟨i, hi, e1, -, hm⟩ := lt_of r hr
    have := (h.wd r hm).1
    have := C.mono (show i ≤ t - 1 by omega)
    omega
  · obtain ⟨i, hi, e1, e2, hm⟩ := lt_of r hr
    obtain ⟨j, hj, e3, e4, hm2⟩ := lt_of s hs
    have := C.apart (show i < j + t by omega)
    have := (R j).1
    omega
  · constructor
    · rintro ⟨r, hr, z, h1, h2⟩
      exact (hq.mul z n).mp ⟨r, List.mem_of_mem_take hr, 0, by rw [Int.mul_zero]; omega, by rw [Int.mul_zero]; omega⟩
    · intro hn
      rw [eS] at hn
      obtain ⟨i, z, h1, h2⟩ := hn
      obtain ⟨a, b⟩ := R.mul (i % t) (i / t)
      rw [Nat.mod_add_div] at a b
      have hit := Nat.mod_lt i (show t > 0 from t1)
      have hi2 : i % t < rs.length := by omega
      have m := getD_mem (d := ((0, 0) : Rn)) hi2
      refine ⟨rs.getD (i % t) (0, 0), ?_, c * z - ((i / t : Nat) : Int), ?_, ?_⟩
      · refine List.mem_iff_getElem?.mpr ⟨i % t, ?_⟩
        rw [List.getElem?_take, if_pos hit]
        exact m.2
      · rw [← (bOf_lt (p := p) hi2).1, Int.mul_sub, ← Int.mul_assoc, ← qc]
        omega
      · rw [← (bOf_lt (p := p) hi2).2, Int.mul_sub, ← Int.mul_assoc, ← qc]
        omega
end
end Lt
namespace Lt
def Cov (rs : List Rn) (n : Int) : Prop := ∃ r ∈ rs, r.1 ≤ n ∧ n ≤ r.2
def mstep (acc : List Rn) (x : Rn) : List Rn := match acc.getLast? with
  | none => acc ++ [x]
  | some l => if x.1 ≤ l.2 + 1 then acc.dropLast ++ [(l.1, if l.2 < x.2 then x.2 else l.2)] else acc ++ [x]
theorem mstep_nil (x : Rn) : mstep [] x = [x] := rfl
theorem mstep_snoc (ms : List Rn) (l x : Rn) : mstep (ms ++ [l]) x = if x.1 ≤ l.2 + 1 then ms ++ [(l.1, if l.2 < x.2 then x.2 else l.2)] else ms ++ [l] ++ [x] := by
  unfold mstep
  rw [List.getLast?_append]
  simp
structure Melt (rs ms : List Rn) : Prop where
  le : ∀ r ∈ ms, r.1 ≤ r.2
  ap : ms.Pairwise fun r s => r.2 + 1 < s.1
  cov : ∀ n, Cov ms n ↔ Cov rs n
  of : ∀ r ∈ ms, ∃ s ∈ rs, s.1 = r.1
theorem Melt.nil : Melt [] [] := ⟨(fun _ h => by cases h), List.Pairwise.nil, (fun _ => Iff.rfl), (fun _ h => by cases h)⟩
theorem cov_snoc {rs : List Rn} {x : Rn} {n : Int} : Cov (rs ++ [x]) n ↔ Cov rs n ∨ (x.1 ≤ n ∧ n ≤ x.2) := by
  constructor
  · rintro ⟨r, hr, h⟩
    rcases List.mem_append.mp hr with hr | hr
    · exact .inl ⟨r, hr, h⟩
    · rw [List.mem_singleton.mp hr] at h
      exact .inr h
  · rintro (⟨r, hr, h⟩ | h)
    · exact ⟨r, List.mem_append_left _ hr, h⟩
    · exact ⟨x, List.mem_append_right _ (List.mem_singleton.mpr rfl), h⟩
theorem Melt.step {rs ms : List Rn} {x : Rn} (h : Melt rs ms) (hx : x.1 ≤ x.2) (hs : ∀ r ∈ rs, r.1 ≤ x.1) : Melt (rs ++ [x]) (mstep ms x) := by
  rcases List.eq_nil_or_concat ms with rfl | ⟨m, l, rfl⟩
  · rw [mstep_nil]
    refine ⟨fun r hr => by rw [List.mem_singleton.mp hr]; exact hx, List.pairwise_singleton _ _, fun n => ?_, fun r hr => ⟨x, List.mem_append_right _ (List.mem_singleton.mpr rfl), by rw [List.mem_singleton.mp hr]⟩⟩
    rw [cov_snoc, ← h.cov n]
    constructor
    · rintro ⟨r, hr, k⟩
      rw [List.mem_singleton.mp hr] at k
      exact .inr k
    · rintro (⟨r, hr, _⟩ | k)
      · cases hr
      · exact ⟨x, List.mem_singleton.mpr rfl, k⟩
  · rw [List.concat_eq_append] at h ⊢
    rw [mstep_snoc]
    have hl : l ∈ m ++ [l] := List.mem_append_right _ (List.mem_singleton.mpr rfl)
    have lle := h.le l hl
    obtain ⟨s0, hs0, e0⟩ := h.of l hl
    have lx := hs s0 hs0
    obtain ⟨ap1, -, ap2⟩ := List.pairwise_append.mp h.ap
    have ap3 : ∀ r ∈ m, r.2 + 1 < l.1 := fun r hr => ap2 r hr l (List.mem_singleton.mpr rfl)
    by_cases c : x.1 ≤ l.2 + 1
    · rw [if_pos c]
      refine ⟨fun r hr => ?_, ?_, fun n => ?_, fun r hr => ?_⟩
      · rcases List.mem_append.mp hr with hr | hr
        · exact h.le r (List.mem_append_left _ hr)
        · rw [List.mem_singleton.mp hr]
          dsimp only
          split <;> omega
      · refine List.pairwise_append.mpr ⟨ap1, List.pairwise_singleton _ _, fun r hr s hs => ?_⟩
        rw [List.mem_singleton.mp hs]
        exact ap3 r hr
      · rw [cov_snoc, cov_snoc, ← h.cov n, cov_snoc]
        dsimp only
        constructor
        · rintro (k | k)
          · exact .inl (.inl k)
          · split at k <;> omega
        · rintro ((k | k) | k)
          · exact .inl k
          · refine .inr ?_
            split <;> omega
          · refine .inr ?_
            split <;> omega
      · rcases List.mem_append.mp hr with hr | hr
        · obtain ⟨s, hs, e⟩ := h.of r (List.mem_append_left _ hr)
          exact ⟨s, List.mem_append_left _ hs, e⟩
        · rw [List.mem_singleton.mp hr]
          exact ⟨s0, List.mem_append_left _ hs0, e0⟩
    · rw [if_neg c]
      refine ⟨fun r hr => ?_, ?_, fun n => ?_, fun r hr => ?_⟩
      · rcases List.mem_append.mp hr with hr | hr
        · exact h.le r hr
        · rw [List.mem_singleton.mp hr]
          exact hx
      · refine List.pairwise_append.mpr ⟨h.ap, List.pairwise_singleton _ _, fun r hr s hs => ?_⟩
        rw [List.mem_singleton.mp hs]
        rcases List.mem_append.mp hr with hr | hr
        · have := ap3 r hr
          omega
        · rw [List.mem_singleton.mp hr]
          omega
      · rw [cov_snoc (rs := m ++ [l]), cov_snoc (rs := rs), h.cov n]
      · rcases List.mem_append.mp hr with hr | hr
        · obtain ⟨s, hs, e⟩ := h.of r hr
          exact ⟨s, List.mem_append_left _ hs, e⟩
        · exact ⟨x, List.mem_append_right _ (List.mem_singleton.mpr rfl), by rw [List.mem_singleton.mp hr]⟩
/-- melted runs, which begin in a round, and the last one's end as it goes round -/
structure Clo (p : Int) (ms : List Rn) (l : Rn) (k : Nat) (e : Int) : Prop where
  kl : k ≤ ms.length
  el : l.2 ≤ e
  all : ∀ r ∈ ms.take k, r.2 + p ≤ e
  cov : ∀ n, l.2 < n → n ≤ e → ∃ r ∈ ms.take k, r.1 + p ≤ n ∧ n ≤ r.2 + p
theorem Clo.zero {p : Int} {ms : List Rn} {l : Rn} : Clo p ms l 0 l.2 := ⟨Nat.zero_le _, Int.le_refl _, fun r hr => by simp at hr, fun n a b => by omega⟩
theorem Clo.step {p : Int} {ms : List Rn} {l r : Rn} {k : Nat} {e : Int} (h : Clo p ms l k e) (hr : ms[k]? = some r) (c : r.1 + p ≤ e + 1) : Clo p ms l (k + 1) (if e < r.2 + p then r.2 + p else e) := by
  have kl : k < ms.length := (List.getElem?_eq_some_iff.mp hr).1
  have et : ms.take (k + 1) = ms.take k ++ [r] := by rw [List.take_succ, hr]; rfl
  refine ⟨kl, ?_, fun s hs => ?_, fun n a b => ?_⟩
  · have := h.el
    split <;> omega
  · rw [et] at hs
    rcases List.mem_append.mp hs with hs | hs
    · have := h.all s hs
      split <;> omega
    · rw [List.mem_singleton.mp hs]
      split <;> omega
  · rw [et]
    rcases Int.lt_or_le e n with z | z
    · refine ⟨r, List.mem_append_right _ (List.mem_singleton.mpr rfl), by omega, ?_⟩
      split at b <;> omega
    · obtain ⟨s, hs, q⟩ := h.cov n a z
      exact ⟨s, List.mem_append_left _ hs, q⟩
/-- where it ends -/
theorem Clo.done {p : Int} {ms : List Rn} {l : Rn} {k : Nat} {e : Int} (h : Clo p ms l k e) (le : ∀ r ∈ ms ++ [l], r.1 ≤ r.2) (ap : (ms ++ [l]).Pairwise fun r s => r.2 + 1 < s.1) (wd : ∀ r ∈ ms ++ [l], 0 ≤ r.1 ∧ r.1 < p)
    (out : ∀ r, ms[k]? = some r → e + 1 < r.1 + p) : (p ≤ e - l.1 + 1 → ∀ n, In p (ms ++ [l]) n) ∧ (e - l.1 + 1 < p → NF 0 p (ms.drop k ++ [(l.1, e)]) ∧ ∀ n, In p (ms.drop k ++ [(l.1, e)]) n ↔ In p (ms ++ [l]) n) := by
  have hl : l ∈ ms ++ [l] := List.mem_append_right _ (List.mem_singleton.mpr rfl)
  have lle := le l hl
  have lwd := wd l hl
  have le1 := h.el
  obtain ⟨ap1, -, ap2⟩ := List.pairwise_append.mp ap
  have ap3 : ∀ r ∈ ms, r.2 + 1 < l.1 := fun r hr => ap2 r hr l (List.mem_singleton.mpr rfl)
  have back : ∀ n, In p (ms.drop k ++ [(l.1, e)]) n → In p (ms ++ [l]) n := fun n ⟨r, hr, z, h1, h2⟩ => by
    rcases List.mem_append.mp hr with hr | hr
    · exact ⟨r, List.mem_append_left _ (List.mem_of_mem_drop hr), z, h1, h2⟩
    · rw [List.mem_singleton.mp hr] at h1 h2
      rcases Int.lt_or_le l.2 (n + p * z) with c | c
      · obtain ⟨s, hs, q1, q2⟩ := h.cov _ c h2
        exact ⟨s, List.mem_append_left _ (List.mem_of_mem_take hs), z - 1, by rw [Int.mul_sub]; omega, by rw [Int.mul_sub]; omega⟩
      · exact ⟨l, hl, z, h1, c⟩
  refine ⟨fun far n => ?_, fun near => ⟨⟨fun r hr => ?_, fun r hr => ?_, ?_, fun r hr s hs => ?_⟩, fun n => ⟨back n, ?_⟩⟩⟩
  · have m0 := Int.emod_nonneg (n - l.1) (show p ≠ 0 by omega)
    have m1 := Int.emod_lt_of_pos (n - l.1) (show 0 < p by omega)
    have e1 := Int.mul_ediv_add_emod (n - l.1) p
    refine back n ⟨(l.1, e), List.mem_append_right _ (List.mem_singleton.mpr rfl), -((n - l.1) / p), ?_, ?_⟩
    · rw [Int.mul_neg]
      dsimp only
      omega
    · rw [Int.mul_neg]
      dsimp only
      omega
  · rcases List.mem_append.mp hr with hr | hr
    · exact le r (List.mem_append_left _ (List.mem_of_mem_drop hr))
    · rw [List.mem_singleton.mp hr]
      dsimp only
      omega
  · rw [Int.zero_add]
    rcases List.mem_append.mp hr with hr | hr
    · exact wd r (List.mem_append_left _ (List.mem_of_mem_drop hr))
    · rw [List.mem_singleton.mp hr]
      exact lwd
  · refine List.pairwise_append.mpr ⟨ap1.sublist (List.drop_sublist _ _), List.pairwise_singleton _ _, fun r hr s hs => ?_⟩
    rw [List.mem_singleton.mp hs]
    exact ap3 r (List.mem_of_mem_drop hr)
  · rcases List.mem_append.mp hr with hr | hr
    · have a := ap3 r (List.mem_of_mem_drop hr)
      rcases List.mem_append.mp hs with hs | hs
      · have := (wd s (List.mem_append_left _ (List.mem_of_mem_drop hs))).1
        omega
      · rw [List.mem_singleton.mp hs]
        dsimp only
        omega
    · rw [List.mem_singleton.mp hr]
      dsimp only
      rcases List.mem_append.mp hs with hs | hs
      · obtain ⟨i, hi, rfl⟩ := List.mem_iff_getElem.mp hs
        rw [List.length_drop] at hi
        have hk : k < ms.length := by omega
        have o := out _ (List.getElem?_eq_getElem hk)
        rw [List.getElem_drop]
        rcases Nat.eq_zero_or_pos i with rfl | z
        · simp only [Nat.add_zero]
          exact o
        · have q := List.pairwise_iff_getElem.mp ap1 k (k + i) hk (by omega) (by omega)
          have := le _ (List.mem_append_left [l] (List.getElem_mem hk))
          omega
      · rw [List.mem_singleton.mp hs]
        dsimp only
        omega
  · rintro ⟨r, hr, z, h1, h2⟩
    rcases List.mem_append.mp hr with hr | hr
    · rw [← List.take_append_drop k ms] at hr
      rcases List.mem_append.mp hr with hr | hr
      · have a := h.all r hr
        have w := (wd r (List.mem_append_left _ (List.mem_of_mem_take hr))).1
        exact ⟨(l.1, e), List.mem_append_right _ (List.mem_singleton.mpr rfl), z + 1, by rw [Int.mul_add]; dsimp only; omega, by rw [Int.mul_add]; dsimp only; omega⟩
      · exact ⟨r, List.mem_append_left _ hr, z, h1, h2⟩
    · rw [List.mem_singleton.mp hr] at h1 h2
      exact ⟨(l.1, e), List.mem_append_right _ (List.mem_singleton.mpr rfl), z, h1, by dsimp only; omega⟩
/-- runs with their begins brought into the round -/
def into (p : Int) (r : Rn) : Rn := (r.1 % p, r.1 % p + (r.2 - r.1 + 1) - 1)
theorem in_into {p : Int} {rs ms : List Rn} (h : ∀ m, m ∈ ms ↔ ∃ r ∈ rs, m = into p r) (n : Int) : In p ms n ↔ In p rs n := by
  constructor
  · rintro ⟨m, hm, z, h1, h2⟩
    obtain ⟨r, hr, rfl⟩ := (h m).mp hm
    have e := Int.mul_ediv_add_emod r.1 p
    unfold into at h1 h2
    dsimp only at h1 h2
    exact ⟨r, hr, z + r.1 / p, by rw [Int.mul_add]; omega, by rw [Int.mul_add]; omega⟩
  · rintro ⟨r, hr, z, h1, h2⟩
    have e := Int.mul_ediv_add_emod r.1 p
    refine ⟨into p r, (h _).mpr ⟨r, hr, rfl⟩, z - r.1 / p, ?_, ?_⟩
    · unfold into
      dsimp only
      rw [Int.mul_sub]
      omega
    · unfold into
      dsimp only
      rw [Int.mul_sub]
      omega
theorem in_cov {p : Int} {rs ms : List Rn} (h : ∀ n, Cov ms n ↔ Cov rs n) (n : Int) : In p ms n ↔ In p rs n :=
  ⟨fun ⟨r, hr, z, h1, h2⟩ => by
    obtain ⟨s, hs, k⟩ := (h _).mp ⟨r, hr, h1, h2⟩
    exact ⟨s, hs, z, k⟩, fun ⟨r, hr, z, h1, h2⟩ => by
    obtain ⟨s, hs, k⟩ := (h _).mpr ⟨r, hr, h1, h2⟩
    exact ⟨s, hs, z, k⟩⟩
theorem in_long {p : Int} {rs : List Rn} {r : Rn} (hp : 0 < p) (hr : r ∈ rs) (h : p ≤ r.2 - r.1 + 1) (n : Int) : In p rs n := by
  have m0 := Int.emod_nonneg (n - r.1) (show p ≠ 0 by omega)
  have m1 := Int.emod_lt_of_pos (n - r.1) hp
  have e1 := Int.mul_ediv_add_emod (n - r.1) p
  refine ⟨r, hr, -((n - r.1) / p), ?_, ?_⟩
  · rw [Int.mul_neg]
    omega
  · rw [Int.mul_neg]
    omega
/-- what maximal gives: a whole round, or the form of the round -/
def Mx (p : Int) (rs res : List Rn) : Prop := (res = [(0, p - 1)] ∧ ∀ n, In p rs n) ∨ (NF 0 p res ∧ ∀ n, In p res n ↔ In p rs n)
theorem Mx.full_or {p : Int} {rs res : List Rn} (h : Mx p rs res) {r : Rn} (hr : r ∈ res) : p ≤ r.2 - r.1 + 1 ↔ ∀ n, In p rs n := by
  rcases h with ⟨a, b⟩ | ⟨a, b⟩
  · rw [a] at hr
    rw [List.mem_singleton.mp hr]
    exact ⟨fun _ => b, fun _ => by dsimp only; omega⟩
  · have := a.cl r hr r hr
    exact ⟨fun _ => by omega, fun k => absurd (fun n => (b n).mpr (k n)) a.not_all⟩
theorem form_none {p : Int} {rs : List Rn} (h : Mx p rs []) : Form (In p rs) 1 [] := by
  rcases h with ⟨a, _⟩ | ⟨a, b⟩
  · cases a
  · have no : ∀ n, ¬ In p rs n := fun n k => by
      obtain ⟨r, hr, _⟩ := (b n).mpr k
      cases hr
    have nf : NF 0 1 [] := ⟨(fun r hr => by cases hr), (fun r hr => by cases hr), List.Pairwise.nil, (fun r hr => by cases hr)⟩
    refine ⟨by decide, fun n => ⟨fun k => absurd k (no _), fun k => absurd k (no _)⟩, fun k h0 _ => by omega, .inr ⟨nf, fun n => ⟨fun k => ?_, fun k => absurd k (no _)⟩⟩⟩
    obtain ⟨r, hr, _⟩ := k
    cases hr
theorem form_all {S : Int → Prop} (h : ∀ n, S n) : Form S 1 [(0, 0)] := ⟨by decide, fun n => ⟨fun _ => h _, fun _ => h _⟩, fun k h0 _ => by omega, .inl ⟨h, rfl⟩⟩
theorem form_of {p : Int} {rs res : List Rn} (h : Mx p rs res) {r : Rn} {t : List Rn} (e : res = r :: t) (n : r.2 - r.1 + 1 < p) : NF 0 p res ∧ In p res = In p rs := by
  rcases h with ⟨a, _⟩ | ⟨a, b⟩
  · rw [e] at a
    cases a
    dsimp only at n
    omega
  · exact ⟨a, funext fun n => propext (b n)⟩
end Lt
namespace Lt
structure Fnd (S : Int → Bool) (i : Int) (rs : List Rn) : Prop where
  all : ∀ r ∈ rs, 0 ≤ r.1 ∧ r.1 < i ∧ r.1 ≤ r.2 ∧ (∀ n, r.1 ≤ n → n ≤ r.2 → S n = true) ∧ S (r.1 - 1) = false ∧ S (r.2 + 1) = false
  ex : ∀ b, 0 ≤ b → b < i → S b = true → S (b - 1) = false → ∃ r ∈ rs, r.1 = b
  srt : rs.Pairwise fun r s => r.1 < s.1
theorem Fnd.nil {S : Int → Bool} : Fnd S 0 [] := ⟨(fun r h => by cases h), (fun b h0 h1 => by omega), List.Pairwise.nil⟩
theorem Fnd.skip {S : Int → Bool} {i : Int} {rs : List Rn} (h : Fnd S i rs) (n : ¬ (S i = true ∧ S (i - 1) = false)) : Fnd S (i + 1) rs :=
  ⟨fun r hr => by
    obtain ⟨a, b, c⟩ := h.all r hr
    exact ⟨a, by omega, c⟩, fun b h0 h1 h2 h3 => by
    rcases Int.lt_or_eq_of_le (show b ≤ i by omega) with k | k
    · exact h.ex b h0 k h2 h3
    · rw [k] at h2 h3
      exact absurd ⟨h2, h3⟩ n, h.srt⟩
theorem Fnd.add {S : Int → Bool} {i e : Int} {rs : List Rn} (h : Fnd S i rs) (i0 : 0 ≤ i) (h1 : S (i - 1) = false) (h2 : i ≤ e) (h3 : ∀ n, i ≤ n → n ≤ e → S n = true) (h4 : S (e + 1) = false) : Fnd S (i + 1) (rs ++ [(i, e)]) :=
  ⟨fun r hr => by
    rcases List.mem_append.mp hr with hr | hr
    · obtain ⟨a, b, c⟩ := h.all r hr
      exact ⟨a, by omega, c⟩
    · rw [List.mem_singleton.mp hr]
      exact ⟨i0, by dsimp only; omega, h2, h3, h1, h4⟩, fun b k0 k1 k2 k3 => by
    rcases Int.lt_or_eq_of_le (show b ≤ i by omega) with k | k
    · obtain ⟨r, hr, e⟩ := h.ex b k0 k k2 k3
      exact ⟨r, List.mem_append_left _ hr, e⟩
    · exact ⟨(i, e), List.mem_append_right _ (List.mem_singleton.mpr rfl), k.symm⟩, by
    refine List.pairwise_append.mpr ⟨h.srt, List.pairwise_singleton _ _, fun r hr s hs => ?_⟩
    rw [List.mem_singleton.mp hs]
    exact (h.all r hr).2.1⟩
/-- the begin of the run of a member -/
theorem run_begin {S : Int → Bool} {m : Int} (hm : S m = false) : ∀ (d : Nat) (n : Int), n - m = d → S n = true → ∃ b, b ≤ n ∧ S (b - 1) = false ∧ ∀ k, b ≤ k → k ≤ n → S k = true
  | 0, n, h, hn => by
    have : n = m := by omega
    rw [this, hm] at hn
    cases hn
  | d + 1, n, h, hn => by
    cases z : S (n - 1) with
    | false => exact ⟨n, Int.le_refl _, z, fun k k1 k2 => by rw [show k = n by omega]; exact hn⟩
    | true =>
      obtain ⟨b, h1, h2, h3⟩ := run_begin hm d (n - 1) (by omega) z
      refine ⟨b, by omega, h2, fun k k1 k2 => ?_⟩
      rcases Int.lt_or_eq_of_le k2 with k3 | k3
      · exact h3 k k1 (by omega)
      · rw [k3]
        exact hn
theorem Fnd.form {S : Int → Bool} {q m : Int} {rs : List Rn} (h : Fnd S q rs) (q0 : 0 < q) (hq : Per (fun n => S n = true) q) (ql : ∀ k, 0 < k → Per (fun n => S n = true) k → q ≤ k) (hm : S m = false) : Form (fun n => S n = true) q rs := by
  have pe : ∀ n z, S (n + q * z) = S n := fun n z => Bool.eq_iff_iff.mpr (hq.mul z n)
  have far : ∀ r ∈ rs, ∀ b, r.1 < b → S (b - 1) = false → r.2 + 1 < b := fun r hr b hb hn => by
    obtain ⟨a0, a1, a2, a3, a4, a5⟩ := h.all r hr
    rcases Int.lt_or_le (r.2 + 1) b with k | k
    · exact k
    · rw [a3 (b - 1) (by omega) (by omega)] at hn
      cases hn
  refine ⟨q0, hq, ql, .inr ⟨⟨fun r hr => (h.all r hr).2.2.1, fun r hr => ?_, ?_, fun r hr s hs => ?_⟩, fun n => ⟨?_, fun hn => ?_⟩⟩⟩
  · obtain ⟨a, b, _⟩ := h.all r hr
    omega
  · exact h.srt.imp_of_mem fun {r s} hr hs k => far r hr s.1 k (h.all s hs).2.2.2.2.1
  · obtain ⟨a0, a1, a2, a3, a4, a5⟩ := h.all r hr
    obtain ⟨b0, b1, b2, b3, b4, b5⟩ := h.all s hs
    refine far r hr (s.1 + q) (by omega) ?_
    have := pe (s.1 - 1) 1
    rw [show s.1 - 1 + q * 1 = s.1 + q - 1 by omega] at this
    rw [this, b4]
  · rintro ⟨r, hr, z, h1, h2⟩
    have := (h.all r hr).2.2.2.1 _ h1 h2
    rw [pe] at this
    exact this
  · have hn : S n = true := hn
    -- a hole below n
    obtain ⟨m', hm', le⟩ : ∃ m', S m' = false ∧ m' ≤ n := by
      refine ⟨m + q * (-((m - n).toNat : Int)), by rw [pe]; exact hm, ?_⟩
      have h0 : (0 : Int) ≤ ((m - n).toNat : Int) := by omega
      have := Int.mul_le_mul_of_nonneg_right (show 1 ≤ q by omega) h0
      rw [Int.mul_neg]
      omega
    obtain ⟨b, k1, k2, k3⟩ := run_begin hm' (n - m').toNat n (by omega) hn
    have e := Int.mul_ediv_add_emod b q
    have m0 := Int.emod_nonneg b (show q ≠ 0 by omega)
    have m1 := Int.emod_lt_of_pos b q0
    have s1 : S (b % q) = true := by
      have := pe b (-(b / q))
      rw [show b + q * (-(b / q)) = b % q by rw [Int.mul_neg]; omega] at this
      rw [this]
      exact k3 b (Int.le_refl _) k1
    have s2 : S (b % q - 1) = false := by
      have := pe (b - 1) (-(b / q))
      rw [show b - 1 + q * (-(b / q)) = b % q - 1 by rw [Int.mul_neg]; omega] at this
      rw [this]
      exact k2
    obtain ⟨r, hr, er⟩ := h.ex (b % q) m0 m1 s1 s2
    obtain ⟨a0, a1, a2, a3, a4, a5⟩ := h.all r hr
    refine ⟨r, hr, -(b / q), ?_, ?_⟩
    · rw [Int.mul_neg]
      omega
    · rcases Int.lt_or_le r.2 (n + q * (-(b / q))) with k | k
      · exfalso
        have s3 : S (r.2 + 1 + q * (b / q)) = true := k3 _ (by omega) (by rw [Int.mul_neg] at k; omega)
        rw [pe, a5] at s3
        cases s3
      · exact k
/-- the row of a round -/
def rowB (p : Nat) (S : Int → Bool) : List Bool := (List.range p).map fun i : Nat => S (i : Int)
theorem rowB_get {p : Nat} {S : Int → Bool} {i : Nat} (h : i < p) : (rowB p S)[i]? = some (S (i : Int)) := by
  unfold rowB
  rw [List.getElem?_map, List.getElem?_range h]
  rfl
theorem rowB_len {p : Nat} {S : Int → Bool} : (rowB p S).length = p := by simp [rowB]
/-- turned by k it is the same: k is a period -/
theorem rowB_turned {p : Nat} {S : Int → Bool} (hp : 0 < p) (pp : Per (fun n => S n = true) (p : Int)) {k : Nat} (hk : k ≤ p) : (rowB p S).drop k ++ (rowB p S).take k = rowB p S ↔ Per (fun n => S n = true) (k : Int) := by
  have pe : ∀ n z, S (n + (p : Int) * z) = S n := fun n z => Bool.eq_iff_iff.mpr (pp.mul z n)
  have md : ∀ n : Int, S (n % (p : Int)) = S n := fun n => by
    have e := Int.mul_ediv_add_emod n (p : Int)
    have := pe n (-(n / (p : Int)))
    rw [show n + (p : Int) * (-(n / (p : Int))) = n % (p : Int) by rw [Int.mul_neg]; omega] at this
    exact this
  rw [turned_iff (by rw [rowB_len]; exact hk), rowB_len]
  constructor
  · intro h n
    have m0 := Int.emod_nonneg n (show (p : Int) ≠ 0 by omega)
    have m1 := Int.emod_lt_of_pos n (show (0 : Int) < p by omega)
    obtain ⟨i, hi⟩ : ∃ i : Nat, (i : Int) = n % (p : Int) := ⟨(n % (p : Int)).toNat, by omega⟩
    have il : i < p := by omega
    have := h i il
    rw [rowB_get (Nat.mod_lt _ hp), rowB_get il] at this
    have z := Option.some.inj this
    rw [Int.natCast_emod, md, Int.natCast_add, hi] at z
    have e1 : S (n % (p : Int) + k) = S (n + k) := by
      have e := Int.mul_ediv_add_emod n (p : Int)
      have := pe (n + k) (-(n / (p : Int)))
      rw [show n + k + (p : Int) * (-(n / (p : Int))) = n % (p : Int) + k by rw [Int.mul_neg]; omega] at this
      exact this
    rw [e1, md] at z
    show S (n + k) = true ↔ S n = true
    rw [z]
  · intro h i hi
    rw [rowB_get (Nat.mod_lt _ hp), rowB_get hi, Int.natCast_emod, md, Int.natCast_add]
    exact congrArg some (Bool.eq_iff_iff.mpr (h i))
/-- the least of the turns that divide the round is the least period of all -/
theorem turn_least {p : Nat} {S : Int → Bool} (hp : 0 < p) (pp : Per (fun n => S n = true) (p : Int)) {k : Nat} (k1 : 1 ≤ k) (k2 : k ≤ p) (kd : p % k = 0) (kr : (rowB p S).drop k ++ (rowB p S).take k = rowB p S)
    (km : ∀ j, 1 ≤ j → j < k → p % j = 0 → (rowB p S).drop j ++ (rowB p S).take j ≠ rowB p S) : Per (fun n => S n = true) (k : Int) ∧ ∀ j : Int, 0 < j → Per (fun n => S n = true) j → (k : Int) ≤ j := by
  refine ⟨(rowB_turned hp pp k2).mp kr, fun j j0 hj => ?_⟩
  obtain ⟨q, q0, hq, ql⟩ := least_per j.toNat j j0 (by omega) hj
  obtain ⟨u, hu⟩ := least_dvd q0 hq ql pp
  have le := ql (p : Int) (by omega) pp
  obtain ⟨q', rfl⟩ : ∃ q' : Nat, q = (q' : Int) := ⟨q.toNat, by omega⟩
  rcases Int.lt_or_le (q' : Int) (k : Int) with z | z
  · exfalso
    refine km q' (by omega) (by omega) ?_ ((rowB_turned hp pp (by omega)).mpr hq)
    have : ((p % q' : Nat) : Int) = 0 := by
      rw [Int.natCast_emod, hu, Int.mul_emod_right]
    omega
  · have := ql j j0 hj
    omega
end Lt
namespace Lt
def cnt (S : Int → Bool) (a : Int) : Nat → Nat
  | 0 => 0
  | n + 1 => cnt S a n + if S (a + n) = true then 1 else 0
section
variable {S : Int → Bool}
theorem cnt_add (a : Int) (m : Nat) : ∀ n, cnt S a (m + n) = cnt S a m + cnt S (a + m) n
  | 0 => rfl
  | n + 1 => by
    have ih := cnt_add a m n
    show cnt S a (m + n) + (if S (a + ((m + n : Nat) : Int)) = true then 1 else 0) = cnt S a m + (cnt S (a + m) n + if S (a + m + n) = true then 1 else 0)
    rw [ih, show a + ((m + n : Nat) : Int) = a + m + n by omega]
    omega
theorem cnt_shift {q : Nat} (hq : Per (fun n => S n = true) (q : Int)) (a : Int) : cnt S (a + 1) q = cnt S a q := by
  have e1 := cnt_add (S := S) a 1 q
  have e2 := cnt_add (S := S) a q 1
  rw [Nat.add_comm 1 q, e2] at e1
  have k : S (a + q) = S a := Bool.eq_iff_iff.mpr (hq a)
  have c1 : cnt S a 1 = if S a = true then 1 else 0 := by
    show 0 + (if S (a + ((0 : Nat) : Int)) = true then 1 else 0) = _
    rw [show a + ((0 : Nat) : Int) = a by omega]
    omega
  have c2 : cnt S (a + q) 1 = if S a = true then 1 else 0 := by
    show 0 + (if S (a + q + ((0 : Nat) : Int)) = true then 1 else 0) = _
    rw [show a + (q : Int) + ((0 : Nat) : Int) = a + q by omega, k]
    omega
  rw [c1, c2] at e1
  have : a + ((1 : Nat) : Int) = a + 1 := rfl
  rw [this] at e1
  omega
theorem cnt_round {q : Nat} (hq : Per (fun n => S n = true) (q : Int)) (a : Int) : ∀ d : Nat, cnt S (a + d) q = cnt S a q
  | 0 => by rw [show a + ((0 : Nat) : Int) = a by omega]
  | d + 1 => by rw [show a + ((d + 1 : Nat) : Int) = a + d + 1 by omega, cnt_shift hq, cnt_round hq a d]
theorem cnt_mul {q : Nat} (hq : Per (fun n => S n = true) (q : Int)) (a : Int) : ∀ u : Nat, cnt S a (q * u) = cnt S a q * u
  | 0 => by simp [cnt]
  | u + 1 => by
    rw [Nat.mul_add, Nat.mul_one, cnt_add, cnt_mul hq a u, cnt_round hq a (q * u), Nat.mul_add, Nat.mul_one]
theorem cnt_all {a : Int} {n : Nat} (h : ∀ i : Nat, i < n → S (a + i) = true) : cnt S a n = n := by
  induction n with
  | zero => rfl
  | succ n ih =>
    show cnt S a n + _ = n + 1
    rw [ih fun i hi => h i (by omega), h n (by omega), if_pos rfl]
theorem cnt_none {a : Int} {n : Nat} (h : ∀ i : Nat, i < n → S (a + i) = false) : cnt S a n = 0 := by
  induction n with
  | zero => rfl
  | succ n ih =>
    show cnt S a n + _ = 0
    rw [ih fun i hi => h i (by omega), h n (by omega), if_neg Bool.false_ne_true]
theorem cnt_filter (p : Nat) : ((List.range p).filter fun i : Nat => S (i : Int)).length = cnt S 0 p := by
  induction p with
  | zero => rfl
  | succ p ih =>
    rw [List.range_succ, List.filter_append, List.length_append, ih]
    show _ = cnt S 0 p + _
    rw [show (0 : Int) + p = p by omega]
    cases z : S (p : Int) with
    | true => rw [List.filter_cons_of_pos (by exact z), if_pos rfl]; rfl
    | false => rw [List.filter_cons_of_neg (by rw [z]; exact Bool.false_ne_true), if_neg Bool.false_ne_true]; rfl
end
section
variable {m : Nat} {p : Int} {B E : Nat → Int}
theorem Ch.emono (h : Ch m p B E) {i j : Nat} (k : i ≤ j) : E i ≤ E j := by
  rcases Nat.eq_or_lt_of_le k with e | k
  · rw [e]
    exact Int.le_refl _
  · have := h.apart k
    have := h.be j
    omega
/-- nothing lies between two runs -/
theorem Ch.between (h : Ch m p B E) {i : Nat} {n : Int} (h1 : E i < n) (h2 : n < B (i + 1)) : ¬ InC p B E n := fun k => by
  obtain ⟨c0, k⟩ := h.place k
  obtain ⟨j, hj, k1, k2⟩ := k c0 (Nat.le_refl _)
  have e1 := (h.pBm i c0).2
  have e2 := (h.pBm (i + 1) c0).1
  rcases Nat.lt_or_ge (i + m * c0) j with z | z
  · have := h.mono (show i + 1 + m * c0 ≤ j by omega)
    omega
  · have := h.emono z
    omega
theorem Ch.count (h : Ch m p B E) {S : Int → Bool} (hS : ∀ n, S n = true ↔ InC p B E n) : ∀ i : Nat, (cnt S (B 0) (B i - B 0).toNat : Int) = ((List.range i).map fun j => E j - B j + 1).sum
  | 0 => by simp [cnt]
  | i + 1 => by
    have ih := h.count hS i
    have a := h.mono (Nat.zero_le i)
    have b := h.be i
    have c := h.ap i
    have e : (B (i + 1) - B 0).toNat = (B i - B 0).toNat + ((E i - B i + 1).toNat + (B (i + 1) - E i - 1).toNat) := by omega
    rw [e, cnt_add, cnt_add, List.range_succ, List.map_append, List.sum_append, ← ih]
    have e1 : B 0 + (((B i - B 0).toNat : Nat) : Int) = B i := by omega
    rw [e1]
    have c1 : cnt S (B i) (E i - B i + 1).toNat = (E i - B i + 1).toNat := cnt_all fun j hj => (hS _).mpr (h.mem (i := i) (by omega) (by omega))
    have c2 : cnt S (B i + (((E i - B i + 1).toNat : Nat) : Int)) (B (i + 1) - E i - 1).toNat = 0 := cnt_none fun j hj => by
      have n := h.between (i := i) (n := B i + (((E i - B i + 1).toNat : Nat) : Int) + j) (by omega) (by omega)
      cases z : S (B i + (((E i - B i + 1).toNat : Nat) : Int) + j) with
      | false => rfl
      | true => exact absurd ((hS _).mp z) n
    rw [c1, c2]
    simp
    omega
end
/-- the size of the least form, against the members of any round -/
theorem Form.size {S : Int → Bool} {q : Int} {few : List Rn} {p : Nat} (h : Form (fun n => S n = true) q few) (hp : 0 < p) (pp : Per (fun n => S n = true) (p : Int)) :
    (few.map fun r => r.2 - r.1 + 1).sum * (p : Int) = (((List.range p).filter fun i : Nat => S (i : Int)).length : Int) * q := by
  obtain ⟨q', rfl⟩ : ∃ q' : Nat, q = (q' : Int) := ⟨q.toNat, by have := h.pos; omega⟩
  obtain ⟨u, hu⟩ := least_dvd h.pos h.per h.least pp
  have q0 := h.pos
  have u0 : 0 < u := by
    rcases Int.lt_or_le 0 u with z | z
    · exact z
    · have := Int.mul_le_mul_of_nonneg_left z (Int.le_of_lt q0)
      omega
  obtain ⟨u', rfl⟩ : ∃ u' : Nat, u = (u' : Int) := ⟨u.toNat, by omega⟩
  have e0 : p = q' * u' := by
    have : ((p : Nat) : Int) = ((q' * u' : Nat) : Int) := by rw [hu, Int.natCast_mul]
    omega
  have key : (cnt S 0 q' : Int) = (few.map fun r => r.2 - r.1 + 1).sum := by
    rcases h.runs with ⟨a, b⟩ | ⟨a, b⟩
    · have q1 : (q' : Int) ≤ 1 := h.least 1 (by omega) fun n => ⟨fun _ => a _, fun _ => a _⟩
      have e : q' = 1 := by omega
      subst e
      rw [b, cnt_all fun i _ => a _]
      rfl
    · by_cases ne : few = []
      · subst ne
        have : cnt S 0 q' = 0 := cnt_none fun i _ => by
          cases z : S (0 + (i : Int)) with
          | false => rfl
          | true =>
            obtain ⟨r, hr, _⟩ := (b _).mpr z
            cases hr
        rw [this]
        rfl
      · have C := a.ch ne
        have hS : ∀ n, S n = true ↔ InC (q' : Int) (bOf q' few) (eOf q' few) n := fun n => (b n).symm.trans (in_ch ne n)
        have z := C.count hS few.length
        have e1 := C.pB 0
        rw [Nat.zero_add] at e1
        rw [show (bOf (q' : Int) few few.length - bOf (q' : Int) few 0).toNat = q' by omega] at z
        have b0 := C.b0
        have e2 := cnt_round (S := S) h.per 0 (bOf (q' : Int) few 0).toNat
        rw [show (0 : Int) + (((bOf (q' : Int) few 0).toNat : Nat) : Int) = bOf (q' : Int) few 0 by omega] at e2
        rw [← e2, z]
        congr 1
        refine List.ext_getElem? fun i => ?_
        rw [List.getElem?_map, List.getElem?_map]
        rcases Nat.lt_or_ge i few.length with k | k
        · rw [List.getElem?_range k, (getD_mem (d := ((0, 0) : Rn)) k).2]
          simp only [Option.map_some, (bOf_lt (p := (q' : Int)) k).1, (bOf_lt (p := (q' : Int)) k).2]
        · rw [List.getElem?_eq_none (by rw [List.length_range]; exact k), List.getElem?_eq_none k]
          rfl
  rw [cnt_filter, e0, cnt_mul h.per, ← key, Int.natCast_mul, Int.natCast_mul, Int.mul_comm (q' : Int) u', ← Int.mul_assoc]
end Lt
namespace Lt
def wd (k : Int) (r : Rn) : Rn := (r.1 * k, r.2 * k + k - 1)
end Lt
section
variable {P : Program} {w : World} {K : PySem.W.Frag} {mg : Str → Option Value} {base : Heap}
theorem fn_law_pen (B : Bi mg) (F : Df K mg "_law_pen" s_law_pen) : Fn P w K mg base CX0 "_law_pen" 1 (fun vs L Q _ => ∃ (a : Addr) (ns : List Int), vs = [.ref a] ∧ InL K L a (ns.map V.int) ∧ ∀ p c ms, ms.length ≤ 63 → Q (.ref p) ((p, penO c 0 0) :: (c, celO ms) :: L)) := by
  refine fn_plain F sc_law_pen (fun _ _ _ _ _ _ us hl => match us, hl with | [_], _ => rfl) (by decide) (by tm_at "g_len") ?_
  intro X f cdv A outer s H E0 L vs Q E hX nd hr h
  subst hX
  obtain ⟨a, ns, rfl, hi, q⟩ := h
  show GSs _ (defBody s_law_pen) (bodyD Q) [("_law_script", some (.ref a))] L
  refine gss_cons ?_
  tm_at "g"
  refine ⟨a, ns.map V.int, rfl, ?_⟩
  show GE _ _ _ _ _
  tm_at "g"
  refine ⟨hi, fun q1 => ?_⟩
  obtain ⟨ms, hm, em⟩ := cut63 (ns := ns)
  rw [em]
  tm_at "g"
  refine gc_list mem0 fun c => ?_
  tm_at "g"

  exact ⟨_, Sub.sublist (((List.sublist_cons_self _ _).cons_cons _).cons_cons _), q _ c ms hm⟩
theorem fn_law_draw (B : Bi mg) (F : Df K mg "_law_draw" s_law_draw) : Fn P w K mg base CX0 "_law_draw" 1 spDraw := by
  refine fn_plain F sc_law_draw (fun _ _ _ _ _ _ us hl => match us, hl with | [_, _], _ => rfl) (by decide) (by tm_at "g_len") ?_
  intro X f cdv A outer s H E0 L vs Q E hX nd hr h
  subst hX
  obtain ⟨p, c, ns, n, m, many, R, rfl, sb, h63, k1, k2, n0, n1, m0, q⟩ := h
  refine GSs.sub sb ?_
  show GSs _ (defBody s_law_draw) (bodyD Q) [("_law_pen_here", some (.ref p)), ("_law_many", some (.int many)), ("_law_digit", none), ("_law_tick", none), ("_law_cell", none), ("_law_great", none), ("_law_mixed", none)] _
  refine gss_cons ?_
  tm_at "g"
  refine ite_d (fun hm => ?_) (fun hm => ?_)
  · tm_at "g"
    refine go_modR k1 fun d d0 d1 => ?_
    tm_at "g"
    refine go_divS k1 k2 ?_
    tm_at "g"
    exact ⟨_, Sub.refl, q d n (m / many) d0 d1 n0 (by omega) (Int.ediv_nonneg m0 (by omega))⟩
  tm_at "g"
  refine go_mulS (.inl (by decide)) ?_
  tm_at "gx"
  refine GS.cut (fun θ M => ∃ r : Int, θ = ([("_law_pen_here", some (.ref p)), ("_law_many", some (.int many)), ("_law_digit", none), ("_law_tick", some (.int n)), ("_law_cell", some (.int r)), ("_law_great", none), ("_law_mixed", none)] : En) ∧ Sub ((p, penO c (n + 1) m) :: (c, celO ns) :: R) M) ?_ ?_
  · tm_at "g"
    refine go_neD (d := .list (ns.map PyData.int)) (e := .list ([].map PyData.int)) hr.toRoom (dl_lst (by tm_at "g_mem") dls_ints) (dl_lst (by tm_at "g_mem") dls_nil) (shapedL _) (shapedL _) ?_
    rw [eqvL]
    tm_at "g"
    refine ite_n (fun hz => ?_) (fun hz => ?_)
    · tm_at "g"
      have hp : 0 < (ns.length : Int) := by
        cases ns with
        | nil => exact absurd rfl hz
        | cons a r => rw [List.length_cons]; omega
      rw [List.length_map]
      refine go_modR hp fun d d0 d1 => ?_
      obtain ⟨k, rfl⟩ : ∃ k : Nat, d = (k : Int) := ⟨d.toNat, by omega⟩
      have hk : k < ns.length := by omega
      refine gi_lst (by tm_at "g_mem") (atI_nat (v := .int ns[k]) (by rw [List.getElem?_map, List.getElem?_eq_getElem hk] <;> rfl)) ?_
      tm_at "g"
      tm_at "g_sub"
    · tm_at "g"
      tm_at "g_sub"
  rintro θ M ⟨raw, rfl, hs⟩
  refine GSs.sub hs ?_
  tm_at "gx"
  refine gs_if (GT.imp (Q := fun k M => M = (p, penO c (n + 1) m) :: (c, celO ns) :: R ∧ (k = true → 1000000000000000000 ≤ (raw.natAbs : Int))) ?_ ?_)
  · tm_at "g"
    refine ite_d (fun _ => ?_) (fun _ => ⟨rfl, fun z => nomatch z⟩)
    tm_at "g"
    refine go_powL (r := 1000000000000000000) ⟨by decide, by decide, by decide⟩ (by decide) ?_
    tm_at "g"
    exact ⟨rfl, fun z => of_decide_eq_true z⟩
  rintro k M ⟨rfl, hk⟩
  refine ite_b (fun e => ?_) (fun e => ?_)
  · have hr1 := hk e
    tm_at "g"
    refine go_powL (r := 1000000000000000000) ⟨by decide, by decide, by decide⟩ (by decide) ?_
    tm_at "g"
    refine go_mulS (.inl (by decide)) ?_
    tm_at "g"
    have g0 : 0 ≤ 2 * ((raw.natAbs : Int) - 1000000000000000000) + (if (decide (raw < 0)) = true then 1 else 0) := by split <;> omega
    refine go_divS k1 k2 ?_
    tm_at "g"
    refine go_modR k1 fun d d0 d1 => ?_
    tm_at "g"
    exact ⟨_, Sub.refl, q d (n + 1) _ d0 d1 (by omega) (by omega) (Int.ediv_nonneg g0 (by omega))⟩
  tm_at "g"
  refine go_modR (by decide) fun a a0 a1 => ?_
  tm_at "g"
  refine go_mulS (.inl (by decide)) ?_
  tm_at "g"
  refine go_powR ⟨by decide, by decide, by omega⟩ fun b => ?_
  tm_at "g"
  refine go_modR (by decide) fun s s0 s1 => ?_
  tm_at "g"
  refine go_mulS (.inl (by decide)) ?_
  tm_at "g"
  have b1 := bnd (t := 2 * n + 629) (B := 200000 + 629) s0 (Int.le_of_lt s1) (by omega) (by omega)
  refine go_mulS (.inl (by omega)) ?_
  tm_at "g"
  refine go_mulS (.inl (by decide)) ?_
  tm_at "g"
  have b2 := bnd (s := 85422 * n) (t := n) (A := 85422 * 100000) (B := 100000) (by omega) (by omega) n0 n1
  refine go_mulS (.inl (by omega)) ?_
  tm_at "g"
  refine go_powR ⟨by decide, by decide, by omega⟩ fun b => ?_
  tm_at "g"
  refine go_modR (by decide) fun s' s0' s1' => ?_
  tm_at "g"
  refine go_divS (by decide) (by decide) ?_
  tm_at "g"
  refine go_modR k1 fun d d0 d1 => ?_
  tm_at "g"
  exact ⟨_, Sub.refl, q d (n + 1) m d0 d1 (by omega) (by omega) m0⟩
end
section
variable {P : Program} {w : World} {K : PySem.W.Frag} {mg : Str → Option Value} {base : Heap} {C : Addr}
theorem fn_law_pick (B : Bi mg) (F : Df K mg "_law_pick" s_law_pick) (D1 : Fn P w K mg base CX0 "_law_draw" 1 spDraw) : Fn P w K mg base CX0 "_law_pick" 2 spPick := by
  refine fn_plain F sc_law_pick (fun _ _ _ _ _ _ us hl => match us, hl with | [_, _], _ => rfl) (by decide) (by tm_at "g_len") ?_
  intro X f cdv A outer s H E0 L vs Q E hX nd hr h
  subst hX
  obtain ⟨p, c, q, ns, xs, n, m, R, rfl, sb, mq, h63, l0, l1, n0, n1, m0, qq⟩ := h
  refine GSs.sub sb ?_
  show GSs _ (defBody s_law_pick) (bodyD Q) [("_law_pen_here", some (.ref p)), ("_law_some", some (.ref q))] _
  refine gss_cons ?_
  tm_at "g"
  refine ge_call (El := NoX) D1 hr passA ?_
  tm_at "g"
  refine ⟨p, c, ns, n, m, xs.length, R, rfl, Sub.refl, h63, by omega, by omega, n0, n1, m0, fun d n' m' d0 d1 a0 a1 a2 => ?_⟩
  obtain ⟨k, rfl⟩ : ∃ k : Nat, d = (k : Int) := ⟨d.toNat, by omega⟩
  have hk : k < xs.length := by omega
  refine gi_lst (memS (memS mq)) (atI_nat (v := xs[k]) (List.getElem?_eq_getElem hk)) ?_
  tm_at "g"
  exact ⟨_, Sub.refl, qq k _ n' m' (List.getElem?_eq_getElem hk) a0 a1 a2⟩
end
section
open Lt
/-- is_whole of an integer -/
def spWholeI : SpL := fun vs L Q _ => ∃ i : Int, vs = [.int i] ∧ Q (.bl true) L
def spIsRun : SpL := fun vs L Q _ => ∃ (t : Addr) (a b : Int), vs = [.ref t] ∧ (t, HO.tup [.int a, .int b]) ∈ L ∧ Q (.bl (decide (a ≤ b))) L
def spLen : SpL := fun vs L Q _ => ∃ (t : Addr) (a b : Int), vs = [.ref t] ∧ (t, HO.tup [.int a, .int b]) ∈ L ∧ Q (.int (b - a + 1)) L
/-- a row of runs as a new list -/
def NewRows (R : List Rn → Prop) (L : Lg) (Q : QV) : Prop := ∀ (f : Addr) (ps : List Pr2) (M : Lg), Sub L M → (f, HO.lst (prV ps)) ∈ M → Prs2 ps M → R (ps.map (·.2)) → Q (.ref f) M
def spMelted : SpL := fun vs L Q _ => ∃ (r : Addr) (ps : List Pr2), vs = [.ref r] ∧ (r, HO.lst (prV ps)) ∈ L ∧ Prs2 ps L ∧ ps.length ≤ 100000 ∧ (∀ e ∈ ps, e.2.1 ≤ e.2.2) ∧ (ps.map (·.2)).Pairwise le2 ∧ NewRows (fun rs => Melt (ps.map (·.2)) rs ∧ rs.length ≤ ps.length) L Q
variable {P : Program} {w : World} {K : PySem.W.Frag} {mg : Str → Option Value} {base : Heap}
theorem fn_is_wholeI (B : Bi mg) (F : Df K mg "is_whole" s_is_whole) : Fn P w K mg base CX0 "is_whole" 1 spWholeI := by
  refine fn_plain F sc_is_whole (fun _ _ _ _ _ _ us hl => match us, hl with | [_], _ => rfl) (by decide) (by tm_at "g_len") ?_
  intro X f cdv A outer s H E0 L vs Q E hX nd hr h
  subst hX
  obtain ⟨i, rfl, q⟩ := h
  show GSs _ (defBody s_is_whole) (bodyD Q) [("value", some (.int i))] L
  refine gss_cons ?_
  tm_at "g"
  refine gc_isK .int kb_int_int ?_
  tm_at "g"
  refine gc_isK .int kb_int_bool ?_
  tm_at "g"
  exact ⟨_, Sub.refl, q⟩
theorem fn_is_run (B : Bi mg) (F : Df K mg "is_run" s_is_run) (D1 : Fn P w K mg base CX0 "is_whole" 1 spWholeI) : Fn P w K mg base CX0 "is_run" 2 spIsRun := by
  refine fn_plain F sc_is_run (fun _ _ _ _ _ _ us hl => match us, hl with | [_], _ => rfl) (by decide) (by tm_at "g_len") ?_
  intro X f cdv A outer s H E0 L vs Q E hX nd hr h
  subst hX
  obtain ⟨t, a, b, rfl, m, q⟩ := h
  show GSs _ (defBody s_is_run) (bodyD Q) [("value", some (.ref t))] L
  refine gss_cons ?_
  tm_at "g"
  refine gc_isK (.tup m) kb_tuple_tuple ?_
  tm_at "g"
  rw [show (!decide ((([.int a, .int b] : List V).length : Int) = 2)) = false from rfl]
  tm_at "g"
  refine ge_call (El := NoX) D1 hr passA ?_
  tm_at "g"
  refine ⟨a, rfl, ?_⟩
  tm_at "g"
  refine ge_call (El := NoX) D1 hr passA ?_
  tm_at "g"
  refine ⟨b, rfl, ?_⟩
  tm_at "g"
  exact ⟨_, Sub.refl, q⟩
theorem fn_length_of (F : Df K mg "length_of" s_length_of) : Fn P w K mg base CX0 "length_of" 1 spLen := by
  refine fn_plain F sc_length_of (fun _ _ _ _ _ _ us hl => match us, hl with | [_], _ => rfl) (by decide) (by tm_at "g_len") ?_
  intro X f cdv A outer s H E0 L vs Q E hX nd hr h
  subst hX
  obtain ⟨t, a, b, rfl, m, q⟩ := h
  show GSs _ (defBody s_length_of) (bodyD Q) [("run", some (.ref t))] L
  refine gss_cons ?_
  tm_at "g"
  exact ⟨_, Sub.refl, q⟩
theorem fn_melted (B : Bi mg) (F : Df K mg "melted" s_melted) : Fn P w K mg base CX0 "melted" 1 spMelted := by
  refine fn_plain F sc_melted (fun _ _ _ _ _ _ us hl => match us, hl with | [_], _ => rfl) (by decide) (by tm_at "g_len") ?_
  intro X f cdv A outer s H E0 L vs Q E hX nd hr h
  subst hX
  obtain ⟨r, ps, rfl, m, hp, hl, hle, hs, q⟩ := h
  show GSs _ (defBody s_melted) (bodyD Q) [("runs", some (.ref r)), ("found", none), ("run", none)] L
  refine gss_cons ?_
  tm_at "g"
  refine gs_for (gi_list ?_)
  tm_at "g"
  refine ⟨fun i θ M => ∃ (g : Addr) (qs : List Pr2) (u : Option V), θ = ([("runs", some (.ref r)), ("found", some (.ref g)), ("run", u)] : En) ∧ Sub L M ∧ (g, HO.lst (prV qs)) ∈ M ∧ Prs2 qs M ∧ Melt ((ps.take i).map (·.2)) (qs.map (·.2)) ∧ qs.length ≤ i, ?_, ?_, ?_, ?_⟩
  · exact ⟨_, [], none, rfl, Sub.drop, mem0, fun e h => (nomatch h), Melt.nil, Nat.zero_le _⟩
  · exact fun i θ M hi nd ⟨g, qs, u, _, sb, _⟩ => (sb.to nd).2 _ m
  · rintro i x E1 θ M hi ⟨hx, rfl⟩ ⟨g, qs, u, rfl, sb, mg', hq, hm, hn⟩
    obtain ⟨e, he, rfl⟩ : ∃ e, ps[i]? = some e ∧ V.ref e.1 = x := by
      have hx : (prV ps)[i]? = some x := hx
      unfold prV at hx
      rw [List.getElem?_map] at hx
      exact Option.map_eq_some_iff.mp hx
    have em := List.mem_of_getElem? he
    have hle1 := hle e em
    have il : i < ps.length := (List.getElem?_eq_some_iff.mp he).1
    dsimp only [List.nil_append]
    have et : (ps.take (i + 1)).map (·.2) = (ps.take i).map (·.2) ++ [e.2] := by
      rw [List.take_succ, he, List.map_append]
      rfl
    have srt : ∀ r ∈ (ps.take i).map (·.2), r.1 ≤ e.2.1 := fun r hr' => by
      have e2 : (ps.map (·.2)) = (ps.take i).map (·.2) ++ (ps.drop i).map (·.2) := by rw [← List.map_append, List.take_append_drop]
      rw [e2] at hs
      have := (List.pairwise_append.mp hs).2.2 r hr' e.2 (List.mem_map.mpr ⟨e, List.mem_iff_getElem?.mpr ⟨0, by rw [List.getElem?_drop]; exact he⟩, rfl⟩)
      unfold le2 at this
      omega
    have step := hm.step hle1 srt
    rw [← et] at step
    refine GG.nd fun ndM => ?_
    have me : (e.1, HO.tup [.int e.2.1, .int e.2.2]) ∈ M := (sb.to ndM).2 _ (hp e em)
    refine gg_name (by tm_at "g_pv") ?_
    tm_at "g"
    refine go_nePN (ps := qs) hr (by tm_at "g_mem") (by tm_at "g_mem") rfl (Prs2.mono hq fun _ => memS) ?_
    rcases List.eq_nil_or_concat qs with rfl | ⟨ms, l, rfl⟩
    · refine ⟨false, rfl, ite_f ?_⟩
      tm_at "g"
      have mg0 : (g, HO.lst []) ∈ M := mg'
      refine ⟨g, [], rfl, .inr (by tm_at "g_mem"), ?_⟩
      tm_at "g"
      refine ⟨_, [e], _, rfl, Sub.trans sb (by tm_at "g_end"), mem0, ?_, ?_, by show 1 ≤ i + 1; omega⟩
      · intro x hx
        rw [List.mem_singleton.mp hx]
        tm_at "g_mem"
      · exact step
    · rw [List.concat_eq_append] at *
      have mg2 : (g, HO.lst (prV ms ++ [V.ref l.1])) ∈ M := by
        unfold prV at mg' ⊢
        rw [List.map_append] at mg'
        exact mg'
      have ml := hq l (List.mem_append_right _ (List.mem_singleton.mpr rfl))
      have qm : Prs2 ms M := fun x hx => hq x (List.mem_append_left _ hx)
      rw [show (ms ++ [l]).isEmpty = false by cases ms <;> rfl]
      rw [List.map_append] at step
      have step2 := step
      rw [show List.map (fun x : Pr2 => x.2) [l] = [l.2] from rfl, mstep_snoc] at step2
      tm_at "g"
      refine gi_lst (by exact memS mg2) (atI_last _ _) ?_
      tm_at "g"
      refine ite_d (fun c => ?_) (fun c => ?_)
      · rw [if_pos c] at step2
        tm_at "g"
        refine ⟨g, prV ms ++ [V.ref l.1], rfl, ?_⟩
        show GE _ _ _ _ _
        tm_at "g"
        refine ⟨fun H hH => sql hH (memS mg2), fun q1 => ?_⟩
        rw [show (-1 : Int) = -1 from rfl, cut_front]
        refine ⟨q1, _, rfl, .inr mem0, ?_⟩
        tm_at "g"
        refine gi_lst (by exact memS (memS mg2)) (atI_last _ _) ?_
        tm_at "g"
        refine gi_lst (by exact memS (memS mg2)) (atI_last _ _) ?_
        tm_at "g"
        rename_i tp
        have nl : ms.length + 1 ≤ i := by
          rw [List.length_append] at hn
          exact hn
        refine ⟨szL (by unfold prV; simp only [List.length_append, List.length_map, List.length_cons, List.length_nil]; omega), fun f2 => ?_⟩
        tm_at "g"
        refine ⟨f2, ms ++ [(tp, (l.2.1, if l.2.2 < e.2.2 then e.2.2 else l.2.2))], _, rfl, Sub.trans sb (by tm_at "g_end"), by unfold prV; rw [List.map_append]; exact mem0, ?_, ?_, ?_⟩
        · refine Prs2.snoc (qm.mono fun x hx => by tm_at "g_mem") ?_
          tm_at "g_mem"
        · rw [List.map_append]
          exact step2
        · rw [List.length_append]
          show ms.length + 1 ≤ i + 1
          omega
      · rw [if_neg c] at step2
        tm_at "g"
        refine ⟨g, prV ms ++ [V.ref l.1], rfl, .inr (memS mg2), ?_⟩
        tm_at "g"
        have nl : ms.length + 1 ≤ i := by
          rw [List.length_append] at hn
          exact hn
        refine ⟨szL (by unfold prV; simp only [List.length_append, List.length_map, List.length_cons, List.length_nil]; omega), fun f2 => ?_⟩
        tm_at "g"
        refine ⟨f2, ms ++ [l] ++ [e], _, rfl, Sub.trans sb (by tm_at "g_end"), by unfold prV; rw [List.map_append, List.map_append]; exact mem0, ?_, ?_, ?_⟩
        · refine Prs2.snoc (hq.mono fun x hx => by tm_at "g_mem") ?_
          tm_at "g_mem"
        · rw [List.map_append, List.map_append]
          exact step2
        · simp only [List.length_append, List.length_cons, List.length_nil]
          omega
  · rintro θ M ⟨g, qs, u, rfl, sb, mg', hq, hm, hn⟩
    tm_at "g"
    have hn : qs.length ≤ (prV ps).length := hn
    unfold prV at hn
    rw [List.length_map] at hn
    refine ⟨_, Sub.refl, q g qs M sb mg' hq ⟨?_, ?_⟩⟩
    · have e : ps.take (prV ps).length = ps := List.take_of_length_le (by unfold prV; rw [List.length_map]; exact Nat.le_refl _)
      have hm : Melt ((ps.take (prV ps).length).map (·.2)) (qs.map (·.2)) := hm
      rw [e] at hm
      exact hm
    · rw [List.length_map]
      exact hn
end
section
open Lt
variable {P : Program} {w : World} {K : PySem.W.Frag} {mg : Str → Option Value} {base : Heap}
/-- what the closing of a round gives -/
def Closed (p : Int) (all : List Rn) (b : Int) (rs : List Rn) : Prop := ∃ m e, rs = m ++ [(b, e)] ∧ (p ≤ e - b + 1 → ∀ n, In p all n) ∧ (e - b + 1 < p → NF 0 p rs ∧ ∀ n, In p rs n ↔ In p all n) ∧ rs.length ≤ all.length
def spClosed : SpL := fun vs L Q _ => ∃ (p : Int) (r : Addr) (ms : List Pr2) (l : Pr2), vs = [.int p, .ref r] ∧ (r, HO.lst (prV ms ++ [V.ref l.1])) ∈ L ∧ Prs2 (ms ++ [l]) L ∧ ms.length ≤ 100000 ∧
  (∀ r ∈ (ms.map (·.2)) ++ [l.2], r.1 ≤ r.2) ∧ ((ms.map (·.2)) ++ [l.2]).Pairwise (fun r s => r.2 + 1 < s.1) ∧ (∀ r ∈ (ms.map (·.2)) ++ [l.2], 0 ≤ r.1 ∧ r.1 < p) ∧ NewRows (Closed p ((ms.map (·.2)) ++ [l.2]) l.2.1) L Q
theorem at_prV {ms : List Pr2} {l : Pr2} {k : Nat} {x : Pr2} (h : ms[k]? = some x) : atI (prV ms ++ [V.ref l.1]) (k : Int) = some (.ref x.1) := atI_nat (by
  have hk := (List.getElem?_eq_some_iff.mp h).1
  unfold prV
  rw [List.getElem?_append_left (by rw [List.length_map]; exact hk), List.getElem?_map, h]
  rfl)
theorem fn_closed_round (B : Bi mg) (F : Df K mg "closed_round" s_closed_round) : Fn P w K mg base CX0 "closed_round" 1 spClosed := by
  refine fn_plain F sc_closed_round (fun _ _ _ _ _ _ us hl => match us, hl with | [_, _], _ => rfl) (by decide) (by tm_at "g_len") ?_
  intro X f cdv A outer s H E0 L vs Q E hX nd hr h
  subst hX
  obtain ⟨p, r, ms, l, rfl, m, hp, hl, le, ap, wd, q⟩ := h
  have ml := hp l (List.mem_append_right _ (List.mem_singleton.mpr rfl))
  have lm : (ms.map (·.2)).length = ms.length := List.length_map ..
  show GSs _ (defBody s_closed_round) (bodyD Q) [("period", some (.int p)), ("runs", some (.ref r)), ("many", none), ("end", none)] L
  refine gss_cons ?_
  tm_at "g"
  refine gi_lst m (atI_last _ _) ?_
  tm_at "g"
  have len : ((prV ms ++ [V.ref l.1]).length : Int) = ms.length + 1 := by
    unfold prV
    rw [List.length_append, List.length_map]
    rfl
  refine GS.cut (fun θ M => ∃ (k : Nat) (e : Int), θ = ([("period", some (.int p)), ("runs", some (.ref r)), ("many", some (.int k)), ("end", some (.int e))] : En) ∧ Sub L M ∧ Clo p (ms.map (·.2)) l.2 k e ∧ ∀ x, (ms.map (·.2))[k]? = some x → e + 1 < x.1 + p) ?_ ?_
  · refine gs_while (fun n θ M => ∃ (k : Nat) (e : Int), θ = ([("period", some (.int p)), ("runs", some (.ref r)), ("many", some (.int k)), ("end", some (.int e))] : En) ∧ Sub L M ∧ Clo p (ms.map (·.2)) l.2 k e ∧ n = ms.length - k) ms.length ⟨0, l.2.2, rfl, Sub.refl, .zero, rfl⟩ ?_
    rintro n θ M ⟨k, e, rfl, sb, c, rfl⟩
    refine GT.sub sb ?_
    have kl := c.kl
    rw [lm] at kl
    tm_at "g"
    rw [len]
    refine ite_d (fun z => ?_) (fun z => ?_)
    · have kl2 : k < ms.length := by omega
      obtain ⟨x, hx⟩ : ∃ x, ms[k]? = some x := ⟨_, List.getElem?_eq_getElem kl2⟩
      have mx := hp x (List.mem_append_left _ (List.mem_of_getElem? hx))
      have hx2 : (ms.map (·.2))[k]? = some x.2 := by rw [List.getElem?_map, hx]; rfl
      tm_at "g"
      refine gi_lst (by tm_at "g_mem") (at_prV hx) ?_
      tm_at "g"
      refine ite_d (fun z2 => ?_) (fun z2 => ?_)
      · tm_at "g"
        refine gi_lst (by tm_at "g_mem") (at_prV hx) ?_
        tm_at "g"
        exact ⟨_, by omega, k + 1, _, rfl, Sub.refl, c.step hx2 z2, rfl⟩
      · exact ⟨k, e, rfl, Sub.refl, c, fun y hy => by
          obtain rfl := Option.some.inj (hx2.symm.trans hy)
          omega⟩
    · refine ⟨k, e, rfl, Sub.refl, c, fun y hy => ?_⟩
      have := (List.getElem?_eq_some_iff.mp hy).1
      rw [lm] at this
      omega
  rintro θ M ⟨k, e, rfl, sb, c, out⟩
  refine GSs.sub sb ?_
  have kl := c.kl
  rw [lm] at kl
  tm_at "g"
  refine ⟨r, prV ms ++ [V.ref l.1], rfl, ?_⟩
  show GE _ _ _ _ _
  tm_at "g"
  show GE _ _ _ _ _
  tm_at "g"
  refine ⟨fun H hH => sql hH m, fun q1 => ?_⟩
  rw [cut_mid (by unfold prV; rw [List.length_map]; exact kl)]
  refine ⟨q1, _, rfl, .inr mem0, ?_⟩
  tm_at "g"
  refine gi_lst (by tm_at "g_mem") (atI_last _ _) ?_
  tm_at "g"
  rename_i tp
  refine ⟨szL (by unfold prV; simp only [List.length_append, List.length_drop, List.length_map, List.length_cons, List.length_nil]; omega), fun f2 => ?_⟩
  tm_at "g"
  have d := c.done le ap wd out
  refine ⟨_, Sub.refl, q f2 (ms.drop k ++ [(tp, (l.2.1, e))]) _ (by tm_at "g_end") ?_ ?_ ⟨(ms.map (·.2)).drop k, e, ?_, d.1, ?_, ?_⟩⟩
  · unfold prV
    rw [List.map_append, List.map_drop]
    exact mem0
  · exact Prs2.snoc (fun x hx => memS (memS (memS (hp x (List.mem_append_left _ (List.mem_of_mem_drop hx)))))) (memS mem0)
  · rw [List.map_append, List.map_drop]
    rfl
  · rw [List.map_append, List.map_drop]
    exact d.2
  · simp only [List.length_map, List.length_append, List.length_drop, List.length_cons, List.length_nil]
    omega
end
section
open Lt
variable {P : Program} {w : World} {K : PySem.W.Frag} {mg : Str → Option Value} {base : Heap}
abbrev prO (r : Rn) : HO := .tup [.int r.1, .int r.2]
theorem pairs_of {es : Lg} {ds : List Rn} (h : es.map (·.2) = ds.map prO) : ∃ ps : List Pr2, ps.map (fun e => (e.1, prO e.2)) = es ∧ ps.map (·.2) = ds := es_pairs h
theorem prs_of {ps : List Pr2} {es : Lg} (h : ps.map (fun e => (e.1, prO e.2)) = es) (L : Lg) : Prs2 ps (es ++ L) := fun e he => List.mem_append_left _ (h ▸ List.mem_map.mpr ⟨e, he, rfl⟩)
theorem refs_of {ps : List Pr2} {es : Lg} (h : ps.map (fun e => (e.1, prO e.2)) = es) : refs es = prV ps := by
  subst h
  unfold refs prV
  rw [List.map_map]
  rfl
def spMaximal : SpL := fun vs L Q _ => ∃ (p : Int) (r : Addr) (o : HO) (ps : List Pr2), vs = [.int p, .ref r] ∧ RowO o (prV ps) ∧ (r, o) ∈ L ∧ Prs2 ps L ∧ ps.length ≤ 100000 ∧ 1 ≤ p ∧ (∀ e ∈ ps, e.2.1 ≤ e.2.2) ∧ NewRows (fun rs => Mx p (ps.map (·.2)) rs ∧ rs.length ≤ ps.length) L Q
theorem fn_maximal (B : Bi mg) (F : Df K mg "maximal" s_maximal) (D1 : Fn P w K mg base CX0 "length_of" 1 spLen) (D2 : Fn P w K mg base CX0 "melted" 1 spMelted) (D3 : Fn P w K mg base CX0 "closed_round" 1 spClosed) : Fn P w K mg base CX0 "maximal" 2 spMaximal := by
  refine fn_plain F sc_maximal (fun _ _ _ _ _ _ us hl => match us, hl with | [_, _], _ => rfl) (by decide) (by tm_at "g_len") ?_
  intro X f cdv A outer s H E0 L vs Q E hX nd hr h
  subst hX
  obtain ⟨p, r, o, ps, rfl, ro, m, hp, hl, p1, le, q⟩ := h
  show GSs _ (defBody s_maximal) (bodyD Q) [("period", some (.int p)), ("runs", some (.ref r)), ("moved", none), ("found", none), ("run", none)] L
  refine gss_cons ?_
  tm_at "g"
  refine ge_lcP (by tm_at "g_put") (gi_rowO ro ?_) (show blkC N_maximal (defScope s_maximal) _ [(_, List.idxOf _ N_maximal)] = true by decide +kernel)
  tm_at "g"
  refine ⟨m, ?_⟩
  refine pure_rowPr (t := fun _ => true) (g := fun e => .bl (decide (p ≤ e.2.2 - e.2.1 + 1))) m (by omega) (fun e he D acc s1 H1 C1 cl1 fp1 => ?_) fun D => ?_
  · refine gts_nil ⟨rfl, Sub.refl, fun _ s2 H2 C2 cl2 fp2 => ?_⟩
    tm_at "g"
    refine ge_call (El := NoX) D1 hr passA ?_
    tm_at "g"
    refine ⟨_, _, _, rfl, memS (hp e he), ?_⟩
    tm_at "g"
    exact ⟨rfl, Sub.refl⟩
  rw [List.filter_eq_self.mpr fun _ _ => rfl]
  have eb : ps.map (fun e : Pr2 => V.bl (decide (p ≤ e.2.2 - e.2.1 + 1))) = (ps.map fun e => decide (p ≤ e.2.2 - e.2.1 + 1)).map V.bl := by
    rw [List.map_map]
    rfl
  rw [eb]
  tm_at "g"
  refine gc_anyB (by rfl) mem0 ?_
  refine ⟨_, rfl, ite_b (fun z => ?_) (fun z => ?_)⟩
  · -- a run as long as a round
    obtain ⟨e, he, hz⟩ : ∃ e ∈ ps, p ≤ e.2.2 - e.2.1 + 1 := by
      obtain ⟨b, hb, hz⟩ := List.any_eq_true.mp z
      obtain ⟨e, he, rfl⟩ := List.mem_map.mp hb
      exact ⟨e, he, of_decide_eq_true hz⟩
    tm_at "g"
    rename_i t1 t2
    refine ⟨_, Sub.refl, q t2 [(t1, (0, p - 1))] _ (Sub.drop.trans (Sub.drop.trans Sub.drop)) mem0 ?_ ⟨.inl ⟨rfl, fun n => ?_⟩, ?_⟩⟩
    · intro x hx
      rw [List.mem_singleton.mp hx]
      exact memS mem0
    · exact in_long (r := e.2) (by omega) (List.mem_map.mpr ⟨e, he, rfl⟩) hz n
    · exact List.length_pos_of_mem he
  · have short : ∀ e ∈ ps, e.2.2 - e.2.1 + 1 < p := fun e he => by
      have := List.any_eq_false.mp z (decide (p ≤ e.2.2 - e.2.1 + 1)) (List.mem_map.mpr ⟨e, he, rfl⟩)
      simp at this
      omega
    tm_at "g"
    refine ge_lcF (by tm_at "g_put") (gi_rowO ro ?_) (show blkC N_maximal (defScope s_maximal) _ [(_, List.idxOf _ N_maximal)] = true by decide +kernel)
    tm_at "g"
    refine ⟨memS m, ?_⟩
    refine fresh_rowPr (t := fun _ => true) (pl := fun e => prO (into p e.2)) (memS m) (by omega) (fun e he N hN s1 H1 C1 cl1 fp1 => ?_) fun d2 es hes => ?_
    · have me := hN _ (memS (hp e he))
      refine gts_nil ⟨rfl, Sub.refl, fun _ s2 H2 C2 cl2 fp2 => ?_⟩
      tm_at "g"
      refine go_mod p1 ?_
      tm_at "g"
      refine go_mod p1 ?_
      tm_at "g"
      refine ge_call (El := NoX) D1 hr passA ?_
      tm_at "g"
      refine ⟨_, _, _, rfl, me, ?_⟩
      tm_at "g"
      exact Sub.refl
    rw [List.filter_eq_self.mpr fun _ _ => rfl] at hes
    have hes2 : es.map (·.2) = (ps.map fun e => into p e.2).map prO := by rw [hes, List.map_map]; rfl
    obtain ⟨ms, e1, e2⟩ := pairs_of hes2
    rw [refs_of e1]
    have hm1 := prs_of e1 ((D, .lst ((ps.map fun e => decide (p ≤ e.2.2 - e.2.1 + 1)).map V.bl)) :: L)
    tm_at "g"
    refine gc_sortedP (ps := ms) mem0 (hm1.mono fun _ => memS) fun qs q1 pm srt => ?_
    tm_at "g"
    have hq1 : Prs2 qs ((q1, HO.lst (prV qs)) :: (d2, HO.lst (prV ms)) :: (es ++ (D, .lst ((ps.map fun e => decide (p ≤ e.2.2 - e.2.1 + 1)).map V.bl)) :: L)) := fun x hx => memS (memS (hm1 x (pm.mem_iff.mp hx)))
    have qlen : qs.length = ps.length := by
      have a := pm.length_eq
      have b := congrArg List.length e2
      rw [List.length_map, List.length_map] at b
      omega
    -- the runs, brought into the round
    have same : ∀ y, y ∈ qs.map (·.2) ↔ ∃ r ∈ ps.map (·.2), y = into p r := fun y => by
      have a : y ∈ qs.map (·.2) ↔ y ∈ ms.map (·.2) := (pm.map (·.2)).mem_iff
      rw [a, e2]
      constructor
      · intro h
        obtain ⟨e, he, rfl⟩ := List.mem_map.mp h
        exact ⟨e.2, List.mem_map.mpr ⟨e, he, rfl⟩, rfl⟩
      · rintro ⟨r, h, rfl⟩
        obtain ⟨e, he, rfl⟩ := List.mem_map.mp h
        exact List.mem_map.mpr ⟨e, he, rfl⟩
    refine go_nePN (ps := qs) hr (by tm_at "g_mem") (by tm_at "g_mem") rfl (hq1.mono fun _ => memS) ?_
    have alike : ∀ n, In p (qs.map (·.2)) n ↔ In p (ps.map (·.2)) n := in_into same
    rcases List.eq_nil_or_concat qs with e0 | ⟨q0, ql, e0⟩
    · -- no run at all
      obtain rfl : ps = [] := by
        rw [e0] at qlen
        exact List.length_eq_zero_iff.mp qlen.symm
      subst e0
      refine ⟨false, rfl, ite_f ?_⟩
      tm_at "g"
      rename_i f2 f3
      refine go_nePN (ps := []) (xs := []) hr (by tm_at "g_mem") (by tm_at "g_mem") rfl (fun _ z => nomatch z) ?_
      refine ⟨false, rfl, ite_f ?_⟩
      tm_at "g"
      refine ⟨_, Sub.refl, q f2 [] _ ?_ (by show (f2, HO.lst []) ∈ _; tm_at "g_mem") (fun _ z => nomatch z) ⟨.inr ⟨⟨(fun _ z => nomatch z), (fun _ z => nomatch z), List.Pairwise.nil, (fun _ z => nomatch z)⟩, fun n => Iff.rfl⟩, Nat.le_refl _⟩⟩
      tm_at "g_end"
    · have ne : qs ≠ [] := by
        rw [e0]
        simp
      rw [show qs.isEmpty = false by cases qs with | nil => exact absurd rfl ne | cons _ _ => rfl]
      tm_at "g"
      refine ge_call (El := NoX) D3 hr passA ?_
      tm_at "g"
      refine ge_call (El := NoX) D2 hr passA ?_
      tm_at "g"
      have inR : ∀ y ∈ qs.map (·.2), 0 ≤ y.1 ∧ y.1 < p ∧ y.1 ≤ y.2 := fun y hy => by
        obtain ⟨r0, h0, rfl⟩ := (same y).mp hy
        obtain ⟨e, he, rfl⟩ := List.mem_map.mp h0
        have := le e he
        refine ⟨Int.emod_nonneg _ (by omega), Int.emod_lt_of_pos _ p1, ?_⟩
        show e.2.1 % p ≤ e.2.1 % p + (e.2.2 - e.2.1 + 1) - 1
        omega
      refine ⟨q1, qs, rfl, by tm_at "g_mem", hq1.mono fun _ => memS, by omega, fun e he => (inR e.2 (List.mem_map.mpr ⟨e, he, rfl⟩)).2.2, srt, fun f ms2 M2 sM mf hp2 ⟨melt, hlen2⟩ => ?_⟩
      -- what was melted is not empty
      obtain ⟨mm, l, rfl⟩ : ∃ mm l, ms2 = mm ++ [l] := by
        rcases List.eq_nil_or_concat ms2 with e1 | ⟨mm, l, e1⟩
        · exfalso
          subst e1
          have hl0 : ql ∈ qs := by rw [e0, List.concat_eq_append]; exact List.mem_append_right _ (List.mem_singleton.mpr rfl)
          have k := (melt.cov ql.2.1).mpr ⟨ql.2, List.mem_map.mpr ⟨ql, hl0, rfl⟩, Int.le_refl _, (inR ql.2 (List.mem_map.mpr ⟨ql, hl0, rfl⟩)).2.2⟩
          obtain ⟨z, hz, _⟩ := k
          cases hz
        · exact ⟨mm, l, by rw [e1, List.concat_eq_append]⟩
      have ml2 : (mm ++ [l]).map (·.2) = mm.map (·.2) ++ [l.2] := by rw [List.map_append]; rfl
      rw [ml2] at melt hlen2
      tm_at "g"
      refine ⟨p, f, mm, l, rfl, by unfold prV at mf ⊢; rw [List.map_append] at mf; exact mf, hp2, ?_, melt.le, melt.ap, fun r0 h0 => ?_, fun f3 ps3 M3 s3 m3 hp3 ⟨m', e', hrs, far, near, len3⟩ => ?_⟩
      · rw [List.length_append, List.length_map] at hlen2
        omega
      · obtain ⟨y, hy, e2⟩ := melt.of r0 h0
        have := inR y hy
        omega
      have alike2 : ∀ n, In p (mm.map (·.2) ++ [l.2]) n ↔ In p (ps.map (·.2)) n := fun n => (in_cov melt.cov n).trans (alike n)
      obtain ⟨m3', l3, rfl⟩ : ∃ m3' l3, ps3 = m3' ++ [l3] := by
        rcases List.eq_nil_or_concat ps3 with e1 | ⟨a, b, e1⟩
        · rw [e1] at hrs
          simp at hrs
        · exact ⟨a, b, by rw [e1, List.concat_eq_append]⟩
      have hl3 : l3.2 = (l.2.1, e') := by
        rw [List.map_append] at hrs
        exact (List.cons.inj (List.append_inj' hrs rfl).2).1
      have ml3 := hp3 l3 (List.mem_append_right _ (List.mem_singleton.mpr rfl))
      have m3b : (f3, HO.lst (prV m3' ++ [V.ref l3.1])) ∈ M3 := by
        unfold prV at m3 ⊢
        rw [List.map_append] at m3
        exact m3
      tm_at "g"
      refine go_nePN (ps := m3' ++ [l3]) hr (by tm_at "g_mem") (by tm_at "g_mem") rfl (hp3.mono fun _ => memS) ?_
      rw [show (m3' ++ [l3]).isEmpty = false by cases m3' <;> rfl]
      tm_at "g"
      refine ge_call (El := NoX) D1 hr passA ?_
      tm_at "g"
      refine gi_lst (by exact memS m3b) (atI_last _ _) ?_
      tm_at "g"
      refine ⟨_, _, _, rfl, memS ml3, ?_⟩
      tm_at "g"
      have sL : Sub L M3 := Sub.trans (Sub.trans (by tm_at "g_end") sM) s3
      have ge1 : ps.length ≥ 1 := by
        rw [← qlen]
        exact List.length_pos_iff.mpr ne
      refine ite_d (fun c => ?_) (fun c => ?_)
      · tm_at "g"
        rename_i t1 t2
        rw [hl3] at c
        refine ⟨_, Sub.refl, q t2 [(t1, (0, p - 1))] _ (Sub.trans sL (by tm_at "g_end")) mem0 ?_ ⟨.inl ⟨rfl, fun n => (alike2 n).mp (far c n)⟩, ge1⟩⟩
        intro x hx
        rw [List.mem_singleton.mp hx]
        exact memS mem0
      · tm_at "g"
        rw [hl3] at c
        have nf := near (by omega)
        refine ⟨_, Sub.refl, q f3 (m3' ++ [l3]) _ (Sub.trans sL (by tm_at "g_end")) (by tm_at "g_mem") (hp3.mono fun _ => memS) ⟨.inr ⟨nf.1, fun n => (nf.2 n).trans (alike2 n)⟩, ?_⟩⟩
        omega
end
section
open Lt
variable {P : Program} {w : World} {K : PySem.W.Frag} {mg : Str → Option Value} {base : Heap}
/-- what the least form is told as -/
def spLeast : SpL := fun vs L Q _ => ∃ (p : Int) (r : Addr) (ps : List Pr2) (rs : List Rn), vs = [.int p, .ref r] ∧ (r, HO.lst (prV ps)) ∈ L ∧ Prs2 ps L ∧ ps.length ≤ 10000 ∧ 1 ≤ p ∧ Mx p rs (ps.map (·.2)) ∧
  ∀ (t t2 : Addr) (q : Int) (few : List Pr2) (M : Lg), Sub L M → (t, HO.tup [.int q, .ref t2]) ∈ M → (t2, HO.tup (prV few)) ∈ M → Prs2 few M → Form (In p rs) q (few.map (·.2)) → few.length ≤ ps.length → Q (.ref t) M
theorem next_at {p : Int} {ps : List Pr2} {l : Pr2} {i : Nat} {x : Pr2} (h0 : ps ≠ []) (hl : ∀ e, ps[0]? = some e → l.2.1 = e.2.1 + p) (hi : i < ps.length) (h : (ps.drop 1 ++ [l])[i]? = some x) : x.2.1 = bOf p (ps.map (·.2)) (i + 1) := by
  have pos : 0 < ps.length := List.length_pos_iff.mpr h0
  have ln : (ps.map (·.2)).length = ps.length := List.length_map ..
  rcases Nat.lt_or_ge (i + 1) ps.length with k | k
  · rw [List.getElem?_append_left (by rw [List.length_drop]; omega), List.getElem?_drop, Nat.add_comm 1 i] at h
    rw [(bOf_lt (by rw [ln]; exact k)).1, List.getD_eq_getElem?_getD, List.getElem?_map, h]
    rfl
  · have e : i + 1 = ps.length := by omega
    rw [List.getElem?_append_right (by rw [List.length_drop]; omega), List.length_drop, show i - (ps.length - 1) = 0 by omega] at h
    obtain rfl : l = x := by simpa using h
    have hb := (bOf_add (p := p) (rs := ps.map (·.2)) (by rw [ln]; exact pos) 0).1
    rw [Nat.zero_add, ln] at hb
    rw [e, hb, (bOf_lt (by rw [ln]; exact pos)).1, List.getD_eq_getElem?_getD, List.getElem?_map]
    obtain ⟨e0, he0⟩ : ∃ e, ps[0]? = some e := ⟨_, List.getElem?_eq_getElem pos⟩
    rw [hl e0 he0, he0]
    rfl
theorem fn_least_form (B : Bi mg) (F : Df K mg "least_form" s_least_form) (F1 : Fn P w K mg base CX0 "length_of" 1 spLen) : Fn P w K mg base CX0 "least_form" 2 spLeast := by
  refine fn_plain F sc_least_form (fun _ _ _ _ _ _ us hl => match us, hl with | [_, _], _ => rfl) (by decide) (by tm_at "g_len") ?_
  intro X f cdv A outer s H E0 L vs Q E hX nd hr h
  subst hX
  obtain ⟨p, r, ps, rs, rfl, m, hp, hl, p1, mx, q⟩ := h
  show GSs _ (defBody s_least_form) (bodyD Q) [("period", some (.int p)), ("runs", some (.ref r)), ("many", none), ("nexts", none), ("row", none), ("turns", none), ("few", none), ("run", none), ("later", none), ("turn", none), ("pair", none)] L
  refine gss_cons ?_
  tm_at "g"
  rw [prV_len]
  cases ps with
  | nil =>
    refine ite_d (fun _ => ?_) (fun z => absurd rfl z)
    tm_at "g"
    rename_i t2 t
    exact ⟨_, Sub.refl, q t t2 1 [] _ (Sub.drop.trans Sub.drop) mem0 (memS mem0) (fun _ z => nomatch z) (form_none mx) (Nat.le_refl _)⟩
  | cons e0 pt =>
    have m0 := hp e0 List.mem_cons_self
    refine ite_d (fun z => ?_) (fun _ => ?_)
    · exfalso
      rw [List.length_cons] at z
      omega
    tm_at "g"
    refine ge_call (El := NoX) F1 hr passA ?_
    tm_at "g"
    refine gi_lst m (show atI (V.ref e0.1 :: prV pt) ((0 : Nat) : Int) = _ from atI_nat rfl) ?_
    tm_at "g"
    refine ⟨_, _, _, rfl, m0, ?_⟩
    tm_at "g"
    refine ite_d (fun c => ?_) (fun c => ?_)
    · tm_at "g"
      rename_i t3 t2 t
      have al := (mx.full_or (r := e0.2) List.mem_cons_self).mp c
      refine ⟨_, Sub.refl, q t t2 1 [(t3, (0, 0))] _ (Sub.drop.trans (Sub.drop.trans Sub.drop)) mem0 (memS mem0) ?_ (form_all al) (by simp)⟩
      intro x hx
      rw [List.mem_singleton.mp hx]
      exact memS (memS mem0)
    have c' : e0.2.2 - e0.2.1 + 1 < p := by omega
    obtain ⟨nf, eIn⟩ := form_of mx (r := e0.2) (t := pt.map (·.2)) rfl c'
    have pn : (e0 :: pt) ≠ [] := by simp
    have p00 : (e0 :: pt)[0]? = some e0 := rfl
    generalize e0 :: pt = ps at *
    have pos : 0 < ps.length := List.length_pos_iff.mpr pn
    have ln : (ps.map (·.2)).length = ps.length := List.length_map ..
    have rn : ps.map (·.2) ≠ [] := by
      intro z
      exact pn (List.map_eq_nil_iff.mp z)
    tm_at "g"
    rw [prV_len]
    refine ⟨r, prV ps, rfl, ?_⟩
    show GE _ _ _ _ _
    tm_at "g"
    refine ⟨fun H hH => sql hH m, fun q1 => ?_⟩
    rw [show cutV (prV ps) (some 1) none = (prV ps).drop 1 from cut_from (k := 1) (by rw [prV_len]; omega)]
    refine ⟨q1, _, rfl, .inr mem0, ?_⟩
    tm_at "g"
    refine gi_lst (by tm_at "g_mem") (show atI (prV ps) ((0 : Nat) : Int) = some (.ref e0.1) from atI_nat (by unfold prV; rw [List.getElem?_map, p00]; rfl)) ?_
    tm_at "g"
    rename_i tp
    refine ⟨szL (by simp only [List.length_append, List.length_drop, prV_len, List.length_cons, List.length_nil]; omega), fun nx => ?_⟩
    tm_at "g"
    obtain ⟨nxp, enx⟩ : ∃ nxp : List Pr2, nxp = ps.drop 1 ++ [(tp, (e0.2.1 + p, 0))] := ⟨_, rfl⟩
    have eN : (prV ps).drop 1 ++ [V.ref tp] = prV nxp := by
      rw [enx]
      unfold prV
      rw [List.map_append, List.map_drop]
      rfl
    have nlen : nxp.length = ps.length := by
      rw [enx, List.length_append, List.length_drop, List.length_singleton]
      omega
    rw [eN]
    have hp1 : Prs2 ps ((nx, HO.lst (prV nxp)) :: (tp, HO.tup [.int (e0.2.1 + p), .int 0]) :: (q1, HO.lst ((prV ps).drop 1)) :: L) := fun x hx => memS (memS (memS (hp x hx)))
    have hn1 : Prs2 nxp ((nx, HO.lst (prV nxp)) :: (tp, HO.tup [.int (e0.2.1 + p), .int 0]) :: (q1, HO.lst ((prV ps).drop 1)) :: L) := by
      rw [enx]
      exact Prs2.snoc (fun x hx => memS (memS (memS (hp x (List.mem_of_mem_drop hx))))) (memS mem0)
    refine ge_lcF2 (by tm_at "g_put") (fun _ => by tm_at "g_put") (gi_zip ?_ B.zip) (by decide) (show blkC N_least_form (defScope s_least_form) _ [(_, List.idxOf _ N_least_form), (_, List.idxOf _ N_least_form)] = true by decide +kernel)
    tm_at "g"
    refine ⟨r, nx, prV ps, prV nxp, rfl, by tm_at "g_mem", by tm_at "g_mem", ?_⟩
    refine fresh_zip (p := fun _ => true) (pl := fun i => prO (fR p (ps.map (·.2)) i)) (by tm_at "g_mem") (by tm_at "g_mem") (by rw [prV_len]; omega) (fun i x y N hx hy hN s1 H1 C1 cl1 fp1 => ?_) fun d2 es hes => ?_
    · obtain ⟨e, he, rfl⟩ := prV_at hx
      obtain ⟨la, hla, rfl⟩ := prV_at hy
      have me := hN _ (hp1 e (List.mem_of_getElem? he))
      have mla := hN _ (hn1 la (List.mem_of_getElem? hla))
      have il : i < ps.length := (List.getElem?_eq_some_iff.mp he).1
      have v1 : la.2.1 = bOf p (ps.map (·.2)) (i + 1) := next_at (l := (tp, (e0.2.1 + p, 0))) pn (fun e h => by rw [p00] at h; cases h; rfl) il (by rw [← enx]; exact hla)
      have ge : (ps.map (·.2)).getD i (0, 0) = e.2 := by
        rw [List.getD_eq_getElem?_getD, List.getElem?_map, he]
        rfl
      have v2 : bOf p (ps.map (·.2)) i = e.2.1 := by rw [(bOf_lt (by rw [ln]; exact il)).1, ge]
      have v3 : eOf p (ps.map (·.2)) i = e.2.2 := by rw [(bOf_lt (by rw [ln]; exact il)).2, ge]
      refine gts_nil ⟨rfl, Sub.refl, fun _ s2 H2 C2 cl2 fp2 => ?_⟩
      tm_at "g"
      refine ge_call (El := NoX) F1 hr passA ?_
      tm_at "g"
      refine ⟨_, _, _, rfl, me, ?_⟩
      tm_at "g"
      unfold fR
      rw [v2, v3, ← v1]
      exact Sub.refl
    have hes2 : es.map (·.2) = (rowOf p (ps.map (·.2))).map prO := by
      rw [hes, List.filter_eq_self.mpr fun _ _ => rfl, prV_len, prV_len, nlen, Nat.min_self]
      unfold rowOf
      rw [List.map_map, ln]
      rfl
    obtain ⟨row, r1, r2⟩ := pairs_of hes2
    rw [refs_of r1]
    have hr1 := prs_of r1 ((nx, HO.lst (prV nxp)) :: (tp, HO.tup [.int (e0.2.1 + p), .int 0]) :: (q1, HO.lst ((prV ps).drop 1)) :: L)
    have rlen : row.length = ps.length := by
      have z := congrArg List.length r2
      rw [List.length_map, rowOf_len, ln] at z
      exact z
    tm_at "g"
    refine gs_lcP (by tm_at "g_put") (by tm_at "g_put") (gi_range2 ?_ B.range) (show blkC N_least_form (defScope s_least_form) _ [(_, List.idxOf _ N_least_form)] = true by decide +kernel)
    tm_at "g"
    refine ⟨⟨by decide, by decide, by omega, by omega⟩, ?_⟩
    let rot : Nat → Bool := fun t => decide ((rowOf p (ps.map (·.2))).drop t ++ (rowOf p (ps.map (·.2))).take t = rowOf p (ps.map (·.2)))
    refine pure_fn (p := fun i => decide ((ps.length : Int) % (1 + (i : Int)) = 0) && rot (1 + i)) (g := fun i => .int (1 + (i : Int))) (by omega) (fun i hi D acc s1 H1 C1 cl1 fp1 => ?_) fun d3 => ?_
    · have hi' : i < ps.length := by omega
      show G.GT _ _ _ _ _
      tm_at "g"
      refine go_mod (by omega) ?_
      tm_at "g"
      refine ite_d (fun z => ?_) (fun z => ?_)
      · tm_at "g"
        have ec : (1 + (i : Int)) = ((1 + i : Nat) : Int) := by omega
        refine ⟨d2, prV row, rfl, ?_⟩
        show GE _ _ _ _ _
        tm_at "g"
        refine ⟨fun H hH => sql hH (by tm_at "g_mem"), fun q2 => ?_⟩
        rw [ec, cut_from (by rw [prV_len]; omega)]
        refine ⟨q2, _, rfl, .inr mem0, ?_⟩
        tm_at "g"
        refine ⟨d2, prV row, rfl, ?_⟩
        show GE _ _ _ _ _
        tm_at "g"
        refine ⟨fun H hH => sql hH (by tm_at "g_mem"), fun q3 => ?_⟩
        rw [cut_to (by rw [prV_len]; omega)]
        refine ⟨q3, _, rfl, .inr mem0, ?_⟩
        tm_at "g"
        refine ⟨szL (by simp only [List.length_append, List.length_drop, List.length_take, prV_len, List.length_nil]; omega), fun q4 => ?_⟩
        tm_at "g"
        refine go_eqPL (ps := row.drop (1 + i) ++ row.take (1 + i)) (qs := row) hr mem0 (by tm_at "g_mem") (by unfold prV; rw [List.map_append, List.map_drop, List.map_take, List.append_nil]) rfl (fun x hx => ?_) (fun x hx => ?_) ?_
        · refine memS (memS (memS (memS (memS (hr1 x ?_)))))
          rcases List.mem_append.mp hx with hx | hx
          · exact List.mem_of_mem_drop hx
          · exact List.mem_of_mem_take hx
        · exact memS (memS (memS (memS (memS (hr1 x hx)))))
        rw [List.map_append, List.map_drop, List.map_take, r2]
        refine ⟨_, rfl, ?_, by tm_at "g_end", fun _ s2 H2 C2 cl2 fp2 => ?_⟩
        · rw [← ec, decide_eq_true z, Bool.true_and]
        · tm_at "g"
          exact ⟨rfl, by tm_at "g_end"⟩
      · exact ⟨by rw [decide_eq_false z]; rfl, Sub.refl, fun y => nomatch y⟩
    have en : ((ps.length : Int) + 1 - 1).toNat = ps.length := by omega
    have hcast : ∀ i : Nat, (ps.length : Int) % (1 + (i : Int)) = 0 ↔ ps.length % (1 + i) = 0 := fun i => by
      rw [show (1 + (i : Int)) = ((1 + i : Nat) : Int) by omega, ← Int.natCast_emod]
      omega
    rw [en]
    obtain ⟨i0, rest, hf⟩ : ∃ i0 rest, (List.range ps.length).filter (fun i : Nat => decide ((ps.length : Int) % (1 + (i : Int)) = 0) && rot (1 + i)) = i0 :: rest := by
      cases hz : (List.range ps.length).filter (fun i : Nat => decide ((ps.length : Int) % (1 + (i : Int)) = 0) && rot (1 + i)) with
      | cons a b => exact ⟨a, b, rfl⟩
      | nil =>
        exfalso
        have k := List.filter_eq_nil_iff.mp hz (ps.length - 1) (List.mem_range.mpr (by omega))
        refine k ?_
        rw [Bool.and_eq_true]
        have e1 : 1 + (ps.length - 1) = ps.length := by omega
        refine ⟨decide_eq_true ((hcast _).mpr (by rw [e1, Nat.mod_self])), decide_eq_true ?_⟩
        rw [e1]
        have z : (rowOf p (ps.map (·.2))).length = ps.length := by rw [rowOf_len, ln]
        rw [List.drop_of_length_le (by omega), List.take_of_length_le (by omega), List.nil_append]
    rw [hf]
    obtain ⟨i1, pi0, pm⟩ := filter_head hf
    obtain ⟨pi1, pi2⟩ := Bool.and_eq_true_iff.mp pi0
    have td : ps.length % (1 + i0) = 0 := (hcast i0).mp (of_decide_eq_true pi1)
    have frm : Form (In p (ps.map (·.2))) ((((rowOf p (ps.map (·.2))).take (1 + i0)).map (·.2)).sum) ((ps.map (·.2)).take (1 + i0)) := by
      refine least_form nf rn (by omega) (by rw [ln]; omega) (by rw [ln]; exact td) (of_decide_eq_true pi2) fun s s1 s2 s3 s4 => ?_
      have z := pm (s - 1) (by omega)
      rw [Bool.and_eq_false_iff] at z
      rw [ln] at s3
      have e1 : 1 + (s - 1) = s := by omega
      rcases z with z | z
      · exact of_decide_eq_false z ((hcast _).mpr (by rw [e1]; exact s3))
      · exact of_decide_eq_false z (by rw [e1]; exact s4)
    rw [eIn] at frm
    have ec : (1 + (i0 : Int)) = ((1 + i0 : Nat) : Int) := by omega
    have at0 : atI ((i0 :: rest).map fun i : Nat => V.int (1 + (i : Int))) 0 = some (.int (1 + (i0 : Int))) := show atI _ ((0 : Nat) : Int) = _ from atI_nat rfl
    tm_at "g"
    refine ⟨r, prV ps, rfl, ?_⟩
    show GE _ _ _ _ _
    tm_at "g"
    refine gi_lst (by tm_at "g_mem") at0 ?_
    refine ⟨_, rfl, ?_⟩
    refine ⟨fun H hH => sql hH (by tm_at "g_mem"), fun q5 => ?_⟩
    rw [ec, cut_to (by rw [prV_len]; omega)]
    tm_at "g"
    refine ge_lcP (by tm_at "g_put") (gi_list ?_) (show blkC N_least_form (defScope s_least_form) _ [(_, List.idxOf _ N_least_form)] = true by decide +kernel)
    tm_at "g"
    refine ⟨d2, prV row, rfl, ?_⟩
    show GE _ _ _ _ _
    tm_at "g"
    refine gi_lst (by tm_at "g_mem") at0 ?_
    refine ⟨_, rfl, ?_⟩
    refine ⟨fun H hH => sql hH (by tm_at "g_mem"), fun q6 => ?_⟩
    have eT : (prV row).take (1 + i0) = prV (row.take (1 + i0)) := by
      unfold prV
      rw [List.map_take]
    have eF : (prV ps).take (1 + i0) = prV (ps.take (1 + i0)) := by
      unfold prV
      rw [List.map_take]
    rw [ec, cut_to (by rw [prV_len]; omega), eT, eF]
    refine ⟨q6, _, rfl, mem0, ?_⟩
    refine pure_rowPr (t := fun _ => true) (g := fun e => .int e.2.2) mem0 (by rw [List.length_take]; omega) (fun e he D acc s1 H1 C1 cl1 fp1 => ?_) fun d4 => ?_
    · have me := hr1 e (List.mem_of_mem_take he)
      refine gts_nil ⟨rfl, Sub.refl, fun _ s2 H2 C2 cl2 fp2 => ?_⟩
      tm_at "g"
      exact ⟨rfl, Sub.refl⟩
    rw [List.filter_eq_self.mpr fun _ _ => rfl]
    have eS : (row.take (1 + i0)).map (fun e : Pr2 => V.int e.2.2) = (((rowOf p (ps.map (·.2))).take (1 + i0)).map (·.2)).map V.int := by
      rw [← r2, ← List.map_take, List.map_map, List.map_map]
      rfl
    rw [eS]
    tm_at "g"
    refine gc_sumI (by rfl) mem0 ?_
    tm_at "g"
    refine gc_tupL (by tm_at "g_mem") fun t2 => ?_
    tm_at "g"
    rename_i t1
    rw [← List.map_take] at frm
    refine ⟨_, Sub.refl, q t1 t2 _ (ps.take (1 + i0)) _ (by tm_at "g_end") mem0 (memS mem0) (fun x hx => ?_) frm (by rw [List.length_take]; omega)⟩
    have z := hp1 x (List.mem_of_mem_take hx)
    repeat (first | with_reducible exact z | with_reducible apply memS | with_reducible apply memR)
end
section
open Lt
variable {P : Program} {w : World} {K : PySem.W.Frag} {mg : Str → Option Value} {base : Heap}
abbrev lotO (C dx : Addr) (q : Int) (t : Addr) (s : Int) (ob : Addr) : HO := .ins C dx [("period", .int q), ("runs", .ref t), ("size", .int s), ("own_begins", .ref ob)]
/-- what the class of lots must have for its fields -/
structure LotA (K : PySem.W.Frag) (C : Addr) : Prop where
  c : L2.Cls K C
  n1 : NoAttr K C "period"
  n2 : NoAttr K C "runs"
  n3 : NoAttr K C "size"
  n4 : NoAttr K C "own_begins"
def lens (rs : List Rn) : List Int := rs.map fun r => r.2 - r.1 + 1
/-- a lot in the ledger: its class, its object's dict, its fields -/
structure LotAt (C a dx : Addr) (q : Int) (t : Addr) (few : List Pr2) (ob : Addr) (L : Lg) : Prop where
  o : (a, lotO C dx q t (lens (few.map (·.2))).sum ob) ∈ L
  t : (t, HO.tup (prV few)) ∈ L
  ps : Prs2 few L
  ob : (ob, HO.lst ((few.map fun e => e.2.1).map V.int)) ∈ L
theorem LotAt.mono {C a dx : Addr} {q : Int} {t : Addr} {few : List Pr2} {ob : Addr} {L M : Lg} (h : LotAt C a dx q t few ob L) (s : ∀ e ∈ L, e ∈ M) : LotAt C a dx q t few ob M := ⟨s _ h.o, s _ h.t, h.ps.mono s, s _ h.ob⟩
theorem split_at {M : Lg} {x : Addr × HO} (h : x ∈ M) : ∃ R, M.Perm (x :: R) := by
  obtain ⟨s, t, rfl⟩ := List.append_of_mem h
  exact ⟨s ++ t, List.perm_middle⟩
theorem sub_put {a : Addr} {o : HO} {L0 M R : Lg} (s : Sub ((a, o) :: L0) M) (p : M.Perm ((a, o) :: R)) (o' : HO) : Sub ((a, o') :: L0) ((a, o') :: R) := by
  refine ⟨fun nd => ?_⟩
  have ndM : (M.map (·.1)).Nodup := (p.map _).nodup_iff.mpr nd
  obtain ⟨n1, n2⟩ := s.to ndM
  refine ⟨n1, fun e he => ?_⟩
  rcases List.mem_cons.mp he with rfl | he
  · exact List.mem_cons_self
  · have k := p.mem_iff.mp (n2 e (List.mem_cons_of_mem _ he))
    rcases List.mem_cons.mp k with e1 | k
    · exfalso
      exact (List.nodup_cons.mp n1).1 (List.mem_map.mpr ⟨e, he, by rw [e1]⟩)
    · exact List.mem_cons_of_mem _ k
theorem GSs.nd {X : Cx} {sts : List Stmt} {D : GD} {η : En} {L : Lg} (h : (L.map (·.1)).Nodup → GSs X sts D η L) : GSs X sts D η L := fun hN H hH => h hH.1 hN H hH
def spFew : SpL := fun vs L Q _ => ∃ n : Int, vs = [.int n] ∧ n ≤ 2000 ∧ Q .non L
theorem fn_need_few (F : Df K mg "need_few" s_need_few) {u : Value} (hM : mg "MOST_RUNS" = some u) (rM : RelV (.int 2000) u) : Fn P w K mg base CX0 "need_few" 1 spFew := by
  refine fn_plain F sc_need_few (fun _ _ _ _ _ _ us hl => match us, hl with | [_], _ => rfl) (by decide) (by tm_at "g_len") ?_
  intro X f cdv A outer s H E0 L vs Q E hX nd hr h
  subst hX
  obtain ⟨n, rfl, hn, q⟩ := h
  show GSs _ (defBody s_need_few) (bodyD Q) [("many", some (.int n))] L
  refine gss_cons ?_
  tm_at "g"
  refine gv_con hM rM ?_
  tm_at "g"
  refine ite_d (fun z => absurd z (by omega)) (fun _ => ?_)
  tm_at "g"
  exact ⟨_, Sub.refl, q⟩
/-- Lot.__init__ of a right period and right runs -/
def spLotInit (K : PySem.W.Frag) : SpL := fun vs L Q _ => ∃ (a C dx : Addr) (p : Int) (r : Addr) (ps : List Pr2) (L0 : Lg), vs = [.ref a, .int p, .ref r] ∧ Sub ((a, HO.ins C dx []) :: L0) L ∧ LotA K C ∧ (r, HO.tup (prV ps)) ∈ L0 ∧ Prs2 ps L0 ∧ ps.length ≤ 2000 ∧ 1 ≤ p ∧ (∀ e ∈ ps, e.2.1 ≤ e.2.2) ∧
  ∀ (q : Int) (t : Addr) (few : List Pr2) (ob : Addr) (M R : Lg), M = (a, lotO C dx q t (lens (few.map (·.2))).sum ob) :: R → Sub ((a, lotO C dx q t (lens (few.map (·.2))).sum ob) :: L0) M → LotAt C a dx q t few ob M → Form (In p (ps.map (·.2))) q (few.map (·.2)) → few.length ≤ 2000 → (∀ o, (ob, o) ∉ L0) → Q .non M
theorem run_Lot_init (B : Bi mg) {f : Addr} {fd : FuncData} (F : Fun K "__init__" "Lot.__init__" s_Lot_init f fd) (G1 : Fn P w K mg base CX0 "is_whole" 1 spWholeI) (G2 : Fn P w K mg base CX0 "is_run" 2 spIsRun) (G3 : Fn P w K mg base CX0 "maximal" 2 spMaximal) (G4 : Fn P w K mg base CX0 "need_few" 1 spFew) (G5 : Fn P w K mg base CX0 "least_form" 2 spLeast) (G6 : Fn P w K mg base CX0 "length_of" 1 spLen) :
    RunG P w K mg base CX0 4 f argsP (toSp fun vs L Q E => ∃ ws rest, vs = ws ++ rest ∧ ws.length = 2 ∧ rest.length ≤ sizeLine ∧ ∀ p, spLotInit K (ws ++ [.ref p]) ((p, .tup rest) :: L) Q E) := by
  refine run_starred (ps := ["self", "period"]) F sc_Lot_init (fun _ _ _ _ _ _ us rest hl => match us, hl with | [u, v], _ => by cases rest <;> rfl) (by decide) ?_ (by tm_at "g_len")
  intro X f cdv A outer s H E0 L vs Q E hX nd hr h
  subst hX
  obtain ⟨a, C, dx, p, r, ps, L0, rfl, s0, ⟨c, n1, n2, n3, n4⟩, m, hp, hl, p1, le, q⟩ := h
  with_reducible refine GSs.sub s0 ?_
  show GSs _ (defBody s_Lot_init) (bodyD Q) [("self", some (.ref a)), ("period", some (.int p)), ("runs", some (.ref r)), ("found", none), ("least", none), ("run", none)] _
  refine gss_cons ?_
  tm_at "g"
  refine ge_call (El := NoX) G1 hr passA ?_
  tm_at "g"
  refine ⟨p, rfl, ?_⟩
  tm_at "g"
  refine ite_d (fun z => absurd z (by omega)) (fun _ => ?_)
  tm_at "g"
  refine ge_lcP (by tm_at "g_put") (gi_tuple ?_) (show blkC N_Lot_init (defScope s_Lot_init) _ [(_, List.idxOf _ N_Lot_init)] = true by decide +kernel)
  tm_at "g"
  refine pure_rowPr (t := fun _ => true) (g := fun _ => .bl true) (memS m) (by omega) (fun e he D acc s1 H1 C1 cl1 fp1 => ?_) fun D => ?_
  · refine gts_nil ⟨rfl, Sub.refl, fun _ s2 H2 C2 cl2 fp2 => ?_⟩
    tm_at "g"
    refine ge_call (El := NoX) G2 hr passA ?_
    tm_at "g"
    refine ⟨_, _, _, rfl, memS (memS (hp e he)), ?_⟩
    rw [decide_eq_true (le e he)]
    exact ⟨rfl, Sub.refl⟩
  rw [List.filter_eq_self.mpr fun _ _ => rfl, show ps.map (fun _ : Pr2 => V.bl true) = (ps.map fun _ => true).map V.bl by rw [List.map_map]; rfl]
  tm_at "g"
  refine gc_allB (by rfl) mem0 ?_
  rw [show (ps.map fun _ => true).all id = true by simp]
  tm_at "g"
  refine ge_call (El := NoX) G3 hr passA ?_
  tm_at "g"
  refine ⟨p, r, _, ps, rfl, .inr rfl, memS (memS m), hp.mono fun _ h => memS (memS h), by omega, p1, le, fun f1 ps1 M1 s1 m1 hp1 ⟨mx, len1⟩ => ?_⟩
  rw [List.length_map] at len1
  tm_at "g"
  refine ge_call (El := NoX) G4 hr passA ?_
  tm_at "g"
  rw [prV_len]
  refine ⟨_, rfl, by omega, ?_⟩
  tm_at "g"
  refine ge_call (El := NoX) G5 hr passA ?_
  tm_at "g"
  refine ⟨p, f1, ps1, ps.map (·.2), rfl, m1, hp1, by omega, p1, mx, fun t t2 q' few M2 s2 mt mt2 hfew frm len2 => ?_⟩
  show GSs _ _ _ _ _
  refine GSs.nd fun nd2 => ?_
  have s02 : Sub ((a, HO.ins C dx []) :: L0) M2 := Sub.trans (Sub.trans Sub.drop s1) s2
  obtain ⟨R, pm⟩ := split_at ((s02.to nd2).2 _ List.mem_cons_self)
  have inR : ∀ {b : Addr} {o : HO}, (b, o) ∈ M2 → o ≠ HO.ins C dx [] → (b, o) ∈ R := fun {b o} h ne => by
    rcases List.mem_cons.mp (pm.mem_iff.mp h) with e | h
    · exact absurd (congrArg Prod.snd e) ne
    · exact h
  have rt := inR mt (fun z => nomatch z)
  have rt2 := inR mt2 (fun z => nomatch z)
  have rfew : Prs2 few R := fun e he => inR (hfew e he) (fun z => nomatch z)
  refine GSs.sub (Sub.perm pm.symm) ?_
  clear inR mt mt2 hfew
  tm_at "g"
  refine ⟨a, C, dx, [], (a, HO.ins C dx [("period", .int q')]) :: R, rfl, mem0, c, n1, by decide, .here, ?_⟩
  tm_at "g"
  refine ⟨a, C, dx, _, (a, HO.ins C dx [("period", .int q'), ("runs", .ref t2)]) :: R, rfl, mem0, c, n2, by simp, .here, ?_⟩
  tm_at "g"
  refine ge_lcP (by tm_at "g_put") (gi_tuple ?_) (show blkC N_Lot_init (defScope s_Lot_init) _ [(_, List.idxOf _ N_Lot_init)] = true by decide +kernel)
  tm_at "g"
  refine pure_rowPr (t := fun _ => true) (g := fun e => .int (e.2.2 - e.2.1 + 1)) (memS rt2) (by omega) (fun e he D acc s1 H1 C1 cl1 fp1 => ?_) fun D2 => ?_
  · refine gts_nil ⟨rfl, Sub.refl, fun _ s2 H2 C2 cl2 fp2 => ?_⟩
    tm_at "g"
    refine ge_call (El := NoX) G6 hr passA ?_
    tm_at "g"
    exact ⟨_, _, _, rfl, memS (memS (rfew e he)), rfl, Sub.refl⟩
  rw [List.filter_eq_self.mpr fun _ _ => rfl, show few.map (fun e : Pr2 => V.int (e.2.2 - e.2.1 + 1)) = (lens (few.map (·.2))).map V.int by unfold lens; rw [List.map_map, List.map_map]; rfl]
  tm_at "g"
  refine gc_sumI (by rfl) mem0 ?_
  tm_at "g"
  refine ⟨a, C, dx, _, (D2, HO.lst ((lens (few.map (·.2))).map V.int)) :: (a, HO.ins C dx [("period", .int q'), ("runs", .ref t2), ("size", .int (lens (few.map (·.2))).sum)]) :: R, rfl, memS mem0, c, n3, by simp, .there .here, ?_⟩
  tm_at "g"
  refine GE.nd ?_
  refine ge_lcP (by tm_at "g_put") (gi_tuple ?_) (show blkC N_Lot_init (defScope s_Lot_init) _ [(_, List.idxOf _ N_Lot_init)] = true by decide +kernel)
  tm_at "g"
  refine pure_rowPr (t := fun _ => true) (g := fun e => .int e.2.1) (memS (memS rt2)) (by omega) (fun e he D acc s1 H1 C1 cl1 fp1 => ?_) fun D3 => ?_
  · have me := rfew e he
    refine gts_nil ⟨rfl, Sub.refl, fun _ s2 H2 C2 cl2 fp2 => ?_⟩
    tm_at "g"
    exact ⟨rfl, Sub.refl⟩
  rw [List.filter_eq_self.mpr fun _ _ => rfl, show few.map (fun e : Pr2 => V.int e.2.1) = (few.map fun e => e.2.1).map V.int by rw [List.map_map]; rfl]
  intro nd3
  have fr : ∀ o, (D3, o) ∉ L0 := fun o ho => by
    have n3 := (List.nodup_cons.mp nd3).1
    have h1 := pm.mem_iff.mp ((s02.to nd2).2 _ (memS ho))
    rcases List.mem_cons.mp h1 with e | h2
    · exact n3 (List.mem_map.mpr ⟨(a, HO.ins C dx [("period", .int q'), ("runs", .ref t2), ("size", .int (lens (few.map (·.2))).sum)]), memS mem0, (congrArg Prod.fst e).symm⟩)
    · exact n3 (List.mem_map.mpr ⟨_, memS (memS h2), rfl⟩)
  tm_at "g"
  refine ⟨a, C, dx, _, (D3, HO.lst ((few.map fun e => e.2.1).map V.int)) :: (D2, HO.lst ((lens (few.map (·.2))).map V.int)) :: (a, lotO C dx q' t2 (lens (few.map (·.2))).sum D3) :: R, rfl, memS (memS mem0), c, n4, by simp, .there (.there .here), ?_⟩
  tm_at "g"
  refine ⟨(a, lotO C dx q' t2 (lens (few.map (·.2))).sum D3) :: (D3, HO.lst ((few.map fun e => e.2.1).map V.int)) :: (D2, HO.lst ((lens (few.map (·.2))).map V.int)) :: R, Sub.perm (by exact List.perm_middle (l₁ := [_, _]).symm), q q' t2 few D3 _ _ rfl ?_ ⟨mem0, memS (memS (memS rt2)), rfew.mono fun _ h => memS (memS (memS h)), memS mem0⟩ frm (by omega) fr⟩
  have z := sub_put s02 pm (lotO C dx q' t2 (lens (few.map (·.2))).sum D3)
  exact Sub.trans z (Sub.sublist (List.Sublist.cons_cons _ (List.Sublist.cons _ (List.Sublist.cons _ (List.Sublist.refl _)))))
end
section
open Lt
variable {P : Program} {w : World} {K : PySem.W.Frag} {mg : Str → Option Value} {base : Heap} {C : Addr}
/-- a new lot of the members S -/
def LotR (C : Addr) (S : Int → Prop) (L : Lg) (Q : QV) : Prop := ∀ (x dx : Addr) (q : Int) (t : Addr) (few : List Pr2) (ob : Addr) (M : Lg), Sub L M → LotAt C x dx q t few ob M → Form S q (few.map (·.2)) → few.length ≤ 2000 → Q (.ref x) M
def LotRF (C : Addr) (S : Int → Prop) (L : Lg) (Q : QV) : Prop := ∀ (x dx : Addr) (q : Int) (t : Addr) (few : List Pr2) (ob : Addr) (M : Lg), Sub L M → LotAt C x dx q t few ob M → Form S q (few.map (·.2)) → few.length ≤ 2000 → (∀ o, (ob, o) ∉ L) → Q (.ref x) M
/-- Lot(p, run, ..) -/
theorem gf_lotF {X : Cx} {η : En} {Q : QV} {j : Nat} {fI : Addr} (la : LotA X.K C) (M0 : Mk X.K C fI) (R : RunG X.prog X.w X.K X.mg X.base CX0 4 fI argsP (toSp fun vs L Q E => ∃ ws rest, vs = ws ++ rest ∧ ws.length = 2 ∧ rest.length ≤ sizeLine ∧ ∀ p, spLotInit X.K (ws ++ [.ref p]) ((p, .tup rest) :: L) Q E)) (hr : RoomG j X.A) (hj : 5 ≤ j := by decide) :
    GF X η C argsP (fun vs L => ∃ (p : Int) (ps : List Pr2), vs = .int p :: prV ps ∧ Prs2 ps L ∧ ps.length ≤ 2000 ∧ 1 ≤ p ∧ (∀ e ∈ ps, e.2.1 ≤ e.2.2) ∧ LotRF C (In p (ps.map (·.2))) L Q) Q := fun pins s H us vs L hH I r ⟨p, ps, ev, hp, hl, p1, le, q⟩ => by
  refine gf_make (El := NoX) M0 R (fun _ _ => rfl) hr passA hj pins s H us vs L hH I r fun x dx => ?_
  subst ev
  refine ⟨[.ref x, .int p], prV ps, rfl, rfl, szL (by rw [prV_len]; omega), fun pa => ⟨x, C, dx, p, pa, ps, (pa, .tup (prV ps)) :: (dx, .own x) :: L, rfl, Sub.perm (.swap _ _ _), la, mem0, hp.mono fun _ h => memS (memS h), hl, p1, le, fun q' t few ob M R' _ sM at' frm hl' fr => ⟨rfl, q x dx q' t few ob M ?_ at' frm hl' fun o ho => fr o (memS (memS ho))⟩⟩⟩
  exact Sub.trans (Sub.drop.trans (Sub.drop.trans Sub.drop)) sM
theorem gf_lot {X : Cx} {η : En} {Q : QV} {j : Nat} {fI : Addr} (la : LotA X.K C) (M0 : Mk X.K C fI) (R : RunG X.prog X.w X.K X.mg X.base CX0 4 fI argsP (toSp fun vs L Q E => ∃ ws rest, vs = ws ++ rest ∧ ws.length = 2 ∧ rest.length ≤ sizeLine ∧ ∀ p, spLotInit X.K (ws ++ [.ref p]) ((p, .tup rest) :: L) Q E)) (hr : RoomG j X.A) (hj : 5 ≤ j := by decide) :
    GF X η C argsP (fun vs L => ∃ (p : Int) (ps : List Pr2), vs = .int p :: prV ps ∧ Prs2 ps L ∧ ps.length ≤ 2000 ∧ 1 ≤ p ∧ (∀ e ∈ ps, e.2.1 ≤ e.2.2) ∧ LotR C (In p (ps.map (·.2))) L Q) Q := fun pins s H us vs L hH I r ⟨p, ps, ev, hp, hl, p1, le, q⟩ => gf_lotF la M0 R hr hj pins s H us vs L hH I r ⟨p, ps, ev, hp, hl, p1, le, fun x dx q' t few ob M sM at' frm hl' _ => q x dx q' t few ob M sM at' frm hl'⟩
theorem all_zero (n : Int) : In 1 [(0, 0)] n := ⟨(0, 0), by simp, -n, by show (0 : Int) ≤ n + 1 * -n; omega, by show n + 1 * -n ≤ (0 : Int); omega⟩
/-- __len__ -/
def spLotLen (K : PySem.W.Frag) : SpL := fun vs L Q _ => ∃ (a C dx : Addr) (q : Int) (t : Addr) (few : List Pr2) (ob : Addr), vs = [.ref a] ∧ LotA K C ∧ LotAt C a dx q t few ob L ∧ Q (.int few.length) L
theorem run_Lot_len (B : Bi mg) {f : Addr} {fd : FuncData} (F : Fun K "__len__" "Lot.__len__" s_Lot_len f fd) : RunG P w K mg base CX0 1 f argsP (toSp (spLotLen K)) := by
  refine run_plain F sc_Lot_len argsP id id (fun _ _ r => r) (fun _ _ _ _ _ _ us hl => match us, hl with | [_], _ => rfl) (by decide) (by tm_at "g_len") ?_
  intro X f cdv A outer s H E0 L vs Q E hX nd hr h
  subst hX
  obtain ⟨a, C, dx, q', t, few, ob, rfl, ⟨c, n1, n2, n3, n4⟩, at', q⟩ := h
  have mo := at'.o
  have mt := at'.t
  show GSs _ (defBody s_Lot_len) (bodyD Q) [("self", some (.ref a))] L
  refine gss_cons ?_
  tm_at "g"
  rw [prV_len]
  exact ⟨_, Sub.refl, q⟩
/-- __eq__ of two lots -/
def spLotEq (C : Addr) : SpL := fun vs L Q _ => ∃ (a b dx dy : Addr) (q : Int) (t : Addr) (few : List Pr2) (ob : Addr) (q2 : Int) (t2 : Addr) (few2 : List Pr2) (ob2 : Addr), vs = [.ref a, .ref b] ∧ LotAt C a dx q t few ob L ∧ LotAt C b dy q2 t2 few2 ob2 L ∧ Q (.bl (decide (q = q2 ∧ few.map (·.2) = few2.map (·.2)))) L
theorem run_Lot_eq (B : Bi mg) {f : Addr} {fd : FuncData} (F : Fun K "__eq__" "Lot.__eq__" s_Lot_eq f fd) (hC : mg "Lot" = some (.ref C)) (la : LotA K C) (ot : OwnT K C) (kk : PySem.W.kitOne K (.ref C) (.ref C) = some true) : RunG P w K mg base CX0 1 f argsP (toSp (spLotEq C)) := by
  obtain ⟨c, n1, n2, n3, n4⟩ := la
  refine run_plain F sc_Lot_eq argsP id id (fun _ _ r => r) (fun _ _ _ _ _ _ us hl => match us, hl with | [_, _], _ => rfl) (by decide) (by tm_at "g_len") ?_
  intro X f cdv A outer s H E0 L vs Q E hX nd hr h
  subst hX
  obtain ⟨a, b, dx, dy, q', t, few, ob, q2, t2, few2, ob2, rfl, at1, at2, q⟩ := h
  have mo := at1.o
  have mt := at1.t
  have mo2 := at2.o
  have mt2 := at2.t
  show GSs _ (defBody s_Lot_eq) (bodyD Q) [("self", some (.ref a)), ("other", some (.ref b))] L
  refine gss_cons ?_
  tm_at "g"
  refine gv_def hC ?_
  tm_at "g"
  refine gc_isI ot mo2 (.own _) kk ?_
  tm_at "g"
  refine ite_d (fun z => ?_) (fun z => ?_)
  · tm_at "g"
    refine go_eqPT (ps := few) (qs := few2) hr mt mt2 rfl rfl at1.ps at2.ps ?_
    rw [show decide (q' = q2 ∧ few.map (·.2) = few2.map (·.2)) = decide (few.map (·.2) = few2.map (·.2)) by rw [decide_eq_decide]; simp [z]] at q
    exact ⟨_, Sub.refl, q⟩
  · rw [decide_eq_false fun y => z y.1] at q
    exact ⟨_, Sub.refl, q⟩
end
section
open Lt
variable {P : Program} {w : World} {K : PySem.W.Frag} {mg : Str → Option Value} {base : Heap} {C : Addr}
/-- whether an integer lies in runs by a period -/
def inB (p : Int) (rs : List Rn) (n : Int) : Bool := rs.any fun r => decide ((n - r.1) % p ≤ r.2 - r.1)
theorem inB_iff {p : Int} {rs : List Rn} (hp : 0 < p) (le : ∀ r ∈ rs, r.1 ≤ r.2) (n : Int) : inB p rs n = true ↔ Lt.In p rs n := by
  unfold inB Lt.In
  rw [List.any_eq_true]
  constructor
  · rintro ⟨r, hr, h⟩
    exact ⟨r, hr, (in_mod hp (le r hr) n).mp (of_decide_eq_true h)⟩
  · rintro ⟨r, hr, h⟩
    exact ⟨r, hr, decide_eq_true ((in_mod hp (le r hr) n).mpr h)⟩
/-- the members of a round -/
def mbrs (p : Int) (S : Int → Bool) : List Int := ((List.range p.toNat).filter fun i : Nat => S (i : Int)).map fun i : Nat => (i : Int)
theorem mbrs_mem {p : Nat} {S : Int → Bool} {i : Nat} (h : i < p) : decide ((i : Int) ∈ mbrs p S) = S (i : Int) := by
  unfold mbrs
  cases z : S (i : Int) with
  | true => exact decide_eq_true (List.mem_map.mpr ⟨i, List.mem_filter.mpr ⟨List.mem_range.mpr (by omega), z⟩, rfl⟩)
  | false =>
    refine decide_eq_false fun m => ?_
    obtain ⟨j, hj, e⟩ := List.mem_map.mp m
    obtain ⟨_, k⟩ := List.mem_filter.mp hj
    have : j = i := by omega
    subst this
    rw [z] at k
    cases k
theorem mbrs_nil {p : Nat} {S : Int → Bool} (h : mbrs p S = []) : ∀ i, i < p → S (i : Nat) = false := fun i hi => by
  have k := mbrs_mem (S := S) hi
  rw [h] at k
  rw [← k]
  rfl
theorem mbrs_full {p : Nat} {S : Int → Bool} (h : (mbrs p S).length = p) : ∀ i, i < p → S (i : Nat) = true := fun i hi => by
  unfold mbrs at h
  rw [List.length_map, Int.toNat_natCast] at h
  have e : (List.range p).filter (fun i : Nat => S (i : Int)) = List.range p := (List.filter_sublist).eq_of_length (by rw [h, List.length_range])
  exact List.filter_eq_self.mp e i (List.mem_range.mpr hi)
theorem per_all {p : Nat} {S : Int → Bool} {b : Bool} (hp : 0 < p) (pp : Per (fun n => S n = true) (p : Int)) (h : ∀ i, i < p → S (i : Nat) = b) (n : Int) : S n = b := by
  have m0 := Int.emod_nonneg n (show (p : Int) ≠ 0 by omega)
  have m1 := Int.emod_lt_of_pos n (show (0 : Int) < p by omega)
  have e := Int.mul_ediv_add_emod n (p : Int)
  have k := pp.mul (n / (p : Int)) (n % (p : Int))
  rw [show n % (p : Int) + (p : Int) * (n / (p : Int)) = n by omega] at k
  have z := h (n % (p : Int)).toNat (by omega)
  rw [show (((n % (p : Int)).toNat : Nat) : Int) = n % (p : Int) by omega] at z
  rw [← z]
  exact Bool.eq_iff_iff.mpr k
theorem at_row {p : Nat} {S : Int → Bool} (hp : 0 < p) (pp : Per (fun n => S n = true) (p : Int)) {j : Int} (h0 : -1 ≤ j) (h1 : j < p) : atI ((rowB p S).map V.bl) j = some (.bl (S j)) := by
  rcases Int.lt_or_eq_of_le h0 with z | z
  · obtain ⟨k, rfl⟩ : ∃ k : Nat, j = (k : Int) := ⟨j.toNat, by omega⟩
    exact atI_nat (by rw [List.getElem?_map, rowB_get (by omega)]; rfl)
  · subst z
    have e : rowB p S = rowB (p - 1) S ++ [S ((p - 1 : Nat) : Int)] := by
      unfold rowB
      rw [show List.range p = List.range (p - 1 + 1) by rw [Nat.sub_add_cancel hp], List.range_succ, List.map_append]
      rfl
    have k := pp (-1)
    rw [show (-1 : Int) + p = ((p - 1 : Nat) : Int) by omega] at k
    have k2 : S ((p - 1 : Nat) : Int) = S (-1) := Bool.eq_iff_iff.mpr k
    rw [e, List.map_append, ← k2]
    exact atI_last _ _
theorem Sh.mono {d : PyData} {n k n' k' : Nat} (h : Sh d n k) (a : n ≤ n') (b : k ≤ k') : Sh d n' k' := ⟨h.s, Nat.le_trans h.dp b, Nat.le_trans h.l a⟩
theorem Form.small {S : Int → Prop} {q p : Int} {few : List Rn} (h : Form S q few) (p0 : 0 < p) (pp : Per S p) : q ≤ p ∧ (∀ r ∈ few, 0 ≤ r.1 ∧ r.1 < p ∧ r.1 ≤ r.2 ∧ r.2 < 2 * p) := by
  have ql := h.least _ p0 pp
  refine ⟨ql, fun r hr => ?_⟩
  rcases h.runs with ⟨a, b⟩ | ⟨a, b⟩
  · rw [b] at hr
    rw [List.mem_singleton.mp hr]
    simp
    omega
  · have w := a.wd r hr
    have l := a.le r hr
    have c := a.cl r hr r hr
    omega
theorem LotR.up {S : Int → Prop} {L M : Lg} {Q : QV} (h : LotR C S L Q) (s : Sub L M) : LotR C S M Q := fun x dx q t few ob N sN a b c => h x dx q t few ob N (Sub.trans s sN) a b c
theorem LotR.drp {S : Int → Prop} {L : Lg} {Q : QV} (h : LotR C S L Q) : LotR C S L (G.drp Q) := fun x dx q t few ob N sN a b c => ⟨N, Sub.refl, h x dx q t few ob N sN a b c⟩
theorem inB_per {d : Int} {rs : List Rn} (d0 : 0 < d) (le : ∀ r ∈ rs, r.1 ≤ r.2) : Per (fun n => inB d rs n = true) d := fun n => by
  show inB d rs (n + d) = true ↔ inB d rs n = true
  rw [inB_iff d0 le, inB_iff d0 le]
  constructor
  · intro h
    have := h.shift (-1)
    rwa [show n + d + d * -1 = n by omega] at this
  · intro h
    have := h.shift 1
    rwa [Int.mul_one] at this
/-- the pen brought ahead of everything else -/
theorem pen_out {p c : Addr} {n m : Int} {ns : List Int} {R M : Lg} (nd : (M.map (·.1)).Nodup) (s : Sub ((p, penO c n m) :: (c, celO ns) :: R) M) : ∃ R2, M.Perm ((p, penO c n m) :: (c, celO ns) :: R2) ∧ (∀ x ∈ R, x ∈ R2) ∧ ∀ x ∈ M, x = (p, penO c n m) ∨ x ∈ (c, celO ns) :: R2 := by
  obtain ⟨nd1, mem⟩ := s.to nd
  obtain ⟨M1, p1⟩ := split_at (mem _ List.mem_cons_self)
  have ne : (c, celO ns) ≠ (p, penO c n m) := fun e => by
    have := (List.nodup_cons.mp nd1).1
    rw [← e] at this
    exact this List.mem_cons_self
  have mc : (c, celO ns) ∈ M1 := by
    rcases List.mem_cons.mp (p1.mem_iff.mp (mem _ (List.mem_cons_of_mem _ List.mem_cons_self))) with h | h
    · exact absurd h ne
    · exact h
  obtain ⟨M2, p2⟩ := split_at mc
  have p3 := p1.trans (p2.cons _)
  refine ⟨M2, p3, fun x hx => ?_, fun x hx => List.mem_cons.mp (p3.mem_iff.mp hx)⟩
  have hm := p3.mem_iff.mp (mem x (List.mem_cons_of_mem _ (List.mem_cons_of_mem _ hx)))
  have n1 := (List.nodup_cons.mp nd1).1
  have n2 := (List.nodup_cons.mp (List.nodup_cons.mp nd1).2).1
  rcases List.mem_cons.mp hm with rfl | hm
  · exact absurd (List.mem_cons_of_mem _ (List.mem_map.mpr ⟨_, hx, rfl⟩)) n1
  rcases List.mem_cons.mp hm with rfl | hm
  · exact absurd (List.mem_map.mpr ⟨_, hx, rfl⟩) n2
  · exact hm
/-- a lot is none of the pen's -/
theorem LotAt.rest {a dx : Addr} {q : Int} {t : Addr} {few : List Pr2} {ob p c : Addr} {n m : Int} {M N : Lg} (h : LotAt C a dx q t few ob M) (k : ∀ x ∈ M, x = (p, penO c n m) ∨ x ∈ N) : LotAt C a dx q t few ob N := by
  have ne : ∀ {x : Addr × HO}, x ∈ M → x.2 ≠ penO c n m → x ∈ N := fun hx z => (k _ hx).resolve_left fun e => z (by rw [e])
  refine ⟨ne h.o ?_, ne h.t ?_, fun e he => ne (h.ps e he) ?_, ne h.ob ?_⟩
  · exact fun e => by cases e
  · exact fun e => by cases e
  · exact fun e => by cases e
  · intro e
    injection e with e
    cases few with
    | nil => cases e
    | cons _ _ => injection e with e _; cases e
theorem in_inB {d : Int} {rs : List Rn} (d0 : 0 < d) (le : ∀ r ∈ rs, r.1 ≤ r.2) : Lt.In d rs = fun n => inB d rs n = true := funext fun n => propext (inB_iff d0 le n).symm
theorem le_map {ps : List Pr2} (h : ∀ e ∈ ps, e.2.1 ≤ e.2.2) : ∀ r ∈ ps.map (·.2), r.1 ≤ r.2 := fun r hr => by
  obtain ⟨x, hx, rfl⟩ := List.mem_map.mp hr
  exact h x hx
theorem GA.ndc {X : Cx} {es : List Expr} {η : En} {L : Lg} {Q : List V → Lg → Prop} (h : (L.map (·.1)).Nodup → GA X es η L Q) : GA X es η L Q := fun hN H hH => h hH.1 hN H hH
/-- what == of lots wants -/
structure LotEq (P : Program) (w : World) (K : PySem.W.Frag) (mg : Str → Option Value) (base : Heap) (C : Addr) where
  g : Addr
  oe : OwnEq K C g
  run : RunG P w K mg base CX0 1 g argsP (toSp (spLotEq C))
  nf : PySem.W.notFirst K C (.ref C) = true
theorem LotR.of {S : Int → Prop} {L : Lg} {Q : QV} {q0 : Int} {few0 : List Rn} (f0 : Form S q0 few0) (k : ∀ (x dx t : Addr) (few : List Pr2) (ob : Addr) (M : Lg), Sub L M → LotAt C x dx q0 t few ob M → few.map (·.2) = few0 → Q (.ref x) M) : LotR C S L Q := fun x dx q t few ob M s a f _ => by
  obtain ⟨rfl, e⟩ := Form.unique f f0
  exact k x dx t few ob M s a e
theorem go_nePT {X : Cx} {L : Lg} {Q : QV} {j : Nat} {p q : Addr} {xs ys : List V} {ps qs : List Pr2} (hr : RoomG j X.A) (m1 : (p, HO.tup xs) ∈ L) (m2 : (q, HO.tup ys) ∈ L) (e1 : xs = ps.map fun e => V.ref e.1) (e2 : ys = qs.map fun e => V.ref e.1) (h1 : Prs2 ps L) (h2 : Prs2 qs L) (h : Q (.bl (!decide (ps.map (·.2) = qs.map (·.2)))) L) : GOp X (compareOp .NotEq) (.ref p) (.ref q) L Q :=
  go_neD hr.toRoom (dl_prT m1 e1 h1) (dl_prT m2 e2 h2) (shapedPT _) (shapedPT _) (by
    have e : PyData.eqv (.tuple ((ps.map (·.2)).map P2)) (.tuple ((qs.map (·.2)).map P2)) = PyData.eqvAll ((ps.map (·.2)).map P2) ((qs.map (·.2)).map P2) := by simp [PyData.eqv]
    rw [e, eqvPs]
    exact h)
end
section
open Lt
variable {P : Program} {w : World} {K : PySem.W.Frag} {mg : Str → Option Value} {base : Heap} {C : Addr}
def spLeastLaw : SpL := fun vs L Q _ => ∃ (p : Nat) (r : Addr) (S : Int → Bool), vs = [.int p, .ref r] ∧ (r, HO.lst ((mbrs p S).map V.int)) ∈ L ∧ 1 ≤ p ∧ p ≤ 100000 ∧ Per (fun n => S n = true) (p : Int) ∧
  ∀ (t t2 : Addr) (q : Int) (few : List Pr2) (M : Lg), Sub L M → (t, HO.tup [.int q, .ref t2]) ∈ M → (t2, HO.tup (prV few)) ∈ M → Prs2 few M → Form (fun n => S n = true) q (few.map (·.2)) → few.length ≤ p → Q (.ref t) M
theorem fn_law_least (B : Bi mg) (F : Df K mg "_law_least" s_law_least) : Fn P w K mg base CX0 "_law_least" 1 spLeastLaw := by
  refine fn_plain F sc_law_least (fun _ _ _ _ _ _ us hl => match us, hl with | [_, _], _ => rfl) (by decide) (by tm_at "g_len") ?_
  intro X f cdv A outer s H E0 L vs Q E hX nd hr h
  subst hX
  obtain ⟨p, r, S, rfl, m, p1, p2, pp, q⟩ := h
  have ml : ((mbrs p S).map V.int).length ≤ p := by
    unfold mbrs
    rw [List.length_map, List.length_map, Int.toNat_natCast]
    exact Nat.le_trans (List.length_filter_le _ _) (by rw [List.length_range]; exact Nat.le_refl _)
  show GSs _ (defBody s_law_least) (bodyD Q) [("_law_period", some (.int p)), ("_law_members_here", some (.ref r)), ("_law_inside", none), ("_law_turn", none), ("_law_found", none), ("_law_begin", none), ("_law_end", none), ("_law_at", none), ("_law_k", none)] L
  refine gss_cons ?_
  tm_at "g"
  refine go_eqLI (ns := mbrs p S) (ms := []) (ys := []) hr (by tm_at "g_mem") (by tm_at "g_mem") rfl rfl ?_
  refine ⟨_, rfl, ite_d (fun z => ?_) (fun z => ?_)⟩
  · have no := per_all (b := false) (by omega) pp (mbrs_nil z)
    tm_at "g"
    refine go_neLI (ns := mbrs p S) (ms := []) (ys := []) hr (by tm_at "g_mem") (by tm_at "g_mem") rfl rfl ?_
    rw [decide_eq_true z]
    refine ⟨_, rfl, ite_nt ?_⟩
    tm_at "g"
    rename_i t2 t
    refine ⟨_, Sub.refl, q t t2 1 [] _ (by tm_at "g_end") mem0 (memS mem0) (fun _ z => nomatch z) ?_ (by simp)⟩
    have nf : NF 0 1 [] := ⟨(fun r hr => by cases hr), (fun r hr => by cases hr), List.Pairwise.nil, (fun r hr => by cases hr)⟩
    refine ⟨by decide, fun n => ?_, fun k h0 _ => by omega, .inr ⟨nf, fun n => ?_⟩⟩
    · show S (n + 1) = true ↔ S n = true
      rw [no, no]
    · show Lt.In 1 [] n ↔ S n = true
      rw [no]
      exact ⟨(fun ⟨r, hr, _⟩ => by cases hr), (fun y => by cases y)⟩
  tm_at "g"
  refine ite_d (fun z2 => ?_) (fun z2 => ?_)
  · have al := per_all (b := true) (by omega) pp (mbrs_full (by rw [List.length_map] at z2; omega))
    tm_at "g"
    refine go_neLI (ns := mbrs p S) (ms := []) (ys := []) hr (by tm_at "g_mem") (by tm_at "g_mem") rfl rfl ?_
    rw [decide_eq_false z]
    refine ⟨_, rfl, ite_nf ?_⟩
    tm_at "g"
    rename_i t3 t2 t
    refine ⟨_, Sub.refl, q t t2 1 [(t3, (0, 0))] _ (by tm_at "g_end") mem0 (memS mem0) ?_ (form_all fun n => al n) (by simp; omega)⟩
    intro x hx
    rw [List.mem_singleton.mp hx]
    exact memS (memS mem0)
  have hole : ∃ m, S m = false := by
    rcases Classical.em (∃ m, S m = false) with y | y
    · exact y
    · exfalso
      refine z2 ?_
      have all : ∀ n, S n = true := fun n => by
        cases k : S n with
        | true => rfl
        | false => exact absurd ⟨n, k⟩ y
      unfold mbrs
      rw [List.filter_eq_self.mpr fun i _ => all _, List.length_map, List.length_map, List.length_range]
      omega
  obtain ⟨hm, hhm⟩ := hole
  tm_at "g"
  refine ge_lcP (by tm_at "g_put") (gi_range1 ?_ B.range) (show blkC N_law_least (defScope s_law_least) _ [(_, List.idxOf _ N_law_least)] = true by decide +kernel)
  tm_at "g"
  refine ⟨⟨by omega, by omega⟩, ?_⟩
  refine pure_fn (p := fun _ => true) (g := fun i => .bl (S (i : Int))) (by omega) (fun i hi D acc s1 H1 C1 cl1 fp1 => ?_) fun d3 => ?_
  · have hi' : i < p := by omega
    refine gts_nil ⟨rfl, Sub.refl, fun _ s2 H2 C2 cl2 fp2 => ?_⟩
    tm_at "g"
    refine go_inI (ns := mbrs p S) (by tm_at "g_mem") ?_
    rw [mbrs_mem hi']
    exact ⟨rfl, Sub.refl⟩
  rw [List.filter_eq_self.mpr fun _ _ => rfl, Int.toNat_natCast, show (List.range p).map (fun i : Nat => V.bl (S (i : Int))) = (rowB p S).map V.bl by unfold rowB; rw [List.map_map]; rfl]
  tm_at "g"
  refine ge_lcP (by tm_at "g_put") (gi_range2 ?_ B.range) (show blkC N_law_least (defScope s_law_least) _ [(_, List.idxOf _ N_law_least)] = true by decide +kernel)
  tm_at "g"
  refine ⟨⟨by decide, by decide, by omega, by omega⟩, ?_⟩
  let rot : Nat → Bool := fun t => decide ((rowB p S).drop t ++ (rowB p S).take t = rowB p S)
  refine pure_fn (p := fun i => decide ((p : Int) % (1 + (i : Int)) = 0) && rot (1 + i)) (g := fun i => .int (1 + (i : Int))) (by omega) (fun i hi D acc s1 H1 C1 cl1 fp1 => ?_) fun d4 => ?_
  · have hi' : i < p := by omega
    have ec : (1 + (i : Int)) = ((1 + i : Nat) : Int) := by omega
    show G.GT _ _ _ _ _
    tm_at "g"
    refine go_mod (by omega) ?_
    tm_at "g"
    refine ite_d (fun z => ?_) (fun z => ?_)
    · tm_at "g"
      refine ⟨d3, (rowB p S).map V.bl, rfl, ?_⟩
      show GE _ _ _ _ _
      tm_at "g"
      refine ⟨fun H hH => sql hH (by tm_at "g_mem"), fun q2 => ?_⟩
      rw [ec, cut_from (by rw [List.length_map, rowB_len]; omega)]
      tm_at "g"
      refine ⟨d3, (rowB p S).map V.bl, rfl, ?_⟩
      show GE _ _ _ _ _
      tm_at "g"
      refine ⟨fun H hH => sql hH (by tm_at "g_mem"), fun q3 => ?_⟩
      rw [cut_to (by rw [List.length_map, rowB_len]; omega)]
      refine go_cat (by tm_at "g_mem") (by tm_at "g_mem") (szL (by simp only [List.length_drop, List.length_take, List.length_map, rowB_len]; omega)) fun q4 => ?_
      tm_at "g"
      refine go_eqBL (ns := (rowB p S).drop (1 + i) ++ (rowB p S).take (1 + i)) (ms := rowB p S) hr mem0 (by tm_at "g_mem") (by rw [List.map_append, List.map_drop, List.map_take]) rfl ?_
      refine ⟨_, rfl, ?_, by tm_at "g_end", fun _ s2 H2 C2 cl2 fp2 => ?_⟩
      · rw [← ec, decide_eq_true z, Bool.true_and]
      · tm_at "g"
        exact ⟨rfl, by tm_at "g_end"⟩
    · exact ⟨by rw [decide_eq_false z]; rfl, Sub.refl, fun y => nomatch y⟩
  have en : ((p : Int) + 1 - 1).toNat = p := by omega
  have hcast : ∀ i : Nat, (p : Int) % (1 + (i : Int)) = 0 ↔ p % (1 + i) = 0 := fun i => by
    rw [show (1 + (i : Int)) = ((1 + i : Nat) : Int) by omega, ← Int.natCast_emod]
    omega
  rw [en]
  obtain ⟨i0, rest, hf⟩ : ∃ i0 rest, (List.range p).filter (fun i : Nat => decide ((p : Int) % (1 + (i : Int)) = 0) && rot (1 + i)) = i0 :: rest := by
    cases hz : (List.range p).filter (fun i : Nat => decide ((p : Int) % (1 + (i : Int)) = 0) && rot (1 + i)) with
    | cons a b => exact ⟨a, b, rfl⟩
    | nil =>
      exfalso
      have k := List.filter_eq_nil_iff.mp hz (p - 1) (List.mem_range.mpr (by omega))
      refine k ?_
      rw [Bool.and_eq_true]
      have e1 : 1 + (p - 1) = p := by omega
      refine ⟨decide_eq_true ((hcast _).mpr (by rw [e1, Nat.mod_self])), decide_eq_true ?_⟩
      rw [e1]
      have z : (rowB p S).length = p := rowB_len
      rw [List.drop_of_length_le (by omega), List.take_of_length_le (by omega), List.nil_append]
  rw [hf]
  obtain ⟨i1, pi0, pm⟩ := filter_head hf
  obtain ⟨pi1, pi2⟩ := Bool.and_eq_true_iff.mp pi0
  obtain ⟨perQ, leastQ⟩ := turn_least (by omega) pp (k := 1 + i0) (by omega) (by omega) ((hcast i0).mp (of_decide_eq_true pi1)) (of_decide_eq_true pi2) fun s s1 s2 s3 s4 => by
    have z := pm (s - 1) (by omega)
    rw [Bool.and_eq_false_iff] at z
    have e1 : 1 + (s - 1) = s := by omega
    rcases z with z | z
    · exact of_decide_eq_false z ((hcast _).mpr (by rw [e1]; exact s3))
    · exact of_decide_eq_false z (by rw [e1]; exact s4)
  have at0 : atI ((i0 :: rest).map fun i : Nat => V.int (1 + (i : Int))) 0 = some (.int (1 + (i0 : Int))) := show atI _ ((0 : Nat) : Int) = _ from atI_nat rfl
  tm_at "g"
  refine gi_lst mem0 at0 ?_
  tm_at "g"
  refine gs_for (gi_range1 ?_ B.range)
  tm_at "g"
  rename_i g0
  refine ⟨⟨by omega, by omega⟩, fun i θ N => ∃ (u v : Option V) (ps : List Pr2) (g : Addr) (R' : Lg), θ = ([("_law_period", some (.int p)), ("_law_members_here", some (.ref r)), ("_law_inside", some (.ref d3)), ("_law_turn", some (.int (1 + (i0 : Int)))), ("_law_found", some (.ref g)), ("_law_begin", u), ("_law_end", v), ("_law_at", none), ("_law_k", none)] : En) ∧ Sub ((g, HO.lst (prV ps)) :: R') N ∧ Sub L R' ∧ (d3, HO.lst ((rowB p S).map V.bl)) ∈ R' ∧ Prs2 ps R' ∧ Fnd S i (ps.map (·.2)) ∧ ps.length ≤ i, ?_, fun _ _ _ _ _ _ => True.intro, ?_, ?_⟩
  · exact ⟨none, none, [], g0, _, rfl, Sub.refl, by tm_at "g_end", by tm_at "g_memd", (fun e h => by cases h), .nil, Nat.le_refl _⟩
  · rintro i x E1 θ N hi ⟨rfl, rfl⟩ ⟨u, v, ps, g, R', rfl, sb, sR, mr, hp, fnd, hl⟩
    dsimp only [List.nil_append] at hi ⊢
    have hi' : i < 1 + i0 := by omega
    refine gg_name (by tm_at "g_pv") ?_
    refine GSs.sub sb ?_
    tm_at "g"
    refine gi_lst (memS mr) (at_row (by omega) pp (by omega) (by omega)) ?_
    refine ⟨_, rfl, ite_b (fun b1 => ?_) (fun b1 => ?_)⟩
    · tm_at "g"
      refine gi_lst (memS mr) (at_row (by omega) pp (by omega) (by omega)) ?_
      refine ⟨_, rfl, ?_⟩
      cases b2 : S ((i : Int) - 1) with
      | true =>
        refine ite_nt ?_
        tm_at "g"
        exact ⟨_, _, ps, g, R', rfl, Sub.refl, sR, mr, hp, fnd.skip (fun y => by rw [b2] at y; cases y.2), by omega⟩
      | false =>
        refine ite_nf ?_
        refine gss_cut (fun θ N => ∃ e : Int, θ = ([("_law_period", some (.int p)), ("_law_members_here", some (.ref r)), ("_law_inside", some (.ref d3)), ("_law_turn", some (.int (1 + (i0 : Int)))), ("_law_found", some (.ref g)), ("_law_begin", some (.int i)), ("_law_end", some (.int e)), ("_law_at", none), ("_law_k", none)] : En) ∧ Sub ((g, HO.lst (prV ps)) :: R') N ∧ (i : Int) ≤ e ∧ (∀ n, (i : Int) ≤ n → n ≤ e → S n = true) ∧ S (e + 1) = false) ?_ ?_
        · refine gs_while (fun n θ N => ∃ e : Int, θ = ([("_law_period", some (.int p)), ("_law_members_here", some (.ref r)), ("_law_inside", some (.ref d3)), ("_law_turn", some (.int (1 + (i0 : Int)))), ("_law_found", some (.ref g)), ("_law_begin", some (.int i)), ("_law_end", some (.int e)), ("_law_at", none), ("_law_k", none)] : En) ∧ Sub ((g, HO.lst (prV ps)) :: R') N ∧ (i : Int) ≤ e ∧ (∀ n, (i : Int) ≤ n → n ≤ e → S n = true) ∧ e - i < p ∧ n = ((p : Int) - (e - i)).toNat) p ⟨i, rfl, Sub.refl, Int.le_refl _, fun n n0 n1 => by rw [show n = (i : Int) by omega]; exact b1, by omega, by omega⟩ ?_
          rintro k θ M ⟨e, rfl, sM, e0, e1, e2, rfl⟩
          refine GT.sub sM ?_
          tm_at "g"
          refine go_mod (by omega) ?_
          have m0 := Int.emod_nonneg (e + 1) (show (p : Int) ≠ 0 by omega)
          have m1 := Int.emod_lt_of_pos (e + 1) (show (0 : Int) < p by omega)
          refine gi_lst (memS mr) (at_row (by omega) pp (by omega) m1) ?_
          have eS : S ((e + 1) % (p : Int)) = S (e + 1) := by
            have k := pp.mul (-((e + 1) / (p : Int))) (e + 1)
            have y := Int.mul_ediv_add_emod (e + 1) (p : Int)
            rw [show e + 1 + (p : Int) * (-((e + 1) / (p : Int))) = (e + 1) % (p : Int) by rw [Int.mul_neg]; omega] at k
            exact Bool.eq_iff_iff.mpr k
          rw [eS]
          refine ⟨_, rfl, ite_b (fun y => ?_) (fun y => ?_)⟩
          · tm_at "g"
            have all : ∀ n, (i : Int) ≤ n → n ≤ e + 1 → S n = true := fun n n0 n1 => by
              rcases Int.lt_or_eq_of_le n1 with w | w
              · exact e1 n n0 (by omega)
              · rw [w]
                exact y
            have lt : e + 1 - i < p := by
              rcases Int.lt_or_le (e + 1 - i) p with w | w
              · exact w
              · exfalso
                have q0 := Int.emod_nonneg (hm - i) (show (p : Int) ≠ 0 by omega)
                have q1 := Int.emod_lt_of_pos (hm - i) (show (0 : Int) < p by omega)
                have y := Int.mul_ediv_add_emod (hm - i) (p : Int)
                have k := pp.mul (-((hm - i) / (p : Int))) hm
                rw [show hm + (p : Int) * (-((hm - i) / (p : Int))) = i + (hm - i) % (p : Int) by rw [Int.mul_neg]; omega] at k
                have z := k.mp (all _ (by omega) (by omega))
                rw [hhm] at z
                cases z
            exact ⟨_, by omega, e + 1, rfl, Sub.refl, by omega, all, lt, rfl⟩
          · exact ⟨e, rfl, Sub.refl, e0, e1, y⟩
        · rintro θ M ⟨e, rfl, sM, e0, e1, e3⟩
          refine GSs.sub sM ?_
          tm_at "g"
          rename_i tp
          refine ⟨prV ps, _, memS mem0, szL (by rw [prV_len]; omega), .there .here, ?_⟩
          tm_at "g"
          refine ⟨_, _, ps ++ [(tp, ((i : Int), e))], g, (tp, HO.tup [.int i, .int e]) :: R', rfl, ?_, Sub.trans sR Sub.drop, memS mr, Prs2.snoc (hp.mono fun _ h => memS h) mem0, ?_, by rw [List.length_append]; exact Nat.succ_le_succ hl⟩
          · unfold prV
            rw [List.map_append]
            exact Sub.perm (.swap _ _ _)
          · rw [List.map_append]
            exact fnd.add (by omega) b2 e0 e1 e3
    · tm_at "g"
      exact ⟨_, _, ps, g, R', rfl, Sub.refl, sR, mr, hp, fnd.skip (fun y => by rw [b1] at y; cases y.1), by omega⟩
  · rintro θ N ⟨u, v, ps, g, R', rfl, sb, sR, mr, hp, fnd, hl⟩
    have hl : ps.length ≤ (1 + (i0 : Int)).toNat := hl
    have fnd : Fnd S (((1 + (i0 : Int)).toNat : Nat) : Int) (ps.map (·.2)) := fnd
    rw [show (((1 + (i0 : Int)).toNat : Nat) : Int) = ((1 + i0 : Nat) : Int) by omega] at fnd
    show GSs _ _ _ _ _
    refine GSs.sub sb ?_
    tm_at "g"
    refine gc_tupL mem0 fun t2 => ?_
    tm_at "g"
    rename_i t1
    rw [show (1 + (i0 : Int)) = ((1 + i0 : Nat) : Int) by omega]
    exact ⟨_, Sub.refl, q t1 t2 _ ps _ (Sub.trans sR (by tm_at "g_end")) mem0 (memS mem0) (hp.mono fun _ h => memS (memS (memS h))) (fnd.form (by omega) perQ leastQ hhm) (by omega)⟩
end
section
open Lt
variable {P : Program} {w : World} {K : PySem.W.Frag} {mg : Str → Option Value} {base : Heap} {C fI : Addr}
def spMade (C : Addr) : SpL := fun vs L Q _ => ∃ (p : Int) (r : Addr) (ps : List Pr2), vs = [.int p, .ref r] ∧ (r, HO.lst (prV ps)) ∈ L ∧ Prs2 ps L ∧ (∀ e ∈ ps, e.2.1 ≤ e.2.2) ∧ ps.length ≤ 4 ∧ 1 ≤ p ∧ LotR C (Lt.In p (ps.map (·.2))) L Q
theorem fn_law_made (B : Bi mg) (F : Df K mg "_law_made" s_law_made) (hC : mg "Lot" = some (.ref C)) (la : LotA K C) (M0 : Mk K C fI) (R : RunG P w K mg base CX0 4 fI argsP (toSp fun vs L Q E => ∃ ws rest, vs = ws ++ rest ∧ ws.length = 2 ∧ rest.length ≤ sizeLine ∧ ∀ p, spLotInit K (ws ++ [.ref p]) ((p, .tup rest) :: L) Q E)) : Fn P w K mg base CX0 "_law_made" 6 (spMade C) := by
  refine fn_plain F sc_law_made (fun _ _ _ _ _ _ us hl => match us, hl with | [_, _], _ => rfl) (by decide) (by tm_at "g_len") ?_
  intro X f cdv A outer s H E0 L vs Q E hX nd hr h
  subst hX
  obtain ⟨p, r, ps, rfl, m, hp, le, hl, p1, q⟩ := h
  show GSs _ (defBody s_law_made) (bodyD Q) [("_law_period", some (.int p)), ("_law_runs_here", some (.ref r)), ("_law_some", none)] L
  refine gss_cons ?_
  tm_at "g"
  refine gc_list m fun q1 => ?_
  tm_at "g"
  match ps, hl with
  | [], _ =>
    refine ite_d (fun z => ?_) (fun z => absurd (show (0 : Int) < 2 by decide) z)
    tm_at "g"
    refine go_nePN (ps := []) (xs := prV []) hr (by tm_at "g_mem") (by tm_at "g_mem") rfl (hp.mono fun _ h => memS (memS h)) ?_
    refine ⟨false, rfl, ite_f ?_⟩
    tm_at "g"
    refine ge_callF hC M0.kp (fun _ => gf_lot la M0 R hr) ?_
    tm_at "g"
    exact ⟨p, [], rfl, hp.mono (fun _ h => by tm_at "g_mem"), by simp, p1, le, LotR.drp (LotR.up q (by tm_at "g_end"))⟩
  | [e0], _ =>
    refine ite_d (fun z => ?_) (fun z => absurd (show (1 : Int) < 2 by decide) z)
    tm_at "g"
    refine go_nePN (ps := [e0]) (xs := prV [e0]) hr (by tm_at "g_mem") (by tm_at "g_mem") rfl (hp.mono fun _ h => memS (memS h)) ?_
    refine ⟨true, rfl, ite_t ?_⟩
    tm_at "g"
    refine ge_callF hC M0.kp (fun _ => gf_lot la M0 R hr) ?_
    tm_at "g"
    exact ⟨p, [e0], rfl, hp.mono (fun _ h => by tm_at "g_mem"), by simp, p1, le, LotR.drp (LotR.up q (by tm_at "g_end"))⟩
  | [e0, e1], _ =>
    refine ite_d (fun z => absurd z (show ¬ (2 : Int) < 2 by decide)) (fun z => ?_)
    tm_at "g"
    refine ite_d (fun _ => ?_) (fun z => absurd rfl z)
    tm_at "g"
    refine ge_callF hC M0.kp (fun _ => gf_lot la M0 R hr) ?_
    tm_at "g"
    exact ⟨p, [e0, e1], rfl, hp.mono (fun _ h => by tm_at "g_mem"), by simp, p1, le, LotR.drp (LotR.up q (by tm_at "g_end"))⟩
  | [e0, e1, e2], _ =>
    refine ite_d (fun z => absurd z (show ¬ (3 : Int) < 2 by decide)) (fun z => ?_)
    tm_at "g"
    refine ite_d (fun z => absurd z (show ¬ (3 : Int) = 2 by decide)) (fun _ => ?_)
    tm_at "g"
    refine ite_d (fun _ => ?_) (fun z => absurd rfl z)
    tm_at "g"
    refine ge_callF hC M0.kp (fun _ => gf_lot la M0 R hr) ?_
    tm_at "g"
    exact ⟨p, [e0, e1, e2], rfl, hp.mono (fun _ h => by tm_at "g_mem"), by simp, p1, le, LotR.drp (LotR.up q (by tm_at "g_end"))⟩
  | [e0, e1, e2, e3], _ =>
    refine ite_d (fun z => absurd z (show ¬ (4 : Int) < 2 by decide)) (fun z => ?_)
    tm_at "g"
    refine ite_d (fun z => absurd z (show ¬ (4 : Int) = 2 by decide)) (fun _ => ?_)
    tm_at "g"
    refine ite_d (fun z => absurd z (show ¬ (4 : Int) = 3 by decide)) (fun _ => ?_)
    tm_at "g"
    refine ge_callF hC M0.kp (fun _ => gf_lot la M0 R hr) ?_
    tm_at "g"
    exact ⟨p, [e0, e1, e2, e3], rfl, hp.mono (fun _ h => by tm_at "g_mem"), by simp, p1, le, LotR.drp (LotR.up q (by tm_at "g_end"))⟩
  | _ :: _ :: _ :: _ :: _ :: _, h => simp at h
end
section
open Lt
variable {P : Program} {w : World} {K : PySem.W.Frag} {mg : Str → Option Value} {base : Heap} {C : Addr}
def spMem : SpL := fun vs L Q _ => ∃ (p : Int) (r : Addr) (ps : List Pr2), vs = [.int p, .ref r] ∧ (r, HO.lst (prV ps)) ∈ L ∧ Prs2 ps L ∧ 1 ≤ p ∧ p ≤ 100000 ∧ ps.length ≤ 2000 ∧ ∀ (f : Addr), Q (.ref f) ((f, HO.lst ((mbrs p (inB p (ps.map (·.2)))).map V.int)) :: L)
theorem fn_law_members (B : Bi mg) (F : Df K mg "_law_members" s_law_members) : Fn P w K mg base CX0 "_law_members" 1 spMem := by
  refine fn_plain F sc_law_members (fun _ _ _ _ _ _ us hl => match us, hl with | [_, _], _ => rfl) (by decide) (by tm_at "g_len") ?_
  intro X f cdv A outer s H E0 L vs Q E hX nd hr h
  subst hX
  obtain ⟨p, r, ps, rfl, m, hp, p1, p2, hl, q⟩ := h
  show GSs _ (defBody s_law_members) (bodyD Q) [("_law_period", some (.int p)), ("_law_runs_here", some (.ref r)), ("_law_at", none), ("_law_begin", none), ("_law_end", none)] L
  refine gss_cons ?_
  tm_at "g"
  refine ge_lcP (by tm_at "g_put") (gi_range1 ?_ B.range) (show blkC N_law_members (defScope s_law_members) _ [(_, List.idxOf _ N_law_members)] = true by decide +kernel) (fun _ _ _ _ _ => ⟨.inr rfl, .inl rfl⟩)
  tm_at "g"
  refine ⟨⟨by omega, by omega⟩, ?_⟩
  refine pure_fn (p := fun i => inB p (ps.map (·.2)) (i : Int)) (g := fun i => .int (i : Int)) (by omega) (fun i hi D acc s1 H1 C1 cl1 fp1 => ?_) fun d3 => ?_
  · show G.GT _ _ _ _ _
    tm_at "g"
    refine ge_lcP2 (by tm_at "g_put") (fun _ => by tm_at "g_put") (gi_list ?_) (by decide) (by rfl)
    tm_at "g"
    refine pure_rowP2 (t := fun e => decide (((i : Int) - e.2.1) % p ≤ e.2.2 - e.2.1)) (g := fun _ => .int 1) (by tm_at "g_mem") (hp.mono fun _ h => memS h) (by omega) (fun e he D2 acc2 s2 H2 C2 cl2 fp2 => ?_) fun d4 => ?_
    · show G.GT _ _ _ _ _
      tm_at "g"
      refine go_mod p1 ?_
      tm_at "g"
      refine ⟨rfl, Sub.refl, fun _ s3 H3 C3 cl3 fp3 => ?_⟩
      tm_at "g"
      exact ⟨rfl, Sub.refl⟩
    tm_at "g"
    rename_i t0
    refine go_neLI (ns := (ps.filter fun e => decide (((i : Int) - e.2.1) % p ≤ e.2.2 - e.2.1)).map fun _ => 1) (ms := []) (ys := []) hr (by tm_at "g_mem") (by tm_at "g_mem") (by rw [List.map_map]; rfl) rfl ?_
    have eb : (!decide (((ps.filter fun e => decide (((i : Int) - e.2.1) % p ≤ e.2.2 - e.2.1)).map fun _ => (1 : Int)) = [])) = inB p (ps.map (·.2)) (i : Int) := by
      unfold inB
      rw [List.any_map]
      cases z : ps.filter fun e => decide (((i : Int) - e.2.1) % p ≤ e.2.2 - e.2.1) with
      | nil =>
        symm
        rw [show (!decide (([] : List Pr2).map (fun _ => (1 : Int)) = [])) = false from rfl, List.any_eq_false]
        intro e he
        exact List.filter_eq_nil_iff.mp z e he
      | cons a b =>
        symm
        have ha : a ∈ ps.filter fun e => decide (((i : Int) - e.2.1) % p ≤ e.2.2 - e.2.1) := by rw [z]; exact List.mem_cons_self
        obtain ⟨h1, h2⟩ := List.mem_filter.mp ha
        exact List.any_eq_true.mpr ⟨a, h1, h2⟩
    rw [eb]
    refine ⟨_, rfl, rfl, by tm_at "g_end", fun _ s3 H3 C3 cl3 fp3 => ?_⟩
    tm_at "g"
    exact ⟨rfl, by tm_at "g_end"⟩
  have ef : ((List.range p.toNat).filter fun i : Nat => inB p (ps.map (·.2)) (i : Int)).map (fun i : Nat => V.int (i : Int)) = (mbrs p (inB p (ps.map (·.2)))).map V.int := by
    unfold mbrs
    rw [List.map_map]
    rfl
  rw [ef]
  exact ⟨_, Sub.refl, q d3⟩
end
namespace Tx
open PySem NumText L2 TL
abbrev isFig (c : Nat) : Bool := decide (c ∈ (Str.ofString "0123456789").cps.toList)
theorem isFig_iff {c : Nat} : isFig c = true ↔ 48 ≤ c ∧ c ≤ 57 := by
  unfold isFig
  rw [decide_eq_true_iff, show (Str.ofString "0123456789").cps.toList = [48, 49, 50, 51, 52, 53, 54, 55, 56, 57] by decide +kernel]
  simp only [List.mem_cons, List.not_mem_nil, or_false]
  omega
theorem all_fig {l : List Nat} : l.all isFig = true ↔ AllDigits l := by
  rw [List.all_eq_true]
  exact ⟨fun h c hc => isFig_iff.mp (h c hc), fun h c hc => isFig_iff.mpr (h c hc)⟩
/-- the number that a word writes as str does -/
def wholeS (z : Str) : Option Nat :=
  if 1 ≤ z.length ∧ z.length ≤ 120 ∧ z.cps.toList.all isFig = true then
    (if z.cps.toList.head? = some 48 ∧ 1 < z.length then none else some (digitsVal z.cps.toList)) else none
theorem len_cps (z : Str) : z.length = z.cps.toList.length := by simp [Str.length]
theorem canon {l : List Nat} (h : AllDigits l) (ne : l ≠ []) (z : ¬ (l.head? = some 48 ∧ 1 < l.length)) : numL (digitsVal l) = l := by
  unfold numL
  obtain ⟨c, r, rfl⟩ : ∃ c r, l = c :: r := by
    cases l with
    | nil => exact absurd rfl ne
    | cons c r => exact ⟨c, r, rfl⟩
  rw [toDigits_digitsVal r.length (c :: r) rfl h (by
    rcases Nat.eq_zero_or_pos r.length with e | e
    · exact .inl e
    · refine .inr ⟨c, r, rfl, ?_⟩
      have := h c List.mem_cons_self
      rcases Nat.lt_or_ge c 49 with q | q
      · exfalso
        exact z ⟨by rw [List.head?_cons, show c = 48 by omega], by rw [List.length_cons]; omega⟩
      · exact q), List.map_map]
  have : ∀ l : List Nat, AllDigits l → l.map (Char.toNat ∘ Char.ofNat) = l := fun l hl => by
    induction l with
    | nil => rfl
    | cons d t ih =>
      have hd := hl d List.mem_cons_self
      rw [List.map_cons, ih fun x hx => hl x (List.mem_cons_of_mem _ hx)]
      congr 1
      show (Char.ofNat d).toNat = d
      have : d = 48 ∨ d = 49 ∨ d = 50 ∨ d = 51 ∨ d = 52 ∨ d = 53 ∨ d = 54 ∨ d = 55 ∨ d = 56 ∨ d = 57 := by omega
      rcases this with rfl | rfl | rfl | rfl | rfl | rfl | rfl | rfl | rfl | rfl <;> rfl
  exact this _ h
theorem whole_text {z : Str} {n : Nat} (h : wholeS z = some n) : z = Str.ofString (toString ((n : Nat) : Int)) := by
  unfold wholeS at h
  split at h
  · rename_i c
    split at h
    · cases h
    · rename_i d
      cases h
      refine ext_tl ?_
      rw [tl_num]
      exact (canon (all_fig.mp c.2.2) (fun e => by have := c.1; rw [len_cps, e] at this; exact absurd this (by decide)) (by rw [← len_cps]; exact d)).symm
  · cases h
theorem whole_num {n : Nat} (h : (numL n).length ≤ 120) : wholeS (Str.ofString (toString ((n : Nat) : Int))) = some n := by
  have e : (Str.ofString (toString ((n : Nat) : Int))).cps.toList = numL n := tl_num n
  have ln : (numL n) ≠ [] := numL_ne n
  have lp : 1 ≤ (numL n).length := List.length_pos_iff.mpr ln
  unfold wholeS
  rw [len_cps, e, if_pos ⟨lp, h, all_fig.mpr (numL_digits n)⟩, if_neg fun z => ?_, numL_val]
  obtain ⟨z1, z2⟩ := z
  rcases Nat.lt_or_ge n 10 with c | c
  · rw [numL_lt c] at z2
    exact absurd z2 (by simp)
  · -- the first figure of a number of two or more is no 0
    have key : ∀ m : Nat, 10 ≤ m → (numL m).head? ≠ some 48 := fun m => by
      induction m using Nat.strongRecOn with
      | _ m ih =>
        intro hm e
        have hh : (numL (m / 10) ++ [48 + m % 10]).head? = (numL (m / 10)).head? := by
          have := numL_ne (m / 10)
          cases hq : numL (m / 10) with
          | nil => exact absurd hq this
          | cons a b => rfl
        rw [numL_step hm, hh] at e
        rcases Nat.lt_or_ge (m / 10) 10 with q | q
        · rw [numL_lt q, List.head?_cons] at e
          have := Option.some.inj e
          omega
        · exact ih (m / 10) (by omega) q e
    exact key n c z1
/-- the number at a word, within bounds -/
def numS (z : Str) (least most : Nat) : Option Nat := (wholeS z).bind fun n => if least ≤ n ∧ n ≤ most then some n else none
def numW (ws : List Str) (at_ least most : Nat) : Option Nat := ws[at_]?.bind fun z => numS z least most
theorem numS_some {z : Str} {l m n : Nat} (h : numS z l m = some n) : wholeS z = some n ∧ l ≤ n ∧ n ≤ m := by
  unfold numS at h
  obtain ⟨k, hk, e⟩ := Option.bind_eq_some_iff.mp h
  split at e
  · rename_i c
    cases e
    exact ⟨hk, c⟩
  · cases e
theorem numW_some {ws : List Str} {i l m n : Nat} (h : numW ws i l m = some n) : ∃ z, ws[i]? = some z ∧ wholeS z = some n ∧ l ≤ n ∧ n ≤ m := by
  unfold numW at h
  obtain ⟨z, hz, e⟩ := Option.bind_eq_some_iff.mp h
  exact ⟨z, hz, numS_some e⟩
end Tx
section
open Tx
variable {P : Program} {w : World} {K : PySem.W.Frag} {mg : Str → Option Value} {base : Heap} {Ct : Addr}
def optV : Option Nat → V
  | none => .non
  | some n => .int n
abbrev strsO (ws : List Str) : HO := .lst (ws.map V.str)
abbrev textF (at_ : Int) : List (Str × V) := [("word", .int at_), ("line", .int 0)]
abbrev telT (Ct : Addr) (at_ : Nat) (E : XL) (L : Lg) : Prop := telX Ct (textF at_) E L
theorem words_at {ws : List Str} {i : Nat} {z : Str} (h : ws[i]? = some z) : atI (ws.map V.str) (i : Int) = some (.str z) := atI_nat (by rw [List.getElem?_map, h]; rfl)
def spWritten : SpL := fun vs L Q _ => ∃ (z : Str) (l m : Nat), vs = [.str z, .int (l : Nat), .int (m : Nat)] ∧ z.length ≤ 1000000 ∧ Q (optV (numS z l m)) L
theorem fn_written (B : Bi mg) (F : Df K mg "written" s_written) {u2 : Value} (hM : mg "MOST_FIGURES" = some u2) (rM : RelV (.int 120) u2) : Fn P w K mg base CX0 "written" 1 spWritten := by
  refine fn_plain F sc_written (fun _ _ _ _ _ _ us hl => match us, hl with | [_, _, _], _ => rfl) (by decide) (by tm_at "g_len") ?_
  intro X f cdv A outer s H E0 L vs Q E hX nd hr h
  subst hX
  obtain ⟨z, l, m, rfl, hz, q⟩ := h
  have zl : z.length ≤ sizeLine := szL (by omega)
  show GSs _ (defBody s_written) (bodyD Q) [("word", some (.str z)), ("least", some (.int (l : Nat))), ("most", some (.int (m : Nat))), ("sign", none)] L
  refine gss_cons ?_
  tm_at "g"
  refine gc_lenS zl ?_
  tm_at "g"
  refine ite_d (fun c1 => ?_) (fun c1 => ?_)
  · refine gv_con hM rM ?_
    tm_at "g"
    refine ite_n (fun c2 => ?_) (fun c2 => ?_)
    · tm_at "g"
      refine ⟨_, Sub.refl, ?_⟩
      rw [show numS z l m = none by unfold numS wholeS; rw [if_neg fun h => c2 (by omega)]; rfl] at q
      exact q
    · tm_at "g"
      refine ge_lcP (by tm_at "g_put") (gi_str ?_) (show blkC N_written (defScope s_written) _ [(_, List.idxOf _ N_written)] = true by decide +kernel)
      tm_at "g"
      refine pure_str (t := fun _ => true) (g := fun c => .bl (!isFig c)) hz (fun c hc D acc s1 H1 C1 cl1 fp1 => ?_) fun D => ?_
      · refine gts_nil ⟨rfl, Sub.refl, fun _ s2 H2 C2 cl2 fp2 => ?_⟩
        tm_at "g"
        refine go_notInS ?_
        exact ⟨rfl, Sub.refl⟩
      rw [List.filter_eq_self.mpr fun _ _ => rfl]
      have eb : z.cps.toList.map (fun c => V.bl (!isFig c)) = (z.cps.toList.map fun c => !isFig c).map V.bl := by rw [List.map_map]; rfl
      rw [eb]
      tm_at "g"
      refine gc_anyB (by rfl) mem0 ?_
      have ea : (z.cps.toList.map fun c => !isFig c).any id = !z.cps.toList.all isFig := by
        rw [List.any_map, List.not_all_eq_any_not]
        rfl
      rw [ea]
      cases c3 : z.cps.toList.all isFig with
      | false =>
        tm_at "g"
        refine ⟨_, Sub.drop, ?_⟩
        rw [show numS z l m = none by unfold numS wholeS; rw [if_neg fun h => by rw [c3] at h; exact absurd h.2.2 (by decide)]; rfl] at q
        exact q
      | true =>
        obtain ⟨a, r, er⟩ : ∃ a r, z.cps.toList = a :: r := by
          cases e : z.cps.toList with
          | nil => rw [len_cps, e] at c1; exact absurd c1 (by decide)
          | cons a r => exact ⟨a, r, rfl⟩
        have c1' : 1 ≤ z.length := by omega
        have c2' : z.length ≤ 120 := by omega
        have dg : NumText.AllDigits z.cps.toList := all_fig.mp c3
        have ne : z.cps.toList ≠ [] := fun e => by rw [er] at e; cases e
        have iz : PySem.intText? z = some ((NumText.digitsVal z.cps.toList : Nat) : Int) := PySem.intText_digits dg ne (by omega)
        have ez : decide (V.str ⟨#[a]⟩ = V.str (Str.ofString "0")) = decide (a = 48) := by
          rw [decide_eq_decide]
          constructor
          · intro h
            have h := V.str.inj h
            have h := congrArg (fun s : Str => s.cps.toList) h
            have h : [a] = [48] := h
            exact (List.cons.inj h).1
          · rintro rfl
            rfl
        have val : ¬ (z.cps.toList.head? = some 48 ∧ 1 < z.length) → numS z l m = if l ≤ NumText.digitsVal z.cps.toList ∧ NumText.digitsVal z.cps.toList ≤ m then some (NumText.digitsVal z.cps.toList) else none := fun n => by
          unfold numS wholeS
          rw [if_pos ⟨c1', c2', c3⟩, if_neg n]
          rfl
        tm_at "g"
        refine gi_sx zl (c := a) (atI_nat (j := 0) (by rw [er]; rfl)) ?_
        tm_at "g"
        refine go_eqV rfl ?_
        rw [ez]
        refine ⟨_, rfl, ite_d (fun y => ?_) (fun y => ?_)⟩
        · subst y
          tm_at "g"
          refine gc_lenS zl ?_
          tm_at "g"
          refine ite_d (fun y2 => ?_) (fun y2 => ?_)
          · tm_at "g"
            have e : numS z l m = none := by
              unfold numS wholeS
              rw [if_pos ⟨c1', c2', c3⟩, if_pos ⟨by rw [er]; rfl, by omega⟩]
              rfl
            rw [e] at q
            exact ⟨_, Sub.drop, q⟩
          · rw [val fun h => y2 (by omega)] at q
            tm_at "g"
            refine gc_intS iz (by omega) ?_
            tm_at "g"
            refine ite_d (fun y3 => ?_) (fun y3 => ?_)
            · tm_at "g"
              refine ite_d (fun y4 => ?_) (fun y4 => ?_)
              · rw [if_pos ⟨by omega, by omega⟩] at q
                tm_at "g"
                refine gc_intS iz (by omega) ?_
                exact ⟨_, Sub.drop, q⟩
              · rw [if_neg fun h => y4 (by omega)] at q
                tm_at "g"
                exact ⟨_, Sub.drop, q⟩
            · rw [if_neg fun h => y3 (by omega)] at q
              tm_at "g"
              exact ⟨_, Sub.drop, q⟩
        · rw [val fun h => y (by have := h.1; rw [er] at this; exact Option.some.inj this)] at q
          tm_at "g"
          refine gc_intS iz (by omega) ?_
          tm_at "g"
          refine ite_d (fun y3 => ?_) (fun y3 => ?_)
          · tm_at "g"
            refine ite_d (fun y4 => ?_) (fun y4 => ?_)
            · rw [if_pos ⟨by omega, by omega⟩] at q
              tm_at "g"
              refine gc_intS iz (by omega) ?_
              exact ⟨_, Sub.drop, q⟩
            · rw [if_neg fun h => y4 (by omega)] at q
              tm_at "g"
              exact ⟨_, Sub.drop, q⟩
          · rw [if_neg fun h => y3 (by omega)] at q
            tm_at "g"
            exact ⟨_, Sub.drop, q⟩
  · tm_at "g"
    refine ⟨_, Sub.refl, ?_⟩
    rw [show numS z l m = none by unfold numS wholeS; rw [if_neg fun h => c1 (by omega)]; rfl] at q
    exact q
/-- rows of words, none of them too long -/
def WordsR (ws : List Str) : Prop := ws.length ≤ 100000 ∧ ∀ z ∈ ws, z.length ≤ 1000000 ∧ PyData.strOk z = true
def spNumIn (Ct : Addr) : SpL := fun vs L Q E => ∃ (r : Addr) (ws : List Str) (i l m : Nat), vs = [.ref r, .int (i : Nat), .int (l : Nat), .int (m : Nat)] ∧ (r, strsO ws) ∈ L ∧ WordsR ws ∧ (∀ n, numW ws i l m = some n → Q (.int (n : Nat)) L) ∧ (numW ws i l m = none → telT Ct i E L)
theorem fn_number_in (B : Bi mg) (F : Df K mg "number_in" s_number_in) (D1 : Fn P w K mg base CX0 "written" 1 spWritten) (T : ErrT P w K mg base "BadText" Ct ["line", "word"]) : Fn P w K mg base (L2.CX P w) "number_in" 3 (spNumIn Ct) := by
  refine fn_raise F sc_number_in (fun _ _ _ _ _ _ us hl => match us, hl with | [_, _, _, _], _ => rfl) (by decide) (by tm_at "g_len") ?_
  intro X f cdv A outer s H E0 L vs Q E hX nd hr tk h
  subst hX
  obtain ⟨r, ws, i, l, m, rfl, mr, ⟨l1, l2⟩, q, e⟩ := h
  show GSs _ (defBody s_number_in) (bodyD Q) [("words", some (.ref r)), ("at", some (.int (i : Nat))), ("least", some (.int (l : Nat))), ("most", some (.int (m : Nat))), ("found", none)] L
  refine gss_cons ?_
  refine gs_set (by tm_at "g_put") ?_
  refine GE.imp (Q := fun v L' => v = optV (numW ws i l m) ∧ L' = L) ?_ ?_
  · tm_at "g"
    rw [List.length_map]
    refine ite_d (fun c => ?_) (fun c => ?_)
    · have hz := List.getElem?_eq_getElem (show i < ws.length by omega)
      tm_at "g"
      refine ge_call (El := NoX) D1 hr passA ?_
      tm_at "g"
      refine gi_lst mr (words_at hz) ?_
      tm_at "g"
      refine ⟨_, l, m, rfl, (l2 _ (List.getElem_mem _)).1, ?_⟩
      exact ⟨by unfold numW; rw [hz]; rfl, rfl⟩
    · tm_at "g"
      exact ⟨by unfold numW; rw [List.getElem?_eq_none (by omega)]; rfl, rfl⟩
  rintro v L' ⟨rfl, rfl⟩
  show GSs _ _ _ _ _
  cases hn : numW ws i l m with
  | none =>
    dsimp only [optV]
    tm_at "g"
    refine gs_raise tk (gmk_err T.ck hr ?_ (by decide))
    tm_at "g"
    exact ⟨rfl, fun d => ⟨_, Sub.refl, e hn d _ Sub.refl⟩⟩
  | some n =>
    dsimp only [optV]
    tm_at "g"
    exact ⟨_, Sub.refl, q n hn⟩
end
namespace Tx
open PySem NumText L2 TL
abbrev toS : Str := Str.ofString "to"
abbrev commaS : Str := Str.ofString ","
abbrev NR := Nat × Nat
def leastR (found : List NR) : Nat := match found.getLast? with | none => 0 | some r => r.2 + 2
def firstR (found : List NR) (b : Nat) : Nat := match found with | [] => b | r :: _ => r.1
/-- runs from a word on; at most 2000 -/
def readRs (ws : List Str) (P : Nat) : Nat → Nat → List NR → Nat ⊕ List NR
  | 0, j, _ => .inl j
  | k + 1, j, found =>
    match numW ws j (leastR found) (P - 1) with
    | none => .inl j
    | some b =>
      if ws[j + 1]? = some toS then
        (match numW ws (j + 2) b (firstR found b + P - 2) with
        | none => .inl (j + 2)
        | some e =>
          if j + 3 < ws.length then
            if found.length + 1 = 2000 then .inl (j + 3)
            else if ws[j + 3]? = some commaS then readRs ws P k (j + 4) (found ++ [(b, e)]) else .inl (j + 3)
          else .inr (found ++ [(b, e)]))
      else .inl (j + 1)
variable {ws : List Str} {P k j b e : Nat} {found : List NR}
theorem rs_0 (h : numW ws j (leastR found) (P - 1) = none) : readRs ws P (k + 1) j found = .inl j := by rw [readRs, h]
theorem rs_1 (h : numW ws j (leastR found) (P - 1) = some b) (h1 : ¬ ws[j + 1]? = some toS) : readRs ws P (k + 1) j found = .inl (j + 1) := by
  rw [readRs, h]
  dsimp only
  rw [if_neg h1]
theorem rs_2 (h : numW ws j (leastR found) (P - 1) = some b) (h1 : ws[j + 1]? = some toS) (h2 : numW ws (j + 2) b (firstR found b + P - 2) = none) : readRs ws P (k + 1) j found = .inl (j + 2) := by
  rw [readRs, h]
  dsimp only
  rw [if_pos h1, h2]
theorem rs_end (h : numW ws j (leastR found) (P - 1) = some b) (h1 : ws[j + 1]? = some toS) (h2 : numW ws (j + 2) b (firstR found b + P - 2) = some e) (h3 : ¬ j + 3 < ws.length) : readRs ws P (k + 1) j found = .inr (found ++ [(b, e)]) := by
  rw [readRs, h]
  dsimp only
  rw [if_pos h1, h2]
  dsimp only
  rw [if_neg h3]
theorem rs_many (h : numW ws j (leastR found) (P - 1) = some b) (h1 : ws[j + 1]? = some toS) (h2 : numW ws (j + 2) b (firstR found b + P - 2) = some e) (h3 : j + 3 < ws.length) (h4 : found.length + 1 = 2000) : readRs ws P (k + 1) j found = .inl (j + 3) := by
  rw [readRs, h]
  dsimp only
  rw [if_pos h1, h2]
  dsimp only
  rw [if_pos h3, if_pos h4]
theorem rs_3 (h : numW ws j (leastR found) (P - 1) = some b) (h1 : ws[j + 1]? = some toS) (h2 : numW ws (j + 2) b (firstR found b + P - 2) = some e) (h3 : j + 3 < ws.length) (h4 : ¬ found.length + 1 = 2000) (h5 : ¬ ws[j + 3]? = some commaS) : readRs ws P (k + 1) j found = .inl (j + 3) := by
  rw [readRs, h]
  dsimp only
  rw [if_pos h1, h2]
  dsimp only
  rw [if_pos h3, if_neg h4, if_neg h5]
theorem rs_on (h : numW ws j (leastR found) (P - 1) = some b) (h1 : ws[j + 1]? = some toS) (h2 : numW ws (j + 2) b (firstR found b + P - 2) = some e) (h3 : j + 3 < ws.length) (h4 : ¬ found.length + 1 = 2000) (h5 : ws[j + 3]? = some commaS) : readRs ws P (k + 1) j found = readRs ws P k (j + 4) (found ++ [(b, e)]) := by
  rw [readRs, h]
  dsimp only
  rw [if_pos h1, h2]
  dsimp only
  rw [if_pos h3, if_neg h4, if_pos h5]
end Tx
section
open Tx
variable {P : Program} {w : World} {K : PySem.W.Frag} {mg : Str → Option Value} {base : Heap} {Ct : Addr}
theorem cut_opt {ws : List Str} {i : Nat} : cutV (ws.map V.str) (some (i : Int)) (some ((i : Int) + 1)) = (ws[i]?.toList).map V.str := by
  cases h : ws[i]? with
  | some z => exact cut_one (v := .str z) (by rw [List.getElem?_map, h]; rfl)
  | none =>
    have hl := List.getElem?_eq_none_iff.mp h
    unfold cutV
    rw [show ((i : Int) + 1) = ((i + 1 : Nat) : Int) from rfl, HT.sIx_nat, HT.sIx_nat, List.length_map, Nat.min_eq_right hl, Nat.min_eq_right (by omega), Nat.sub_self]
    rfl
theorem opt_eq {ws : List Str} {i : Nat} {z : Str} : decide (ws[i]?.toList = [z]) = decide (ws[i]? = some z) := by
  rw [decide_eq_decide]
  cases ws[i]? with
  | none => simp
  | some y => simp
def spNeedWordR (Ct : Addr) : SpL := fun vs L Q E => ∃ (r : Addr) (ws : List Str) (i : Nat) (z : Str), vs = [.ref r, .int (i : Nat), .str z] ∧ (r, strsO ws) ∈ L ∧ WordsR ws ∧ PyData.strOk z = true ∧ (ws[i]? = some z → Q .non L) ∧ (¬ ws[i]? = some z → telT Ct i E L)
theorem fn_need_wordR (B : Bi mg) (F : Df K mg "need_word" s_need_word) (T : ErrT P w K mg base "BadText" Ct ["line", "word"]) : Fn P w K mg base (L2.CX P w) "need_word" 3 (spNeedWordR Ct) := by
  refine fn_raise F sc_need_word (fun _ _ _ _ _ _ us hl => match us, hl with | [_, _, _], _ => rfl) (by decide) (by tm_at "g_len") ?_
  intro X f cdv A outer s H E0 L vs Q E hX nd hr tk h
  subst hX
  obtain ⟨r, ws, i, z, rfl, mr, wk, ok, q, e⟩ := h
  show GSs _ (defBody s_need_word) (bodyD Q) [("words", some (.ref r)), ("at", some (.int (i : Nat))), ("word", some (.str z))] L
  refine gss_cons ?_
  tm_at "g"
  refine ⟨r, ws.map V.str, rfl, ?_⟩
  show GE _ _ _ _ _
  tm_at "g"
  show GE _ _ _ _ _
  tm_at "g"
  refine ⟨fun H hH => sql hH mr, fun q1 => ?_⟩
  rw [cut_opt]
  tm_at "g"
  refine go_neLS (ns := ws[i]?.toList) (ms := [z]) hr (memS mem0) mem0 rfl rfl (fun y hy => ?_) (by simpa using ok) ?_
  · exact (wk.2 y (List.mem_of_getElem? (Option.mem_toList.mp hy))).2
  rw [opt_eq]
  refine ⟨_, rfl, ite_n (fun c => ?_) (fun c => ?_)⟩
  · tm_at "g"
    refine gs_raise tk (gmk_err T.ck hr ?_ (by decide))
    tm_at "g"
    exact ⟨rfl, fun d => ⟨_, Sub.cons (Sub.trans Sub.drop Sub.drop), e c d _ Sub.refl⟩⟩
  · tm_at "g"
    exact ⟨_, Sub.trans Sub.drop Sub.drop, q c⟩
theorem at_snoc {xs : List V} {v : V} : atI (xs ++ [v]) (-1) = some v := by
  unfold atI ixN
  rw [List.length_append, List.length_singleton, if_neg (by omega), if_pos (by omega), show ((-1 : Int) + ((xs.length + 1 : Nat) : Int)).toNat = xs.length by omega]
  show (xs ++ [v])[xs.length]? = _
  rw [List.getElem?_append_right (Nat.le_refl _), Nat.sub_self]
  rfl
theorem gt_subM {X : Cx} {e : Expr} {η : En} {L M : Lg} {Q : Bool → Lg → Prop} (s : Sub M L) (h : GT X e η M Q) : GT X e η L Q := fun hN H hH => h hN H (s.has H hH)
theorem gt_ndM {X : Cx} {e : Expr} {η : En} {L : Lg} {Q : Bool → Lg → Prop} (h : (L.map (·.1)).Nodup → GT X e η L Q) : GT X e η L Q := fun hN H hH => h hH.1 hN H hH
theorem gss_ndM {X : Cx} {st : List Stmt} {D : GD} {η : En} {L : Lg} (h : (L.map (·.1)).Nodup → GSs X st D η L) : GSs X st D η L := fun hN H hH => h hH.1 hN H hH
def spReadRuns (Ct : Addr) : SpL := fun vs L Q E => ∃ (r : Addr) (ws : List Str) (p k : Nat), vs = [.ref r, .int (p : Nat)] ∧ (r, strsO ws) ∈ L ∧ WordsR ws ∧ 2 ≤ p ∧ ws.length ≤ 3 + k ∧ (∀ e, readRs ws p (k + 1) 3 [] = .inl e → telT Ct e E L) ∧
  ∀ rs, readRs ws p (k + 1) 3 [] = .inr rs → ∀ (a : Addr) (ps : List Pr2) (M : Lg), Sub L M → (a, HO.lst (prV ps)) ∈ M → Prs2 ps M → ps.map (·.2) = rs.map (fun r => ((r.1 : Int), (r.2 : Int))) → Q (.ref a) M
theorem fn_read_runs (B : Bi mg) (F : Df K mg "read_runs" s_read_runs) (T : ErrT P w K mg base "BadText" Ct ["line", "word"]) (D1 : Fn P w K mg base (L2.CX P w) "number_in" 3 (spNumIn Ct)) (D2 : Fn P w K mg base (L2.CX P w) "need_word" 3 (spNeedWordR Ct)) {u : Value} (hM : mg "MOST_RUNS" = some u) (rM : RelV (.int 2000) u) : Fn P w K mg base (L2.CX P w) "read_runs" 4 (spReadRuns Ct) := by
  refine fn_raise F sc_read_runs (fun _ _ _ _ _ _ us hl => match us, hl with | [_, _], _ => rfl) (by decide) (by tm_at "g_len") ?_
  intro X f cdv A outer s H E0 L vs Q E hX nd hr tk h
  subst hX
  obtain ⟨r, ws, p, K0, rfl, mr, wk, p2, hk0, e, q⟩ := h
  show GSs _ (defBody s_read_runs) (bodyD Q) [("words", some (.ref r)), ("period", some (.int (p : Nat))), ("found", none), ("at", none), ("is_open", none), ("least", none), ("begin", none), ("first", none), ("end", none)] L
  refine gss_ndM fun ndL => ?_
  refine gss_cons ?_
  tm_at "g"
  rename_i fl
  have hs : PyData.strOk toS = true ∧ PyData.strOk commaS = true := by decide +kernel
  refine GS.cut (fun θ N => ∃ (j : Nat) (u1 u2 u3 u4 : Option V) (ps : List Pr2) (rs : List NR) (R' : Lg), θ = ([("words", some (.ref r)), ("period", some (.int (p : Nat))), ("found", some (.ref fl)), ("at", some (.int (j : Nat))), ("is_open", some (.bl false)), ("least", u1), ("begin", u2), ("first", u3), ("end", u4)] : En) ∧ Sub ((fl, HO.lst (prV ps)) :: R') N ∧ Sub L R' ∧ Prs2 ps R' ∧ ps.map (·.2) = rs.map (fun r => ((r.1 : Int), (r.2 : Int))) ∧ readRs ws p (K0 + 1) 3 [] = .inr rs) ?_ ?_
  · refine gs_while (fun k θ N => ∃ (j : Nat) (o : Bool) (u1 u2 u3 u4 : Option V) (ps : List Pr2) (rs : List NR) (R' : Lg), θ = ([("words", some (.ref r)), ("period", some (.int (p : Nat))), ("found", some (.ref fl)), ("at", some (.int (j : Nat))), ("is_open", some (.bl o)), ("least", u1), ("begin", u2), ("first", u3), ("end", u4)] : En) ∧ Sub ((fl, HO.lst (prV ps)) :: R') N ∧ Sub L R' ∧ Prs2 ps R' ∧ ps.map (·.2) = rs.map (fun r => ((r.1 : Int), (r.2 : Int))) ∧ ((o = true ∧ ∃ f, k = f + 1 ∧ ws.length ≤ j + f ∧ readRs ws p (f + 1) j rs = readRs ws p (K0 + 1) 3 [] ∧ rs.length < 2000) ∨ (o = false ∧ k = 0 ∧ readRs ws p (K0 + 1) 3 [] = .inr rs))) (K0 + 1) ⟨3, true, none, none, none, none, [], [], L, rfl, Sub.refl, Sub.refl, (fun e h => nomatch h), rfl, .inl ⟨rfl, K0, rfl, by omega, rfl, by decide⟩⟩ ?_
    rintro k θ N ⟨j, o, u1, u2, u3, u4, ps, rs, R', rfl, sb, sL, pp, em, ho⟩
    refine gt_subM sb ?_
    refine gt_ndM fun ndN => ?_
    have ndR := (List.nodup_cons.mp ndN).2
    have mr2 : (r, strsO ws) ∈ R' := (sL.to ndR).2 _ mr
    rcases ho with ⟨rfl, f, rfl, hf, er, l2⟩ | ⟨rfl, rfl, er⟩
    rotate_left
    · tm_at "g"
      exact ⟨j, u1, u2, u3, u4, ps, rs, R', rfl, Sub.refl, sL, pp, em, er⟩
    have lps : ps.length = rs.length := by
      have h := congrArg List.length em
      rwa [List.length_map, List.length_map] at h
    refine gt_val ?_
    refine ge_var (by tm_at "g_at") ?_
    refine ⟨true, rfl, ite_t ?_⟩
    refine gss_cons ?_
    refine gs_set (by tm_at "g_put") ?_
    refine GE.imp (Q := fun v L' => v = .int (leastR rs : Nat) ∧ L' = (fl, HO.lst (prV ps)) :: R') ?_ ?_
    · tm_at "g"
      rw [prV_len]
      rcases List.eq_nil_or_concat ps with rfl | ⟨ps', e0, rfl⟩
      · have hr0 : rs = [] := List.length_eq_zero_iff.mp (by rw [← lps]; rfl)
        subst hr0
        refine ite_d (fun c => absurd c (by simp)) (fun _ => ?_)
        tm_at "g"
        exact ⟨rfl, rfl⟩
      · rcases List.eq_nil_or_concat rs with rfl | ⟨rs', r0, rfl⟩
        · exact absurd lps (by simp)
        · simp only [List.concat_eq_append] at em lps pp ⊢
          have ee : e0.2 = ((r0.1 : Int), (r0.2 : Int)) := by
            rw [List.map_append, List.map_append] at em
            have := (List.append_inj' em rfl).2
            exact (List.cons.inj this).1
          have me := pp e0 (by simp)
          refine ite_d (fun _ => ?_) (fun c => absurd (by rw [List.length_append, List.length_singleton]; omega) c)
          tm_at "g"
          refine gi_lst mem0 (by rw [show prV (ps' ++ [e0]) = prV ps' ++ [V.ref e0.1] by simp]; exact at_snoc) ?_
          tm_at "g"
          refine ⟨?_, rfl⟩
          have el : leastR (rs' ++ [r0]) = r0.2 + 2 := by unfold leastR; rw [List.getLast?_concat]
          rw [el, ee]
          rfl
    rintro v L' ⟨rfl, rfl⟩
    show GSs _ _ _ _ _
    have telX' : ∀ (n : Nat) (L' : Lg), Sub ((fl, HO.lst (prV ps)) :: R') L' → readRs ws p (f + 1) j rs = .inl n → telT Ct n E L' := fun n L' s h d M2 s2 => e n (er.symm.trans h) d _ (Sub.trans (Sub.cons (Sub.trans (Sub.trans sL Sub.drop) s)) s2)
    tm_at "g"
    refine ge_callX D1 hr tk ?_
    tm_at "g"
    rw [show ((p : Nat) : Int) - 1 = ((p - 1 : Nat) : Int) by omega]
    refine ⟨r, ws, j, leastR rs, p - 1, rfl, memS mr2, wk, fun b hb => ?_, fun hb d M2 s2 => ⟨_, Sub.refl, telX' j _ Sub.refl (rs_0 hb) d _ s2⟩⟩
    tm_at "g"
    refine ge_callX D2 hr tk ?_
    tm_at "g"
    refine ⟨r, ws, j + 1, toS, rfl, memS mr2, wk, hs.1, fun k1 => ?_, fun k1 d M2 s2 => ⟨_, Sub.refl, telX' (j + 1) _ Sub.refl (rs_1 hb k1) d _ s2⟩⟩
    refine G.St.to ?_
    refine gs_set (by tm_at "g_put") ?_
    refine GE.imp (Q := fun v L' => v = .int (firstR rs b : Nat) ∧ L' = (fl, HO.lst (prV ps)) :: R') ?_ ?_
    · tm_at "g"
      rw [prV_len]
      cases ps with
      | nil =>
        have hr0 : rs = [] := List.length_eq_zero_iff.mp (by rw [← lps]; rfl)
        subst hr0
        refine ite_d (fun c => absurd c (by simp)) (fun _ => ?_)
        tm_at "g"
        exact ⟨rfl, rfl⟩
      | cons e0 ps' =>
        cases rs with
        | nil => exact absurd lps (by simp)
        | cons r0 rs' =>
          have ee : e0.2 = ((r0.1 : Int), (r0.2 : Int)) := (List.cons.inj em).1
          have me := pp e0 List.mem_cons_self
          refine ite_d (fun _ => ?_) (fun c => absurd (by rw [List.length_cons]; omega) c)
          tm_at "g"
          refine gi_lst (i := 0) mem0 (atI_nat (j := 0) rfl) ?_
          tm_at "g"
          refine ⟨?_, rfl⟩
          show V.int e0.2.1 = V.int ((firstR (r0 :: rs') b : Nat) : Int)
          rw [ee]
          rfl
    rintro v L' ⟨rfl, rfl⟩
    show GSs _ _ _ _ _
    tm_at "g"
    refine ge_callX D1 hr tk ?_
    tm_at "g"
    rw [show ((firstR rs b : Nat) : Int) + ((p : Nat) : Int) - 2 = ((firstR rs b + p - 2 : Nat) : Int) by omega]
    refine ⟨r, ws, j + 2, b, firstR rs b + p - 2, rfl, memS mr2, wk, fun e2 he2 => ?_, fun he2 d M2 s2 => ⟨_, Sub.refl, telX' (j + 2) _ Sub.refl (rs_2 hb k1 he2) d _ s2⟩⟩
    tm_at "g"
    rename_i tq
    refine ⟨prV ps, _, by tm_at "g_mem", szL (show (prV ps).length + 1 ≤ 16777216 by rw [prV_len]; omega), by tm_at "g_swap", ?_⟩
    have epv : prV ps ++ [V.ref tq] = prV (ps ++ [(tq, ((b : Int), (e2 : Int)))]) := by simp
    rw [epv]
    have pp2 : Prs2 (ps ++ [(tq, ((b : Int), (e2 : Int)))]) ((tq, HO.tup [.int (b : Nat), .int (e2 : Nat)]) :: R') := Prs2.snoc (pp.mono fun _ h => memS h) mem0
    have em2 : (ps ++ [(tq, ((b : Int), (e2 : Int)))]).map (·.2) = (rs ++ [(b, e2)]).map (fun r => ((r.1 : Int), (r.2 : Int))) := by rw [List.map_append, List.map_append, em]; rfl
    have sL2 : Sub L ((tq, HO.tup [.int (b : Nat), .int (e2 : Nat)]) :: R') := Sub.trans sL Sub.drop
    have ln2 : (prV (ps ++ [(tq, ((b : Int), (e2 : Int)))])).length = rs.length + 1 := by rw [prV_len, List.length_append, List.length_singleton, lps]
    generalize ps ++ [(tq, ((b : Int), (e2 : Int)))] = ps2 at pp2 em2 ln2 ⊢
    refine (fun h => GSs.sub (M := (fl, HO.lst (prV ps2)) :: (tq, HO.tup [.int (b : Nat), .int (e2 : Nat)]) :: R') (Sub.perm (List.Perm.swap _ _ _)) h) ?_
    have mr3 : (r, strsO ws) ∈ (fl, HO.lst (prV ps2)) :: (tq, HO.tup [.int (b : Nat), .int (e2 : Nat)]) :: R' := memS (memS mr2)
    have telY : ∀ (n : Nat), readRs ws p (f + 1) j rs = .inl n → telT Ct n E ((fl, HO.lst (prV ps2)) :: (tq, HO.tup [.int (b : Nat), .int (e2 : Nat)]) :: R') := fun n h d M2 s2 => e n (er.symm.trans h) d _ (Sub.trans (Sub.cons (Sub.trans sL2 Sub.drop)) s2)
    tm_at "g"
    rw [List.length_map]
    by_cases c3 : j + 3 < ws.length
    · rw [decide_eq_true (show ((j : Nat) : Int) + 3 < (ws.length : Int) by omega)]
      refine ite_t ?_
      tm_at "g"
      refine gv_con hM rM ?_
      tm_at "g"
      rw [ln2]
      refine ite_d (fun c4 => ?_) (fun c4 => ?_)
      · tm_at "g"
        refine gs_raise tk (gmk_err T.ck hr ?_ (by decide))
        tm_at "g"
        exact ⟨rfl, fun d => ⟨_, Sub.refl, telY (j + 3) (rs_many hb k1 he2 c3 (by omega)) d _ Sub.refl⟩⟩
      · tm_at "g"
        refine ge_callX D2 hr tk ?_
        tm_at "g"
        refine ⟨r, ws, j + 3, commaS, rfl, mr3, wk, hs.2, fun k3 => ?_, fun k3 d M2 s2 => ⟨_, Sub.refl, telY (j + 3) (rs_3 hb k1 he2 c3 (by omega) k3) d _ s2⟩⟩
        tm_at "g"
        obtain ⟨f', rfl⟩ : ∃ f', f = f' + 1 := ⟨f - 1, by omega⟩
        refine ⟨f' + 1, by omega, j + 4, true, _, _, _, _, ps2, rs ++ [(b, e2)], _, rfl, Sub.refl, sL2, pp2, em2, .inl ⟨rfl, f', rfl, by omega, (rs_on hb k1 he2 c3 (by omega) k3).symm.trans er, by rw [List.length_append, List.length_singleton]; omega⟩⟩
    · rw [decide_eq_false (show ¬ ((j : Nat) : Int) + 3 < (ws.length : Int) by omega)]
      refine ite_f ?_
      tm_at "g"
      exact ⟨0, by omega, j + 3, false, _, _, _, _, ps2, rs ++ [(b, e2)], _, rfl, Sub.refl, sL2, pp2, em2, .inr ⟨rfl, rfl, er.symm.trans (rs_end hb k1 he2 c3)⟩⟩
  rintro θ N ⟨j, u1, u2, u3, u4, ps, rs, R', rfl, sb, sL, pp, em, er⟩
  refine GSs.sub sb ?_
  tm_at "g"
  exact ⟨_, Sub.refl, q rs er fl ps _ (Sub.trans sL Sub.drop) mem0 (pp.mono fun _ h => memS h) em⟩
end
namespace Tx
open PySem NumText L2 TL
abbrev mostP : Nat := 10 ^ 100
/-- the period and the runs that words tell -/
def readL (ws : List Str) : Nat ⊕ (Nat × List NR) :=
  if ws[0]? = some (Str.ofString "every") then (if 1 < ws.length then .inl 1 else .inr (1, [(0, 0)]))
  else if ws[0]? = some (Str.ofString "none") then (if 1 < ws.length then .inl 1 else .inr (1, []))
  else if ws[0]? = some (Str.ofString "modulo") then
    (match numW ws 1 2 mostP with
    | none => .inl 1
    | some p => if ws[2]? = some (Str.ofString ":") then (match readRs ws p (ws.length + 1) 3 [] with | .inl e => .inl e | .inr rs => .inr (p, rs)) else .inl 2)
  else .inl 0
def castR (rs : List NR) : List (Int × Int) := rs.map fun r => ((r.1 : Int), (r.2 : Int))
theorem readRs_le {ws : List Str} {P : Nat} : ∀ {k j : Nat} {found rs : List NR}, readRs ws P k j found = .inr rs → (∀ r ∈ found, r.1 ≤ r.2) → found.length < 2000 → (∀ r ∈ rs, r.1 ≤ r.2) ∧ rs.length ≤ 2000
  | 0, j, found, rs, h, _, _ => by cases h
  | k + 1, j, found, rs, h, ok, l => by
    cases hb : numW ws j (leastR found) (P - 1) with
    | none => rw [rs_0 hb] at h; cases h
    | some b =>
      by_cases h1 : ws[j + 1]? = some toS
      · cases he : numW ws (j + 2) b (firstR found b + P - 2) with
        | none => rw [rs_2 hb h1 he] at h; cases h
        | some e =>
          have hbe : b ≤ e := by
            obtain ⟨_, _, _, h2, _⟩ := numW_some he
            exact h2
          have ok2 : ∀ r ∈ found ++ [(b, e)], r.1 ≤ r.2 := fun r hr => by
            rcases List.mem_append.mp hr with hr | hr
            · exact ok r hr
            · rw [List.mem_singleton.mp hr]; exact hbe
          by_cases h3 : j + 3 < ws.length
          · by_cases h4 : found.length + 1 = 2000
            · rw [rs_many hb h1 he h3 h4] at h; cases h
            · by_cases h5 : ws[j + 3]? = some commaS
              · rw [rs_on hb h1 he h3 h4 h5] at h
                exact readRs_le h ok2 (by rw [List.length_append, List.length_singleton]; omega)
              · rw [rs_3 hb h1 he h3 h4 h5] at h; cases h
          · rw [rs_end hb h1 he h3] at h
            cases h
            exact ⟨ok2, by rw [List.length_append, List.length_singleton]; omega⟩
      · rw [rs_1 hb h1] at h; cases h
end Tx
section
open Tx Lt
variable {P : Program} {w : World} {K : PySem.W.Frag} {mg : Str → Option Value} {base : Heap} {C Ct : Addr}
theorem inV_two {z a b : Str} : inV (.str z) [.str a, .str b] = (decide (z = a) || decide (z = b)) := by
  have e : ∀ x : Str, eqV (.str x) (.str z) = decide (z = x) := fun x => by
    show decide _ = decide _
    rw [decide_eq_decide]
    exact ⟨Eq.symm, Eq.symm⟩
  unfold inV
  rw [List.any_cons, List.any_cons, List.any_nil, Bool.or_false, e, e]
def spReadLot (K : PySem.W.Frag) (C Ct : Addr) : SpL := fun vs L Q E => ∃ v : V, vs = [v] ∧
  ((∃ (z : Str) (ws : List Str), v = .str z ∧ z.length ≤ 1000000 ∧ Txt.split z (Str.ofString " ") = ws ∧ WordsR ws ∧ ws ≠ [] ∧ (∀ k, readL ws = .inl k → telT Ct k E L) ∧
    ∀ p rs, readL ws = .inr (p, rs) → (∀ (q : Int) (few : List Rn), p ≠ 1 → Form (In p (castR rs)) q few → q ≠ p → telT Ct 1 E L) ∧
      ∀ (x dx : Addr) (q' : Int) (t : Addr) (few : List Pr2) (ob : Addr) (M : Lg), Sub L M → LotAt C x dx q' t few ob M → Form (In p (castR rs)) q' (few.map (·.2)) → few.length ≤ 2000 → (p = 1 ∨ q' = p) → Q (.ref x) M) ∨
  (((∃ T, Knd L v T ∧ kitB T "str" = some false) ∨ ∃ a D dx fs, v = .ref a ∧ (a, HO.ins D dx fs) ∈ L ∧ OwnT K D ∧ PySem.W.kitOne K (.ref D) (.type "str") = some false) ∧ telT Ct 0 E L))
theorem fn_read_lot (B : Bi mg) (F : Df K mg "read_lot" s_read_lot) (T : ErrT P w K mg base "BadText" Ct ["line", "word"]) {fI : Addr} (hC : mg "Lot" = some (.ref C)) (la : LotA K C) (M0 : Mk K C fI) (R : RunG P w K mg base CX0 4 fI argsP (toSp fun vs L Q E => ∃ ws rest, vs = ws ++ rest ∧ ws.length = 2 ∧ rest.length ≤ sizeLine ∧ ∀ p, spLotInit K (ws ++ [.ref p]) ((p, .tup rest) :: L) Q E))
    (D1 : Fn P w K mg base (L2.CX P w) "number_in" 3 (spNumIn Ct)) (D2 : Fn P w K mg base (L2.CX P w) "need_word" 3 (spNeedWordR Ct)) (D3 : Fn P w K mg base (L2.CX P w) "read_runs" 4 (spReadRuns Ct)) {u : Value} (hM : mg "MOST_PERIOD" = some u) (rM : RelV (.int 10000000000000000000000000000000000000000000000000000000000000000000000000000000000000000000000000000) u) : Fn P w K mg base (L2.CX P w) "read_lot" 7 (spReadLot K C Ct) := by
  refine fn_raise F sc_read_lot (fun _ _ _ _ _ _ us hl => match us, hl with | [_], _ => rfl) (by decide) (by tm_at "g_len") ?_
  intro X f cdv A outer s H E0 L vs Q E hX nd hr tk h
  subst hX
  obtain ⟨v, rfl, h⟩ := h
  show GSs _ (defBody s_read_lot) (bodyD Q) [("text", some (v)), ("words", none), ("period", none), ("runs", none), ("found", none)] L
  refine gss_cons ?_
  tm_at "g"
  rcases h with ⟨z, ws, rfl, hz, hs, wk, ne, e, q⟩ | ⟨hv, e⟩
  rotate_left
  · have go : ∀ {Q' : QV}, Q' (.bl false) L → GC (cxR P w K mg base N_read_lot "read_lot" (defScope s_read_lot) f cdv A outer s H E0) (.builtin "isinstance") [v, .ty "str"] L Q' := fun q => by
      rcases hv with ⟨T', k, h⟩ | ⟨a, D, dx, fs, rfl, m, o, h⟩
      · exact gc_isK k h q
      · exact gc_isI o m (.ty _) h q
    refine go ?_
    tm_at "g"
    refine gs_raise tk (gmk_err T.ck hr ?_ (by decide))
    tm_at "g"
    exact ⟨rfl, fun d => ⟨_, Sub.refl, e d _ Sub.refl⟩⟩
  refine gc_isK .str (show kitB "str" "str" = some true by decide +kernel) ?_
  tm_at "g"
  refine ge_split ?_
  tm_at "g"
  refine ⟨by decide +kernel, szL (by omega), fun r => ?_⟩
  rw [hs]
  obtain ⟨y, hy⟩ : ∃ y, ws[0]? = some y := ⟨_, List.getElem?_eq_getElem (List.length_pos_iff.mpr ne)⟩
  tm_at "g"
  refine gi_lst (i := 0) mem0 (words_at (i := 0) hy) ?_
  tm_at "g"
  rename_i kt
  refine go_inT (.inl mem0) rfl rfl ?_
  rw [inV_two]
  have tel : ∀ (n : Nat) (M : Lg), Sub L M → readL ws = .inl n → telT Ct n E M := fun n M s h d M2 s2 => e n h d _ (Sub.trans (Sub.cons s) s2)
  by_cases y1 : y = Str.ofString "every"
  · subst y1
    have er : readL ws = if 1 < ws.length then .inl 1 else .inr (1, [(0, 0)]) := by unfold readL; rw [if_pos hy]
    rw [show (decide (Str.ofString "every" = Str.ofString "every") || decide (Str.ofString "every" = Str.ofString "none")) = true from by decide]
    tm_at "g"
    rw [List.length_map]
    refine ite_d (fun c => ?_) (fun c => ?_)
    · rw [if_pos (by omega)] at er
      tm_at "g"
      refine gs_raise tk (gmk_err T.ck hr ?_ (by decide))
      tm_at "g"
      exact ⟨rfl, fun d => ⟨_, Sub.refl, tel 1 _ (Sub.trans Sub.drop Sub.drop) er d _ Sub.refl⟩⟩
    · rw [if_neg (by omega)] at er
      tm_at "g"
      refine gi_lst (i := 0) (by tm_at "g_mem") (words_at (i := 0) hy) ?_
      tm_at "g"
      refine go_eqV rfl ?_
      rw [show decide (V.str (Str.ofString "every") = V.str (Str.ofString "every")) = true from by decide]
      tm_at "g"
      refine ge_callF hC M0.kp (fun _ => gf_lot la M0 R hr) ?_
      tm_at "g"
      rename_i t0
      refine ⟨1, [(t0, (0, 0))], rfl, fun e he => ?_, by simp, by decide, fun e he => ?_, fun x dx q' t few ob M sM at' frm hl => ?_⟩
      · rw [List.mem_singleton.mp he]
        exact mem0
      · rw [List.mem_singleton.mp he]
        exact Int.le_refl _
      · exact ⟨_, Sub.refl, (q _ _ er).2 x dx q' t few ob M (Sub.trans (Sub.trans Sub.drop (Sub.trans Sub.drop Sub.drop)) sM) at' frm hl (.inl rfl)⟩
  by_cases y2 : y = Str.ofString "none"
  · subst y2
    have er : readL ws = if 1 < ws.length then .inl 1 else .inr (1, []) := by unfold readL; rw [if_neg (by rw [hy]; decide), if_pos hy]
    rw [show (decide (Str.ofString "none" = Str.ofString "every") || decide (Str.ofString "none" = Str.ofString "none")) = true from by decide]
    tm_at "g"
    rw [List.length_map]
    refine ite_d (fun c => ?_) (fun c => ?_)
    · rw [if_pos (by omega)] at er
      tm_at "g"
      refine gs_raise tk (gmk_err T.ck hr ?_ (by decide))
      tm_at "g"
      exact ⟨rfl, fun d => ⟨_, Sub.refl, tel 1 _ (Sub.trans Sub.drop Sub.drop) er d _ Sub.refl⟩⟩
    · rw [if_neg (by omega)] at er
      tm_at "g"
      refine gi_lst (i := 0) (by tm_at "g_mem") (words_at (i := 0) hy) ?_
      tm_at "g"
      refine go_eqV rfl ?_
      rw [show decide (V.str (Str.ofString "none") = V.str (Str.ofString "every")) = false from by decide]
      tm_at "g"
      refine ge_callF hC M0.kp (fun _ => gf_lot la M0 R hr) ?_
      tm_at "g"
      refine ⟨1, [], rfl, (fun e he => nomatch he), by decide, by decide, (fun e he => nomatch he), fun x dx q' t few ob M sM at' frm hl => ?_⟩
      exact ⟨_, Sub.refl, (q _ _ er).2 x dx q' t few ob M (Sub.trans (Sub.trans Sub.drop Sub.drop) sM) at' frm hl (.inl rfl)⟩
  rw [decide_eq_false y1, decide_eq_false y2, show (false || false) = false from rfl]
  have n1 : ¬ ws[0]? = some (Str.ofString "every") := fun h => y1 (Option.some.inj (hy.symm.trans h))
  have n2 : ¬ ws[0]? = some (Str.ofString "none") := fun h => y2 (Option.some.inj (hy.symm.trans h))
  have hst : PyData.strOk (Str.ofString "modulo") = true ∧ PyData.strOk (Str.ofString ":") = true := by decide +kernel
  have sub0 : Sub L ((kt, HO.tup [.str "every", .str "none"]) :: (r, strsO ws) :: L) := Sub.trans Sub.drop Sub.drop
  tm_at "g"
  refine ge_callX D2 hr tk ?_
  tm_at "g"
  refine ⟨r, ws, 0, Str.ofString "modulo", rfl, memS mem0, wk, hst.1, fun k1 => ?_, fun k1 d M2 s2 => ⟨_, Sub.refl, tel 0 _ sub0 (by unfold readL; rw [if_neg n1, if_neg n2, if_neg k1]) d _ s2⟩⟩
  have e1 : readL ws = (match numW ws 1 2 mostP with
    | none => .inl 1
    | some p => if ws[2]? = some (Str.ofString ":") then (match readRs ws p (ws.length + 1) 3 [] with | .inl e => .inl e | .inr rs => .inr (p, rs)) else .inl 2) := by unfold readL; rw [if_neg n1, if_neg n2, if_pos k1]
  tm_at "g"
  refine ge_callX D1 hr tk ?_
  tm_at "g"
  refine gv_con hM rM ?_
  tm_at "g"
  refine ⟨r, ws, 1, 2, mostP, rfl, memS mem0, wk, fun p hp => ?_, fun hp d M2 s2 => ⟨_, Sub.refl, tel 1 _ sub0 (by rw [e1, hp]) d _ s2⟩⟩
  rw [hp] at e1
  dsimp only at e1
  have p2 : 2 ≤ p := by
    obtain ⟨_, _, _, h, _⟩ := numW_some hp
    exact h
  tm_at "g"
  refine ge_callX D2 hr tk ?_
  tm_at "g"
  refine ⟨r, ws, 2, Str.ofString ":", rfl, memS mem0, wk, hst.2, fun k2 => ?_, fun k2 d M2 s2 => ⟨_, Sub.refl, tel 2 _ sub0 (by rw [e1, if_neg k2]) d _ s2⟩⟩
  rw [if_pos k2] at e1
  tm_at "g"
  refine ge_callX D3 hr tk ?_
  tm_at "g"
  refine ⟨r, ws, p, ws.length, rfl, memS mem0, wk, p2, by omega, fun n hn d M2 s2 => ⟨_, Sub.refl, tel n _ sub0 (by rw [e1, hn]) d _ s2⟩, fun rs hrs a ps M sM mA pp em => ?_⟩
  rw [hrs] at e1
  dsimp only at e1
  tm_at "g"
  obtain ⟨rle, rl⟩ := readRs_le hrs (fun r h => nomatch h) (by decide)
  have lps : ps.length = rs.length := by
    have h := congrArg List.length em
    rwa [List.length_map, List.length_map] at h
  have em' : ps.map (·.2) = castR rs := em
  refine ge_callFS hC M0.kp (fun _ => gf_lot la M0 R hr) ?_
  tm_at "g"
  refine ⟨a, prV ps, rfl, .inr mA, ?_⟩
  tm_at "g"
  refine ⟨p, ps, by rw [List.append_nil], pp, by omega, by omega, fun e0 he => ?_, fun x dx q' t few ob M2 sM2 at' frm hl => ?_⟩
  · have h : e0.2 ∈ castR rs := by rw [← em']; exact List.mem_map_of_mem he
    obtain ⟨r0, hr0, e2⟩ := List.mem_map.mp h
    have := rle r0 hr0
    rw [← e2]
    dsimp only
    omega
  rw [em'] at frm
  obtain ⟨q1, q2⟩ := q p rs e1
  have sA : Sub L M2 := Sub.trans sub0 (Sub.trans sM sM2)
  have mo := at'.o
  obtain ⟨cA, na1, na2, na3, na4⟩ := id la
  tm_at "g"
  refine ite_n (fun c => ?_) (fun c => ?_)
  · tm_at "g"
    refine gs_raise tk (gmk_err T.ck hr ?_ (by decide))
    tm_at "g"
    exact ⟨rfl, fun d => ⟨_, Sub.cons sA, q1 q' _ (by omega) frm c d _ Sub.refl⟩⟩
  · tm_at "g"
    exact ⟨_, Sub.refl, q2 x dx q' t few ob M2 sA at' frm hl (.inr c)⟩
/-- Lot.read -/
theorem run_Lot_read {f : Addr} {fd : FuncData} (F : Fun K "read" "Lot.read" s_Lot_read f fd) (args : List Value → Args)
    (hb : ∀ (kV doc pm : Value) (an : Option Addr) (cdv ct : Value) (us : List Value), us.length = 1 → bindArgs (PySem.W.fnOf "read" "Lot.read" (defArgs s_Lot_read) (defBody s_Lot_read) (defScope s_Lot_read) .none kV doc pm an cdv ct) (args us) = pure ((["text"] : List Str).zip us))
    (D1 : Fn P w K mg base (L2.CX P w) "read_lot" 7 (spReadLot K C Ct)) : RunG P w K mg base (L2.CX P w) 8 f args (toSp (spReadLot K C Ct)) := by
  refine run_raise F sc_Lot_read args id id (fun _ _ r => r) hb (by decide) (by tm_at "g_len") ?_
  intro X f cdv A outer s H E0 L vs Q E hX nd hr tk h
  subst hX
  obtain ⟨v, rfl, h⟩ := h
  show GSs _ (defBody s_Lot_read) (bodyD Q) [("text", some v)] L
  refine gss_cons ?_
  tm_at "g"
  refine ge_callX D1 hr tk ?_
  tm_at "g"
  refine ⟨v, rfl, ?_⟩
  rcases h with ⟨z, ws, rfl, hz, hs, wk, ne, e, q⟩ | ⟨hv, e⟩
  · refine .inl ⟨z, ws, rfl, hz, hs, wk, ne, fun k hk d M s => ⟨_, Sub.refl, e k hk d _ s⟩, fun p rs hrs => ⟨fun q' few n1 frm n d M s => ⟨_, Sub.refl, (q p rs hrs).1 q' few n1 frm n d _ s⟩, fun x dx q' t few ob M s at' frm hl hp => ?_⟩⟩
    exact ⟨_, Sub.refl, (q p rs hrs).2 x dx q' t few ob M s at' frm hl hp⟩
  · exact .inr ⟨hv, fun d M s => ⟨_, Sub.refl, e d _ s⟩⟩
end
section
open Lt
variable {P : Program} {w : World} {K : PySem.W.Frag} {mg : Str → Option Value} {base : Heap} {C : Addr}
/-- a drawn row of runs: the pen ahead, then the new things -/
def spRuns : SpL := fun vs L Q _ => ∃ (p c : Addr) (ns : List Int) (n m d : Int) (R : Lg), vs = [.ref p, .int d] ∧ Sub ((p, penO c n m) :: (c, celO ns) :: R) L ∧ ns.length ≤ 63 ∧ 0 ≤ n ∧ n + 20 ≤ 100000 ∧ 0 ≤ m ∧ 1 ≤ d ∧ d ≤ 1000000 ∧
  ∀ (f : Addr) (ps : List Pr2) n' m' R', Sub R R' → (f, HO.lst (prV ps)) ∈ R' → Prs2 ps R' → ps.length ≤ 4 → (∀ e ∈ ps, e.2.1 ≤ e.2.2 ∧ -d ≤ e.2.1 ∧ e.2.1 ≤ 2 * d ∧ e.2.2 ≤ e.2.1 + d + 2) → 0 ≤ n' → n' ≤ n + 20 → 0 ≤ m' → Q (.ref f) ((p, penO c n' m') :: (c, celO ns) :: R')
theorem fn_law_runs (B : Bi mg) (F : Df K mg "_law_runs" s_law_runs) (D1 : Fn P w K mg base CX0 "_law_draw" 1 spDraw) (D2 : Fn P w K mg base CX0 "_law_pick" 2 spPick) : Fn P w K mg base CX0 "_law_runs" 3 spRuns := by
  refine fn_plain F sc_law_runs (fun _ _ _ _ _ _ us hl => match us, hl with | [_, _], _ => rfl) (by decide) (by tm_at "g_len") ?_
  intro X f cdv A outer s H E0 L vs Q E hX nd hr h
  subst hX
  obtain ⟨p, c, ns, n, m, d, R, rfl, sb, h63, n0, n1, m0, d1, d2, q⟩ := h
  refine GSs.sub sb ?_
  show GSs _ (defBody s_law_runs) (bodyD Q) [("_law_pen_here", some (.ref p)), ("_law_period", some (.int d)), ("_law_found", none), ("_law_turn", none), ("_law_begin", none)] _
  refine gss_cons ?_
  tm_at "g"
  refine gs_for (gi_range1 ?_ B.range)
  tm_at "g"
  tm_at "g_draw"
  intro j n2 m2 j0 j1 a0 a1 a2
  tm_at "g"
  refine ⟨⟨by omega, by omega⟩, fun i θ N => ∃ (u v : Option V) (ps : List Pr2) (n' m' : Int) (f : Addr) (R' : Lg), θ = ([("_law_pen_here", some (.ref p)), ("_law_period", some (.int d)), ("_law_found", some (.ref f)), ("_law_turn", u), ("_law_begin", v)] : En) ∧ Sub ((p, penO c n' m') :: (c, celO ns) :: (f, HO.lst (prV ps)) :: R') N ∧ Sub R R' ∧ Prs2 ps R' ∧ ps.length = i ∧ (∀ e ∈ ps, e.2.1 ≤ e.2.2 ∧ -d ≤ e.2.1 ∧ e.2.1 ≤ 2 * d ∧ e.2.2 ≤ e.2.1 + d + 2) ∧ 0 ≤ n' ∧ n' ≤ n + 1 + 4 * (i : Int) ∧ 0 ≤ m', ?_, fun _ _ _ _ _ _ => True.intro, ?_, ?_⟩
  · exact ⟨none, none, [], n2, m2, _, R, rfl, Sub.refl, Sub.refl, (fun e h => nomatch h), rfl, (fun e h => nomatch h), a0, by omega, a2⟩
  · rintro i x E1 θ N hi ⟨rfl, rfl⟩ ⟨u, v, ps, n3, m3, f, R', rfl, sb2, sR, hp, hl, hb, b0, b1, b2⟩
    dsimp only [List.nil_append] at hi ⊢
    have hi4 : i < 4 := by omega
    refine gg_name (by tm_at "g_pv") ?_
    refine GSs.sub sb2 ?_
    tm_at "g"
    refine ge_call (El := NoX) D1 hr passA ?_
    tm_at "g"
    refine go_mulS (.inl (by decide)) ?_
    tm_at "g"
    tm_at "g_dr"
    intro b n4 m4 b3 b4 c0 c1 c2
    tm_at "g"
    refine ge_call (El := NoX) D2 hr passA ?_
    tm_at "g"
    tm_at "g_draw"
    intro y n5 m5 y0 y1 d0 d1' d2'
    tm_at "g"
    tm_at "g_pk"
    intro k x n6 m6 hx f0 f1 f2
    obtain ⟨z, rfl, z0, z1⟩ : ∃ z : Int, x = .int z ∧ 0 ≤ z ∧ z ≤ d + 2 := by
      match k, hx with
      | 0, hx => cases hx; exact ⟨0, rfl, by omega, by omega⟩
      | 1, hx => cases hx; exact ⟨0, rfl, by omega, by omega⟩
      | 2, hx => cases hx; exact ⟨1, rfl, by omega, by omega⟩
      | 3, hx => cases hx; exact ⟨2, rfl, by omega, by omega⟩
      | 4, hx => cases hx; exact ⟨y, rfl, by omega, by omega⟩
      | k + 5, hx => cases hx
    tm_at "g"
    rename_i tp
    have hi5 : i < 4 := hi4
    refine ⟨_, _, ps ++ [(tp, (b - d, b - d + z))], n6, m6, f, (tp, HO.tup [.int (b - d), .int (b - d + z)]) :: R', rfl, ?_, Sub.trans sR Sub.drop, ?_, by rw [List.length_append, hl]; rfl, fun e he => ?_, f0, by omega, f2⟩
    · unfold prV
      rw [List.map_append]
      exact Sub.trans (Sub.perm (List.perm_middle (l₁ := [_, _, _]))) (Sub.sublist (.cons_cons _ (.cons_cons _ (.cons_cons _ (.cons _ (.refl _))))))
    · exact Prs2.snoc (hp.mono fun _ h => memS h) mem0
    · rcases List.mem_append.mp he with he | he
      · exact hb e he
      · rw [List.mem_singleton.mp he]
        refine ⟨?_, ?_, ?_, ?_⟩ <;> dsimp only <;> omega
  · rintro θ N ⟨u, v, ps, n3, m3, f, R', rfl, sb2, sR, hp, hl, hb, b0, b1, b2⟩
    have hl : ps.length = j.toNat := hl
    have b1 : n3 ≤ n + 1 + 4 * ((j.toNat : Nat) : Int) := b1
    tm_at "g"
    refine ⟨_, sb2, q f ps n3 m3 _ (Sub.trans sR Sub.drop) mem0 (hp.mono fun _ h => memS h) (by omega) hb b0 (by omega) b2⟩
end
section
open Lt
theorem gjs_str {X : Cx} {η : En} {e : Expr} {pos : Pos} {L : Lg} {acc : Str} {n k : Nat} {r : List Expr} {Q : Str → Lg → Prop} (ha : acc.length ≤ n) (hn : n + k ≤ 10000000) (h : GE X e η L fun x L1 => ∃ y : Str, x = .str y ∧ y.length ≤ k ∧ GJs X r η (acc ++ y) L1 Q) : GJs X (.FormattedValue e (-1) none pos :: r) η acc L Q :=
  ge_fmtS (h.imp fun x L1 ⟨y, ex, hy, q⟩ => ⟨y, ex, by rw [sizeLine_eq]; omega, _, rfl, by rw [sizeLine_eq, Str.length_append]; omega, q⟩)
variable {P : Program} {w : World} {K : PySem.W.Frag} {mg : Str → Option Value} {base : Heap} {C : Addr}
def runTxt (r : Rn) : Str := Str.empty ++ toString r.1 ++ " to " ++ toString r.2
def lotTxt (q : Int) (rs : List Rn) : Str := Str.empty ++ "modulo " ++ toString q ++ " : " ++ Txt.join " , " (rs.map runTxt)
theorem runTxt_len {r : Rn} (h1 : r.1.natAbs < 2 ^ 1920) (h2 : r.2.natAbs < 2 ^ 1920) : (runTxt r).length ≤ 4000 := by
  have a := int_text_len_1921 (log_lt h1)
  have b := int_text_len_1921 (log_lt h2)
  unfold runTxt
  rw [Str.length_append, Str.length_append, Str.length_append]
  have c : (" to " : Str).length = 4 := rfl
  have d : Str.empty.length = 0 := rfl
  omega
theorem sum_len {n : Nat} : ∀ {ys : List Str}, (∀ y ∈ ys, y.length ≤ n) → (ys.map (·.length)).sum ≤ ys.length * n
  | [], _ => by simp
  | y :: ys, h => by
    have a := h y (List.mem_cons_self)
    have b := sum_len (ys := ys) fun z hz => h z (List.mem_cons_of_mem _ hz)
    rw [List.map_cons, List.sum_cons, List.length_cons, Nat.add_mul, Nat.one_mul]
    omega
/-- the text of a lot in least form -/
def lotText (q : Int) (rs : List Rn) : Str := if rs = [] then Str.empty ++ "none" else if q = 1 then Str.empty ++ "every" else lotTxt q rs
def spLotStr (K : PySem.W.Frag) : SpL := fun vs L Q _ => ∃ (a C dx : Addr) (q : Int) (t : Addr) (few : List Pr2) (ob : Addr), vs = [.ref a] ∧ LotA K C ∧ LotAt C a dx q t few ob L ∧ few.length ≤ 2000 ∧ q.natAbs < 2 ^ 1920 ∧ (∀ e ∈ few, e.2.1.natAbs < 2 ^ 1920 ∧ e.2.2.natAbs < 2 ^ 1920) ∧ (Txt.join " , " ((few.map (·.2)).map runTxt)).length ≤ 5000000 ∧ Q (.str (lotText q (few.map (·.2)))) L
theorem run_Lot_str (B : Bi mg) {f : Addr} {fd : FuncData} (F : Fun K "__str__" "Lot.__str__" s_Lot_str f fd) : RunG P w K mg base CX0 1 f argsP (toSp (spLotStr K)) := by
  refine run_plain F sc_Lot_str argsP id id (fun _ _ r => r) (fun _ _ _ _ _ _ us hl => match us, hl with | [_], _ => rfl) (by decide) (by tm_at "g_len") ?_
  intro X f cdv A outer s H E0 L vs Q E hX nd hr h
  subst hX
  obtain ⟨a, C, dx, q', t, few, ob, rfl, ⟨c, n1, n2, n3, n4⟩, at', fl, hq, hb, jl, q⟩ := h
  have mo := at'.o
  have mt := at'.t
  show GSs _ (defBody s_Lot_str) (bodyD Q) [("self", some (.ref a)), ("words", none), ("run", none)] L
  refine gss_cons ?_
  tm_at "g"
  rw [prV_len]
  refine ite_d (fun z => ?_) (fun z => ?_)
  · have e0 : few = [] := List.length_eq_zero_iff.mp (by omega)
    subst e0
    tm_at "g"
    exact ⟨_, Sub.refl, q⟩
  have fne : few ≠ [] := fun e => z (by rw [e]; rfl)
  have fne2 : few.map (·.2) ≠ [] := fun e => fne (List.map_eq_nil_iff.mp e)
  tm_at "g"
  refine ite_d (fun z2 => ?_) (fun q1 => ?_)
  · subst z2
    tm_at "g"
    unfold lotText at q
    rw [if_neg fne2, if_pos rfl] at q
    exact ⟨_, Sub.refl, q⟩
  unfold lotText at q
  rw [if_neg fne2, if_neg q1] at q
  tm_at "g"
  refine ge_join ?_
  tm_at "g"
  refine ge_lcP (by tm_at "g_put") (gi_tuple ?_) (show blkC N_Lot_str (defScope s_Lot_str) _ [(_, List.idxOf _ N_Lot_str)] = true by decide +kernel)
  tm_at "g"
  refine pure_rowPr (t := fun _ => true) (g := fun e => .str (runTxt e.2)) mt (by omega) (fun e he D acc s1 H1 C1 cl1 fp1 => ?_) fun D2 => ?_
  · have me := at'.ps e he
    obtain ⟨e1, e2⟩ := hb e he
    refine gts_nil ⟨rfl, Sub.refl, fun _ s2 H2 C2 cl2 fp2 => ?_⟩
    refine ge_joined (gjs_int (n := 0) (Nat.le_refl _) (by decide) ?_)
    tm_at "g"
    refine ⟨e1, fun l1 => gjs_lit l1 (by decide) fun l2 => gjs_int l2 (by decide) ?_⟩
    tm_at "g"
    refine ⟨e2, fun l3 => gjs_nil ?_⟩
    exact ⟨rfl, Sub.refl⟩
  rw [List.filter_eq_self.mpr fun _ _ => rfl]
  have le : ((few.map (·.2)).map runTxt).length = few.length := by simp
  refine ⟨D2, (few.map (·.2)).map runTxt, rfl, by rw [List.map_map, List.map_map]; exact mem0, ?_, ?_⟩
  · have := sum_len (n := 4000) (ys := (few.map (·.2)).map runTxt) fun y hy => by
      obtain ⟨r, hr, rfl⟩ := List.mem_map.mp hy
      obtain ⟨e, he, rfl⟩ := List.mem_map.mp hr
      exact runTxt_len (hb e he).1 (hb e he).2
    rw [le] at this ⊢
    have l3 : (Str.ofString " , ").length = 3 := rfl
    rw [l3]
    omega
  tm_at "g"
  refine ge_joined (gjs_lit (n := 0) (Nat.le_refl _) (by decide) fun a1 => gjs_int a1 (by decide) ?_)
  tm_at "g"
  refine ⟨hq, fun a2 => gjs_lit a2 (by decide) fun a3 => gjs_str (k := 5000000) a3 (by decide) ?_⟩
  tm_at "g"
  refine ⟨jl, gjs_nil ?_⟩
  exact ⟨_, Sub.drop, q⟩
end
section
open Tx
abbrev nTxt (n : Nat) : Str := Str.ofString (toString ((n : Nat) : Int))
theorem nTxt_len (n : Nat) : (nTxt n).length = (TL.numL n).length := by
  rw [TL.len_tl]
  exact congrArg List.length (TL.tl_num n)
theorem sok_tl {z : Str} : PyData.strOk z = true ↔ ∀ c ∈ TL.tl z, c < 0x110000 := by
  unfold PyData.strOk
  rw [← Array.all_toList, List.all_eq_true]
  exact ⟨fun h c hc => of_decide_eq_true (h c hc), fun h c hc => decide_eq_true (h c hc)⟩
variable {P : Program} {w : World} {K : PySem.W.Frag} {mg : Str → Option Value} {base : Heap}
theorem digits_lt : ∀ {k : Nat} {cs : List Nat}, cs.length = k → (∀ c ∈ cs, isFig c = true) → NumText.digitsVal cs < 10 ^ k
  | 0, cs, h, _ => by
    rw [List.length_eq_zero_iff.mp h]
    decide
  | k + 1, cs, h, hf => by
    rcases List.eq_nil_or_concat cs with rfl | ⟨ds, c, rfl⟩
    · cases h
    · rw [List.concat_eq_append] at h hf ⊢
      rw [List.length_append, List.length_singleton] at h
      have ih := digits_lt (k := k) (cs := ds) (by omega) fun x hx => hf x (List.mem_append.mpr (.inl hx))
      have hc := hf c (by simp)
      have hc2 : c - 48 ≤ 9 := by
        have := (isFig_iff (c := c)).mp hc
        omega
      rw [NumText.digitsVal_snoc, Nat.pow_succ]
      omega
/-- a word of figures that stands for its number alone -/
theorem numS_own {z : Str} {l m : Nat} (c1 : 1 ≤ z.length) (c2 : z.length ≤ 120) (c3 : z.cps.toList.all isFig = true) : (numS z l m).isSome = (decide (nTxt (NumText.digitsVal z.cps.toList) = z) && decide (l ≤ NumText.digitsVal z.cps.toList ∧ NumText.digitsVal z.cps.toList ≤ m)) := by
  by_cases h0 : z.cps.toList.head? = some 48 ∧ 1 < z.length
  · have e : wholeS z = none := by
      unfold wholeS
      rw [if_pos ⟨c1, c2, c3⟩, if_pos h0]
    have ne : nTxt (NumText.digitsVal z.cps.toList) ≠ z := fun e2 => by
      have hw : wholeS (nTxt (NumText.digitsVal z.cps.toList)) = some (NumText.digitsVal z.cps.toList) := whole_num (by rw [← nTxt_len, e2]; exact c2)
      rw [e2, e] at hw
      cases hw
    unfold numS
    rw [e, decide_eq_false ne]
    rfl
  · have e : wholeS z = some (NumText.digitsVal z.cps.toList) := by
      unfold wholeS
      rw [if_pos ⟨c1, c2, c3⟩, if_neg h0]
    have eq : nTxt (NumText.digitsVal z.cps.toList) = z := (whole_text e).symm
    unfold numS
    rw [e, decide_eq_true eq, Bool.true_and]
    show (if l ≤ _ ∧ _ ≤ m then some _ else none).isSome = _
    split
    · rename_i h
      exact (decide_eq_true h).symm
    · rename_i h
      exact (decide_eq_false h).symm
def spIsNum : SpL := fun vs L Q _ => ∃ (z : Str) (l m : Nat), vs = [.str z, .int (l : Nat), .int (m : Nat)] ∧ z.length ≤ 100000 ∧ PyData.strOk z = true ∧ Q (.bl (numS z l m).isSome) L
theorem fn_law_is_number (B : Bi mg) (F : Df K mg "_law_is_number" s_law_is_number) : Fn P w K mg base CX0 "_law_is_number" 2 spIsNum := by
  refine fn_plain F sc_law_is_number (fun _ _ _ _ _ _ us hl => match us, hl with | [_, _, _], _ => rfl) (by decide) (by tm_at "g_len") ?_
  intro X f cdv A outer s H E0 L vs Q E hX nd hr h
  subst hX
  obtain ⟨z, l, m, rfl, hz, so, q⟩ := h
  show GSs _ (defBody s_law_is_number) (bodyD Q) [("_law_word", some (.str z)), ("_law_low", some (.int (l : Nat))), ("_law_high", some (.int (m : Nat))), ("_law_sign", none)] _
  refine gss_cons ?_
  tm_at "g"
  refine go_eqV rfl ?_
  by_cases z0 : z = Str.ofString ""
  · subst z0
    rw [show decide (V.str (Str.ofString "") = V.str (Str.ofString "")) = true from by decide]
    tm_at "g"
    refine ⟨_, Sub.refl, ?_⟩
    rw [show (numS (Str.ofString "") l m).isSome = false from rfl] at q
    exact q
  rw [decide_eq_false (show ¬ V.str z = V.str (Str.ofString "") from fun e => z0 (V.str.inj e))]
  tm_at "g"
  refine gc_lenS (szL (by omega)) ?_
  tm_at "g"
  have no : wholeS z = none → (numS z l m).isSome = false := fun e => by unfold numS; rw [e]; rfl
  refine ite_d (fun c2 => ?_) (fun c2 => ?_)
  · rw [no (by unfold wholeS; rw [if_neg fun h => by have := h.2.1; omega])] at q
    tm_at "g"
    exact ⟨_, Sub.refl, q⟩
  tm_at "g"
  refine ge_lcP (by tm_at "g_put") (gi_str ?_) (show blkC N_law_is_number (defScope s_law_is_number) _ [(_, List.idxOf _ N_law_is_number)] = true by decide +kernel)
  tm_at "g"
  refine pure_str (t := fun c => !isFig c) (g := fun c => .str ⟨#[c]⟩) (z := z) (by omega) (fun c hc D acc s1 H1 C1 cl1 fp1 => ?_) fun D => ?_
  · show GT _ _ _ _ _
    tm_at "g"
    refine go_notInS ?_
    exact ⟨_, rfl, rfl, Sub.refl, fun _ s2 H2 C2 cl2 fp2 => ge_var (by tm_at "g_at") ⟨rfl, Sub.refl⟩⟩
  have oks : ∀ (f : Nat → Bool), ∀ s ∈ (z.cps.toList.filter f).map (fun c => (⟨#[c]⟩ : Str)), PyData.strOk s = true := fun f s hs => by
    obtain ⟨c, hc, rfl⟩ := List.mem_map.mp hs
    rw [sok_tl]
    intro c' hc'
    obtain rfl : c' = c := List.mem_singleton.mp hc'
    exact sok_tl.mp so c' (List.mem_filter.mp hc).1
  have em : (z.cps.toList.filter fun c => !isFig c).map (fun c => V.str ⟨#[c]⟩) = ((z.cps.toList.filter fun c => !isFig c).map (fun c => (⟨#[c]⟩ : Str))).map V.str := by rw [List.map_map]; rfl
  rw [em]
  tm_at "g"
  refine go_neLS (ms := []) hr (by tm_at "g_mem") mem0 rfl rfl (oks _) (fun _ z => nomatch z) ?_
  cases c3 : z.cps.toList.all isFig with
  | false =>
    have ne : ¬ (z.cps.toList.filter fun c => !isFig c).map (fun c => (⟨#[c]⟩ : Str)) = [] := fun e => by
      have e2 : (z.cps.toList.filter fun c => !isFig c) = [] := List.map_eq_nil_iff.mp e
      rw [List.filter_eq_nil_iff] at e2
      have : z.cps.toList.all isFig = true := List.all_eq_true.mpr fun c hc => by
        have := e2 c hc
        simpa using this
      rw [c3] at this
      cases this
    rw [decide_eq_false ne]
    rw [no (by unfold wholeS; rw [if_neg fun h => by rw [c3] at h; exact absurd h.2.2 (by decide)])] at q
    tm_at "g"
    exact ⟨_, by tm_at "g_end", q⟩
  | true =>
    have yes : (z.cps.toList.filter fun c => !isFig c).map (fun c => (⟨#[c]⟩ : Str)) = [] := by
      rw [List.map_eq_nil_iff, List.filter_eq_nil_iff]
      intro c hc
      have := List.all_eq_true.mp c3 c hc
      simp [this]
    rw [decide_eq_true yes]
    tm_at "g"
    obtain ⟨c0, r, er⟩ : ∃ a r, z.cps.toList = a :: r := by
      cases e : z.cps.toList with
      | nil => exact absurd (TL.ext_tl (x := z) (y := Str.ofString "") (show z.cps.toList = _ by rw [e]; rfl)) z0
      | cons a r => exact ⟨a, r, rfl⟩
    have dg : NumText.AllDigits z.cps.toList := all_fig.mp c3
    have ne : z.cps.toList ≠ [] := fun e => by rw [er] at e; cases e
    have zl1 : 1 ≤ z.length := by rw [len_cps, er]; simp
    rw [numS_own zl1 (by omega) c3] at q
    have dsm : ((NumText.digitsVal z.cps.toList : Nat) : Int).natAbs < 2 ^ 1920 := by
      rw [Int.natAbs_natCast]
      have h1 := digits_lt (k := z.length) (len_cps z).symm (List.all_eq_true.mp c3)
      have h2 : (10 : Nat) ^ z.length ≤ 10 ^ 120 := Nat.pow_le_pow_right (by decide) (by omega)
      have h3 : (10 : Nat) ^ 120 ≤ 2 ^ (4 * 120) := by
        rw [Nat.pow_mul]
        exact Nat.pow_le_pow_left (by decide) 120
      exact Nat.lt_of_lt_of_le h1 (Nat.le_trans h2 (Nat.le_trans h3 (Nat.pow_le_pow_right (by decide) (by decide))))
    have iz := PySem.intText_digits dg ne (by have := len_cps z; omega)
    refine gc_intS iz (by omega) ?_
    tm_at "g"
    refine gc_strI dsm ?_
    tm_at "g"
    refine go_eqV rfl ?_
    have ed : decide (V.str (nTxt (NumText.digitsVal z.cps.toList)) = V.str z) = decide (nTxt (NumText.digitsVal z.cps.toList) = z) := by
      rw [decide_eq_decide]
      exact ⟨fun e => V.str.inj e, fun e => by rw [e]⟩
    rw [ed]
    cases hq : decide (nTxt (NumText.digitsVal z.cps.toList) = z) with
    | false =>
      rw [hq, Bool.false_and] at q
      tm_at "g"
      exact ⟨_, by tm_at "g_end", q⟩
    | true =>
      rw [hq, Bool.true_and] at q
      tm_at "g"
      refine gc_intS iz (by omega) ?_
      tm_at "g"
      refine ite_d (fun y3 => ?_) (fun y3 => ?_)
      · tm_at "g"
        rw [show decide (l ≤ NumText.digitsVal z.cps.toList ∧ NumText.digitsVal z.cps.toList ≤ m) = decide (((NumText.digitsVal z.cps.toList : Nat) : Int) ≤ (m : Nat)) by rw [decide_eq_decide]; exact ⟨fun h => by omega, fun h => ⟨by omega, by omega⟩⟩] at q
        exact ⟨_, by tm_at "g_end", q⟩
      · rw [decide_eq_false fun h => y3 (by omega)] at q
        exact ⟨_, by tm_at "g_end", q⟩
end
namespace Tx
open PySem NumText L2 TL
def wdAt (ws : List Str) (i : Nat) : Str := (ws[i]?).getD (Str.ofString "")
theorem wdAt_lt {ws : List Str} {i : Nat} {z : Str} (h : ws[i]? = some z) : wdAt ws i = z := by unfold wdAt; rw [h]; rfl
theorem wdAt_ge {ws : List Str} {i : Nat} (h : ¬ i < ws.length) : wdAt ws i = Str.ofString "" := by unfold wdAt; rw [List.getElem?_eq_none (by omega)]; rfl
theorem wdAt_wd {ws : List Str} {i : Nat} (h : ∀ z ∈ ws, z.length ≤ 100000 ∧ PyData.strOk z = true) : (wdAt ws i).length ≤ 100000 ∧ PyData.strOk (wdAt ws i) = true := by
  by_cases c : i < ws.length
  · rw [wdAt_lt (List.getElem?_eq_getElem c)]
    exact h _ (List.getElem_mem c)
  · rw [wdAt_ge c]
    decide +kernel
theorem wdAt_eq {ws : List Str} {i : Nat} {z : Str} (hz : z ≠ Str.ofString "") : wdAt ws i = z ↔ ws[i]? = some z := by
  refine ⟨fun h => ?_, wdAt_lt⟩
  by_cases c : i < ws.length
  · rw [wdAt_lt (List.getElem?_eq_getElem c)] at h
    rw [List.getElem?_eq_getElem c, h]
  · rw [wdAt_ge c] at h
    exact absurd h.symm hz
theorem wdAt_num {ws : List Str} {i l m : Nat} : numS (wdAt ws i) l m = numW ws i l m := by
  unfold numW
  cases h : ws[i]? with
  | some z => rw [wdAt_lt h]; rfl
  | none =>
    rw [wdAt_ge (by have := List.getElem?_eq_none_iff.mp h; omega)]
    rfl
/-- three words, empty ones behind the last -/
abbrev row3 (ws : List Str) (j : Nat) : List Str := (ws.drop j).take 3 ++ List.replicate 3 (Str.ofString "")
theorem row3_at {ws : List Str} {j i : Nat} (hi : i < 3) : (row3 ws j)[i]? = some (wdAt ws (j + i)) := by
  unfold wdAt
  by_cases c : j + i < ws.length
  · rw [List.getElem?_append_left (by rw [List.length_take, List.length_drop]; omega), List.getElem?_take_of_lt hi, List.getElem?_drop, List.getElem?_eq_getElem c]
    rfl
  · rw [List.getElem?_append_right (by rw [List.length_take, List.length_drop]; omega), List.length_take, List.length_drop, List.getElem?_eq_none (l := ws) (by omega), List.getElem?_replicate, if_pos (by omega)]
    rfl
theorem intText_whole {z : Str} {n : Nat} (h : wholeS z = some n) : PySem.intText? z = some (n : Int) ∧ z.length ≤ 120 := by
  unfold wholeS at h
  split at h
  · rename_i c
    split at h
    · cases h
    · cases h
      have dg : NumText.AllDigits z.cps.toList := all_fig.mp c.2.2
      have ne : z.cps.toList ≠ [] := fun e => by
        have := len_cps z
        rw [e] at this
        have h1 := c.1
        simp at this
        omega
      exact ⟨PySem.intText_digits dg ne (by have := len_cps z; omega), c.2.1⟩
  · cases h
end Tx
section
open Tx
variable {P : Program} {w : World} {K : PySem.W.Frag} {mg : Str → Option Value} {base : Heap}
theorem GAsubr {X : Cx} {es : List Expr} {η : En} {L M : Lg} {Q : List V → Lg → Prop} (s : Sub M L) (h : GA X es η M Q) : GA X es η L Q := fun hN H hH => h hN H (s.has H hH)
theorem at_snocR {xs : List V} {v : V} : atI (xs ++ [v]) (-1) = some v := at_snoc
theorem cut_3 {xs : List V} {k : Nat} : cutV xs (some (k : Int)) (some ((k : Int) + 3)) = (xs.drop k).take 3 := by
  unfold cutV
  rw [show ((k : Int) + 3) = ((k + 3 : Nat) : Int) from rfl, HT.sIx_nat, HT.sIx_nat]
  rcases Nat.le_total k xs.length with c | c
  · rw [Nat.min_eq_left c, List.take_eq_take_iff, List.length_drop]
    omega
  · rw [Nat.min_eq_right c, List.drop_length, List.drop_eq_nil_of_le c]
    simp
def spRunsWrong : SpL := fun vs L Q _ => ∃ (r : Addr) (ws : List Str) (p : Nat), vs = [.ref r, .int (p : Nat)] ∧ (r, strsO ws) ∈ L ∧ ws.length ≤ 4000 ∧ (∀ z ∈ ws, z.length ≤ 100000 ∧ PyData.strOk z = true) ∧ 2 ≤ p ∧
  ∀ (t f : Addr) (x : V) (ps : List Pr2) (M : Lg), Sub L M → (t, HO.tup [x, .ref f]) ∈ M → (f, HO.lst (prV ps)) ∈ M → Prs2 ps M → (∀ e, readRs ws p (ws.length + 1) 3 [] = .inl e → x = .int (e : Nat)) → (∀ rs, readRs ws p (ws.length + 1) 3 [] = .inr rs → x = .non ∧ ps.map (·.2) = castR rs) → Q (.ref t) M
theorem fn_law_runs_wrong (B : Bi mg) (F : Df K mg "_law_runs_wrong" s_law_runs_wrong) (D1 : Fn P w K mg base CX0 "_law_is_number" 2 spIsNum) : Fn P w K mg base CX0 "_law_runs_wrong" 3 spRunsWrong := by
  refine fn_plain F sc_law_runs_wrong (fun _ _ _ _ _ _ us hl => match us, hl with | [_, _], _ => rfl) (by decide) (by tm_at "g_len") ?_
  intro X f cdv A outer s H E0 L vs Q E hX nd hr h
  subst hX
  obtain ⟨r, ws, p, rfl, mr, wl, wd, p2, q⟩ := h
  show GSs _ (defBody s_law_runs_wrong) (bodyD Q) [("_law_words", some (.ref r)), ("_law_period", some (.int (p : Nat))), ("_law_found", none), ("_law_at", none), ("_law_row", none), ("_law_begin", none), ("_law_first", none)] L
  refine gss_ndM fun ndL => ?_
  refine gss_cons ?_
  tm_at "g"
  rename_i fl
  refine gs_while (fun k θ N => ∃ (j f : Nat) (u1 u2 u3 : Option V) (ps : List Pr2) (rs : List NR) (R' : Lg), θ = ([("_law_words", some (.ref r)), ("_law_period", some (.int (p : Nat))), ("_law_found", some (.ref fl)), ("_law_at", some (.int (j : Nat))), ("_law_row", u1), ("_law_begin", u2), ("_law_first", u3)] : En) ∧ Sub ((fl, HO.lst (prV ps)) :: R') N ∧ Sub L R' ∧ Prs2 ps R' ∧ ps.map (·.2) = castR rs ∧ k = f + 1 ∧ ws.length ≤ j + f ∧ readRs ws p (f + 1) j rs = readRs ws p (ws.length + 1) 3 [] ∧ j = 3 + 4 * rs.length) (ws.length + 1) ⟨3, ws.length, none, none, none, [], [], L, rfl, Sub.refl, Sub.refl, (fun e h => nomatch h), rfl, rfl, by omega, rfl, rfl⟩ ?_
  rintro k θ N ⟨j, f, u1, u2, u3, ps, rs, R', rfl, sb, sL, pp, em, rfl, hf, er, hj⟩
  refine gt_subM sb ?_
  refine gt_ndM fun ndN => ?_
  have ndR := (List.nodup_cons.mp ndN).2
  have mr2 : (r, strsO ws) ∈ R' := (sL.to ndR).2 _ mr
  have lps : ps.length = rs.length := by
    have h := congrArg List.length em
    unfold castR at h
    rwa [List.length_map, List.length_map] at h
  have n2000 : j + 3 < ws.length → ¬ rs.length + 1 = 2000 := fun h h2 => by omega
  have fin : ∀ (t : Addr) (e : Nat) (M : Lg), Sub ((fl, HO.lst (prV ps)) :: R') M → (∀ e ∈ (fl, HO.lst (prV ps)) :: R', e ∈ M) → (t, HO.tup [.int (e : Nat), .ref fl]) ∈ M → readRs ws p (f + 1) j rs = .inl e → Q (.ref t) M := fun t e M s up m h => by
    refine q t fl _ ps M (Sub.trans (Sub.trans sL Sub.drop) s) m (up _ mem0) (pp.mono fun _ h => up _ (memS h)) (fun e' h' => ?_) fun rs' h' => ?_
    · cases (er.symm.trans h).symm.trans h'
      rfl
    · cases (er.symm.trans h).symm.trans h'
  tm_at "g"
  refine ⟨r, ws.map V.str, rfl, ?_⟩
  show GE _ _ _ _ _
  tm_at "g"
  show GE _ _ _ _ _
  tm_at "g"
  refine ⟨fun H hH => sql hH (by tm_at "g_mem"), fun q1 => ?_⟩
  rw [cut_3]
  tm_at "g"
  refine go_rep mem0 (by decide) (by decide) (szL (by decide)) fun q2 => ?_
  refine go_cat (by tm_at "g_mem") mem0 (szL (by simp only [List.length_take, List.length_drop, List.length_map, List.length_flatten, List.length_replicate]; simp; omega)) fun q3 => ?_
  rw [show List.take 3 (List.drop j (ws.map V.str)) ++ (List.replicate (3 : Int).toNat [V.str (Str.ofString "")]).flatten = (row3 ws j).map V.str by
    rw [List.map_append, List.map_take, List.map_drop]; rfl]
  show GSs _ _ _ _ _
  refine (fun h => GSs.sub (M := (q3, strsO (row3 ws j)) :: (fl, HO.lst (prV ps)) :: R') ?_ h) ?_
  · tm_at "g_end"
  have w0 : atI ((row3 ws j).map V.str) (0 : Int) = some (.str (wdAt ws j)) := words_at (i := 0) (row3_at (ws := ws) (j := j) (i := 0) (by decide))
  have w1 := words_at (row3_at (ws := ws) (j := j) (i := 1) (by decide))
  have w2 := words_at (row3_at (ws := ws) (j := j) (i := 2) (by decide))
  refine gss_cons ?_
  tm_at "g"
  refine ge_call (El := NoX) D1 hr passA ?_
  refine ga_cons ?_
  refine GE.imp (Q := fun v L' => v = .str (wdAt ws j) ∧ L' = (q3, strsO (row3 ws j)) :: (fl, HO.lst (prV ps)) :: R') ?_ ?_
  · tm_at "g"
    refine gi_lst mem0 w0 ?_
    exact ⟨rfl, rfl⟩
  rintro v L' ⟨rfl, rfl⟩
  refine ga_cons ?_
  refine GE.imp (Q := fun v L' => v = .int (leastR rs : Nat) ∧ Sub ((q3, strsO (row3 ws j)) :: (fl, HO.lst (prV ps)) :: R') L') ?_ ?_
  · tm_at "g"
    refine go_nePN (ps := ps) hr (by tm_at "g_mem") mem0 rfl (fun e0 he => by repeat (first | exact pp e0 he | apply memS)) ?_
    rcases List.eq_nil_or_concat ps with rfl | ⟨ps', e0, rfl⟩
    · have hr0 : rs = [] := List.length_eq_zero_iff.mp (by rw [← lps]; rfl)
      subst hr0
      rw [show (!([] : List Pr2).isEmpty) = false from rfl]
      tm_at "g"
      exact ⟨rfl, Sub.drop⟩
    · rcases List.eq_nil_or_concat rs with rfl | ⟨rs', r0, rfl⟩
      · exact absurd lps (by simp)
      · simp only [List.concat_eq_append] at em lps pp ⊢
        have ee : e0.2 = ((r0.1 : Int), (r0.2 : Int)) := by
          unfold castR at em
          rw [List.map_append, List.map_append] at em
          have := (List.append_inj' em rfl).2
          exact (List.cons.inj this).1
        have me := pp e0 (by simp)
        rw [show (!(ps' ++ [e0]).isEmpty) = true by cases ps' <;> rfl]
        tm_at "g"
        refine gi_lst (memS (memS mem0)) (by rw [show prV (ps' ++ [e0]) = prV ps' ++ [V.ref e0.1] by simp]; exact at_snocR) ?_
        tm_at "g"
        refine ⟨?_, Sub.drop⟩
        have el : leastR (rs' ++ [r0]) = r0.2 + 2 := by unfold leastR; rw [List.getLast?_concat]
        rw [el, ee]
        rfl
  rintro v L' ⟨rfl, s5⟩
  refine GAsubr s5 ?_
  tm_at "g"
  have z0 := wdAt_wd (i := j) wd
  have z1 := wdAt_wd (i := j + 1) wd
  have z2 := wdAt_wd (i := j + 2) wd
  refine ⟨wdAt ws j, leastR rs, p - 1, by rw [show ((p : Nat) : Int) - 1 = ((p - 1 : Nat) : Int) by omega], z0.1, z0.2, ?_⟩
  rw [wdAt_num]
  cases hb : numW ws j (leastR rs) (p - 1) with
  | none =>
    refine ⟨_, rfl, ite_t ?_⟩
    tm_at "g"
    exact ⟨_, Sub.refl, fin _ j _ (Sub.trans Sub.drop Sub.drop) (fun e he => memS (memS he)) mem0 (rs_0 hb)⟩
  | some b =>
    obtain ⟨zb, hzb, hwb, hb1, hb2⟩ := numW_some hb
    have ib := intText_whole (show wholeS (wdAt ws j) = some b by rw [wdAt_lt hzb]; exact hwb)
    refine ⟨_, rfl, ite_f ?_⟩
    tm_at "g"
    refine gi_lst mem0 w0 ?_
    tm_at "g"
    refine gc_intS ib.1 (by omega) ?_
    tm_at "g"
    refine gi_lst mem0 w1 ?_
    tm_at "g"
    refine go_neV rfl ?_
    have et : decide (V.str (wdAt ws (j + 1)) = V.str (Str.ofString "to")) = decide (ws[j + 1]? = some toS) := by
      rw [decide_eq_decide]
      exact ⟨fun e => (wdAt_eq (by decide)).mp (V.str.inj e), fun e => congrArg V.str ((wdAt_eq (by decide)).mpr e)⟩
    rw [et]
    refine ⟨_, rfl, ite_n (fun k1 => ?_) (fun k1 => ?_)⟩
    · tm_at "g"
      rw [show ((j : Nat) : Int) + 1 = ((j + 1 : Nat) : Int) from rfl]
      exact ⟨_, Sub.refl, fin _ (j + 1) _ (Sub.trans Sub.drop Sub.drop) (fun e he => memS (memS he)) mem0 (rs_1 hb k1)⟩
    refine gss_nil ?_
    show GSs _ _ _ _ _
    refine gss_cons ?_
    refine gs_set (by tm_at "g_put") ?_
    refine GE.imp (Q := fun v L' => v = .int (firstR rs b : Nat) ∧ Sub ((q3, strsO (row3 ws j)) :: (fl, HO.lst (prV ps)) :: R') L') ?_ ?_
    · tm_at "g"
      refine go_nePN (ps := ps) hr (by tm_at "g_mem") mem0 rfl (fun e0 he => by repeat (first | exact pp e0 he | apply memS)) ?_
      cases ps with
      | nil =>
        have hr0 : rs = [] := List.length_eq_zero_iff.mp (by rw [← lps]; rfl)
        subst hr0
        rw [show (!([] : List Pr2).isEmpty) = false from rfl]
        tm_at "g"
        exact ⟨rfl, Sub.drop⟩
      | cons e0 ps' =>
        cases rs with
        | nil => exact absurd lps (by simp)
        | cons r0 rs' =>
          have ee : e0.2 = ((r0.1 : Int), (r0.2 : Int)) := (List.cons.inj em).1
          have me := pp e0 List.mem_cons_self
          rw [show (!(e0 :: ps').isEmpty) = true from rfl]
          tm_at "g"
          refine gi_lst (i := 0) (memS (memS mem0)) (atI_nat (j := 0) rfl) ?_
          tm_at "g"
          refine ⟨?_, Sub.drop⟩
          show V.int e0.2.1 = V.int ((firstR (r0 :: rs') b : Nat) : Int)
          rw [ee]
          rfl
    rintro v L' ⟨rfl, s6⟩
    show GSs _ _ _ _ _
    refine (fun h => GSs.sub s6 h) ?_
    tm_at "g"
    refine ge_call (El := NoX) D1 hr passA ?_
    tm_at "g"
    refine gi_lst mem0 w2 ?_
    tm_at "g"
    refine ⟨wdAt ws (j + 2), b, firstR rs b + p - 2, by rw [show ((firstR rs b : Nat) : Int) + ((p : Nat) : Int) - 2 = ((firstR rs b + p - 2 : Nat) : Int) by omega], z2.1, z2.2, ?_⟩
    rw [wdAt_num]
    cases he : numW ws (j + 2) b (firstR rs b + p - 2) with
    | none =>
      refine ⟨_, rfl, ite_t ?_⟩
      tm_at "g"
      rw [show ((j : Nat) : Int) + 2 = ((j + 2 : Nat) : Int) from rfl]
      exact ⟨_, Sub.refl, fin _ (j + 2) _ (Sub.trans Sub.drop Sub.drop) (fun e he => memS (memS he)) mem0 (rs_2 hb k1 he)⟩
    | some e2 =>
      obtain ⟨ze, hze, hwe, he1, he2'⟩ := numW_some he
      have ie := intText_whole (show wholeS (wdAt ws (j + 2)) = some e2 by rw [wdAt_lt hze]; exact hwe)
      refine ⟨_, rfl, ite_f ?_⟩
      tm_at "g"
      refine gi_lst mem0 w2 ?_
      tm_at "g"
      refine gc_intS ie.1 (by omega) ?_
      tm_at "g"
      rename_i tq
      have hjw : j < ws.length := (List.getElem?_eq_some_iff.mp hzb).1
      refine ⟨prV ps, _, by tm_at "g_mem", szL (show (prV ps).length + 1 ≤ 16777216 by rw [prV_len]; omega), by tm_at "g_swap", ?_⟩
      tm_at "g"
      have epv : prV ps ++ [V.ref tq] = prV (ps ++ [(tq, ((b : Int), (e2 : Int)))]) := by simp
      have pp2 : Prs2 (ps ++ [(tq, ((b : Int), (e2 : Int)))]) ((tq, HO.tup [.int (b : Nat), .int (e2 : Nat)]) :: R') := Prs2.snoc (pp.mono fun _ h => memS h) mem0
      have em2 : (ps ++ [(tq, ((b : Int), (e2 : Int)))]).map (·.2) = castR (rs ++ [(b, e2)]) := by
        unfold castR at em ⊢
        rw [List.map_append, List.map_append, em]
        rfl
      have sL2 : Sub L ((tq, HO.tup [.int (b : Nat), .int (e2 : Nat)]) :: R') := Sub.trans sL Sub.drop
      rw [List.length_map]
      rw [epv]
      have pp3 : ∀ {M : Lg}, (tq, HO.tup [.int (b : Nat), .int (e2 : Nat)]) ∈ M → (∀ e ∈ R', e ∈ M) → Prs2 (ps ++ [(tq, ((b : Int), (e2 : Int)))]) M := fun m u => pp2.mono fun e he => by
        rcases List.mem_cons.mp he with rfl | he
        · exact m
        · exact u e he
      refine ite_d (fun c3 => ?_) (fun c3 => ?_)
      · tm_at "g"
        have en := er.symm.trans (rs_end hb k1 he (by omega))
        refine ⟨_, Sub.refl, q _ fl .non (ps ++ [(tq, ((b : Int), (e2 : Int)))]) _ (Sub.trans sL (Sub.trans Sub.drop (Sub.trans Sub.drop (Sub.trans Sub.drop Sub.drop)))) mem0 (memS (memS (memS mem0))) (pp3 (memS mem0) fun e h => memS (memS (memS (memS h)))) (fun e' h' => ?_) fun rs' h' => ?_⟩
        · cases en.symm.trans h'
        · cases en.symm.trans h'
          exact ⟨rfl, em2⟩
      · tm_at "g"
        have c3' : j + 3 < ws.length := by omega
        have hz3 := List.getElem?_eq_getElem c3'
        refine gi_lst (by repeat (first | exact mr2 | apply memS)) (words_at (i := j + 3) hz3) ?_
        tm_at "g"
        refine go_neV rfl ?_
        have et3 : decide (V.str ws[j + 3] = V.str (Str.ofString ",")) = decide (ws[j + 3]? = some commaS) := by
          rw [decide_eq_decide, hz3]
          exact ⟨fun e => congrArg some (V.str.inj e), fun e => congrArg V.str (Option.some.inj e)⟩
        rw [et3]
        refine ⟨_, rfl, ite_n (fun k3 => ?_) (fun k3 => ?_)⟩
        · tm_at "g"
          have en := er.symm.trans (rs_3 hb k1 he c3' (n2000 c3') k3)
          refine ⟨_, Sub.refl, q _ fl _ (ps ++ [(tq, ((b : Int), (e2 : Int)))]) _ (Sub.trans sL (Sub.trans Sub.drop (Sub.trans Sub.drop (Sub.trans Sub.drop Sub.drop)))) mem0 (memS (memS (memS mem0))) (pp3 (memS mem0) fun e h => memS (memS (memS (memS h)))) (fun e' h' => ?_) fun rs' h' => ?_⟩
          · cases en.symm.trans h'
            rfl
          · cases en.symm.trans h'
        · tm_at "g"
          obtain ⟨f', rfl⟩ : ∃ f', f = f' + 1 := ⟨f - 1, by omega⟩
          exact ⟨f' + 1, by omega, j + 4, f', _, _, _, ps ++ [(tq, ((b : Int), (e2 : Int)))], rs ++ [(b, e2)], (tq, HO.tup [.int (b : Nat), .int (e2 : Nat)]) :: R', rfl, Sub.trans (Sub.perm (List.Perm.swap _ _ _)) (Sub.cons Sub.drop), sL2, pp2, em2, rfl, by omega, (rs_on hb k1 he c3' (n2000 c3') k3).symm.trans er, by rw [List.length_append, List.length_singleton]; omega⟩
end
section
open Lt
variable {P : Program} {w : World} {K : PySem.W.Frag} {mg : Str → Option Value} {base : Heap}
theorem empS (x : Str) : Str.empty ++ x = x := by
  refine TL.ext_tl ?_
  rw [TL.tl_append]
  rfl
theorem join_len (y : Str) : ∀ {ys : List Str} {n : Nat}, (∀ z ∈ ys, z.length ≤ n) → (Txt.join y ys).length ≤ (n + y.length) * ys.length
  | [], _, _ => by rw [TL.join_eq, TL.len_tl, TL.tl_join]; exact Nat.zero_le _
  | [a], n, h => by
    have h1 := h a List.mem_cons_self
    rw [TL.join_eq, TL.len_tl, TL.tl_join]
    show (TL.tl a).length ≤ (n + y.length) * 1
    rw [← TL.len_tl]
    omega
  | a :: b :: r, n, h => by
    have h1 := h a List.mem_cons_self
    have ih := join_len y (ys := b :: r) (n := n) fun z hz => h z (List.mem_cons_of_mem _ hz)
    rw [TL.join_eq, TL.len_tl, TL.tl_join] at ih ⊢
    show (TL.tl a ++ (TL.tl y ++ TL.joinL (TL.tl y) ((b :: r).map TL.tl))).length ≤ (n + y.length) * ((b :: r).length + 1)
    rw [List.length_append, List.length_append, ← TL.len_tl, ← TL.len_tl, Nat.mul_succ]
    omega
def spLawText : SpL := fun vs L Q _ => ∃ (q : Int) (t : Addr) (few : List Pr2), vs = [.int q, .ref t] ∧ (t, HO.tup (prV few)) ∈ L ∧ Prs2 few L ∧ few.length ≤ 2000 ∧ q.natAbs < 2 ^ 100 ∧ (∀ e ∈ few, e.2.1.natAbs < 2 ^ 100 ∧ e.2.2.natAbs < 2 ^ 100) ∧ Q (.str (lotText q (few.map (·.2)))) L
theorem fn_law_text (B : Bi mg) (F : Df K mg "_law_text" s_law_text) : Fn P w K mg base CX0 "_law_text" 1 spLawText := by
  refine fn_plain F sc_law_text (fun _ _ _ _ _ _ us hl => match us, hl with | [_, _], _ => rfl) (by decide) (by tm_at "g_len") ?_
  intro X f cdv A outer s H E0 L vs Q E hX nd hr h
  subst hX
  obtain ⟨q0, t, few, rfl, mt, pp, fl, hq, hb, q⟩ := h
  show GSs _ (defBody s_law_text) (bodyD Q) [("_law_period", some (.int q0)), ("_law_told", some (.ref t)), ("_law_begin", none), ("_law_end", none)] L
  refine gss_cons ?_
  tm_at "g"
  refine go_eqPT (ps := few) (qs := []) hr (by tm_at "g_mem") mem0 rfl rfl (fun e he => memS (pp e he)) (fun e he => nomatch he) ?_
  by_cases c : few = []
  · subst c
    have e1 : lotText q0 (([] : List Pr2).map (·.2)) = Str.ofString "none" := by
      unfold lotText
      rw [List.map_nil, if_pos rfl]
      exact empS _
    rw [e1] at q
    rw [decide_eq_true (show ([] : List Pr2).map (·.2) = ([] : List Pr2).map (·.2) from rfl)]
    tm_at "g"
    refine go_nePT (ps := []) (qs := []) hr (by tm_at "g_mem") mem0 rfl rfl (fun e he => nomatch he) (fun e he => nomatch he) ?_
    rw [decide_eq_true (show ([] : List Pr2).map (·.2) = ([] : List Pr2).map (·.2) from rfl)]
    tm_at "g"
    exact ⟨_, by tm_at "g_end", q⟩
  · rw [decide_eq_false (show ¬ few.map (·.2) = ([] : List Pr2).map (·.2) from fun e => c (List.map_eq_nil_iff.mp e))]
    tm_at "g"
    refine ite_d (fun c1 => ?_) (fun c1 => ?_)
    · tm_at "g"
      refine go_nePT (ps := few) (qs := []) hr (by tm_at "g_mem") mem0 rfl rfl (fun e he => memS (memS (pp e he))) (fun e he => nomatch he) ?_
      rw [decide_eq_false (show ¬ few.map (·.2) = ([] : List Pr2).map (·.2) from fun e => c (List.map_eq_nil_iff.mp e))]
      have e1 : lotText q0 (few.map (·.2)) = Str.ofString "every" := by
        unfold lotText
        rw [if_neg fun e => c (List.map_eq_nil_iff.mp e), if_pos c1]
        exact empS _
      rw [e1] at q
      tm_at "g"
      exact ⟨_, by tm_at "g_end", q⟩
    · have sm : ∀ i : Int, i.natAbs < 2 ^ 100 → i.natAbs < 2 ^ 1920 := fun i hi => Nat.lt_of_lt_of_le hi (Nat.pow_le_pow_right (by decide) (by decide))
      have len : ∀ i : Int, i.natAbs < 2 ^ 100 → (Str.ofString (toString i)).length ≤ 1921 := fun i hi => int_text_len_1921 (log_lt (sm i hi))
      have l1 : (Str.ofString "modulo ").length = 7 := by decide
      have l2 : (Str.ofString " : ").length = 3 := by decide
      have l3 : (Str.ofString " to ").length = 4 := by decide
      have l4 : (Str.ofString " , ").length = 3 := by decide
      have lq := len q0 hq
      tm_at "g"
      refine gc_strI (sm _ hq) ?_
      refine go_catS (szL (by omega)) ?_
      tm_at "g"
      refine go_catS (szL (by simp only [Str.length_append, l1, l2]; omega)) ?_
      tm_at "g"
      refine ge_join ?_
      tm_at "g"
      refine ge_lcP2 (by tm_at "g_put") (fun _ => by tm_at "g_put") (gi_tuple ?_) (by decide) (show blkC N_law_text (defScope s_law_text) _ [(_, List.idxOf _ N_law_text), (_, List.idxOf _ N_law_text)] = true by decide +kernel)
      tm_at "g"
      refine pure_row2 (o := .tup (prV few)) (pt := fun _ => true) (pg := fun i => .str (runTxt ((few.map (·.2)).getD i (0, 0)))) (by tm_at "g_mem") (by rw [prV_len]; omega) (fun i v hv => ?_) fun D => ?_
      · obtain ⟨e0, he, rfl⟩ := prV_at hv
        have em := List.mem_of_getElem? he
        have eg : (few.map (·.2)).getD i (0, 0) = e0.2 := by rw [List.getD_eq_getElem?_getD, List.getElem?_map, he]; rfl
        rw [eg]
        refine ⟨e0.1, _, _, rfl, memS (pp e0 em), fun D3 acc s1 H1 C1 cl1 fp1 => ?_⟩
        refine gts_nil ⟨rfl, Sub.refl, fun _ s2 H2 C2 cl2 fp2 => ?_⟩
        have h1 := (hb e0 em).1
        have h2 := (hb e0 em).2
        have n1 := len _ h1
        have n2 := len _ h2
        tm_at "g"
        refine gc_strI (sm _ h1) ?_
        tm_at "g"
        refine go_catS (szL (by omega)) ?_
        tm_at "g"
        refine gc_strI (sm _ h2) ?_
        refine go_catS (szL (by simp only [Str.length_append, l3]; omega)) ?_
        refine ⟨?_, Sub.refl⟩
        unfold runTxt
        rw [empS]
      rw [prV_len, range_get (l := few) (g := fun e : Pr2 => V.str (runTxt e.2)) (fun i e he => by rw [List.getD_eq_getElem?_getD, List.getElem?_map, he]; rfl)]
      have rl : ∀ y ∈ (few.map (·.2)).map runTxt, y.length ≤ 4000 := fun y hy => by
        obtain ⟨r, hr, rfl⟩ := List.mem_map.mp hy
        obtain ⟨e0, he, rfl⟩ := List.mem_map.mp hr
        exact runTxt_len (sm _ (hb e0 he).1) (sm _ (hb e0 he).2)
      refine ⟨D, (few.map (·.2)).map runTxt, rfl, by rw [List.map_map, List.map_map]; exact mem0, ?_, ?_⟩
      · have := sum_len rl
        simp only [List.length_map] at this ⊢
        rw [l4]
        omega
      have jl := join_len (Str.ofString " , ") rl
      simp only [List.length_map] at jl
      rw [l4] at jl
      tm_at "g"
      refine go_catS (szL (by simp only [Str.length_append, l1, l2]; omega)) ?_
      have e1 : Str.ofString "modulo " ++ Str.ofString (toString q0) ++ Str.ofString " : " ++ Txt.join (Str.ofString " , ") ((few.map (·.2)).map runTxt) = lotText q0 (few.map (·.2)) := by
        unfold lotText lotTxt
        rw [if_neg fun e => c (List.map_eq_nil_iff.mp e), if_neg c1, empS]
      rw [e1]
      exact ⟨_, by tm_at "g_end", q⟩
end
namespace Lt
theorem least_nat {Q : Nat → Prop} : ∀ n, Q n → ∃ t, t ≤ n ∧ Q t ∧ ∀ s, s < t → ¬ Q s := by
  intro n
  induction n using Nat.strongRecOn with
  | _ n ih =>
    intro h
    by_cases z : ∃ s, s < n ∧ Q s
    · obtain ⟨s, hs, qs⟩ := z
      obtain ⟨t, a, b, c⟩ := ih s hs qs
      exact ⟨t, by omega, b, c⟩
    · exact ⟨n, Nat.le_refl _, h, fun s hs qs => z ⟨s, hs, qs⟩⟩
/-- a turn of the row of all runs -/
def Turns (p : Int) (rs : List Rn) (s : Nat) : Prop := 1 ≤ s ∧ rs.length % s = 0 ∧ (rowOf p rs).drop s ++ (rowOf p rs).take s = rowOf p rs
instance {p : Int} {rs : List Rn} {s : Nat} : Decidable (Turns p rs s) := inferInstanceAs (Decidable (_ ∧ _ ∧ _))
theorem form_turn {p q : Int} {rs few : List Rn} (h : NF 0 p rs) (ne : rs ≠ []) (f : Form (In p rs) q few) : (q = p ↔ ∀ s, s < rs.length → ¬ Turns p rs s) ∧ (q = p → few = rs) := by
  have pos : 0 < rs.length := List.length_pos_iff.mpr ne
  have ln : (rowOf p rs).length = rs.length := rowOf_len
  obtain ⟨t, t2, ⟨t1, td, tr⟩, tm⟩ := least_nat (Q := Turns p rs) rs.length ⟨pos, Nat.mod_self _, by rw [List.drop_of_length_le (by omega), List.take_of_length_le (by omega), List.nil_append]⟩
  have F := least_form h ne t1 t2 td tr fun s s1 s2 s3 s4 => tm s s2 ⟨s1, s3, s4⟩
  obtain ⟨e1, e2⟩ := f.unique F
  rw [row_sum t2] at e1
  have C := h.ch ne
  have eP : bOf p rs rs.length = bOf p rs 0 + p := by
    have := (bOf_add (p := p) pos 0).1
    rwa [Nat.zero_add] at this
  rcases Nat.lt_or_eq_of_le t2 with c | c
  · have := C.smono c
    have n : q ≠ p := by omega
    exact ⟨⟨fun e => absurd e n, fun k => absurd ⟨t1, td, tr⟩ (k t c)⟩, fun e => absurd e n⟩
  · subst c
    refine ⟨⟨fun _ s hs => tm s hs, fun _ => by omega⟩, fun _ => ?_⟩
    rw [e2, List.take_length]
end Lt
namespace Tx
open PySem NumText L2 TL Lt
def Fit (n : Nat) : Prop := n < 10 ^ 110
theorem Fit.le {m n : Nat} (h : Fit n) (k : m ≤ n) : Fit m := Nat.lt_of_le_of_lt k h
theorem num_nTxt {n l m : Nat} (h0 : l ≤ n) (h : n ≤ m) (hs : Fit n) : numS (nTxt n) l m = some n := by
  have e : (numL n).length ≤ 110 := numL_len (by decide) hs
  unfold numS
  rw [whole_num (Nat.le_trans e (by decide))]
  show (if l ≤ n ∧ n ≤ m then some n else none) = _
  rw [if_pos ⟨h0, h⟩]
theorem numW_wordR {ws : List Str} {i l m n : Nat} (h : numW ws i l m = some n) : ws[i]? = some (nTxt n) ∧ l ≤ n ∧ n ≤ m := by
  obtain ⟨z, hz, hw, h1, h2⟩ := numW_some h
  rw [hz, whole_text hw]
  exact ⟨rfl, h1, h2⟩
theorem numW_nTxt {ws : List Str} {i n l m : Nat} (h : ws[i]? = some (nTxt n)) (h0 : l ≤ n) (h1 : n ≤ m) (hs : Fit n) : numW ws i l m = some n := by
  unfold numW
  rw [h]
  exact num_nTxt h0 h1 hs
theorem drop_at {ws : List Str} {i : Nat} {z : Str} (h : ws[i]? = some z) : ws.drop i = z :: ws.drop (i + 1) := by
  obtain ⟨hi, rfl⟩ := List.getElem?_eq_some_iff.mp h
  exact List.drop_eq_getElem_cons hi
theorem at_drop {ws : List Str} {i : Nat} {z : Str} {r : List Str} (h : ws.drop i = z :: r) : ws[i]? = some z ∧ ws.drop (i + 1) = r := by
  have h0 : (ws.drop i)[0]? = some z := by rw [h]; rfl
  rw [List.getElem?_drop, Nat.add_zero] at h0
  refine ⟨h0, ?_⟩
  have := drop_at h0
  rw [h] at this
  exact (List.cons.inj this).2.symm
/-- the words of runs, of a lot -/
def runW (r : NR) : List Str := [nTxt r.1, toS, nTxt r.2]
def moreR (rs : List NR) : List Str := rs.flatMap fun s => commaS :: runW s
def lotW (p : Nat) (r : NR) (more : List NR) : List Str := Str.ofString "modulo" :: nTxt p :: Str.ofString ":" :: (runW r ++ moreR more)
theorem moreR_cons (r : NR) (rs : List NR) : moreR (r :: rs) = commaS :: (runW r ++ moreR rs) := rfl
theorem rs_back {ws : List Str} {P : Nat} : ∀ {k j : Nat} {found rs : List NR}, readRs ws P k j found = .inr rs → ∃ r more, rs = found ++ r :: more ∧ ws.drop j = runW r ++ moreR more
  | 0, j, found, rs, h => by cases h
  | k + 1, j, found, rs, h => by
    cases hb : numW ws j (leastR found) (P - 1) with
    | none => rw [rs_0 hb] at h; cases h
    | some b =>
      by_cases h1 : ws[j + 1]? = some toS
      · cases he : numW ws (j + 2) b (firstR found b + P - 2) with
        | none => rw [rs_2 hb h1 he] at h; cases h
        | some e =>
          have d0 : ws.drop j = nTxt b :: toS :: nTxt e :: ws.drop (j + 3) := by
            rw [drop_at (numW_wordR hb).1, drop_at h1, drop_at (numW_wordR he).1]
          by_cases h3 : j + 3 < ws.length
          · by_cases h4 : found.length + 1 = 2000
            · rw [rs_many hb h1 he h3 h4] at h; cases h
            · by_cases h5 : ws[j + 3]? = some commaS
              · rw [rs_on hb h1 he h3 h4 h5] at h
                obtain ⟨r, more, e1, e2⟩ := rs_back h
                refine ⟨(b, e), r :: more, by rw [e1, List.append_assoc]; rfl, ?_⟩
                rw [d0, drop_at h5, show j + 3 + 1 = j + 4 from rfl, e2]
                rfl
              · rw [rs_3 hb h1 he h3 h4 h5] at h; cases h
          · rw [rs_end hb h1 he h3] at h
            cases h
            refine ⟨(b, e), [], rfl, ?_⟩
            rw [d0, List.drop_eq_nil_of_le (by omega)]
            rfl
      · rw [rs_1 hb h1] at h; cases h
theorem leastR_snoc (f : List NR) (l : NR) : leastR (f ++ [l]) = l.2 + 2 := by unfold leastR; rw [List.getLast?_concat]
theorem mem_castR {x : Int × Int} {rs : List NR} (h : x ∈ castR rs) : ∃ r ∈ rs, x = ((r.1 : Int), (r.2 : Int)) := by
  obtain ⟨r, hr, e⟩ := List.mem_map.mp h
  exact ⟨r, hr, e.symm⟩
theorem castR_mem {r : NR} {rs : List NR} (h : r ∈ rs) : ((r.1 : Int), (r.2 : Int)) ∈ castR rs := List.mem_map.mpr ⟨r, h, rfl⟩
theorem castR_app (xs ys : List NR) : castR (xs ++ ys) = castR xs ++ castR ys := List.map_append
/-- one more run -/
theorem nf_snoc {P b e : Nat} {found : List NR} (h : NF 0 P (castR found)) (h1 : leastR found ≤ b) (h2 : b ≤ P - 1) (h3 : b ≤ e) (h4 : e ≤ firstR found b + P - 2) (p2 : 2 ≤ P) : NF 0 P (castR (found ++ [(b, e)])) := by
  have up : ∀ x ∈ castR found, x.2 + 1 < (b : Int) := fun x hx => by
    rcases List.eq_nil_or_concat found with rfl | ⟨f, l, rfl⟩
    · cases hx
    · rw [List.concat_eq_append] at *
      rw [leastR_snoc] at h1
      rw [castR_app] at hx
      rcases List.mem_append.mp hx with hx' | hx'
      · have ap := h.ap
        rw [castR_app] at ap
        have := (List.pairwise_append.mp ap).2.2 x hx' ((l.1 : Int), (l.2 : Int)) (List.mem_singleton.mpr rfl)
        have := h.le _ (castR_mem (r := l) (rs := f ++ [l]) (by simp))
        dsimp only at *
        omega
      · have : x = ((l.1 : Int), (l.2 : Int)) := List.mem_singleton.mp hx'
        rw [this]
        dsimp only
        omega
  have fst : ∀ x ∈ castR found, (e : Int) + 1 < x.1 + P := fun x hx => by
    cases found with
    | nil => cases hx
    | cons f t =>
      have h4 : e ≤ f.1 + P - 2 := h4
      rcases List.mem_cons.mp (show x ∈ ((f.1 : Int), (f.2 : Int)) :: castR t from hx) with rfl | hx'
      · dsimp only
        omega
      · have := (List.pairwise_cons.mp (show List.Pairwise _ (((f.1 : Int), (f.2 : Int)) :: castR t) from h.ap)).1 x hx'
        have := h.le _ (castR_mem (r := f) (rs := f :: t) List.mem_cons_self)
        dsimp only at *
        omega
  have own : (e : Int) + 1 < b + P := by
    cases found with
    | nil =>
      have h4 : e ≤ b + P - 2 := h4
      omega
    | cons f t =>
      have h4 : e ≤ f.1 + P - 2 := h4
      have := up _ (castR_mem (r := f) (rs := f :: t) List.mem_cons_self)
      have := h.le _ (castR_mem (r := f) (rs := f :: t) List.mem_cons_self)
      dsimp only at *
      omega
  rw [castR_app]
  have sp : ∀ x ∈ castR found ++ castR [(b, e)], x ∈ castR found ∨ x = ((b : Int), (e : Int)) := fun x hx => (List.mem_append.mp hx).imp id fun h => List.mem_singleton.mp h
  refine ⟨fun x hx => ?_, fun x hx => ?_, List.pairwise_append.mpr ⟨h.ap, List.pairwise_singleton _ _, fun x hx y hy => ?_⟩, fun x hx y hy => ?_⟩
  · rcases sp x hx with k | rfl
    · exact h.le x k
    · dsimp only; omega
  · rcases sp x hx with k | rfl
    · exact h.wd x k
    · dsimp only; omega
  · have : y = ((b : Int), (e : Int)) := List.mem_singleton.mp hy
    rw [this]
    exact up x hx
  · rcases sp x hx with k | rfl
    · rcases sp y hy with l | rfl
      · exact h.cl x k y l
      · have := up x k
        dsimp only
        omega
    · rcases sp y hy with l | rfl
      · exact fst y l
      · exact own
theorem rs_nf {ws : List Str} {P : Nat} (p2 : 2 ≤ P) : ∀ {k j : Nat} {found rs : List NR}, readRs ws P k j found = .inr rs → NF 0 P (castR found) → NF 0 P (castR rs)
  | 0, j, found, rs, h, _ => by cases h
  | k + 1, j, found, rs, h, nf => by
    cases hb : numW ws j (leastR found) (P - 1) with
    | none => rw [rs_0 hb] at h; cases h
    | some b =>
      by_cases h1 : ws[j + 1]? = some toS
      · cases he : numW ws (j + 2) b (firstR found b + P - 2) with
        | none => rw [rs_2 hb h1 he] at h; cases h
        | some e =>
          have nf2 := nf_snoc nf (numW_wordR hb).2.1 (numW_wordR hb).2.2 (numW_wordR he).2.1 (numW_wordR he).2.2 p2
          by_cases h3 : j + 3 < ws.length
          · by_cases h4 : found.length + 1 = 2000
            · rw [rs_many hb h1 he h3 h4] at h; cases h
            · by_cases h5 : ws[j + 3]? = some commaS
              · rw [rs_on hb h1 he h3 h4 h5] at h
                exact rs_nf p2 h nf2
              · rw [rs_3 hb h1 he h3 h4 h5] at h; cases h
          · rw [rs_end hb h1 he h3] at h
            cases h
            exact nf2
      · rw [rs_1 hb h1] at h; cases h
/-- the runs written are read, as long as there are not too many -/
theorem rs_fwd {ws tail : List Str} {P : Nat} : ∀ {more : List NR} {r : NR} {k j : Nat} {found : List NR}, ws.drop j = (runW r ++ moreR more) ++ tail → NF 0 P (castR (found ++ r :: more)) → (∀ x ∈ r :: more, Fit x.2) → found.length + 1 + more.length ≤ 2000 → more.length < k →
    (tail = [] → readRs ws P k j found = .inr (found ++ r :: more)) ∧ (tail ≠ [] → found.length + 1 + more.length = 2000 → readRs ws P k j found = .inl (j + 3 + 4 * more.length))
  | more, r, 0, j, found, _, _, _, _, hk => absurd hk (by omega)
  | more, r, k + 1, j, found, h, nf, ft, hl, hk => by
    have h' : ws.drop j = nTxt r.1 :: toS :: nTxt r.2 :: (moreR more ++ tail) := h
    obtain ⟨a0, d0⟩ := at_drop h'
    obtain ⟨a1, d1⟩ := at_drop d0
    obtain ⟨a2, d2⟩ := at_drop d1
    have d2 : ws.drop (j + 3) = moreR more ++ tail := d2
    have mr : ((r.1 : Int), (r.2 : Int)) ∈ castR (found ++ r :: more) := castR_mem (by simp)
    have w := nf.wd _ mr
    have le := nf.le _ mr
    have c0 := nf.cl _ mr _ mr
    dsimp only at w le c0
    have hr2 := ft r List.mem_cons_self
    have hb : numW ws j (leastR found) (P - 1) = some r.1 := by
      refine numW_nTxt a0 ?_ (by omega) (hr2.le (by omega))
      rcases List.eq_nil_or_concat found with rfl | ⟨f, l, rfl⟩
      · exact Nat.zero_le _
      · rw [List.concat_eq_append] at *
        rw [leastR_snoc]
        have ap := nf.ap
        rw [castR_app] at ap
        have := (List.pairwise_append.mp ap).2.2 ((l.1 : Int), (l.2 : Int)) (castR_mem (by simp)) ((r.1 : Int), (r.2 : Int)) (castR_mem List.mem_cons_self)
        dsimp only at this
        omega
    have he : numW ws (j + 2) r.1 (firstR found r.1 + P - 2) = some r.2 := by
      refine numW_nTxt a2 (by omega) ?_ hr2
      cases found with
      | nil =>
        show r.2 ≤ r.1 + P - 2
        omega
      | cons f t =>
        have := nf.cl _ mr ((f.1 : Int), (f.2 : Int)) (castR_mem (by simp))
        show r.2 ≤ f.1 + P - 2
        dsimp only at this
        omega
    cases more with
    | nil =>
      have d2 : ws.drop (j + 3) = tail := d2
      refine ⟨fun ht => ?_, fun ht hf => ?_⟩
      · rw [ht] at d2
        rw [rs_end hb a1 he (by have := List.drop_eq_nil_iff.mp d2; omega)]
      · have h3 : j + 3 < ws.length := by
          rcases Nat.lt_or_ge (j + 3) ws.length with c | c
          · exact c
          · rw [List.drop_eq_nil_of_le c] at d2
            exact absurd d2.symm ht
        rw [List.length_nil] at hf
        rw [rs_many hb a1 he h3 (by omega)]
        rfl
    | cons s t =>
      have d2 : ws.drop (j + 3) = commaS :: ((runW s ++ moreR t) ++ tail) := by
        rw [d2, moreR_cons]
        rfl
      obtain ⟨a3, d3⟩ := at_drop d2
      have h3 : j + 3 < ws.length := (List.getElem?_eq_some_iff.mp a3).1
      rw [List.length_cons] at hl hk
      have ih := rs_fwd (tail := tail) (P := P) (more := t) (r := s) (k := k) (j := j + 4) (found := found ++ [(r.1, r.2)]) d3 (by rw [List.append_assoc]; exact nf) (fun x hx => ft x (List.mem_cons_of_mem _ hx)) (by rw [List.length_append, List.length_singleton]; omega) (by omega)
      rw [rs_on hb a1 he h3 (by omega) a3]
      refine ⟨fun ht => ?_, fun ht hf => ?_⟩
      · rw [ih.1 ht, List.append_assoc]
        rfl
      · rw [ih.2 ht (by rw [List.length_append, List.length_singleton]; rw [List.length_cons] at hf; omega), List.length_cons]
        congr 1
        omega
end Tx
namespace Tx
open PySem NumText L2 TL Lt
theorem free_nTxt (n : Nat) : 32 ∉ tl (nTxt n) := by
  rw [show tl (nTxt n) = numL n from tl_num n]
  exact numL_free (by omega)
theorem split_words {ws : List Str} (ne : ws ≠ []) (h : ∀ z ∈ ws, 32 ∉ tl z) : Txt.split (Txt.join (Str.ofString " ") ws) (Str.ofString " ") = ws := split_join (y := Str.ofString " ") (s := 32) (S := []) (by decide +kernel) (by decide +kernel) ne h
/-- a word behind a blank -/
abbrev spL (z : Str) : List Nat := 32 :: tl z
theorem join_cons (y a : Str) : ∀ r : List Str, tl (Txt.join y (a :: r)) = tl a ++ r.flatMap fun z => tl y ++ tl z := by
  intro r
  induction r generalizing a with
  | nil => rw [join_eq, tl_join, List.flatMap_nil, List.append_nil]; rfl
  | cons b r ih =>
    have ih := ih b
    rw [join_eq, tl_join] at ih ⊢
    show tl a ++ (tl y ++ joinL (tl y) ((b :: r).map tl)) = _
    rw [ih, List.flatMap_cons, List.append_assoc]
theorem sp_join {ws : List Str} (ne : ws ≠ []) : 32 :: tl (Txt.join (Str.ofString " ") ws) = ws.flatMap spL := by
  cases ws with
  | nil => exact absurd rfl ne
  | cons a r =>
    rw [join_cons, List.flatMap_cons, show tl (Str.ofString " ") = [32] by decide +kernel]
    rfl
theorem runTxt_of (r : NR) : runTxt ((r.1 : Int), (r.2 : Int)) = nTxt r.1 ++ Str.ofString " to " ++ nTxt r.2 := by
  show Str.empty ++ Str.ofString (toString ((r.1 : Nat) : Int)) ++ Str.ofString " to " ++ Str.ofString (toString ((r.2 : Nat) : Int)) = _
  rw [empS]
theorem runW_flat (r : NR) : (runW r).flatMap spL = 32 :: tl (runTxt ((r.1 : Int), (r.2 : Int))) := by
  rw [runTxt_of, tl_append, tl_append, show tl (Str.ofString " to ") = spL toS ++ [32] by decide +kernel]
  show [nTxt r.1, toS, nTxt r.2].flatMap spL = _
  simp only [List.flatMap_cons, List.flatMap_nil, List.append_nil, List.append_assoc, List.cons_append, List.nil_append]
theorem moreR_flat (l : List NR) : (moreR l).flatMap spL = ((castR l).map runTxt).flatMap fun z => tl (Str.ofString " , ") ++ tl z := by
  induction l with
  | nil => rfl
  | cons w l ih =>
    have e : castR (w :: l) = ((w.1 : Int), (w.2 : Int)) :: castR l := rfl
    rw [moreR_cons, e, List.flatMap_cons, List.flatMap_append, ih, runW_flat, List.map_cons, List.flatMap_cons, show tl (Str.ofString " , ") = spL commaS ++ [32] by decide +kernel]
    simp only [List.append_assoc, List.cons_append, List.nil_append]
theorem lotW_ne {p : Nat} {r : NR} {more : List NR} : lotW p r more ≠ [] := by unfold lotW; simp
theorem lotTxt_join (p : Nat) (r : NR) (more : List NR) : lotTxt (p : Int) (castR (r :: more)) = Txt.join (Str.ofString " ") (lotW p r more) := by
  have e : castR (r :: more) = ((r.1 : Int), (r.2 : Int)) :: castR more := rfl
  refine ext_tl (List.cons.inj (show 32 :: tl (lotTxt (p : Int) (castR (r :: more))) = 32 :: tl (Txt.join (Str.ofString " ") (lotW p r more)) from ?_)).2
  rw [sp_join lotW_ne]
  have e2 : lotTxt (p : Int) (castR (r :: more)) = Str.ofString "modulo " ++ nTxt p ++ Str.ofString " : " ++ Txt.join (Str.ofString " , ") ((castR (r :: more)).map runTxt) := by
    show Str.empty ++ Str.ofString "modulo " ++ Str.ofString (toString ((p : Nat) : Int)) ++ Str.ofString " : " ++ Txt.join (Str.ofString " , ") ((castR (r :: more)).map runTxt) = _
    rw [empS]
  rw [e2, e, List.map_cons, tl_append, tl_append, tl_append, join_cons, ← moreR_flat, show tl (Str.ofString "modulo ") = tl (Str.ofString "modulo") ++ [32] by decide +kernel, show tl (Str.ofString " : ") = spL (Str.ofString ":") ++ [32] by decide +kernel]
  rw [show lotW p r more = [Str.ofString "modulo", nTxt p, Str.ofString ":"] ++ (runW r ++ moreR more) from rfl, List.flatMap_append, List.flatMap_append, runW_flat]
  simp only [List.flatMap_cons, List.flatMap_nil, List.append_nil, List.append_assoc, List.cons_append, List.nil_append]
theorem sok_nTxt (n : Nat) : PyData.strOk (nTxt n) = true := by
  rw [sok_tl, show tl (nTxt n) = numL n from tl_num n]
  intro c hc
  have := numL_digits n c hc
  omega
/-- a word: short, of signs, without blanks -/
def Wd (z : Str) : Prop := z.length ≤ 1000 ∧ PyData.strOk z = true ∧ 32 ∉ TL.tl z
instance : DecidablePred Wd := fun z => inferInstanceAs (Decidable (_ ∧ _ ∧ _))
def WordsB (k : Nat) (ws : List Str) : Prop := ws.length ≤ k ∧ ∀ z ∈ ws, Wd z
theorem len_nTxt {n : Nat} (h : Fit n) : (nTxt n).length ≤ 110 := by
  rw [nTxt_len]
  exact numL_len (by decide) h
theorem wd_nTxt {n : Nat} (h : Fit n) : Wd (nTxt n) := ⟨Nat.le_trans (len_nTxt h) (by decide), sok_nTxt n, free_nTxt n⟩
theorem wd_runW {r : NR} (h1 : Fit r.1) (h2 : Fit r.2) : ∀ z ∈ runW r, Wd z := by
  intro z hz
  simp only [runW, List.mem_cons, List.not_mem_nil, or_false] at hz
  rcases hz with rfl | rfl | rfl
  · exact wd_nTxt h1
  · decide +kernel
  · exact wd_nTxt h2
theorem wd_moreR {l : List NR} (h : ∀ r ∈ l, Fit r.1 ∧ Fit r.2) : ∀ z ∈ moreR l, Wd z := by
  intro z hz
  obtain ⟨r, hr, hz⟩ := List.mem_flatMap.mp hz
  rcases List.mem_cons.mp hz with rfl | hz
  · decide +kernel
  · exact wd_runW (h r hr).1 (h r hr).2 z hz
theorem len_moreR (l : List NR) : (moreR l).length = 4 * l.length := by
  induction l with
  | nil => rfl
  | cons r l ih =>
    rw [moreR_cons, List.length_cons, List.length_append, ih, List.length_cons]
    show 3 + _ + 1 = _
    omega
theorem wd_lotW {p : Nat} {r : NR} {more : List NR} (hp : Fit p) (h : ∀ x ∈ r :: more, Fit x.1 ∧ Fit x.2) : WordsB (6 + 4 * more.length) (lotW p r more) := by
  refine ⟨?_, fun z hz => ?_⟩
  · have e : (lotW p r more).length = 3 + (3 + (moreR more).length) := by
      unfold lotW runW
      simp only [List.length_cons, List.length_append, List.length_nil]
      omega
    rw [e, len_moreR]
    omega
  · have e : lotW p r more = [Str.ofString "modulo", nTxt p, Str.ofString ":"] ++ (runW r ++ moreR more) := rfl
    rw [e] at hz
    rcases List.mem_append.mp hz with hz | hz
    · simp only [List.mem_cons, List.not_mem_nil, or_false] at hz
      rcases hz with rfl | rfl | rfl
      · decide +kernel
      · exact wd_nTxt hp
      · decide +kernel
    · rcases List.mem_append.mp hz with hz | hz
      · exact wd_runW (h r List.mem_cons_self).1 (h r List.mem_cons_self).2 z hz
      · exact wd_moreR (fun x hx => h x (List.mem_cons_of_mem _ hx)) z hz
theorem sum_lens {n : Nat} : ∀ {ys : List Str}, (∀ y ∈ ys, y.length ≤ n) → (ys.map (·.length)).sum ≤ n * ys.length := fun h => by
  rw [Nat.mul_comm]
  exact sum_len h
theorem sum_words {ws : List Str} {k : Nat} (h : WordsB k ws) : (ws.map (·.length)).sum ≤ 1000 * k := Nat.le_trans (sum_lens fun z hz => (h.2 z hz).1) (Nat.mul_le_mul_left _ h.1)
theorem join_short {ws : List Str} {k : Nat} (h : WordsB k ws) : (Txt.join (Str.ofString " ") ws).length ≤ 1001 * k := by
  have := join_len (Str.ofString " ") (ys := ws) (n := 1000) fun z hz => (h.2 z hz).1
  rw [show (Str.ofString " ").length = 1 from rfl] at this
  exact Nat.le_trans this (Nat.mul_le_mul_left _ h.1)
theorem sok_join {ws : List Str} (h : ∀ z ∈ ws, PyData.strOk z = true) : PyData.strOk (Txt.join (Str.ofString " ") ws) = true := by
  cases ws with
  | nil => decide +kernel
  | cons a r =>
    rw [sok_tl, join_cons]
    intro c hc
    rcases List.mem_append.mp hc with hc | hc
    · exact sok_tl.mp (h a List.mem_cons_self) c hc
    · obtain ⟨z, hz, hc⟩ := List.mem_flatMap.mp hc
      rcases List.mem_append.mp hc with hc | hc
      · exact sok_tl.mp (show PyData.strOk (Str.ofString " ") = true by decide +kernel) c hc
      · exact sok_tl.mp (h z (List.mem_cons_of_mem _ hz)) c hc
theorem words_r {ws : List Str} {k : Nat} (h : WordsB k ws) (hk : k ≤ 100000) : WordsR ws := ⟨Nat.le_trans h.1 hk, fun z hz => ⟨Nat.le_trans (h.2 z hz).1 (by decide), (h.2 z hz).2.1⟩⟩
/-- the first word that cannot stand -/
def wrongP (ws : List Str) : Option Nat :=
  match readL ws with
  | .inl k => some k
  | .inr (p, rs) => if p ≠ 1 ∧ ∃ s, s < rs.length ∧ Turns p (castR rs) s then some 1 else none
theorem readL_cases {ws : List Str} {p : Nat} {rs : List NR} (h : readL ws = .inr (p, rs)) :
    (ws = [Str.ofString "every"] ∧ p = 1 ∧ rs = [(0, 0)]) ∨ (ws = [Str.ofString "none"] ∧ p = 1 ∧ rs = []) ∨
    (2 ≤ p ∧ p ≤ mostP ∧ NF 0 p (castR rs) ∧ ∃ r more, rs = r :: more ∧ ws = lotW p r more) := by
  unfold readL at h
  split at h
  · rename_i c
    split at h
    · cases h
    · rename_i c2
      cases h
      refine .inl ⟨?_, rfl, rfl⟩
      have d := drop_at c
      rw [List.drop_zero, List.drop_eq_nil_of_le (by omega)] at d
      exact d
  · split at h
    · rename_i c
      split at h
      · cases h
      · rename_i c2
        cases h
        refine .inr (.inl ⟨?_, rfl, rfl⟩)
        have d := drop_at c
        rw [List.drop_zero, List.drop_eq_nil_of_le (by omega)] at d
        exact d
    · split at h
      · rename_i c0
        cases hp : numW ws 1 2 mostP with
        | none => rw [hp] at h; cases h
        | some n =>
          rw [hp] at h
          dsimp only at h
          split at h
          · rename_i c2
            cases hr : readRs ws n (ws.length + 1) 3 [] with
            | inl e => rw [hr] at h; cases h
            | inr rs' =>
              rw [hr] at h
              cases h
              have w := numW_wordR hp
              refine .inr (.inr ⟨w.2.1, w.2.2, rs_nf w.2.1 hr ⟨fun _ z => (nomatch z), fun _ z => (nomatch z), List.Pairwise.nil, fun _ z => (nomatch z)⟩, ?_⟩)
              obtain ⟨r, more, e1, e2⟩ := rs_back hr
              refine ⟨r, more, e1, ?_⟩
              have d := drop_at c0
              rw [List.drop_zero, drop_at w.1, drop_at c2, e2] at d
              exact d
          · cases h
      · cases h
/-- nothing wrong: what is read is written so -/
theorem read_said {ws : List Str} {p : Nat} {rs : List NR} {q : Int} {few : List Rn} (h : readL ws = .inr (p, rs)) (f : Form (In p (castR rs)) q few) (hq : p = 1 ∨ q = p) : Txt.join (Str.ofString " ") ws = lotText q few := by
  rcases readL_cases h with ⟨rfl, rfl, rfl⟩ | ⟨rfl, rfl, rfl⟩ | ⟨p2, pm, nf, r, more, rfl, rfl⟩
  · have al : ∀ n, In ((1 : Nat) : Int) (castR [(0, 0)]) n := fun n => ⟨(0, 0), List.mem_singleton.mpr rfl, -n, by simp; omega⟩
    obtain ⟨rfl, rfl⟩ := f.unique (form_all al)
    decide +kernel
  · have mx : Mx ((1 : Nat) : Int) (castR []) [] := .inr ⟨⟨fun _ z => (nomatch z), fun _ z => (nomatch z), List.Pairwise.nil, fun _ z => (nomatch z)⟩, fun _ => Iff.rfl⟩
    obtain ⟨rfl, rfl⟩ := f.unique (form_none mx)
    decide +kernel
  · have q' : q = p := by
      rcases hq with h | h
      · omega
      · exact h
    have fe := (form_turn nf (by intro z; cases z) f).2 q'
    subst fe q'
    rw [← lotTxt_join]
    unfold lotText
    rw [if_neg (by intro z; cases z), if_neg (by omega)]
/-- a turn: the period is not the least -/
theorem turn_ne {ws : List Str} {p : Nat} {rs : List NR} {q : Int} {few : List Rn} (h : readL ws = .inr (p, rs)) (f : Form (In p (castR rs)) q few) (p1 : p ≠ 1) : q ≠ p ↔ ∃ s, s < rs.length ∧ Turns p (castR rs) s := by
  rcases readL_cases h with ⟨_, rfl, _⟩ | ⟨_, rfl, _⟩ | ⟨p2, pm, nf, r, more, rfl, _⟩
  · exact absurd rfl p1
  · exact absurd rfl p1
  · have ft := (form_turn nf (by intro z; cases z) f).1
    have ln : (castR (r :: more)).length = (r :: more).length := List.length_map _
    rw [ln] at ft
    exact ⟨fun n => Classical.byContradiction fun k => n (ft.mpr fun s hs t => k ⟨s, hs, t⟩), fun ⟨s, hs, t⟩ e => ft.mp e s hs t⟩
/-- a lot's text is read as the lot -/
theorem text_read {S : Int → Prop} {q : Int} {few : List Rn} (f : Form S q few) (hq : q ≤ (mostP : Nat)) (hl : few.length ≤ 2000) : ∃ (ws : List Str) (p : Nat) (rs : List NR), lotText q few = Txt.join (Str.ofString " ") ws ∧ ws ≠ [] ∧ WordsB (6 + 4 * few.length) ws ∧ readL ws = .inr (p, rs) ∧ (∀ n, In p (castR rs) n ↔ S n) ∧ (p = 1 ∨ q = p) := by
  rcases f.runs with ⟨a, rfl⟩ | ⟨a, b⟩
  · have q1 : q = 1 := by
      have := f.least 1 (by decide) fun n => ⟨fun _ => a _, fun _ => a _⟩
      have := f.pos
      omega
    subst q1
    refine ⟨[Str.ofString "every"], 1, [(0, 0)], by decide +kernel, by simp, ⟨by decide, fun z hz => by rw [List.mem_singleton.mp hz]; decide +kernel⟩, by decide +kernel, fun n => ⟨fun _ => a n, fun _ => ⟨(0, 0), List.mem_singleton.mpr rfl, -n, by simp; omega⟩⟩, .inl rfl⟩
  · cases few with
    | nil =>
      have no : ∀ n, ¬ S n := fun n h => by
        obtain ⟨r, hr, _⟩ := (b n).mpr h
        cases hr
      have q1 : q = 1 := by
        have := f.least 1 (by decide) fun n => ⟨fun h => absurd h (no _), fun h => absurd h (no _)⟩
        have := f.pos
        omega
      subst q1
      refine ⟨[Str.ofString "none"], 1, [], by decide +kernel, by simp, ⟨by decide, fun z hz => by rw [List.mem_singleton.mp hz]; decide +kernel⟩, by decide +kernel, fun n => ⟨fun h => ?_, fun h => absurd h (no n)⟩, .inl rfl⟩
      obtain ⟨r, hr, _⟩ := h
      cases hr
    | cons r0 more0 =>
      obtain ⟨p, rfl⟩ : ∃ p : Nat, q = p := ⟨q.toNat, by have := f.pos; omega⟩
      have ex : ∃ rs : List NR, castR rs = r0 :: more0 := by
        refine ⟨(r0 :: more0).map fun r => (r.1.toNat, r.2.toNat), ?_⟩
        unfold castR
        rw [List.map_map]
        refine (List.map_congr_left fun r hr => ?_).trans (List.map_id _)
        have := a.wd r hr
        have := a.le r hr
        show ((r.1.toNat : Int), (r.2.toNat : Int)) = r
        rw [Int.toNat_of_nonneg (by omega), Int.toNat_of_nonneg (by omega)]
      obtain ⟨rs, ers⟩ := ex
      obtain ⟨r, more, rfl⟩ : ∃ r more, rs = r :: more := by
        cases rs with
        | nil => cases ers
        | cons r more => exact ⟨r, more, rfl⟩
      rw [← ers] at a b f hl ⊢
      have ln : (castR (r :: more)).length = more.length + 1 := by unfold castR; rw [List.length_map]; rfl
      rw [ln] at hl ⊢
      have w0 := a.wd _ (castR_mem (r := r) List.mem_cons_self)
      have l0 := a.le _ (castR_mem (r := r) List.mem_cons_self)
      have c0 := a.cl _ (castR_mem (r := r) List.mem_cons_self) _ (castR_mem (r := r) List.mem_cons_self)
      dsimp only at w0 l0 c0
      have hq' : p ≤ mostP := by omega
      have fp : ∀ n : Nat, n < 2 * p → Fit n := fun n hn => by
        unfold Fit
        have : (10 : Nat) ^ 110 = mostP * 10 ^ 10 := by decide +kernel
        rw [this]
        have : mostP * 2 ≤ mostP * 10 ^ 10 := Nat.mul_le_mul_left _ (by decide)
        omega
      have fr : ∀ x ∈ r :: more, Fit x.1 ∧ Fit x.2 := fun x hx => by
        have w := a.wd _ (castR_mem hx)
        have l := a.le _ (castR_mem hx)
        have c := a.cl _ (castR_mem hx) _ (castR_mem hx)
        dsimp only at w l c
        exact ⟨fp _ (by omega), fp _ (by omega)⟩
      refine ⟨lotW p r more, p, r :: more, ?_, lotW_ne, ?_, ?_, b, .inr rfl⟩
      · rw [← lotTxt_join]
        unfold lotText
        rw [if_neg (by intro z; cases z), if_neg (by omega)]
      · have := wd_lotW (fp p (by omega)) fr
        exact ⟨Nat.le_trans this.1 (by omega), this.2⟩
      · have e0 : (lotW p r more)[0]? = some (Str.ofString "modulo") := rfl
        have e1 : (lotW p r more)[1]? = some (nTxt p) := rfl
        have e2 : (lotW p r more)[2]? = some (Str.ofString ":") := rfl
        have d3 : (lotW p r more).drop 3 = (runW r ++ moreR more) ++ [] := by rw [List.append_nil]; rfl
        have hn : numW (lotW p r more) 1 2 mostP = some p := numW_nTxt e1 (by omega) hq' (fp p (by omega))
        have len : more.length < (lotW p r more).length + 1 := by
          have : (lotW p r more).length = 3 + (3 + (moreR more).length) := by
            unfold lotW runW
            simp only [List.length_cons, List.length_append, List.length_nil]
            omega
          rw [len_moreR] at this
          omega
        have fw := (rs_fwd (P := p) (more := more) (r := r) (k := (lotW p r more).length + 1) (found := []) d3 a (fun x hx => (fr x hx).2) (by rw [List.length_nil]; omega) len).1 rfl
        unfold readL
        rw [if_neg (by rw [e0]; decide +kernel), if_neg (by rw [e0]; decide +kernel), if_pos e0, hn]
        dsimp only
        rw [if_pos e2, fw]
        rfl
end Tx
section
open Tx Lt
variable {P : Program} {w : World} {K : PySem.W.Frag} {mg : Str → Option Value} {base : Heap}
theorem map_rot {l : List (Int × Int)} {s : Nat} : (l.map fun e => (e.1 - 1, e.2)).drop s ++ (l.map fun e => (e.1 - 1, e.2)).take s = (l.map fun e => (e.1 - 1, e.2)) ↔ l.drop s ++ l.take s = l := by
  rw [← List.map_drop, ← List.map_take, ← List.map_append]
  refine ⟨fun h => ?_, fun h => by rw [h]⟩
  have e : ∀ l : List (Int × Int), (l.map fun e : Int × Int => (e.1 - 1, e.2)).map (fun e => (e.1 + 1, e.2)) = l := fun l => by
    rw [List.map_map]
    refine (List.map_congr_left fun x _ => ?_).trans (List.map_id _)
    show (x.1 - 1 + 1, x.2) = x
    rw [show x.1 - 1 + 1 = x.1 by omega]
  have h2 := congrArg (List.map fun e : Int × Int => (e.1 + 1, e.2)) h
  rwa [e, e] at h2
def spWrongP : SpL := fun vs L Q _ => ∃ (ws : List Str) (k : Nat), vs = [.str (Txt.join (Str.ofString " ") ws)] ∧ ws ≠ [] ∧ WordsB k ws ∧ k ≤ 900 ∧ Q (optV (wrongP ws)) L
theorem fn_law_wrong (B : Bi mg) (F : Df K mg "_law_wrong" s_law_wrong) (D1 : Fn P w K mg base CX0 "_law_is_number" 2 spIsNum) (D2 : Fn P w K mg base CX0 "_law_runs_wrong" 3 spRunsWrong) : Fn P w K mg base CX0 "_law_wrong" 4 spWrongP := by
  refine fn_plain F sc_law_wrong (fun _ _ _ _ _ _ us hl => match us, hl with | [_], _ => rfl) (by decide) (by tm_at "g_len") ?_
  intro X f cdv A outer s H E0 L vs Q E hX nd hr h
  subst hX
  obtain ⟨ws, k, rfl, ne, wb, k9, q⟩ := h
  show GSs _ (defBody s_law_wrong) (bodyD Q) [("_law_page", some (.str (Txt.join (Str.ofString " ") ws))), ("_law_words", none), ("_law_wrong_here", none), ("_law_runs_here", none), ("_law_period", none), ("_law_row", none), ("_law_pairs", none), ("_law_turns", none), ("_law_at", none), ("_law_k", none)] _
  refine gss_cons ?_
  tm_at "g"
  refine ge_split ?_
  tm_at "g"
  refine ⟨by decide +kernel, szL (by have := join_short wb; omega), fun r => ?_⟩
  rw [split_words ne fun z hz => (wb.2 z hz).2.2]
  obtain ⟨y, hy⟩ : ∃ y, ws[0]? = some y := ⟨_, List.getElem?_eq_getElem (List.length_pos_iff.mpr ne)⟩
  tm_at "g"
  refine gi_lst (i := 0) mem0 (words_at (i := 0) hy) ?_
  tm_at "g"
  rename_i kt
  refine go_inT (.inl mem0) rfl rfl ?_
  rw [inV_two]
  have wl : ws.length ≤ 900 := Nat.le_trans wb.1 k9
  have wok : ∀ z ∈ ws, z.length ≤ 100000 ∧ PyData.strOk z = true := fun z hz => ⟨Nat.le_trans (wb.2 z hz).1 (by decide), (wb.2 z hz).2.1⟩
  by_cases y12 : y = Str.ofString "every" ∨ y = Str.ofString "none"
  · have e : wrongP ws = if 1 < ws.length then some 1 else none := by
      by_cases c : 1 < ws.length
      · have h : readL ws = .inl 1 := by
          unfold readL
          rcases y12 with rfl | rfl
          · rw [if_pos hy, if_pos c]
          · rw [if_neg (by rw [hy]; decide), if_pos hy, if_pos c]
        unfold wrongP
        rw [h, if_pos c]
      · have h : ∃ rs, readL ws = .inr (1, rs) := by
          unfold readL
          rcases y12 with rfl | rfl
          · rw [if_pos hy, if_neg c]; exact ⟨_, rfl⟩
          · rw [if_neg (by rw [hy]; decide), if_pos hy, if_neg c]; exact ⟨_, rfl⟩
        obtain ⟨rs, h⟩ := h
        unfold wrongP
        rw [h, if_neg c]
        exact if_neg fun z => z.1 rfl
    rw [e] at q
    rw [show (decide (y = Str.ofString "every") || decide (y = Str.ofString "none")) = true from by simpa using y12]
    tm_at "g"
    rw [List.length_map]
    refine ite_d (fun c => ?_) (fun c => ?_)
    · rw [if_pos (by omega)] at q
      tm_at "g"
      exact ⟨_, by tm_at "g_end", q⟩
    · rw [if_neg (by omega)] at q
      tm_at "g"
      exact ⟨_, by tm_at "g_end", q⟩
  have n1 : ¬ ws[0]? = some (Str.ofString "every") := fun h => y12 (.inl (Option.some.inj (hy.symm.trans h)))
  have n2 : ¬ ws[0]? = some (Str.ofString "none") := fun h => y12 (.inr (Option.some.inj (hy.symm.trans h)))
  rw [show (decide (y = Str.ofString "every") || decide (y = Str.ofString "none")) = false from by simpa using y12]
  tm_at "g"
  refine gi_lst (i := 0) (by tm_at "g_mem") (words_at (i := 0) hy) ?_
  tm_at "g"
  refine go_neV rfl ?_
  have et : decide (V.str y = V.str (Str.ofString "modulo")) = decide (ws[0]? = some (Str.ofString "modulo")) := by
    rw [decide_eq_decide, hy]
    exact ⟨fun e => congrArg some (V.str.inj e), fun e => congrArg V.str (Option.some.inj e)⟩
  rw [et]
  refine ⟨_, rfl, ite_n (fun c => ?_) (fun k1 => ?_)⟩
  · have e : wrongP ws = some 0 := by unfold wrongP readL; rw [if_neg n1, if_neg n2, if_neg c]
    rw [e] at q
    tm_at "g"
    exact ⟨_, by tm_at "g_end", q⟩
  have e1 : readL ws = (match numW ws 1 2 mostP with
    | none => .inl 1
    | some p => if ws[2]? = some (Str.ofString ":") then (match readRs ws p (ws.length + 1) 3 [] with | .inl e => .inl e | .inr rs => .inr (p, rs)) else .inl 2) := by unfold readL; rw [if_neg n1, if_neg n2, if_pos k1] <;> rfl
  tm_at "g"
  rw [List.length_map]
  have one : numW ws 1 2 mostP = none → wrongP ws = some 1 := fun h => by
    unfold wrongP
    rw [e1, h]
  refine ite_d (fun c => ?_) (fun c => ?_)
  · rw [one (by unfold numW; rw [List.getElem?_eq_none (by omega)]; rfl)] at q
    tm_at "g"
    exact ⟨_, by tm_at "g_end", q⟩
  have h1 : 1 < ws.length := by omega
  have hz1 := List.getElem?_eq_getElem h1
  have w1 := wok _ (List.getElem_mem h1)
  have p50 : (10 : Int) ^ (50 : Int).toNat = 100000000000000000000000000000000000000000000000000 := by decide +kernel
  tm_at "g"
  refine ge_call (El := NoX) D1 hr passA ?_
  tm_at "g"
  refine gi_lst (i := 1) (by tm_at "g_mem") (words_at (i := 1) hz1) ?_
  tm_at "g"
  refine go_powL ⟨by decide, by decide, by decide⟩ p50 ?_
  tm_at "g"
  refine go_powL ⟨by decide, by decide, by decide⟩ p50 ?_
  tm_at "g"
  refine go_mul (show CMulW _ _ from by unfold CMulW; decide +kernel) ?_
  rw [show (100000000000000000000000000000000000000000000000000 : Int) * 100000000000000000000000000000000000000000000000000 = ((mostP : Nat) : Int) by decide +kernel]
  tm_at "g"
  refine ⟨ws[1], 2, mostP, rfl, w1.1, w1.2, ?_⟩
  have en : numW ws 1 2 mostP = numS ws[1] 2 mostP := by unfold numW; rw [hz1]; rfl
  rw [← en]
  cases hp : numW ws 1 2 mostP with
  | none =>
    rw [one hp] at q
    refine ⟨_, rfl, ite_t ?_⟩
    tm_at "g"
    exact ⟨_, by tm_at "g_end", q⟩
  | some p =>
    rw [hp] at e1
    dsimp only at e1
    obtain ⟨zp, hzp, hwp, p2, pm⟩ := numW_some hp
    cases hz1.symm.trans hzp
    have ip := intText_whole hwp
    refine ⟨_, rfl, ite_f ?_⟩
    tm_at "g"
    rw [List.length_map]
    have two : ¬ ws[2]? = some (Str.ofString ":") → wrongP ws = some 2 := fun h => by
      unfold wrongP
      rw [e1, if_neg h]
    refine ite_d (fun c2 => ?_) (fun c2 => ?_)
    · rw [two (by rw [List.getElem?_eq_none (by omega)]; exact fun z => nomatch z)] at q
      tm_at "g"
      exact ⟨_, by tm_at "g_end", q⟩
    have h2 : 2 < ws.length := by omega
    have hz2 := List.getElem?_eq_getElem h2
    tm_at "g"
    refine gi_lst (i := 2) (by tm_at "g_mem") (words_at (i := 2) hz2) ?_
    tm_at "g"
    refine go_neV rfl ?_
    have et2 : decide (V.str ws[2] = V.str (Str.ofString ":")) = decide (ws[2]? = some (Str.ofString ":")) := by
      rw [decide_eq_decide, hz2]
      exact ⟨fun e => congrArg some (V.str.inj e), fun e => congrArg V.str (Option.some.inj e)⟩
    rw [et2]
    refine ⟨_, rfl, ite_n (fun k2 => ?_) (fun k2 => ?_)⟩
    · rw [two k2] at q
      tm_at "g"
      exact ⟨_, by tm_at "g_end", q⟩
    rw [if_pos k2] at e1
    tm_at "g"
    refine ge_call (El := NoX) D2 hr passA ?_
    tm_at "g"
    refine gi_lst (i := 1) (by tm_at "g_mem") (words_at (i := 1) hz1) ?_
    tm_at "g"
    refine gc_intS ip.1 (by omega) ?_
    tm_at "g"
    refine ⟨r, ws, p, rfl, by tm_at "g_mem", by omega, wok, p2, fun t f x ps M sM mt mf pp hinl hinr => ?_⟩
    refine GG.nd fun ndM => ?_
    have mr := (sM.to ndM).2 _ (show (r, strsO ws) ∈ _ by tm_at "g_mem")
    cases hrs : readRs ws p (ws.length + 1) 3 [] with
    | inl e =>
      rw [hrs] at e1
      cases hinl e hrs
      have ew : wrongP ws = some e := by unfold wrongP; rw [e1]
      rw [ew] at q
      tm_at "g"
      exact ⟨_, Sub.trans (Sub.trans Sub.drop Sub.drop) sM, q⟩
    | inr rs =>
      rw [hrs] at e1
      dsimp only at e1
      obtain ⟨rfl, em⟩ := hinr rs hrs
      have ew : wrongP ws = if p ≠ 1 ∧ ∃ s, s < rs.length ∧ Turns p (castR rs) s then some 1 else none := by unfold wrongP; rw [e1]
      rw [ew] at q
      obtain ⟨p2', pm', nf, r0, more, ers, -⟩ : 2 ≤ p ∧ p ≤ mostP ∧ NF 0 p (castR rs) ∧ ∃ r more, rs = r :: more ∧ ws = lotW p r more := by
        rcases readL_cases e1 with ⟨_, h, _⟩ | ⟨_, h, _⟩ | h
        · omega
        · omega
        · exact h
      have lrs : rs.length ≤ 2000 := (readRs_le hrs (fun _ z => nomatch z) (by decide)).2
      have lps : ps.length = rs.length := by
        have h := congrArg List.length em
        unfold castR at h
        rwa [List.length_map, List.length_map] at h
      obtain ⟨e0, pt, rfl⟩ : ∃ e0 pt, ps = e0 :: pt := by
        cases ps with
        | nil => rw [ers] at lps; cases lps
        | cons a b => exact ⟨a, b, rfl⟩
      tm_at "g"
      refine gi_lst (i := 1) mr (words_at (i := 1) hz1) ?_
      tm_at "g"
      refine gc_intS ip.1 (by omega) ?_
      tm_at "g"
      refine gi_lst (i := 0) mf (atI_nat (j := 0) rfl) ?_
      tm_at "g"
      have m0 := pp e0 List.mem_cons_self
      tm_at "g"
      refine gi_lst (i := 1) mr (words_at (i := 1) hz1) ?_
      tm_at "g"
      refine gc_intS ip.1 (by omega) ?_
      have pn : (e0 :: pt) ≠ [] := by simp
      have p00 : (e0 :: pt)[0]? = some e0 := rfl
      generalize e0 :: pt = ps at *
      have pos : 0 < ps.length := List.length_pos_iff.mpr pn
      tm_at "g"
      rename_i tp ol
      obtain ⟨nxp, enx⟩ : ∃ nxp : List Pr2, nxp = ps ++ [(tp, (e0.2.1 + p, 0))] := ⟨_, rfl⟩
      have eN : prV ps ++ [V.ref tp] = prV nxp := by
        rw [enx]
        unfold prV
        rw [List.map_append]
        rfl
      refine go_cat (memS (memS mf)) mem0 (szL (by rw [prV_len, List.length_singleton]; omega)) fun nx => ?_
      rw [eN]
      tm_at "g"
      refine ge_lcF (by tm_at "g_put") (gi_range1 ?_ B.range) (show blkC N_law_wrong (defScope s_law_wrong) _ [(_, List.idxOf _ N_law_wrong)] = true by decide +kernel)
      tm_at "g"
      rw [prV_len]
      have ln : (ps.map (·.2)).length = ps.length := List.length_map ..
      have nlen : nxp.length = ps.length + 1 := by rw [enx, List.length_append, List.length_singleton]
      have nd1 : nxp.drop 1 = ps.drop 1 ++ [(tp, (e0.2.1 + p, 0))] := by rw [enx, List.drop_append_of_le_length (by omega)]
      have hn1 : Prs2 nxp ((nx, HO.lst (prV nxp)) :: (ol, HO.lst [V.ref tp]) :: (tp, HO.tup [.int (e0.2.1 + p), .int 0]) :: M) := by
        rw [enx]
        exact Prs2.snoc (fun x hx => memS (memS (memS (pp x hx)))) (memS (memS mem0))
      have nge : ∀ {i : Nat} {e : Pr2}, ps[i]? = some e → nxp[i]? = some e := fun {i e} h => by
        rw [enx, List.getElem?_append_left (List.getElem?_eq_some_iff.mp h).1]
        exact h
      refine ⟨⟨by omega, by omega⟩, ?_⟩
      refine fresh_fn (p := fun _ => true) (pl := fun i => prO ((fR p (ps.map (·.2)) i).1 - 1, (fR p (ps.map (·.2)) i).2)) (by omega) (fun i N hi hN s1 H1 C1 cl1 fp1 => ?_) fun d2 es hes => ?_
      · have hi' : i < ps.length := by omega
        have he := List.getElem?_eq_getElem hi'
        have hla := List.getElem?_eq_getElem (show i + 1 < nxp.length by omega)
        have me := hN _ (memS (hn1 _ (List.mem_of_getElem? (nge he))))
        have mla := hN _ (memS (hn1 _ (List.mem_of_getElem? hla)))
        have v1 : nxp[i + 1].2.1 = bOf p (ps.map (·.2)) (i + 1) := next_at (l := (tp, (e0.2.1 + p, 0))) pn (fun e h => by rw [p00] at h; cases h; rfl) hi' (by rw [← nd1, List.getElem?_drop, Nat.add_comm 1 i]; exact hla)
        have ge : (ps.map (·.2)).getD i (0, 0) = ps[i].2 := by
          rw [List.getD_eq_getElem?_getD, List.getElem?_map, he]
          rfl
        have v2 : bOf p (ps.map (·.2)) i = ps[i].2.1 := by rw [(bOf_lt (by rw [ln]; exact hi')).1, ge]
        have v3 : eOf p (ps.map (·.2)) i = ps[i].2.2 := by rw [(bOf_lt (by rw [ln]; exact hi')).2, ge]
        have a0 : atI (prV nxp) (i : Int) = some (.ref ps[i].1) := atI_nat (by unfold prV; rw [List.getElem?_map, nge he]; rfl)
        have a1 : atI (prV nxp) ((i : Int) + 1) = some (.ref nxp[i + 1].1) := by
          rw [show ((i : Int) + 1) = ((i + 1 : Nat) : Int) from rfl]
          exact atI_nat (by unfold prV; rw [List.getElem?_map, hla]; rfl)
        have mnx := hN _ (show (nx, HO.lst (prV nxp)) ∈ _ from memS mem0)
        refine gts_nil ⟨rfl, Sub.refl, fun _ s2 H2 C2 cl2 fp2 => ?_⟩
        tm_at "g"
        refine gi_lst mnx a0 ?_
        tm_at "g"
        refine gi_lst mnx a0 ?_
        tm_at "g"
        refine gi_lst mnx a1 ?_
        tm_at "g"
        refine gi_lst mnx a0 ?_
        tm_at "g"
        unfold fR
        rw [v2, v3, ← v1, show ps[i].2.2 - ps[i].2.1 + 1 - 1 = ps[i].2.2 - ps[i].2.1 by omega]
        exact Sub.refl
      have hes2 : es.map (·.2) = ((rowOf p (ps.map (·.2))).map fun e => (e.1 - 1, e.2)).map prO := by
        rw [hes, List.filter_eq_self.mpr fun _ _ => rfl]
        unfold rowOf
        rw [List.map_map, List.map_map, ln]
        rfl
      obtain ⟨row, r1, r2⟩ := pairs_of hes2
      rw [refs_of r1]
      have rlen : row.length = ps.length := by
        have z := congrArg List.length r2
        rw [List.length_map, List.length_map, rowOf_len, ln] at z
        exact z
      have hr1 : ∀ N : Lg, Prs2 row (es ++ N) := fun N => prs_of r1 N
      obtain ⟨rl, erl⟩ : ∃ rl, rl = (rowOf p (ps.map (·.2))).map fun e => (e.1 - 1, e.2) := ⟨_, rfl⟩
      rw [← erl] at r2
      tm_at "g"
      refine gs_lcP (by tm_at "g_put") (by tm_at "g_put") (gi_range2 ?_ B.range) (show blkC N_law_wrong (defScope s_law_wrong) _ [(_, List.idxOf _ N_law_wrong)] = true by decide +kernel)
      tm_at "g"
      rw [prV_len]
      refine ⟨⟨by decide, by decide, by omega, by omega⟩, ?_⟩
      let rot : Nat → Bool := fun t => decide (rl.drop t ++ rl.take t = rl)
      refine pure_fn (p := fun i => decide ((ps.length : Int) % (1 + (i : Int)) = 0) && rot (1 + i)) (g := fun i => .int (1 + (i : Int))) (by omega) (fun i hi D acc s1 H1 C1 cl1 fp1 => ?_) fun d3 => ?_
      · have hi' : i < ps.length := by omega
        show G.GT _ _ _ _ _
        tm_at "g"
        rw [prV_len]
        refine go_mod (by omega) ?_
        tm_at "g"
        refine ite_d (fun z => ?_) (fun z => ?_)
        · tm_at "g"
          have ec : (1 + (i : Int)) = ((1 + i : Nat) : Int) := by omega
          refine ⟨d2, prV row, rfl, ?_⟩
          show GE _ _ _ _ _
          tm_at "g"
          refine ⟨fun H hH => sql hH (by tm_at "g_mem"), fun q2 => ?_⟩
          rw [ec, cut_from (by rw [prV_len]; omega)]
          tm_at "g"
          refine ⟨d2, prV row, rfl, ?_⟩
          show GE _ _ _ _ _
          tm_at "g"
          refine ⟨fun H hH => sql hH (by tm_at "g_mem"), fun q3 => ?_⟩
          rw [cut_to (by rw [prV_len]; omega)]
          refine go_cat (by tm_at "g_mem") mem0 (szL (by simp only [List.length_drop, List.length_take, prV_len]; omega)) fun q4 => ?_
          tm_at "g"
          refine go_eqPL (ps := row.drop (1 + i) ++ row.take (1 + i)) (qs := row) hr mem0 (by tm_at "g_mem") (by unfold prV; rw [List.map_append, List.map_drop, List.map_take]) rfl (fun x hx => ?_) (fun x hx => ?_) ?_
          · refine memS (memS (memS (memS (memS (hr1 _ x ?_)))))
            rcases List.mem_append.mp hx with hx | hx
            · exact List.mem_of_mem_drop hx
            · exact List.mem_of_mem_take hx
          · exact memS (memS (memS (memS (memS (hr1 _ x hx)))))
          rw [List.map_append, List.map_drop, List.map_take, r2]
          refine ⟨_, rfl, ?_, by tm_at "g_end", fun _ s2 H2 C2 cl2 fp2 => ?_⟩
          · rw [← ec, decide_eq_true z, Bool.true_and]
          · tm_at "g"
            exact ⟨rfl, by tm_at "g_end"⟩
        · exact ⟨by rw [decide_eq_false z]; rfl, Sub.refl, fun y => nomatch y⟩
      have hcast : ∀ i : Nat, (ps.length : Int) % (1 + (i : Int)) = 0 ↔ ps.length % (1 + i) = 0 := fun i => by
        rw [show (1 + (i : Int)) = ((1 + i : Nat) : Int) by omega, ← Int.natCast_emod]
        omega
      rw [show ((ps.length : Int) - 1).toNat = ps.length - 1 by omega]
      have key : (∃ s, s < rs.length ∧ Turns p (castR rs) s) ↔ ¬ ((List.range (ps.length - 1)).filter fun i : Nat => decide ((ps.length : Int) % (1 + (i : Int)) = 0) && rot (1 + i)) = [] := by
        have lc : (castR rs).length = ps.length := by rw [← em]; exact ln
        have eqr : ∀ s, rl.drop s ++ rl.take s = rl ↔ (rowOf p (castR rs)).drop s ++ (rowOf p (castR rs)).take s = rowOf p (castR rs) := fun s => by
          rw [erl, em]
          exact map_rot
        constructor
        · rintro ⟨s, hs, s1, s2, s3⟩ hz
          have k := List.filter_eq_nil_iff.mp hz (s - 1) (List.mem_range.mpr (by omega))
          refine k ?_
          rw [Bool.and_eq_true]
          have e1 : 1 + (s - 1) = s := by omega
          refine ⟨decide_eq_true ((hcast _).mpr ?_), decide_eq_true ?_⟩
          · rw [e1, ← lc]; exact s2
          · rw [e1]; exact (eqr s).mpr s3
        · intro hz
          obtain ⟨i, rest, hf⟩ : ∃ i rest, ((List.range (ps.length - 1)).filter fun i : Nat => decide ((ps.length : Int) % (1 + (i : Int)) = 0) && rot (1 + i)) = i :: rest := by
            cases hz2 : ((List.range (ps.length - 1)).filter fun i : Nat => decide ((ps.length : Int) % (1 + (i : Int)) = 0) && rot (1 + i)) with
            | nil => exact absurd hz2 hz
            | cons a b => exact ⟨a, b, rfl⟩
          have hm : i ∈ i :: rest := List.mem_cons_self
          rw [← hf] at hm
          obtain ⟨h1, h2⟩ := List.mem_filter.mp hm
          obtain ⟨pi1, pi2⟩ := Bool.and_eq_true_iff.mp h2
          have := List.mem_range.mp h1
          exact ⟨1 + i, by omega, by omega, by rw [lc]; exact (hcast i).mp (of_decide_eq_true pi1), (eqr _).mp (of_decide_eq_true pi2)⟩
      generalize hF : ((List.range (ps.length - 1)).filter fun i : Nat => decide ((ps.length : Int) % (1 + (i : Int)) = 0) && rot (1 + i)) = F at key ⊢
      tm_at "g"
      refine go_neLI (ns := F.map fun i : Nat => 1 + (i : Int)) (ms := []) hr (memS mem0) mem0 (by rw [List.map_map]; rfl) rfl ?_
      cases F with
      | nil =>
        rw [if_neg fun z => key.mp z.2 rfl] at q
        tm_at "g"
        refine ite_f ?_
        refine ite_f ?_
        tm_at "g"
        exact ⟨_, Sub.trans (Sub.trans (Sub.trans Sub.drop Sub.drop) sM) (by tm_at "g_end"), q⟩
      | cons a b =>
        rw [if_pos ⟨by omega, key.mpr (fun z => nomatch z)⟩] at q
        tm_at "g"
        refine ite_t ?_
        tm_at "g"
        refine ite_d (fun _ => ?_) (fun z => absurd (show (0 : Int) < p by omega) z)
        tm_at "g"
        exact ⟨_, Sub.trans (Sub.trans (Sub.trans Sub.drop Sub.drop) sM) (by tm_at "g_end"), q⟩
end
section
open Tx Lt
variable {P : Program} {w : World} {K : PySem.W.Frag} {mg : Str → Option Value} {base : Heap}
def spBentT : SpL := fun vs L Q _ => ∃ (p c : Addr) (ns : List Int) (n m : Int) (ws : List Str) (k : Nat) (R : Lg), vs = [.ref p, .str (Txt.join (Str.ofString " ") ws)] ∧ Sub ((p, penO c n m) :: (c, celO ns) :: R) L ∧ ws ≠ [] ∧ WordsB k ws ∧ k ≤ 800 ∧ ns.length ≤ 63 ∧ 0 ≤ n ∧ n + 3 ≤ 100000 ∧ 0 ≤ m ∧
  ∀ (ws' : List Str) n' m', ws' ≠ [] → WordsB (k + 1) ws' → 0 ≤ n' → n' ≤ n + 3 → 0 ≤ m' → Q (.str (Txt.join (Str.ofString " ") ws')) ((p, penO c n' m') :: (c, celO ns) :: R)
theorem some_of {k : Nat} {v : V} {zs : List Str} (hz : ∀ z ∈ zs, Wd z) (h : (zs.map V.str)[k]? = some v) : ∃ z, v = .str z ∧ Wd z := by
  rw [List.getElem?_map] at h
  obtain ⟨z, h1, rfl⟩ := Option.map_eq_some_iff.mp h
  exact ⟨z, rfl, hz z (List.mem_of_getElem? h1)⟩
theorem mul9 : MulOk (Str.ofString "9") 121 := ⟨by decide, fun _ _ => by decide +kernel, fun _ _ => by decide +kernel⟩
def nines : Str := Txt.mul (Str.ofString "9") 121
abbrev oddWs : List Str := ["", "0", "1", "2", "7", "12", "-1", "-0", "+1", "1_0", "01", "to", ",", ":", "modulo", "every", "none", "x", "1\n", nines]
theorem oddWs_ok : ∀ z ∈ oddWs, Wd z := by decide +kernel
theorem cut_t {xs : List V} {k : Nat} : cutV xs none (some (k : Int)) = xs.take k := by
  unfold cutV
  rw [HT.sIx_nat, HT.sIx_none, List.drop_zero, Nat.sub_zero, List.take_eq_take_iff]
  omega
theorem cut_f {xs : List V} {k : Nat} : cutV xs (some (k : Int)) none = xs.drop k := by
  unfold cutV
  rw [HT.sIx_nat, HT.sIx_none]
  rcases Nat.le_total k xs.length with c | c
  · rw [Nat.min_eq_left c]
    exact List.take_of_length_le (by rw [List.length_drop]; omega)
  · rw [Nat.min_eq_right c, List.drop_length, List.drop_eq_nil_of_le c]
    simp
theorem cut_2 {xs : List V} {k : Nat} : cutV xs (some (k : Int)) (some ((k : Int) + 2)) = (xs.drop k).take 2 := by
  unfold cutV
  rw [show ((k : Int) + 2) = ((k + 2 : Nat) : Int) from rfl, HT.sIx_nat, HT.sIx_nat]
  rcases Nat.le_total k xs.length with c | c
  · rw [Nat.min_eq_left c, List.take_eq_take_iff, List.length_drop]
    omega
  · rw [Nat.min_eq_right c, List.drop_length, List.drop_eq_nil_of_le c]
    simp
theorem bent_ok {ws us : List Str} {k i j : Nat} (h : WordsB k ws) (hu : us.length + min i ws.length + (ws.length - j) ≤ k + 1) (hw : ∀ z ∈ us, Wd z) : WordsB (k + 1) (ws.take i ++ us ++ ws.drop j) := by
  refine ⟨?_, fun z hz => ?_⟩
  · simp only [List.length_append, List.length_take, List.length_drop]
    omega
  · rcases List.mem_append.mp hz with hz | hz
    · rcases List.mem_append.mp hz with hz | hz
      · exact h.2 z (List.mem_of_mem_take hz)
      · exact hw z hz
    · exact h.2 z (List.mem_of_mem_drop hz)
theorem wd_empty : Wd (Str.ofString "") := by decide +kernel
/-- a text of no words is a text of one, which is empty -/
theorem join_ne (us : List Str) (k : Nat) (h : WordsB (k + 1) us) : ∃ ws, ws ≠ [] ∧ WordsB (k + 1) ws ∧ Txt.join (Str.ofString " ") us = Txt.join (Str.ofString " ") ws := by
  cases us with
  | nil => exact ⟨[Str.ofString ""], by simp, ⟨by simp, fun z hz => by rw [List.mem_singleton.mp hz]; exact wd_empty⟩, by decide +kernel⟩
  | cons a r => exact ⟨a :: r, by simp, h, rfl⟩
theorem join_blank {ws : List Str} (ne : ws ≠ []) : Txt.join (Str.ofString " ") ws ++ Str.ofString " " = Txt.join (Str.ofString " ") (ws ++ [Str.ofString ""]) := by
  refine TL.ext_tl (List.cons.inj (show 32 :: _ = 32 :: _ from ?_)).2
  rw [TL.tl_append, ← List.cons_append, sp_join ne, sp_join (by simp), List.flatMap_append]
  congr 1
theorem fn_law_bent (B : Bi mg) (F : Df K mg "_law_bent" s_law_bent) (D1 : Fn P w K mg base CX0 "_law_draw" 1 spDraw) (D2 : Fn P w K mg base CX0 "_law_pick" 2 spPick) : Fn P w K mg base CX0 "_law_bent" 3 spBentT := by
  refine fn_plain F sc_law_bent (fun _ _ _ _ _ _ us hl => match us, hl with | [_, _], _ => rfl) (by decide) (by tm_at "g_len") ?_
  intro X f cdv A outer s H E0 L vs Q E hX nd hr h
  subst hX
  obtain ⟨p, c, ns, n, m, ws, k, R, rfl, sb, ne, wb, k8, h63, n0, n1, m0, q⟩ := h
  refine (fun h => GSs.sub sb h) ?_
  show GSs _ (defBody s_law_bent) (bodyD Q) [("_law_pen_here", some (.ref p)), ("_law_page", some (.str (Txt.join (Str.ofString " ") ws))), ("_law_words", none), ("_law_spot", none), ("_law_way", none), ("_law_word", none)] _
  refine gss_cons ?_
  tm_at "g"
  refine ge_split ?_
  tm_at "g"
  have tl := join_short wb
  refine ⟨by decide +kernel, szL (by omega), fun r => ?_⟩
  rw [split_words ne fun z hz => (wb.2 z hz).2.2]
  obtain ⟨wl, hw⟩ := wb
  tm_at "g"
  refine ge_call (El := NoX) D1 hr passA ?_
  tm_at "g"
  rw [List.length_map]
  tm_at "g_dr"
  intro sp n3 m3 e0 e1 b0 b1 b2
  obtain ⟨sp, rfl⟩ : ∃ j : Nat, sp = j := ⟨sp.toNat, by omega⟩
  tm_at "g"
  refine ge_call (El := NoX) D1 hr passA ?_
  tm_at "g"
  tm_at "g_dr"
  intro d n2 m2 d0 d1 a0 a1 a2
  tm_at "g"
  refine ge_call (El := NoX) D2 hr passA ?_
  tm_at "g"
  refine go_repS mul9 ?_
  rw [show Txt.mul (Str.ofString "9") 121 = nines from rfl]
  tm_at "g"
  tm_at "g_pk"
  intro k1 x n4 m4 hx c0 c1 c2
  obtain ⟨o, rfl, ow⟩ := some_of (zs := oddWs) oddWs_ok hx
  clear hx
  have fin : ∀ (us : List Str) (M : Lg), WordsB (k + 1) us → Sub ((p, penO c n4 m4) :: (c, celO ns) :: R) M → drp Q (.str (Txt.join (Str.ofString " ") us)) M := fun us M hu s => by
    obtain ⟨ws', ne', wb', e⟩ := join_ne us k hu
    rw [e]
    exact ⟨_, s, q ws' n4 m4 ne' wb' (by omega) (by omega) c2⟩
  have jl : ∀ us : List Str, WordsB (k + 1) us → (us.map (·.length)).sum + us.length * (Str.ofString " ").length ≤ 16777216 := fun us hu => by
    have := sum_words hu
    have := hu.1
    rw [show (Str.ofString " ").length = 1 from rfl]
    omega
  tm_at "g"
  refine ite_d (fun y => ?_) (fun y => ?_)
  · tm_at "g"
    refine ge_join ?_
    tm_at "g"
    refine ⟨r, ws.map V.str, rfl, ?_⟩
    show GE _ _ _ _ _
    tm_at "g"
    show _ ∧ _
    refine ⟨fun H hH => sql hH (by tm_at "g_mem"), fun q1 => ?_⟩
    rw [cut_t]
    tm_at "g"
    refine ⟨r, ws.map V.str, rfl, ?_⟩
    show GE _ _ _ _ _
    tm_at "g"
    show _ ∧ _
    refine ⟨fun H hH => sql hH (by tm_at "g_mem"), fun q2 => ?_⟩
    rw [show ((sp : Int) + 1) = ((sp + 1 : Nat) : Int) from rfl]
    rw [cut_f]
    refine go_cat (by tm_at "g_mem") mem0 (szL (by simp only [List.length_append, List.length_reverse, List.length_take, List.length_drop, List.length_map, List.length_cons, List.length_nil]; omega)) fun q3 => ?_
    rw [show List.take sp (ws.map V.str) ++ List.drop (sp + 1) (ws.map V.str) = (ws.take sp ++ [] ++ ws.drop (sp + 1)).map V.str by simp]
    have hb : WordsB (k + 1) (ws.take sp ++ [] ++ ws.drop (sp + 1)) := bent_ok (us := []) ⟨wl, hw⟩ (by simp only [List.length_nil]; omega) (fun _ z => absurd z List.not_mem_nil)
    exact ⟨q3, _, rfl, mem0, jl _ hb, fin _ _ hb (by tm_at "g_end")⟩
  tm_at "g"
  refine ite_d (fun y => ?_) (fun y => ?_)
  · tm_at "g"
    refine ge_join ?_
    tm_at "g"
    refine ⟨r, ws.map V.str, rfl, ?_⟩
    show GE _ _ _ _ _
    tm_at "g"
    show _ ∧ _
    refine ⟨fun H hH => sql hH (by tm_at "g_mem"), fun q1 => ?_⟩
    rw [cut_t]
    tm_at "g"
    refine go_cat (by tm_at "g_mem") mem0 (szL (by simp only [List.length_append, List.length_reverse, List.length_take, List.length_drop, List.length_map, List.length_cons, List.length_nil]; omega)) fun q2 => ?_
    tm_at "g"
    refine ⟨r, ws.map V.str, rfl, ?_⟩
    show GE _ _ _ _ _
    tm_at "g"
    show _ ∧ _
    refine ⟨fun H hH => sql hH (by tm_at "g_mem"), fun q3 => ?_⟩
    rw [cut_f]
    refine go_cat (by tm_at "g_mem") mem0 (szL (by simp only [List.length_append, List.length_reverse, List.length_take, List.length_drop, List.length_map, List.length_cons, List.length_nil]; omega)) fun q4 => ?_
    rw [show List.take sp (ws.map V.str) ++ [V.str o] ++ List.drop sp (ws.map V.str) = (ws.take sp ++ [o] ++ ws.drop sp).map V.str by simp]
    have hb : WordsB (k + 1) (ws.take sp ++ [o] ++ ws.drop sp) := bent_ok (us := [o]) ⟨wl, hw⟩ (by simp only [List.length_cons, List.length_nil]; omega) (fun z hz => by rw [List.mem_singleton.mp hz]; exact ow)
    exact ⟨q4, _, rfl, mem0, jl _ hb, fin _ _ hb (by tm_at "g_end")⟩
  tm_at "g"
  refine ite_d (fun y => ?_) (fun y => ?_)
  · tm_at "g"
    refine ge_join ?_
    tm_at "g"
    refine ⟨r, ws.map V.str, rfl, ?_⟩
    show GE _ _ _ _ _
    tm_at "g"
    show _ ∧ _
    refine ⟨fun H hH => sql hH (by tm_at "g_mem"), fun q1 => ?_⟩
    rw [show ((sp : Int) + 1) = ((sp + 1 : Nat) : Int) from rfl]
    rw [cut_t]
    tm_at "g"
    refine ⟨r, ws.map V.str, rfl, ?_⟩
    show GE _ _ _ _ _
    tm_at "g"
    show _ ∧ _
    refine ⟨fun H hH => sql hH (by tm_at "g_mem"), fun q2 => ?_⟩
    rw [cut_f]
    refine go_cat (by tm_at "g_mem") mem0 (szL (by simp only [List.length_append, List.length_reverse, List.length_take, List.length_drop, List.length_map, List.length_cons, List.length_nil]; omega)) fun q3 => ?_
    rw [show List.take (sp + 1) (ws.map V.str) ++ List.drop sp (ws.map V.str) = (ws.take (sp + 1) ++ [] ++ ws.drop sp).map V.str by simp]
    have hb : WordsB (k + 1) (ws.take (sp + 1) ++ [] ++ ws.drop sp) := bent_ok (us := []) ⟨wl, hw⟩ (by simp only [List.length_nil]; omega) (fun _ z => absurd z List.not_mem_nil)
    exact ⟨q3, _, rfl, mem0, jl _ hb, fin _ _ hb (by tm_at "g_end")⟩
  tm_at "g"
  refine ite_d (fun y => ?_) (fun y => ?_)
  · tm_at "g"
    refine ge_join ?_
    tm_at "g"
    refine ⟨r, ws.map V.str, rfl, ?_⟩
    show GE _ _ _ _ _
    tm_at "g"
    show _ ∧ _
    refine ⟨fun H hH => sql hH (by tm_at "g_mem"), fun q1 => ?_⟩
    rw [cut_t]
    refine ge_revL ?_
    tm_at "g"
    refine ⟨r, ws.map V.str, rfl, ?_⟩
    show GE _ _ _ _ _
    tm_at "g"
    show GE _ _ _ _ _
    tm_at "g"
    refine ⟨fun H hH => sql hH (by tm_at "g_mem"), fun q2 => ?_⟩
    rw [cut_2]
    refine ⟨_, _, rfl, mem0, fun q3 => ?_⟩
    have l2 : ((List.drop sp (ws.map V.str)).take 2).length ≤ 2 := by rw [List.length_take]; omega
    refine go_cat (by tm_at "g_mem") mem0 (szL (by simp only [List.length_append, List.length_reverse, List.length_take, List.length_drop, List.length_map, List.length_cons, List.length_nil]; omega)) fun q4 => ?_
    tm_at "g"
    refine ⟨r, ws.map V.str, rfl, ?_⟩
    show GE _ _ _ _ _
    tm_at "g"
    show _ ∧ _
    refine ⟨fun H hH => sql hH (by tm_at "g_mem"), fun q5 => ?_⟩
    rw [show ((sp : Int) + 2) = ((sp + 2 : Nat) : Int) from rfl]
    rw [cut_f]
    refine go_cat (by tm_at "g_mem") mem0 (szL (by simp only [List.length_append, List.length_reverse, List.length_take, List.length_drop, List.length_map, List.length_cons, List.length_nil]; omega)) fun q6 => ?_
    rw [show List.take sp (ws.map V.str) ++ ((List.drop sp (ws.map V.str)).take 2).reverse ++ List.drop (sp + 2) (ws.map V.str) = (ws.take sp ++ ((ws.drop sp).take 2).reverse ++ ws.drop (sp + 2)).map V.str by simp]
    have hb : WordsB (k + 1) (ws.take sp ++ ((ws.drop sp).take 2).reverse ++ ws.drop (sp + 2)) := bent_ok (us := ((ws.drop sp).take 2).reverse) ⟨wl, hw⟩ (by simp only [List.length_reverse, List.length_take, List.length_drop]; omega) (fun z hz => hw z (List.mem_of_mem_drop (List.mem_of_mem_take (List.mem_reverse.mp hz))))
    exact ⟨q6, _, rfl, mem0, jl _ hb, fin _ _ hb (by tm_at "g_end")⟩
  tm_at "g"
  refine ite_d (fun y => ?_) (fun y => ?_)
  · tm_at "g"
    refine go_catS (szL (by rw [show (Str.ofString " ").length = 1 from rfl]; omega)) ?_
    rw [join_blank ne]
    have hb : WordsB (k + 1) (ws ++ [Str.ofString ""]) := ⟨by rw [List.length_append, List.length_singleton]; omega, fun z hz => (List.mem_append.mp hz).elim (hw z) fun h => by rw [List.mem_singleton.mp h]; exact wd_empty⟩
    exact fin _ _ hb (by tm_at "g_end")
  · tm_at "g"
    refine ge_join ?_
    tm_at "g"
    refine ⟨r, ws.map V.str, rfl, ?_⟩
    show GE _ _ _ _ _
    tm_at "g"
    show _ ∧ _
    refine ⟨fun H hH => sql hH (by tm_at "g_mem"), fun q1 => ?_⟩
    rw [cut_t]
    tm_at "g"
    refine go_cat (by tm_at "g_mem") mem0 (szL (by simp only [List.length_append, List.length_reverse, List.length_take, List.length_drop, List.length_map, List.length_cons, List.length_nil]; omega)) fun q2 => ?_
    tm_at "g"
    refine ⟨r, ws.map V.str, rfl, ?_⟩
    show GE _ _ _ _ _
    tm_at "g"
    show _ ∧ _
    refine ⟨fun H hH => sql hH (by tm_at "g_mem"), fun q3 => ?_⟩
    rw [show ((sp : Int) + 1) = ((sp + 1 : Nat) : Int) from rfl]
    rw [cut_f]
    refine go_cat (by tm_at "g_mem") mem0 (szL (by simp only [List.length_append, List.length_reverse, List.length_take, List.length_drop, List.length_map, List.length_cons, List.length_nil]; omega)) fun q4 => ?_
    rw [show List.take sp (ws.map V.str) ++ [V.str o] ++ List.drop (sp + 1) (ws.map V.str) = (ws.take sp ++ [o] ++ ws.drop (sp + 1)).map V.str by simp]
    have hb : WordsB (k + 1) (ws.take sp ++ [o] ++ ws.drop (sp + 1)) := bent_ok (us := [o]) ⟨wl, hw⟩ (by simp only [List.length_cons, List.length_nil]; omega) (fun z hz => by rw [List.mem_singleton.mp hz]; exact ow)
    exact ⟨q4, _, rfl, mem0, jl _ hb, fin _ _ hb (by tm_at "g_end")⟩
end
section
open Lt
abbrev InitR (P : Program) (w : World) (K : PySem.W.Frag) (mg : Str → Option Value) (base : Heap) (fI : Addr) : Prop := RunG P w K mg base CX0 4 fI argsP (toSp fun vs L Q E => ∃ ws rest, vs = ws ++ rest ∧ ws.length = 2 ∧ rest.length ≤ sizeLine ∧ ∀ p, spLotInit K (ws ++ [.ref p]) ((p, .tup rest) :: L) Q E)
end
section
open Lt
variable {P : Program} {w : World} {K : PySem.W.Frag} {mg : Str → Option Value} {base : Heap} {C : Addr}
theorem Lt.Form.tell {S : Int → Prop} {q : Int} {f : List Rn} (h : Form S q f) (n : Int) : In q f n ↔ S n := by
  rcases h.runs with ⟨a, e⟩ | ⟨-, t⟩
  · subst e
    have q1 : q = 1 := by
      have := h.least 1 (by omega) (fun n => ⟨fun _ => a _, fun _ => a _⟩)
      have := h.pos
      omega
    subst q1
    exact ⟨fun _ => a n, fun _ => all_zero n⟩
  · exact t n
theorem Lt.Form.le {S : Int → Prop} {q : Int} {f : List Rn} (h : Form S q f) : ∀ r ∈ f, r.1 ≤ r.2 := by
  rcases h.runs with ⟨-, e⟩ | ⟨nf, -⟩
  · subst e
    intro r hr
    rw [List.mem_singleton.mp hr]
    exact Int.le_refl _
  · exact nf.le
/-- the lot at a has the members S -/
structure LotS (C : Addr) (S : Int → Prop) (a : Addr) (L : Lg) : Prop where
  ex : ∃ (dx : Addr) (q : Int) (t : Addr) (few : List Pr2) (ob : Addr), LotAt C a dx q t few ob L ∧ Form S q (few.map (·.2)) ∧ few.length ≤ 2000
theorem LotS.up {S : Int → Prop} {a : Addr} {L M : Lg} (h : LotS C S a L) (u : ∀ e ∈ L, e ∈ M) : LotS C S a M := by
  obtain ⟨dx, q, t, few, ob, x, f, l⟩ := h.ex
  exact ⟨dx, q, t, few, ob, x.mono u, f, l⟩
theorem LotS.of {S U : Int → Prop} {a : Addr} {L : Lg} (h : LotS C S a L) (e : ∀ n, S n ↔ U n) : LotS C U a L := by
  have : S = U := funext fun n => propext (e n)
  rw [← this]
  exact h
/-- a new lot of the members S -/
def LotN (C : Addr) (S : Int → Prop) (L : Lg) (Q : QV) : Prop := ∀ (x : Addr) (M : Lg), Sub L M → LotS C S x M → Q (.ref x) M
theorem LotN.r {S : Int → Prop} {L : Lg} {Q : QV} (h : LotN C S L Q) : LotR C S L Q := fun x dx q t few ob M s a f l => h x M s ⟨dx, q, t, few, ob, a, f, l⟩
theorem LotN.of {S U : Int → Prop} {L : Lg} {Q : QV} (h : LotN C U L Q) (e : ∀ n, S n ↔ U n) : LotN C S L Q := fun x M s k => h x M s (k.of e)
theorem LotN.drp {S : Int → Prop} {L L0 : Lg} {Q : QV} (h : LotN C S L Q) (s : Sub L L0) : LotN C S L0 (G.drp Q) := fun x M s' k => ⟨M, Sub.refl, h x M (Sub.trans s s') k⟩
theorem LotN.self {S : Int → Prop} {L : Lg} {Q : QV} {a : Addr} (h : LotN C S L Q) (k : LotS C S a L) : Q (.ref a) L := h a L Sub.refl k
/-- lots compared -/
theorem go_neL {X : Cx} {j : Nat} {L : Lg} {Q : QV} {S U : Int → Prop} {a b : Addr} (E : LotEq X.prog X.w X.K X.mg X.base C) (hr : RoomG j X.A) (h1 : LotS C S a L) (h2 : LotS C U b L) (e : ∀ n, S n ↔ U n) (q : Q (.bl false) L) (hj : 2 ≤ j := by decide) : GOp X (compareOp .NotEq) (.ref a) (.ref b) L Q := by
  obtain ⟨dx, q1, t, few, ob, x, f, l⟩ := h1.ex
  obtain ⟨dy, q2, t2, few2, ob2, y, g, l2⟩ := (h2.of fun n => (e n).symm).ex
  exact go_neM (El := NoX) E.oe E.run hr passA x.o y.o E.nf ⟨a, b, _, _, q1, t, few, ob, q2, t2, few2, ob2, rfl, x, y, _, rfl, by rw [decide_eq_true (Form.unique f g)]; exact q⟩ hj
def spLotOf (C : Addr) : SpL := fun vs L Q _ => ∃ (p : Int) (r : Addr) (o : HO) (ps : List Pr2), vs = [.int p, .ref r] ∧ RowO o (prV ps) ∧ (r, o) ∈ L ∧ Prs2 ps L ∧ ps.length ≤ 2000 ∧ 1 ≤ p ∧ (∀ e ∈ ps, e.2.1 ≤ e.2.2) ∧ LotN C (In p (ps.map (·.2))) L Q
theorem fn_lot_of (F : Df K mg "lot_of" s_lot_of) {fI : Addr} (hC : mg "Lot" = some (.ref C)) (la : LotA K C) (M0 : Mk K C fI) (R : InitR P w K mg base fI) : Fn P w K mg base CX0 "lot_of" 6 (spLotOf C) := by
  refine fn_plain F sc_lot_of (fun _ _ _ _ _ _ us hl => match us, hl with | [_, _], _ => rfl) (by decide) (by tm_at "g_len") ?_
  intro X f cdv A outer s H E0 L vs Q E hX nd hr h
  subst hX
  obtain ⟨p, r, o, ps, rfl, ro, mr, hp, hl, p1, le, q⟩ := h
  show GSs _ (defBody s_lot_of) (bodyD Q) [("period", some (.int p)), ("runs", some (.ref r))] L
  refine gss_cons ?_
  tm_at "g"
  refine ge_callFS hC M0.kp (fun _ => gf_lot la M0 R hr) ?_
  tm_at "g"
  refine ⟨r, prV ps, rfl, ?_, ?_⟩
  · rcases ro with rfl | rfl
    · exact .inr mr
    · exact .inl mr
  tm_at "g"
  exact ⟨p, ps, by rw [List.append_nil], hp, hl, p1, le, LotN.r (LotN.drp q Sub.refl)⟩
end
section
open Lt
variable {P : Program} {w : World} {K : PySem.W.Frag} {mg : Str → Option Value} {base : Heap} {C : Addr}
structure LStr (P : Program) (w : World) (K : PySem.W.Frag) (mg : Str → Option Value) (base : Heap) (C : Addr) where
  g : Addr
  st : PySem.W.findIn K (.ref C) "__str__" = some (some (.ref g))
  sf : PySem.W.isFn K (.ref g) = true
  Rs : RunG P w K mg base CX0 1 g argsP (toSp (spLotStr K))
theorem gc_lotStr {X : Cx} {j : Nat} {L : Lg} {Q : QV} {U : Int → Prop} {a : Addr} {q0 : Int} {few0 : List Rn} {z : Str} (Y : LStr X.prog X.w X.K X.mg X.base C) (hr : RoomG j X.A) (la : LotA X.K C) (h : LotS C U a L) (f0 : Form U q0 few0) (b1 : q0.natAbs < 2 ^ 1920) (b2 : ∀ r ∈ few0, r.1.natAbs < 2 ^ 1920 ∧ r.2.natAbs < 2 ^ 1920) (b3 : (Txt.join " , " (few0.map runTxt)).length ≤ 5000000) (e : lotText q0 few0 = z) (q : Q (.str z) L) (hj : 3 ≤ j := by decide) : GC X (.type "str") [.ref a] L Q := by
  obtain ⟨dx, q1, t, few, ob, x, f, l⟩ := h.ex
  obtain ⟨e1, e2⟩ := Form.unique f f0
  subst e1
  exact gc_strM (El := NoX) Y.st Y.sf Y.Rs hr passA x.o ⟨a, C, dx, q1, t, few, ob, rfl, la, x, l, b1, fun e he => b2 e.2 (e2 ▸ List.mem_map.mpr ⟨e, he, rfl⟩), e2 ▸ b3, _, rfl, by rw [e2, e]; exact q⟩ hj
end
section
open Tx Lt
variable {P : Program} {w : World} {K : PySem.W.Frag} {mg : Str → Option Value} {base : Heap} {C Ct Cr : Addr}
structure ErrR (P : Program) (w : World) (K : PySem.W.Frag) (mg : Str → Option Value) (base : Heap) (Ct Cr : Addr) : Prop where
  t : ErrT P w K mg base "BadText" Ct ["line", "word"]
  r : mg "ReachError" = some (.ref Cr)
  x : PySem.W.exmOne K (.ref Ct) (.ref Cr) = some true
  k : PySem.W.kitOne K (.ref Ct) (.ref Ct) = some true
/-- a lot whose text is known -/
def LotTx (C : Addr) (z : Str) (v : V) (L : Lg) : Prop := ∃ (a dx : Addr) (q : Int) (t : Addr) (few : List Pr2) (ob : Addr), v = .ref a ∧ LotAt C a dx q t few ob L ∧ few.length ≤ 2000 ∧ q.natAbs < 2 ^ 1920 ∧ (∀ e ∈ few, e.2.1.natAbs < 2 ^ 1920 ∧ e.2.2.natAbs < 2 ^ 1920) ∧ (Txt.join " , " ((few.map (·.2)).map runTxt)).length ≤ 5000000 ∧ lotText q (few.map (·.2)) = z
theorem gc_tx {X : Cx} {j : Nat} {L : Lg} {Q : QV} {v : V} {z : Str} (Y : LStr X.prog X.w X.K X.mg X.base C) (hr : RoomG j X.A) (la : LotA X.K C) (h : LotTx C z v L) (q : Q (.str z) L) (hj : 3 ≤ j := by decide) : GC X (.type "str") [v] L Q := by
  obtain ⟨a, dx, q1, t, few, ob, rfl, x, l, b1, b2, b3, e⟩ := h
  exact gc_strM (El := NoX) Y.st Y.sf Y.Rs hr passA x.o ⟨a, C, dx, q1, t, few, ob, rfl, la, x, l, b1, b2, b3, _, rfl, by rw [e]; exact q⟩ hj
/-- what comes of a lambda: an error with its word, or a lot with its text -/
inductive OutR
  | text (n : Nat)
  | lot (z : Str)
def OutR.E (Ct : Addr) (M : Lg) : OutR → XL
  | .text n => fun c d L' => c = .ref Ct ∧ ∃ dd, d = some dd ∧ Sub ((dd, .xd (textF n)) :: M) L'
  | .lot _ => fun _ _ _ => False
def OutR.A (C : Addr) (M : Lg) : OutR → QV
  | .lot z => fun v L' => LotTx C z v L' ∧ Sub M L'
  | .text _ => fun _ _ => False
def OutR.o : OutR → HO
  | .text n => .tup [.int 0, .int n]
  | .lot z => .lst [.str z]
theorem heard_body (B : Bi mg) (T : ErrR P w K mg base Ct Cr) (Y : LStr P w K mg base C) (la : LotA K C) {L : Lg} {z : OutR} {Q : QV} (q : ∀ t, Q (.ref t) ((t, z.o) :: L))
    {k : Nat} (Z : Cx) (g f : Addr) (cdv : Value) (A : Around) (outer : List Env) (s : Shared) (H : Hp) (E0 : XK) (hZ : Z = cx0 P w K mg base N_law_heard "_law_heard" (defScope s_law_heard) g cdv A outer s H E0) (nd : Z.N.Nodup) (hr : RoomG (k + 1) Z.A) (hk : 2 ≤ k)
    (act : ∀ M, (∀ e ∈ L, e ∈ M) → Act Z "_law_ask" f M (z.A C M) (z.E Ct M)) : GSs Z (defBody s_law_heard) (bodyD Q) (begun N_law_heard [.ref f]) L := by
  subst hZ
  show GSs _ (defBody s_law_heard) (bodyD Q) [("_law_ask", some (.ref f)), ("_law_caught", none), ("error", none)] L
  refine gss_cons ?_
  tm_at "g"
  refine gs_try_as (x := "ReachError") (c := .ref Cr) ⟨rfl, rfl, .inl T.r⟩ (Wout := fun _ _ _ _ => False) tk0 ?_ (show _ ∈ N_law_heard by decide)
  intro X' pn xe hX hp nd' tk
  subst hX
  refine gss_cons ?_
  tm_at "g"
  cases z with
  | text n =>
    refine GE.imp (act L (fun e h => h) pn xe _ _ _ _ tk (fun c d L' h => ?_) (by tm_at "g_at")) (fun _ _ z => False.elim z)
    obtain ⟨rfl, dd, rfl, sb⟩ := h
    refine ⟨true, T.x, fun _ a => ⟨_, by tm_at "g_pv", GSs.sub (Sub.cons sb) ?_⟩, fun z => nomatch z⟩
    refine gss_cons ?_
    tm_at "g"
    refine ⟨_, by first | exact Clr.here | exact .there .here | exact .there (.there .here) | exact .there (.there (.there .here)), ?_⟩
    tm_at "g"
    refine gv_def T.t.gC ?_
    tm_at "g"
    refine gc_isE T.t.ev mem0 (memS mem0) (.own Ct) T.k ?_
    tm_at "g"
    refine gat_exc T.t.ev (T.t.no "line" (by simp)) (by tm_at "g_mem") (by tm_at "g_mem") rfl ?_
    tm_at "g"
    refine gat_exc T.t.ev (T.t.no "word" (by simp)) (by tm_at "g_mem") (by tm_at "g_mem") rfl ?_
    tm_at "g"
    exact ⟨_, Sub.cons (Sub.drop.trans Sub.drop), q _⟩
  | lot z =>
    refine GE.imp (act L (fun e h => h) pn xe _ _ _ _ tk (fun c d L' h => False.elim h) (by tm_at "g_at")) (fun v L' z => ?_)
    obtain ⟨tx, sb⟩ := z
    tm_at "g"
    refine gc_tx Y hr la tx ?_ (by omega)
    tm_at "g"
    exact ⟨_, Sub.cons sb, q _⟩
/-- _law_heard(lambda: body) -/
theorem ge_toldR {X : Cx} {η : En} {L : Lg} {Q : QV} (z : OutR) {o : HO} (ho : z.o = o) {params : Arguments} {body : Expr} {scope : Scope} {p lpos pos : Pos} {c P0 : Addr} (B : Bi X.mg) (TE : ErrR X.prog X.w X.K X.mg X.base Ct Cr) (Y : LStr X.prog X.w X.K X.mg X.base C) (la : LotA X.K C)
    (Fh : Df X.K X.mg "_law_heard" s_law_heard) (TB : LamX.TabB X.base X.mg c P0) (hcode : X.env.code = .ref c) (mT : (P0, tabM (X.env.qual ++ "<lambda>")) ∈ L) (hr : RoomG 12 X.A) (hS : LamX.LamS X.env.scope scope)
    (lam : ∀ M, (∀ e ∈ L, e ∈ M) → ∀ (A0 : Around) (outer : List Env) (s : Shared) (H : Hp) (Ex : XK) (f c' : Addr), RoomG 10 (LamX.lamCx X A0 outer s H Ex scope f c').A → Tk (LamX.lamCx X A0 outer s H Ex scope f c') (fun c d _ L' => z.E Ct M c d L') → GE (LamX.lamCx X A0 outer s H Ex scope f c') body η M (z.A C M)) (q : ∀ t, Q (.ref t) ((t, o) :: L))
    (hdef : defaultsOf params X.env = ([], []) := by rfl) (hbind : ∀ (q : Str) (cl : List (Str × Addr)) (pm cv ctv : Value), bindArgs (PySem.W.kla_fn "<lambda>" q params body scope cl pm cv ctv) ⟨[], []⟩ = pure [] := by intros; rfl) (hg : Gl X "_law_heard" := by rfl) :
    GE X (.Call (.Name "_law_heard" p) [.Lambda params body scope lpos] [] pos) η L Q :=
  GE.undrp (ge_lamcallM (k := 10) (AM := fun M => z.A C M) (EM := fun M => z.E Ct M) Fh sc_law_heard (fun _ _ _ _ _ _ us hl => match us, hl with | [_], _ => rfl) (by decide) TB hcode mT hr hS lam
    (fun Z g f cdv s H E0 hZ nd hr act => heard_body B TE Y la (fun t => ⟨_, Sub.refl, by rw [ho]; exact q t⟩) Z g f cdv _ _ s H E0 hZ nd hr (by decide) act) hdef hbind hg)
theorem telT_out {n : Nat} {M : Lg} : telT Ct n (fun c d L' => (OutR.text n).E Ct M c d L') M := fun d N s => ⟨rfl, d, rfl, s⟩
end
namespace Tx
open PySem NumText L2 TL Lt
theorem fit_pow {n : Nat} (h : Fit n) : ((n : Nat) : Int).natAbs < 2 ^ 1920 := by
  rw [Int.natAbs_natCast]
  have h3 : (10 : Nat) ^ 110 ≤ 2 ^ (4 * 110) := by
    rw [Nat.pow_mul]
    exact Nat.pow_le_pow_left (by decide) 110
  exact Nat.lt_of_lt_of_le h (Nat.le_trans h3 (Nat.pow_le_pow_right (by decide) (by decide)))
theorem fit_most {n : Nat} (h : n < 2 * mostP) : Fit n := by
  unfold Fit
  have : (10 : Nat) ^ 110 = mostP * 10 ^ 10 := by decide +kernel
  rw [this]
  have : mostP * 2 ≤ mostP * 10 ^ 10 := Nat.mul_le_mul_left _ (by decide)
  omega
theorem form_small {S : Int → Prop} {q : Int} {few : List Rn} (f : Form S q few) (hq : q ≤ (mostP : Nat)) (fl : few.length ≤ 2000) : q.natAbs < 2 ^ 1920 ∧ (∀ r ∈ few, r.1.natAbs < 2 ^ 1920 ∧ r.2.natAbs < 2 ^ 1920) ∧ (Txt.join " , " (few.map runTxt)).length ≤ 470000 := by
  have q0 := f.pos
  have ft : ∀ r ∈ few, ∃ x : NR, r = ((x.1 : Int), (x.2 : Int)) ∧ Fit x.1 ∧ Fit x.2 := fun r hr => by
    rcases f.runs with ⟨a, rfl⟩ | ⟨a, b⟩
    · rw [List.mem_singleton.mp hr]
      exact ⟨(0, 0), rfl, by unfold Fit; decide +kernel, by unfold Fit; decide +kernel⟩
    · have w := a.wd r hr
      have l := a.le r hr
      have c := a.cl r hr r hr
      refine ⟨(r.1.toNat, r.2.toNat), ?_, fit_most (by dsimp only; omega), fit_most (by dsimp only; omega)⟩
      show r = ((r.1.toNat : Int), (r.2.toNat : Int))
      rw [Int.toNat_of_nonneg (by omega), Int.toNat_of_nonneg (by omega)]
  refine ⟨?_, fun r hr => ?_, ?_⟩
  · have := fit_pow (n := q.toNat) (fit_most (by omega))
    rwa [Int.toNat_of_nonneg (by omega)] at this
  · obtain ⟨x, rfl, h1, h2⟩ := ft r hr
    exact ⟨fit_pow h1, fit_pow h2⟩
  · have := join_len (Str.ofString " , ") (ys := few.map runTxt) (n := 230) fun z hz => by
      obtain ⟨r, hr, rfl⟩ := List.mem_map.mp hz
      obtain ⟨x, rfl, h1, h2⟩ := ft r hr
      rw [runTxt_of, Str.length_append, Str.length_append]
      have := len_nTxt h1
      have := len_nTxt h2
      have : (Str.ofString " to ").length = 4 := rfl
      omega
    rw [List.length_map, show (Str.ofString " , ").length = 3 from rfl] at this
    omega
end Tx
section
open Tx Lt
variable {P : Program} {w : World} {K : PySem.W.Frag} {mg : Str → Option Value} {base : Heap} {C Ct Cr : Addr}
/-- what comes of a text read -/
def outR (ws : List Str) : OutR :=
  match wrongP ws with
  | some k => .text k
  | none => .lot (Txt.join (Str.ofString " ") ws)
theorem most_of {ws : List Str} {p : Nat} {rs : List NR} (h : readL ws = .inr (p, rs)) : p ≤ mostP ∧ 1 ≤ p := by
  rcases readL_cases h with ⟨_, rfl, _⟩ | ⟨_, rfl, _⟩ | ⟨p2, pm, _⟩
  · decide +kernel
  · decide +kernel
  · exact ⟨pm, by omega⟩
theorem form_tx {ws : List Str} {p : Nat} {rs : List NR} {q : Int} {few : List Rn} (h : readL ws = .inr (p, rs)) (f : Form (In p (castR rs)) q few) (hq : p = 1 ∨ q = p) : q ≤ (mostP : Nat) := by
  have pp : Per (In p (castR rs)) p := fun n => ⟨fun ⟨r, hr, z, h1, h2⟩ => ⟨r, hr, z + 1, by rw [Int.mul_add]; omega, by rw [Int.mul_add]; omega⟩, fun ⟨r, hr, z, h1, h2⟩ => ⟨r, hr, z - 1, by rw [Int.mul_sub]; omega, by rw [Int.mul_sub]; omega⟩⟩
  have m := most_of h
  have := f.least p (by omega) pp
  omega
theorem text_len {S : Int → Prop} {q : Int} {few : List Rn} (f : Form S q few) (hq : q ≤ (mostP : Nat)) (fl : few.length ≤ 2000) : (lotText q few).length ≤ 480000 := by
  obtain ⟨s1, -, s3⟩ := form_small f hq fl
  have s3 : (Txt.join (Str.ofString " , ") (few.map runTxt)).length ≤ 470000 := s3
  have l0 : (Str.ofString "modulo ").length = 7 := rfl
  have l1 : (Str.ofString " : ").length = 3 := rfl
  have l2 : (Str.ofString (toString q)).length ≤ 1921 := int_text_len_1921 (log_lt s1)
  unfold lotText
  split
  · decide
  · split
    · decide
    · show (Str.empty ++ Str.ofString "modulo " ++ Str.ofString (toString q) ++ Str.ofString " : " ++ Txt.join (Str.ofString " , ") (few.map runTxt)).length ≤ _
      rw [empS]
      simp only [Str.length_append, l0, l1]
      omega
/-- a lot's own text read -/
theorem read_made {S : Int → Prop} {q : Int} {few : List Rn} {vs : List V} {L : Lg} {Q : QV} {E : XL} (f : Form S q few) (hq : q ≤ (mostP : Nat)) (fl : few.length ≤ 2000) (ev : vs = [.str (lotText q few)]) (h : ∀ x M, Sub L M → LotS C S x M → Q (.ref x) M) : spReadLot K C Ct vs L Q E := by
  obtain ⟨ws, p, rs, et, ne, wb, hr, hin, hp⟩ := text_read f hq fl
  have eS : In p (castR rs) = S := funext fun n => propext (hin n)
  refine ⟨_, ev, .inl ⟨_, ws, rfl, Nat.le_trans (text_len f hq fl) (by decide), by rw [et]; exact split_words ne (fun z hz => (wb.2 z hz).2.2), words_r wb (by omega), ne, fun j hj => (nomatch hr.symm.trans hj), fun p' rs' hrs => ?_⟩⟩
  cases hr.symm.trans hrs
  rw [eS]
  refine ⟨fun q1 few1 p1 frm qp => ?_, fun x dx q' t few ob M' s' at' frm fl hp' => h x M' s' ⟨dx, q', t, few, ob, at', frm, fl⟩⟩
  have := (frm.unique f).1
  rcases hp with hp | hp
  · exact absurd hp p1
  · exact absurd (this.trans hp) qp
/-- a text of which nothing is wrong -/
theorem read_ok {ws : List Str} {k : Nat} {M : Lg} {vs : List V} {Q : QV} {E : XL} (hw : wrongP ws = none) (wb : WordsB k ws) (k9 : k ≤ 900) (ne : ws ≠ []) (ev : vs = [.str (Txt.join (Str.ofString " ") ws)]) (h : ∀ v L', LotTx C (Txt.join (Str.ofString " ") ws) v L' → Sub M L' → Q v L') : spReadLot K C Ct vs M Q E := by
  unfold wrongP at hw
  refine ⟨_, ev, .inl ⟨_, ws, rfl, Nat.le_trans (join_short wb) (by omega), split_words ne (fun z hz => (wb.2 z hz).2.2), words_r wb (by omega), ne, fun j hj => ?_, fun p rs hrs => ⟨fun q few p1 frm qp => ?_, fun x dx q' t few ob M' s' at' frm fl hp => ?_⟩⟩⟩
  · rw [hj] at hw
    cases hw
  · rw [hrs] at hw
    dsimp only at hw
    rw [if_pos ⟨p1, (turn_ne hrs frm p1).mp qp⟩] at hw
    cases hw
  · obtain ⟨s1, s2, s3⟩ := form_small frm (form_tx hrs frm hp) (by rw [List.length_map]; exact fl)
    exact h _ _ ⟨x, dx, q', t, few, ob, rfl, at', fl, s1, fun e he => s2 e.2 (List.mem_map_of_mem he), Nat.le_trans s3 (by decide), (read_said hrs frm hp).symm⟩ s'
/-- the reading of a text, as what is heard -/
theorem read_out {ws : List Str} {k : Nat} {M : Lg} {vs : List V} (wb : WordsB k ws) (k9 : k ≤ 9000) (hl : (Txt.join (Str.ofString " ") ws).length ≤ 1000000) (ne : ws ≠ []) (ev : vs = [.str (Txt.join (Str.ofString " ") ws)]) : spReadLot K C Ct vs M ((outR ws).A C M) (fun c d L' => (outR ws).E Ct M c d L') := by
  refine ⟨_, ev, .inl ⟨_, ws, rfl, hl, split_words ne (fun z hz => (wb.2 z hz).2.2), words_r wb (by omega), ne, fun j hj => ?_, fun p rs hrs => ⟨fun q few p1 frm qp => ?_, fun x dx q' t few ob M' s' at' frm fl hp => ?_⟩⟩⟩
  · have e : outR ws = .text j := by unfold outR wrongP; rw [hj]
    rw [e]
    exact telT_out
  · have e : outR ws = .text 1 := by
      unfold outR wrongP
      rw [hrs]
      dsimp only
      rw [if_pos ⟨p1, (turn_ne hrs frm p1).mp qp⟩]
    rw [e]
    exact telT_out
  · have e : outR ws = .lot (Txt.join (Str.ofString " ") ws) := by
      unfold outR wrongP
      rw [hrs]
      dsimp only
      rw [if_neg]
      rintro ⟨p1, t⟩
      exact (turn_ne hrs frm p1).mpr t (hp.resolve_left p1)
    rw [e]
    obtain ⟨s1, s2, s3⟩ := form_small frm (form_tx hrs frm hp) (by rw [List.length_map]; exact fl)
    exact ⟨⟨x, dx, q', t, few, ob, rfl, at', fl, s1, fun e he => s2 e.2 (List.mem_map_of_mem he), Nat.le_trans s3 (by decide), (read_said hrs frm hp).symm⟩, s'⟩
def OutR.d : OutR → PyData
  | .text n => .tuple [.int 0, .int n]
  | .lot z => .list [.str z]
def OutR.so : OutR → Prop
  | .text _ => True
  | .lot z => PyData.strOk z = true
theorem OutR.dl {L : Lg} {t : Addr} {z : OutR} (m : (t, z.o) ∈ L) : Dl L (.ref t) z.d := by
  cases z with
  | text n => exact dl_tup m (dls_cons dl_int (dls_cons dl_int dls_nil))
  | lot v => exact dl_lst m (dls_cons dl_str dls_nil)
theorem OutR.sh {z : OutR} (h : z.so) : SeqAt.shaped z.d = true := by
  cases z with
  | text n => simp [OutR.d, SeqAt.shaped, PyData.canLay0, PyData.canLayAll0, PyData.depth, PyData.depthAll]
  | lot z => simp [OutR.d, SeqAt.shaped, PyData.canLay0, PyData.canLayAll0, PyData.depth, PyData.depthAll, show PyData.strOk z = true from h]
theorem OutR.sh2 {z : OutR} (h : z.so) : SeqAt.shaped (.list [z.d, z.d]) = true := by
  cases z with
  | text n => simp [OutR.d, SeqAt.shaped, PyData.canLay0, PyData.canLayAll0, PyData.depth, PyData.depthAll]
  | lot z => simp [OutR.d, SeqAt.shaped, PyData.canLay0, PyData.canLayAll0, PyData.depth, PyData.depthAll, show PyData.strOk z = true from h]
theorem OutR.eq {z : OutR} : PyData.eqv z.d z.d = true := by
  cases z <;> simp [OutR.d, PyData.eqv, PyData.eqvAll]
theorem OutR.eq2 {z : OutR} : PyData.eqv (.list [z.d, z.d]) (.list [z.d, z.d]) = true := by
  cases z <;> simp [OutR.d, PyData.eqv, PyData.eqvAll]
/-- what a law on texts of lots has -/
structure RdL (P : Program) (w : World) (K : PySem.W.Frag) (mg : Str → Option Value) (base : Heap) (C Ct : Addr) (pR gR : Addr) (mR : Value) : Prop where
  la : LotA K C
  hC : mg "Lot" = some (.ref C)
  sr : CSta K C mR "read" pR gR
  RR : RunG P w K mg base (L2.CX P w) 8 gR argsP (toSp (spReadLot K C Ct))
  RRK : RunG P w K mg base (L2.CX P w) 8 gR (argsK 0 ["text"]) (toSp (spReadLot K C Ct))
variable {pR gR : Addr} {mR : Value}
def spRightT (P0 : Addr) (q0 : Str) : SpL := fun vs L Q _ => ∃ (ws : List Str) (k : Nat), vs = [.str (Txt.join (Str.ofString " ") ws)] ∧ (P0, tabM q0) ∈ L ∧ ws ≠ [] ∧ WordsB k ws ∧ k ≤ 900 ∧ Q (.bl true) L
theorem fn_law_right {c0 P0 : Addr} (B : Bi mg) (F : DfC K mg "_law_right" s_law_right c0) (TB : LamX.TabB base mg c0 P0) (D1 : Fn P w K mg base CX0 "_law_wrong" 4 spWrongP)
    (Fh : Df K mg "_law_heard" s_law_heard) (TE : ErrR P w K mg base Ct Cr) (Y : LStr P w K mg base C) (Z : RdL P w K mg base C Ct pR gR mR) : Fn P w K mg base CX0 "_law_right" 13 (spRightT P0 ("_law_right.<locals>." ++ "<lambda>")) := by
  refine fn_plainC F sc_law_right (fun _ _ _ _ _ _ us hl => match us, hl with | [_], _ => rfl) (by decide) (by tm_at "g_len") ?_
  intro X f A outer s H E0 L vs Q E hX nd hr h
  subst hX
  obtain ⟨ws, k, rfl, mT, ne, wb, k9, q⟩ := h
  show GSs _ (defBody s_law_right) (bodyD Q) [("_law_page", some (.str (Txt.join (Str.ofString " ") ws))), ("_law_wrong_here", none), ("_law_due", none), ("_law_heard_here", none)] _
  refine gss_cons ?_
  tm_at "g"
  refine ge_call (El := NoX) D1 hr passA ?_
  tm_at "g"
  refine ⟨ws, k, rfl, ne, wb, k9, ?_⟩
  have ho : ∃ o, (outR ws).o = o := ⟨_, rfl⟩
  have sow : PyData.strOk (Txt.join (Str.ofString " ") ws) = true := sok_join fun z hz => (wb.2 z hz).2.1
  have so : (outR ws).so := by
    unfold outR
    split
    · trivial
    · exact sow
  show GSs _ _ _ _ _
  refine gss_cons ?_
  refine gs_set (by tm_at "g_put") ?_
  refine GE.imp (Q := fun v L' => ∃ t, v = .ref t ∧ L' = (t, (outR ws).o) :: L) ?_ ?_
  · cases hw : wrongP ws with
    | none =>
      have e : outR ws = .lot (Txt.join (Str.ofString " ") ws) := by unfold outR; rw [hw]
      rw [e]
      dsimp only [optV]
      tm_at "g"
      rfl
    | some n =>
      have e : outR ws = .text n := by unfold outR; rw [hw]
      rw [e]
      dsimp only [optV]
      tm_at "g"
      rfl
  rintro v L' ⟨du, rfl, rfl⟩
  show GSs _ _ _ _ _
  tm_at "g"
  refine ge_toldR (outR ws) rfl B TE Y Z.la Fh TB rfl (memS mT) hr (LamX.lamS_by (sc := defScope s_law_right) (by decide +kernel)) (fun M hM A0' outer s H Ex f c' hr tk => ?_) fun u4 => ?_
  · refine ge_sta Z.sr (fun hN => gf_ofX Z.RR hN hr tk) ?_
    tm_at "g"
    refine gv_def Z.hC ?_
    refine ⟨rfl, ?_⟩
    tm_at "g"
    exact read_out wb (by omega) (Nat.le_trans (join_short wb) (by omega)) ne rfl
  tm_at "g"
  refine ge_toldR (outR ws) rfl B TE Y Z.la Fh TB rfl (memS (memS (memS mT))) hr (LamX.lamS_by (sc := defScope s_law_right) (by decide +kernel)) (fun M hM A0' outer s H Ex f c' hr tk => ?_) fun u5 => ?_
  · refine ge_staK Z.sr (fun hN => gf_ofX Z.RRK hN hr tk) ?_
    tm_at "g"
    refine gv_def Z.hC ?_
    refine ⟨rfl, ?_⟩
    tm_at "g"
    exact read_out wb (by omega) (Nat.le_trans (join_short wb) (by omega)) ne rfl
  rename_i hl
  refine ⟨[.ref u4], _, memS mem0, szL (by simp), by tm_at "g_swap", ?_⟩
  tm_at "g"
  refine go_eqD (d := .list [(outR ws).d, (outR ws).d]) (e := .list [(outR ws).d, (outR ws).d]) hr.toRoom (dl_lst (show (_, HO.lst [.ref u4, .ref u5]) ∈ _ from memS (memS mem0)) (dls_cons (OutR.dl (by tm_at "g_mem")) (dls_cons (OutR.dl (by tm_at "g_mem")) dls_nil))) (dl_lst mem0 (dls_cons (OutR.dl (by tm_at "g_mem")) (dls_cons (OutR.dl (by tm_at "g_mem")) dls_nil))) (OutR.sh2 so) (OutR.sh2 so) ?_
  rw [OutR.eq2]
  exact ⟨_, by tm_at "g_end", q⟩
end
namespace Lt
/-- one run's form -/
theorem form_single {p : Int} {r : Rn} (h0 : 0 ≤ r.1) (h1 : r.1 < p) (le : r.1 ≤ r.2) (h : r.2 - r.1 + 1 < p) : Form (In p [r]) p [r] := by
  have nf : NF 0 p [r] := ⟨fun s hs => by rw [List.mem_singleton.mp hs]; exact le, fun s hs => by rw [List.mem_singleton.mp hs]; omega, List.pairwise_singleton _ _, fun s hs u hu => by rw [List.mem_singleton.mp hs, List.mem_singleton.mp hu]; omega⟩
  have f := Lt.least_form (t := 1) nf (by simp) (by simp) (by simp) (by simp) (by simp [turned_iff]; rfl) (fun s h1 h2 => by omega)
  have e : (((rowOf p [r]).take 1).map (·.2)).sum = p := by
    rw [row_sum (by simp)]
    have := (bOf_add (p := p) (rs := [r]) (by simp) 0).1
    simp at this ⊢
    omega
  rw [e] at f
  exact f
end Lt
section
open Lt
variable {P : Program} {w : World} {K : PySem.W.Frag} {mg : Str → Option Value} {base : Heap} {C : Addr}
theorem LotS.rest {S : Int → Prop} {a p c : Addr} {n m : Int} {M N : Lg} (h : LotS C S a M) (k : ∀ x ∈ M, x = (p, penO c n m) ∨ x ∈ N) : LotS C S a N := by
  obtain ⟨dx, q1, t, few, ob, x, f, l⟩ := h.ex
  exact ⟨dx, q1, t, few, ob, x.rest k, f, l⟩
theorem Form.to {S U : Int → Prop} {q : Int} {f : List Rn} (h : Form U q f) (e : ∀ n, S n ↔ U n) : Form S q f := by
  have : S = U := funext fun n => propext (e n)
  rw [this]
  exact h
end
namespace Tx
open PySem NumText L2 TL Lt
def run2 (i : Nat) : NR := (2 * i, 2 * i)
def wideR : List NR := (List.range 2000).map run2
abbrev wideS (m : Int) : Prop := m % 2 = 0 ∧ In 1000000 [(0, 1999)] (m / 2)
theorem wideS_iff (m : Int) : wideS m ↔ m % 2 = 0 ∧ m / 2 % 1000000 ≤ 1999 := by
  have h := in_mod (p := 1000000) (by decide) (r := (0, 1999)) (by decide) (m / 2)
  dsimp only at h
  rw [Int.sub_zero, Int.sub_zero] at h
  unfold wideS
  refine and_congr Iff.rfl ⟨fun ⟨r, hr, z⟩ => ?_, fun k => ?_⟩
  · rw [List.mem_singleton.mp hr] at z
    exact h.mpr z
  · exact ⟨(0, 1999), List.mem_singleton.mpr rfl, h.mp k⟩
theorem wide_mem {r : Rn} (h : r ∈ castR wideR) : ∃ i : Nat, i < 2000 ∧ r = ((2 * i : Int), (2 * i : Int)) := by
  obtain ⟨x, hx, rfl⟩ := mem_castR h
  obtain ⟨i, hi, rfl⟩ := List.mem_map.mp hx
  exact ⟨i, List.mem_range.mp hi, rfl⟩
theorem wide_nf : NF 0 2000000 (castR wideR) := by
  refine ⟨fun r hr => ?_, fun r hr => ?_, ?_, fun r hr s hs => ?_⟩
  · obtain ⟨i, hi, rfl⟩ := wide_mem hr
    exact Int.le_refl _
  · obtain ⟨i, hi, rfl⟩ := wide_mem hr
    dsimp only
    omega
  · unfold castR wideR
    rw [List.map_map, List.pairwise_map]
    refine List.pairwise_lt_range.imp fun {i j} h => ?_
    show ((2 * i : Nat) : Int) + 1 < ((2 * j : Nat) : Int)
    omega
  · obtain ⟨i, hi, rfl⟩ := wide_mem hr
    obtain ⟨j, hj, rfl⟩ := wide_mem hs
    dsimp only
    omega
theorem wide_in (n : Int) : In 2000000 (castR wideR) n ↔ wideS n := by
  rw [wideS_iff]
  constructor
  · rintro ⟨r, hr, z, h1, h2⟩
    obtain ⟨i, hi, rfl⟩ := wide_mem hr
    dsimp only at h1 h2
    omega
  · rintro ⟨h1, h2⟩
    refine ⟨_, castR_mem (r := run2 (n / 2 % 1000000).toNat) (List.mem_map_of_mem (List.mem_range.mpr (by omega))), -(n / 2 / 1000000), ?_, ?_⟩
    · show ((2 * (n / 2 % 1000000).toNat : Nat) : Int) ≤ _
      omega
    · show _ ≤ ((2 * (n / 2 % 1000000).toNat : Nat) : Int)
      omega
theorem wide_form : Form wideS 2000000 (castR wideR) := by
  refine ⟨by decide, fun n => ?_, fun k k0 hk => ?_, .inr ⟨wide_nf, wide_in⟩⟩
  · rw [wideS_iff, wideS_iff]
    omega
  · have a := (hk 0).mpr ((wideS_iff 0).mpr (by decide))
    rw [wideS_iff] at a
    have b := (hk 3998).mpr ((wideS_iff 3998).mpr (by decide))
    rw [wideS_iff] at b
    omega
theorem wide_len : (castR wideR).length = 2000 := by
  unfold castR wideR
  rw [List.length_map, List.length_map, List.length_range]
theorem wide_small : ∀ q few, Form (In 1000000 [(0, 1999)]) q few → (few.map fun r : Rn => r.2 - r.1 + 1).sum ≤ 2000 := fun q few f => by
  obtain ⟨_, rfl⟩ := f.unique (form_single (p := 1000000) (r := (0, 1999)) (by decide) (by decide) (by decide) (by decide))
  decide
theorem fit_wide : ∀ x ∈ wideR, Fit x.1 ∧ Fit x.2 := fun x hx => by
  obtain ⟨i, hi, rfl⟩ := List.mem_map.mp hx
  have := List.mem_range.mp hi
  have h : Fit (2 * i) := fit_most (by have : (2000 : Nat) ≤ mostP := by decide +kernel
                                       omega)
  exact ⟨h, h⟩
def moreS : List NR := (List.range 1999).map fun i => run2 (i + 1)
theorem wide_cons : wideR = (0, 0) :: moreS := by
  unfold wideR moreS
  rw [show (2000 : Nat) = 1999 + 1 from rfl, List.range_succ_eq_map, List.map_cons, List.map_map]
  rfl
/-- its text, and one run more -/
abbrev wideT : Str := lotText 2000000 (castR wideR)
theorem wideT_join : wideT = Txt.join (Str.ofString " ") (lotW 2000000 (0, 0) moreS) := by
  have e : wideT = lotTxt ((2000000 : Nat) : Int) (castR ((0, 0) :: moreS)) := by
    unfold wideT lotText
    rw [if_neg (by rw [wide_cons]; intro z; cases z), if_neg (by decide), wide_cons]
    rfl
  rw [e, lotTxt_join]
abbrev overW : List Str := lotW 2000000 (0, 0) moreS ++ [Str.ofString ",", Str.ofString "4000", Str.ofString "to", Str.ofString "4000"]
theorem join_app (ws us : List Str) (n1 : ws ≠ []) (n2 : us ≠ []) : Txt.join (Str.ofString " ") (ws ++ us) = Txt.join (Str.ofString " ") ws ++ (Str.ofString " " ++ Txt.join (Str.ofString " ") us) := by
  refine TL.ext_tl (List.cons.inj (show 32 :: _ = 32 :: _ from ?_)).2
  rw [sp_join (by simp [n1]), List.flatMap_append, ← sp_join n1, ← sp_join n2, TL.tl_append, TL.tl_append, show tl (Str.ofString " ") = [32] by decide +kernel]
  rfl
theorem overT : wideT ++ Str.ofString " , 4000 to 4000" = Txt.join (Str.ofString " ") overW := by
  rw [join_app _ _ lotW_ne (by simp), wideT_join]
  congr 1
theorem wd_more : WordsB (6 + 4 * 1999) (lotW 2000000 (0, 0) moreS) := by
  have h := wd_lotW (p := 2000000) (r := (0, 0)) (more := moreS) (fit_most (by decide +kernel)) (by rw [← wide_cons]; exact fit_wide)
  rwa [show moreS.length = 1999 by unfold moreS; rw [List.length_map, List.length_range]] at h
theorem wd_over : WordsB 8006 overW := by
  refine ⟨?_, fun z hz => ?_⟩
  · have := wd_more.1
    rw [List.length_append]
    exact Nat.add_le_add this (Nat.le_refl 4)
  · rcases List.mem_append.mp hz with hz | hz
    · exact wd_more.2 z hz
    · have : ∀ z ∈ [Str.ofString ",", Str.ofString "4000", Str.ofString "to", Str.ofString "4000"], Wd z := by decide +kernel
      exact this z hz
theorem over_read : readL overW = .inl 8002 := by
  have ln : moreS.length = 1999 := by unfold moreS; rw [List.length_map, List.length_range]
  have e0 : overW[0]? = some (Str.ofString "modulo") := rfl
  have e1 : overW[1]? = some (nTxt 2000000) := rfl
  have e2 : overW[2]? = some (Str.ofString ":") := rfl
  have d3 : overW.drop 3 = (runW (0, 0) ++ moreR moreS) ++ [Str.ofString ",", Str.ofString "4000", Str.ofString "to", Str.ofString "4000"] := rfl
  have hn : numW overW 1 2 mostP = some 2000000 := numW_nTxt e1 (by decide) (by decide +kernel) (fit_most (by decide +kernel))
  have hl : moreS.length < overW.length + 1 := by
    rw [ln, List.length_append]
    have : (lotW 2000000 (0, 0) moreS).length = 3 + (3 + (moreR moreS).length) := by
      unfold lotW runW
      simp only [List.length_cons, List.length_append, List.length_nil]
      omega
    rw [len_moreR, ln] at this
    omega
  have fw := (rs_fwd (P := 2000000) (more := moreS) (r := (0, 0)) (k := overW.length + 1) (found := []) d3 (by rw [List.nil_append, ← wide_cons]; exact wide_nf) (fun x hx => (fit_wide x (by rw [wide_cons]; exact hx)).2) (by rw [ln]; decide) hl).2 (by simp) (by rw [ln]; rfl)
  unfold readL
  rw [if_neg (by rw [e0]; decide +kernel), if_neg (by rw [e0]; decide +kernel), if_pos e0, hn]
  dsimp only
  rw [if_pos e2, fw, ln]
abbrev farW : List Str := [Str.ofString "modulo", nTxt mostP, Str.ofString ":", Str.ofString "5", Str.ofString "to", Str.ofString "7"]
abbrev furW : List Str := [Str.ofString "modulo", nTxt (mostP + 1), Str.ofString ":", Str.ofString "5", Str.ofString "to", Str.ofString "7"]
end Tx
namespace Lt
/-- the members of a run -/
def runMem (r : Rn) : List Int := (List.range (r.2 - r.1 + 1).toNat).map fun i : Nat => r.1 + (i : Int)
theorem mem_runMem {r : Rn} {n : Int} : n ∈ runMem r ↔ r.1 ≤ n ∧ n ≤ r.2 := by
  unfold runMem
  rw [List.mem_map]
  constructor
  · rintro ⟨i, hi, rfl⟩
    have := List.mem_range.mp hi
    omega
  · rintro ⟨h1, h2⟩
    exact ⟨(n - r.1).toNat, List.mem_range.mpr (by omega), by omega⟩
theorem len_runMem {rs : List Rn} (le : ∀ r ∈ rs, r.1 ≤ r.2) : ((rs.flatMap runMem).length : Int) = (rs.map fun r => r.2 - r.1 + 1).sum := by
  induction rs with
  | nil => rfl
  | cons r rs ih =>
    rw [List.flatMap_cons, List.length_append, List.map_cons, List.sum_cons, ← ih fun x hx => le x (List.mem_cons_of_mem _ hx)]
    have := le r List.mem_cons_self
    unfold runMem
    rw [List.length_map, List.length_range]
    omega
theorem range_flat {α β : Type} {l : List α} {f : Nat → List β} {g : α → List β} (h : ∀ i a, l[i]? = some a → f i = g a) : (List.range l.length).flatMap f = l.flatMap g := by
  rw [List.flatMap_def, List.flatMap_def]
  congr 1
  apply List.ext_getElem?
  intro i
  rw [List.getElem?_map, List.getElem?_map]
  by_cases hi : i < l.length
  · rw [List.getElem?_range hi, List.getElem?_eq_getElem hi]
    exact congrArg some (h i _ (List.getElem?_eq_getElem hi))
  · rw [List.getElem?_eq_none (by rw [List.length_range]; omega), List.getElem?_eq_none (by omega)]
    rfl
/-- the multiples -/
theorem mul_in {q n : Int} {few : List Rn} (n0 : 0 < n) (m : Int) : In (q * n) ((few.flatMap runMem).map fun x => ((x * n, x * n) : Rn)) m ↔ m % n = 0 ∧ In q few (m / n) := by
  constructor
  · rintro ⟨r, hr, z, z1, z2⟩
    obtain ⟨x, hx, rfl⟩ := List.mem_map.mp hr
    obtain ⟨r, hr, hx⟩ := List.mem_flatMap.mp hx
    obtain ⟨x1, x2⟩ := mem_runMem.mp hx
    dsimp only at z1 z2
    have e : m = n * (x - q * z) := by
      have : x * n = m + q * n * z := by omega
      rw [Int.mul_sub, Int.mul_comm n x, this, show n * (q * z) = q * n * z by rw [← Int.mul_assoc, Int.mul_comm n q]]
      omega
    refine ⟨by rw [e]; exact Int.mul_emod_right _ _, r, hr, z, ?_, ?_⟩
    · rw [e, Int.mul_ediv_cancel_left _ (by omega)]
      omega
    · rw [e, Int.mul_ediv_cancel_left _ (by omega)]
      omega
  · rintro ⟨h0, r, hr, z, z1, z2⟩
    refine ⟨_, List.mem_map.mpr ⟨m / n + q * z, List.mem_flatMap.mpr ⟨r, hr, mem_runMem.mpr ⟨z1, z2⟩⟩, rfl⟩, z, ?_, ?_⟩
    all_goals
      dsimp only
      have e : m / n * n = m := Int.ediv_mul_cancel (Int.dvd_of_emod_eq_zero h0)
      rw [Int.add_mul, e, show q * z * n = q * n * z by rw [Int.mul_assoc, Int.mul_comm z n, ← Int.mul_assoc]]
      omega
open Classical in
/-- multiplied: the least form -/
theorem Form.mul {S : Int → Prop} {q n : Int} {few : List Rn} (h : Form S q few) (n2 : 2 ≤ n) {a b : Int} (ha : S a) (hb : ¬ S b) : Form (fun m => m % n = 0 ∧ S (m / n)) (q * n) (((List.range q.toNat).filter fun i : Nat => decide (S i)).map fun i : Nat => (((i : Int) * n, (i : Int) * n) : Rn)) := by
  have q0 := h.pos
  have per : Per (fun m => m % n = 0 ∧ S (m / n)) (q * n) := fun m => by
    show (_ ∧ S _) ↔ (_ ∧ S _)
    rw [show m + q * n = m + q * n from rfl, Int.add_mul_emod_self_right, Int.add_mul_ediv_right _ _ (by omega)]
    exact ⟨fun z => ⟨z.1, (h.per _).mp z.2⟩, fun z => ⟨z.1, (h.per _).mpr z.2⟩⟩
  have mono : ∀ x y : Int, x < y → x * n + 1 < y * n := fun x y hxy => by
    have := Int.mul_le_mul_of_nonneg_right (show x + 1 ≤ y by omega) (show (0 : Int) ≤ n by omega)
    rw [Int.add_mul] at this
    omega
  have bnd : ∀ i ∈ (List.range q.toNat).filter (fun i : Nat => decide (S i)), (i : Int) < q ∧ S i := fun i hi => by
    obtain ⟨h1, h2⟩ := List.mem_filter.mp hi
    have := List.mem_range.mp h1
    exact ⟨by omega, of_decide_eq_true h2⟩
  refine ⟨Int.mul_pos q0 (by omega), per, fun k k0 hk => ?_, .inr ⟨⟨?_, ?_, ?_, ?_⟩, fun m => ?_⟩⟩
  · have k1 := (hk (a * n)).mpr ⟨Int.mul_emod_left _ _, by rw [Int.mul_ediv_cancel _ (by omega)]; exact ha⟩
    have kd : k % n = 0 := by
      have := k1.1
      rwa [Int.add_comm, Int.add_mul_emod_self_right] at this
    have ke : k / n * n = k := Int.ediv_mul_cancel (Int.dvd_of_emod_eq_zero kd)
    have kp : Per S (k / n) := fun m => by
      have z := hk (m * n)
      dsimp only at z
      rw [← ke, ← Int.add_mul, Int.mul_emod_left, Int.mul_emod_left, Int.mul_ediv_cancel _ (by omega), Int.mul_ediv_cancel _ (by omega)] at z
      exact ⟨fun y => (z.mp ⟨rfl, y⟩).2, fun y => (z.mpr ⟨rfl, y⟩).2⟩
    have kn0 : 0 < k / n := by
      rcases Int.lt_trichotomy 0 (k / n) with y | y | y
      · exact y
      · rw [← y] at ke
        omega
      · have := Int.mul_neg_of_neg_of_pos y (show (0 : Int) < n by omega)
        omega
    have := h.least _ kn0 kp
    have := Int.mul_le_mul_of_nonneg_right this (show (0 : Int) ≤ n by omega)
    omega
  · intro r hr
    obtain ⟨i, -, rfl⟩ := List.mem_map.mp hr
    exact Int.le_refl _
  · intro r hr
    obtain ⟨i, hi, rfl⟩ := List.mem_map.mp hr
    have := mono _ _ (bnd i hi).1
    have := Int.mul_nonneg (show (0 : Int) ≤ i by omega) (show (0 : Int) ≤ n by omega)
    dsimp only
    omega
  · rw [List.pairwise_map]
    refine (List.Pairwise.filter _ List.pairwise_lt_range).imp fun {i j} hij => ?_
    exact mono _ _ (by omega)
  · intro r hr s hs
    obtain ⟨i, hi, rfl⟩ := List.mem_map.mp hr
    obtain ⟨j, hj, rfl⟩ := List.mem_map.mp hs
    have := mono _ _ (bnd i hi).1
    have := Int.mul_nonneg (show (0 : Int) ≤ j by omega) (show (0 : Int) ≤ n by omega)
    dsimp only
    omega
  · constructor
    · rintro ⟨r, hr, z, z1, z2⟩
      obtain ⟨i, hi, rfl⟩ := List.mem_map.mp hr
      dsimp only at z1 z2
      have e : m + q * n * z = i * n := by omega
      have := (bnd i hi).2
      have em : m = (i - q * z) * n := by
        rw [Int.sub_mul, show q * z * n = q * n * z by rw [Int.mul_assoc, Int.mul_comm z n, ← Int.mul_assoc]]
        omega
      rw [em, Int.mul_ediv_cancel _ (by omega), Int.mul_emod_left]
      refine ⟨rfl, (Per.mul h.per z _).mp ?_⟩
      rw [show (i : Int) - q * z + q * z = i by omega]
      exact this
    · rintro ⟨m0, ms⟩
      have e : m / n * n = m := Int.ediv_mul_cancel (Int.dvd_of_emod_eq_zero m0)
      have l0 := Int.emod_nonneg (m / n) (show q ≠ 0 by omega)
      have l1 := Int.emod_lt_of_pos (m / n) q0
      have ed := Int.emod_add_mul_ediv (m / n) q
      generalize m / n = y at *
      generalize y / q = z at ed
      have er : y % q = y + q * (-z) := by rw [Int.mul_neg]; omega
      have sy : S (y % q) := by
        rw [er]
        exact (Per.mul h.per (-z) _).mpr ms
      refine ⟨_, List.mem_map.mpr ⟨(y % q).toNat, List.mem_filter.mpr ⟨List.mem_range.mpr (by omega), decide_eq_true (by rw [Int.toNat_of_nonneg l0]; exact sy)⟩, rfl⟩, -z, ?_⟩
      dsimp only
      rw [Int.toNat_of_nonneg l0, er, Int.add_mul, e, show q * -z * n = q * n * -z by rw [Int.mul_assoc, Int.mul_comm (-z) n, ← Int.mul_assoc]]
      exact ⟨Int.le_refl _, Int.le_refl _⟩
end Lt
section
open Lt
variable {P : Program} {w : World} {K : PySem.W.Frag} {mg : Str → Option Value} {base : Heap} {C : Addr}
structure LOp (P : Program) (w : World) (K : PySem.W.Frag) (mg : Str → Option Value) (base : Heap) (C : Addr) (nm : String) (lvl : Nat) (sp : SpL) where
  g : Addr
  O : OwnBin K C nm g
  T : BinT K C nm "int"
  R : RunG P w K mg base CX0 lvl g argsP (toSp sp)
theorem getMapInt {ns : List Int} {i : Nat} {x : V} (h : (ns.map V.int)[i]? = some x) : ∃ n, ns[i]? = some n ∧ x = .int n := by
  rw [List.getElem?_map] at h
  obtain ⟨n, h1, rfl⟩ := Option.map_eq_some_iff.mp h
  exact ⟨n, h1, rfl⟩
end
section
open Lt
variable {P : Program} {w : World} {K : PySem.W.Frag} {mg : Str → Option Value} {base : Heap} {C : Addr}
def spTimes : SpL := fun vs L Q _ => ∃ n : Int, vs = [.int n] ∧ 1 ≤ n ∧ n ≤ 1000000000000000000000000000000 ∧ Q .non L
theorem fn_need_times (F : Df K mg "need_times" s_need_times) {u : Value} (hM : mg "MOST_TIMES" = some u) (rM : RelV (.int 1000000000000000000000000000000) u) (D1 : Fn P w K mg base CX0 "is_whole" 1 spWholeI) : Fn P w K mg base CX0 "need_times" 2 spTimes := by
  refine fn_plain F sc_need_times (fun _ _ _ _ _ _ us hl => match us, hl with | [_], _ => rfl) (by decide) (by tm_at "g_len") ?_
  intro X f cdv A outer s H E0 L vs Q E hX nd hr h
  subst hX
  obtain ⟨n, rfl, n1, n2, q⟩ := h
  show GSs _ (defBody s_need_times) (bodyD Q) [("value", some (.int n))] L
  refine gss_cons ?_
  tm_at "g"
  refine ge_call (El := NoX) D1 hr passA ?_
  tm_at "g"
  refine ⟨n, rfl, ?_⟩
  tm_at "g"
  refine ite_d (fun _ => ?_) (fun z => absurd n1 z)
  refine gv_con hM rM ?_
  tm_at "g"
  refine ite_n (fun z => absurd n2 (by simpa using z)) fun _ => ?_
  tm_at "g"
  exact ⟨_, Sub.refl, q⟩
/-- the members of a lot's runs, written out -/
theorem getD_prS {few : List Pr2} {i : Nat} {e : Pr2} (h : few[i]? = some e) : few.getD i pr0 = e := by rw [List.getD_eq_getElem?_getD, h]; rfl
theorem range_mapsS {α β : Type} {l : List α} {f : Nat → β} {g : α → β} (h : ∀ i a, l[i]? = some a → f i = g a) : (List.range l.length).map f = l.map g := by
  apply List.ext_getElem?
  intro i
  rw [List.getElem?_map, List.getElem?_map]
  by_cases hi : i < l.length
  · rw [List.getElem?_range hi, List.getElem?_eq_getElem hi]
    exact congrArg some (h i _ (List.getElem?_eq_getElem hi))
  · rw [List.getElem?_eq_none (by rw [List.length_range]; omega), List.getElem?_eq_none (by omega)]
    rfl
theorem rep_intsS : ∀ {vs : List V} {xs : List Int}, Reps (fun v x => v = V.int x) vs xs → vs = xs.map V.int
  | _, _, .nil => rfl
  | _, _, .cons h t => by rw [h, rep_intsS t]; rfl
/-- * -/
def spMulSm (K : PySem.W.Frag) (C : Addr) : SpL := fun vs L Q _ => ∃ (a : Addr) (n : Int) (S : Int → Prop), vs = [.ref a, .int n] ∧ LotA K C ∧ LotS C S a L ∧ 1 ≤ n ∧ n ≤ 1000 ∧ (∀ q few, Form S q few → (few.map fun r : Rn => r.2 - r.1 + 1).sum ≤ 2000) ∧ LotN C (fun m => m % n = 0 ∧ S (m / n)) L Q
theorem run_Lot_mulS {f : Addr} {fd : FuncData} (B : Bi mg) (F : Fun K "__mul__" "Lot.__mul__" s_Lot_mul f fd) (D0 : Fn P w K mg base CX0 "need_times" 2 spTimes) (D1 : Fn P w K mg base CX0 "need_few" 1 spFew) (D2 : Fn P w K mg base CX0 "lot_of" 6 (spLotOf C)) : RunG P w K mg base CX0 7 f argsP (toSp (spMulSm K C)) := by
  refine run_plain F sc_Lot_mul argsP id id (fun _ _ r => r) (fun _ _ _ _ _ _ us hl => match us, hl with | [_, _], _ => rfl) (by decide) (by tm_at "g_len") ?_
  intro X f cdv A outer s H E0 L vs Q E hX nd hr h
  subst hX
  obtain ⟨a, n, S, rfl, ⟨c, nn1, nn2, nn3, nn4⟩, ls, n1, n30, small, q⟩ := h
  obtain ⟨dx, q1, t, few, ob, at1, frm, fl⟩ := ls.ex
  have mo := at1.o
  have mt := at1.t
  have q0 := frm.pos
  have qs := small _ _ frm
  have el : (few.flatMap fun e => runMem e.2) = (few.map (·.2)).flatMap runMem := by rw [List.flatMap_map]
  have lfm : (few.flatMap fun e => runMem e.2).length ≤ 2000 := by
    have := len_runMem frm.le
    rw [el]
    omega
  show GSs _ (defBody s_Lot_mul) (bodyD Q) [("self", some (.ref a)), ("n", some (.int n)), ("members", none), ("run", none), ("at", none)] L
  refine GSs.nd fun nd0 => ?_
  refine gss_cons ?_
  tm_at "g"
  refine ge_call (El := NoX) D0 hr passA ?_
  tm_at "g"
  refine ⟨n, rfl, n1, by omega, ?_⟩
  tm_at "g"
  refine ite_d (fun z => ?_) (fun z => ?_)
  · subst z
    tm_at "g"
    refine ⟨_, Sub.refl, q.self (ls.of fun m => ?_)⟩
    rw [Int.ediv_one, Int.emod_one]
    exact ⟨fun h => ⟨rfl, h⟩, fun h => h.2⟩
  tm_at "g"
  refine ge_call (El := NoX) D1 hr passA ?_
  tm_at "g"
  refine ⟨_, rfl, ?_, ?_⟩
  · show (few.map (·.2) |>.map fun r => r.2 - r.1 + 1).sum ≤ 2000
    exact qs
  tm_at "g"
  refine gs_lcR11 (by tm_at "g_put") (by tm_at "g_put") (gi_tuple ?_) (show _ ∈ N_Lot_mul from by decide +kernel) (show blkC N_Lot_mul (defScope s_Lot_mul) _ [(_, List.idxOf _ N_Lot_mul), (_, List.idxOf _ N_Lot_mul)] = true by decide +kernel) (by rfl)
  tm_at "g"
  refine ⟨Int, fun _ v x => v = .int x, fun i => runMem (few.getD i pr0).2, fun _ _ _ _ _ z => z, ?_, fun M s => s _ mt, ?_, ?_⟩
  · show ((List.range (prV few).length).flatMap fun i => runMem (few.getD i pr0).2).length ≤ 1000000
    rw [prV_len, range_flat (g := fun e : Pr2 => runMem e.2) (fun i e he => by rw [getD_prS he])]
    omega
  · intro D i x E1 zs R hi ⟨hx, hE⟩ hR nd2
    subst hE
    obtain ⟨e, he, rfl⟩ := prV_at hx
    have pe := hR _ (at1.ps e (List.mem_of_getElem? he))
    intro s1 H1 C1 cl1 fp1
    refine gi_rangeB2 ?_ B.range
    tm_at "g"
    have sm := (Form.small frm q0 frm.per).2 e.2 (List.mem_map.mpr ⟨e, List.mem_of_getElem? he, rfl⟩)
    refine ⟨R, Sub.refl, fun _ h => h, ?_, fun _ _ => True.intro, ?_⟩
    · rw [getD_prS he]
      unfold runMem
      rw [List.length_map, List.length_range]
      show (e.2.2 + 1 - e.2.1).toNat = _
      congr 1
      omega
    · intro j y E2 zs2 R2 hj ⟨hy, hE2⟩ hR2 nd3
      subst hE2 hy
      have hj : j < (e.2.2 + 1 - e.2.1).toNat := hj
      refine ⟨e.2.1 + (j : Int), ?_, _, by tm_at "g_pv", ?_⟩
      · rw [getD_prS he]
        unfold runMem
        rw [List.getElem?_map, List.getElem?_range (by omega)]
        rfl
      · intro s2 H2 C2 cl2 fp2
        tm_at "g"
        exact ⟨R2, Sub.refl, fun _ h => h, rfl⟩
  intro D zs R hR rp
  rw [show (⟨(prV few).length, KeepT t (prV few), G.itemAt (prV few)⟩ : Src).n = few.length from prV_len, range_flat (g := fun e : Pr2 => runMem e.2) (fun i e he => by rw [getD_prS he])] at rp
  have ez : zs = (few.flatMap fun e => runMem e.2).map V.int := rep_intsS rp
  subst ez
  have mo2 := hR _ mo
  show GSs _ _ _ _ _
  tm_at "g"
  refine ge_call (El := NoX) D2 hr passA ?_
  tm_at "g"
  refine go_mulS (.inr ⟨by omega, by omega⟩) ?_
  tm_at "g"
  refine ge_lcF (by tm_at "g_put") (gi_list ?_) (show blkC N_Lot_mul (defScope s_Lot_mul) _ [(_, List.idxOf _ N_Lot_mul)] = true by decide +kernel)
  tm_at "g"
  have lz : (few.flatMap fun e => runMem e.2).length ≤ 2000 := by omega
  refine fresh_list (p := fun _ => true) (pl := fun i => prO (((few.flatMap fun e => runMem e.2).getD i 0) * n, ((few.flatMap fun e => runMem e.2).getD i 0) * n)) (by tm_at "g_mem") (by rw [List.length_map]; omega) (fun i v N hx hN s1 H1 C1 cl1 fp1 => ?_) fun d5 es5 hes5 => ?_
  · obtain ⟨m, hm, rfl⟩ := getMapInt hx
    have em : (few.flatMap fun e => runMem e.2).getD i 0 = m := by rw [List.getD_eq_getElem?_getD, hm]; rfl
    refine gts_nil ⟨rfl, Sub.refl, fun _ s2 H2 C2 cl2 fp2 => ?_⟩
    tm_at "g"
    obtain ⟨e, he, hm2⟩ := List.mem_flatMap.mp (List.mem_of_getElem? hm)
    have sm := (Form.small frm q0 frm.per).2 e.2 (List.mem_map.mpr ⟨e, he, rfl⟩)
    have m1 := mem_runMem.mp hm2
    refine go_mulS (.inr ⟨by omega, by omega⟩) ?_
    tm_at "g"
    refine go_mulS (.inr ⟨by omega, by omega⟩) ?_
    tm_at "g"
    rw [em]
    exact Sub.refl
  rw [List.filter_eq_self.mpr fun _ _ => rfl, List.length_map] at hes5
  have hes6 : es5.map (·.2) = ((few.flatMap fun e => runMem e.2).map fun x => ((x * n, x * n) : Rn)).map prO := by
    rw [hes5, List.map_map]
    exact range_mapsS (l := few.flatMap fun e => runMem e.2) (g := prO ∘ fun x => ((x * n, x * n) : Rn)) (f := fun i => prO (((few.flatMap fun e => runMem e.2).getD i 0) * n, ((few.flatMap fun e => runMem e.2).getD i 0) * n)) (fun i x hx => by rw [show (few.flatMap fun e => runMem e.2).getD i 0 = x by rw [List.getD_eq_getElem?_getD, hx]; rfl]; rfl)
  obtain ⟨ms5, e7, e8⟩ := pairs_of hes6
  rw [refs_of e7]
  tm_at "g"
  have ml5 : ms5.length = (few.flatMap fun e => runMem e.2).length := by have := congrArg List.length e8; simpa using this
  have le5 : ∀ e ∈ ms5, e.2.1 ≤ e.2.2 := fun e he => by
    have : e.2 ∈ ms5.map (·.2) := List.mem_map.mpr ⟨e, he, rfl⟩
    rw [e8] at this
    obtain ⟨x, hx, ex⟩ := List.mem_map.mp this
    rw [← ex]
    exact Int.le_refl _
  have qn : 1 ≤ q1 * n := Int.mul_pos q0 (by omega)
  refine ⟨q1 * n, d5, _, ms5, rfl, .inl rfl, mem0, (prs_of e7 _).mono fun _ h => memS h, by omega, qn, le5, ?_⟩
  refine LotN.of (LotN.drp q ?_) fun m => ?_
  · exact ⟨fun _ => ⟨nd0, fun e m => memS (List.mem_append_right _ (memS (hR e m)))⟩⟩
  rw [e8, el, mul_in (by omega), frm.tell (m / n)]
end
section
variable {X : Cx} {j : Nat} {L : Lg} {Q : QV} {S : Int → Prop} {a : Addr} {k : Int} {C : Addr}
theorem go_lotMulS (A : LOp X.prog X.w X.K X.mg X.base C "mul" 7 (spMulSm X.K C)) (hr : RoomG j X.A) (la : LotA X.K C) (h1 : LotS C S a L) (n1 : 1 ≤ k) (n2 : k ≤ 1000) (sm : ∀ q few, Lt.Form S q few → (few.map fun r : Lt.Rn => r.2 - r.1 + 1).sum ≤ 2000) (q : LotN C (fun m => m % k = 0 ∧ S (m / k)) L Q) (hj : 7 ≤ j := by decide) : GOp X (binaryOp .Mult) (.ref a) (.int k) L Q := by
  obtain ⟨dx, q1, t, few, ob, x, f, l⟩ := id h1.ex
  exact go_binI (op := .Mult) (El := NoX) A.O A.T A.R hr passA x.o ⟨a, k, S, rfl, la, h1, n1, n2, sm, q⟩ hj
end
section
open Tx Lt
variable {P : Program} {w : World} {K : PySem.W.Frag} {mg : Str → Option Value} {base : Heap} {C Ct Cr pR gR : Addr} {mR : Value}
theorem fn_entryC {x : Str} {k : Nat} {sp : SpL} {f : Addr} (D : Fn P w K mg base CX0 x k sp) (hfa : mg x = some (.ref f)) : RunG P w K mg base CX0 k f argsP (toSp sp) := by
  obtain ⟨g, hm, kp, R⟩ := D
  cases hm.symm.trans hfa
  exact R
/-- what is no text -/
def NoText (K : PySem.W.Frag) (v : V) (M : Lg) : Prop := (∃ T, Knd M v T ∧ kitB T "str" = some false) ∨ ∃ a C dx fs, v = .ref a ∧ (a, HO.ins C dx fs) ∈ M ∧ OwnT K C ∧ PySem.W.kitOne K (.ref C) (.type "str") = some false
theorem notext_of {t l d x C dx : Addr} {z1 z2 : Str} {fs : List (Str × V)} {k : Nat} {v : V} (o : OwnT K C) (ks : PySem.W.kitOne K (.ref C) (.type "str") = some false) (h : ([.non, .int 0, .bl true, .ref t, .ref l, .ref d, .ref x] : List V)[k]? = some v) : ∀ M : Lg, (t, HO.tup [.str z1]) ∈ M → (l, HO.lst [.str z2]) ∈ M → (d, HO.dK []) ∈ M → (x, HO.ins C dx fs) ∈ M → NoText K v M := fun M m1 m2 m3 m4 => by
  match k, h with
  | 0, h => cases h; exact .inl ⟨_, .non, by decide +kernel⟩
  | 1, h => cases h; exact .inl ⟨_, .int, by decide +kernel⟩
  | 2, h => cases h; exact .inl ⟨_, .bl, by decide +kernel⟩
  | 3, h => cases h; exact .inl ⟨_, .tup m1, by decide +kernel⟩
  | 4, h => cases h; exact .inl ⟨_, .lst m2, by decide +kernel⟩
  | 5, h => cases h; exact .inl ⟨_, .dct m3, by decide +kernel⟩
  | 6, h => cases h; exact .inr ⟨x, C, dx, fs, rfl, m4, o, ks⟩
  | k + 7, h => cases h
theorem GOp_nd {X : Cx} {F : Value → Value → Sem Value} {a b : V} {L : Lg} {Q : QV} (h : (L.map (·.1)).Nodup → GOp X F a b L Q) : GOp X F a b L Q := fun pins s σ H v u hH I r1 r2 => h hH.1 pins s σ H v u hH I r1 r2
abbrev someT : List Str := ["", "every ", "none none", "modulo", "modulo 1 : 0 to 0", "modulo 10 :", "modulo 10 : 8 to", "modulo 10 : 8 to 18", "modulo 4 : 1 to 1 , 3 to 3", "modulo 10 : 8 to 16", "modulo 10 : 2 to 3 , 4 to 5", "modulo 10 : 2 to 3 , 5 to 10", "modulo 10 : 2 to 3 , 5 to 11", "modulo 10 : 10 to 10", "modulo 10 : 3 to 3 ,", "modulo 10 : 3 to 2", "Modulo 10 : 3 to 3", "modulo 10 : 3 to 3 5", "modulo 6 : 0 to 0 , 2 to 2 , 4 to 4", "modulo 7 : -0 to 2", "modulo 20 : 1 to 1_0", "modulo +7 : 1 to 2", "modulo 7 : 1 to +2"]
theorem someT_ok : ∀ z ∈ someT, z = Txt.join (Str.ofString " ") (Txt.split z (Str.ofString " ")) ∧ Txt.split z (Str.ofString " ") ≠ [] ∧ (Txt.split z (Str.ofString " ")).length ≤ 900 ∧ ∀ y ∈ Txt.split z (Str.ofString " "), Wd y := by decide +kernel
theorem mul0 : MulOk (Str.ofString "0") 100 ∧ MulOk (Str.ofString "0") 99 := ⟨⟨by decide, fun _ _ => by decide +kernel, fun _ _ => by decide +kernel⟩, ⟨by decide, fun _ _ => by decide +kernel, fun _ _ => by decide +kernel⟩⟩
theorem farT : Str.ofString "modulo 1" ++ Txt.mul (Str.ofString "0") 100 ++ Str.ofString " : 5 to 7" = Txt.join (Str.ofString " ") farW := by decide +kernel
theorem furT : Str.ofString "modulo 1" ++ Txt.mul (Str.ofString "0") 99 ++ Str.ofString "1 : 5 to 7" = Txt.join (Str.ofString " ") furW := by decide +kernel
theorem far_ok : WordsB 6 farW ∧ WordsB 6 furW := ⟨⟨by decide, by decide +kernel⟩, ⟨by decide, by decide +kernel⟩⟩
theorem far_right : wrongP farW = none ∧ wrongP furW = some 1 := by decide +kernel
theorem fn_law {c0 P0 P1 fI : Addr} (B : Bi mg) (F : DfC K mg "law" s_law c0) (TB : LamX.TabB base mg c0 P1) (A0 : Fn P w K mg base CX0 "_law_pen" 1 (fun vs L Q _ => ∃ (a : Addr) (ns : List Int), vs = [.ref a] ∧ InL K L a (ns.map V.int) ∧ ∀ p c ms, ms.length ≤ 63 → Q (.ref p) ((p, penO c 0 0) :: (c, celO ms) :: L)))
    (A1 : Fn P w K mg base CX0 "_law_draw" 1 spDraw) (A2 : Fn P w K mg base CX0 "_law_runs" 3 spRuns) (A3 : Fn P w K mg base CX0 "_law_made" 6 (spMade C)) (A4 : Fn P w K mg base CX0 "_law_members" 1 spMem) (A5 : Fn P w K mg base CX0 "_law_least" 1 spLeastLaw) (A6 : Fn P w K mg base CX0 "_law_text" 1 spLawText)
    (A7 : Fn P w K mg base CX0 "_law_right" 13 (spRightT P0 ("_law_right.<locals>." ++ "<lambda>"))) (A8 : Fn P w K mg base CX0 "_law_bent" 3 spBentT) (A9 : Fn P w K mg base CX0 "_law_pick" 2 spPick)
    (Fh : Df K mg "_law_heard" s_law_heard) (TE : ErrR P w K mg base Ct Cr) (Y : LStr P w K mg base C) (Z : RdL P w K mg base C Ct pR gR mR) (EQ : LotEq P w K mg base C) (M0 : Mk K C fI) (R : InitR P w K mg base fI) (oT : OwnT K C) (ks : PySem.W.kitOne K (.ref C) (.type "str") = some false) {gl : Addr} (mL : LOp P w K mg base C "mul" 7 (spMulSm K C)) (hl1 : PySem.W.findIn K (.ref C) "__len__" = some (some (.ref gl))) (hl2 : PySem.W.isFn K (.ref gl) = true) (hl3 : RunG P w K mg base CX0 1 gl argsP (toSp (spLotLen K))) : Fn P w K mg base CX0 "law" 14 (spLaw K (tabsL [(P0, "_law_right.<locals>." ++ "<lambda>"), (P1, "law.<locals>." ++ "<lambda>")])) := by
  refine fn_plainC F sc_law (fun _ _ _ _ _ _ us hl => match us, hl with | [_], _ => rfl) (by decide) (by tm_at "g_len") ?_
  intro X f A outer s H E0 L vs Q E hX nd hr h
  subst hX
  obtain ⟨a, ns, M, rfl, rfl, hi, -, q⟩ := h
  show GSs _ (defBody s_law) (bodyD Q) [("_law_script", some (.ref a)), ("_law_pen_here", none), ("_law_turn", none), ("_law_period", none), ("_law_runs_here", none), ("_law_made_here", none), ("_law_least_so", none), ("_law_page", none), ("_law_bent_here", none), ("_law_odd", none), ("_law_some", none), ("_law_wide", none), ("_law_far", none), ("_law_more", none)] _
  refine gss_cons ?_
  tm_at "g"
  refine ge_call (El := NoX) A0 hr passA ?_
  tm_at "g"
  refine ⟨a, ns, rfl, hi, fun p c ms h63 => ?_⟩
  tm_at "g"
  refine gs_for (gi_range1 ?_ B.range)
  tm_at "g"
  refine ⟨by decide, fun i θ N => ∃ u1 u2 u3 u4 u5 u6 u7 u8 n m R', θ = ([("_law_script", some (.ref a)), ("_law_pen_here", some (.ref p)), ("_law_turn", u1), ("_law_period", u2), ("_law_runs_here", u3), ("_law_made_here", u4), ("_law_least_so", u5), ("_law_page", u6), ("_law_bent_here", u7), ("_law_odd", u8), ("_law_some", none), ("_law_wide", none), ("_law_far", none), ("_law_more", none)] : En) ∧ Sub ((p, penO c n m) :: (c, celO ms) :: R') N ∧ (∀ e ∈ tabsL [(P0, "_law_right.<locals>." ++ "<lambda>"), (P1, "law.<locals>." ++ "<lambda>")] ++ M, e ∈ R') ∧ 0 ≤ n ∧ n ≤ 40 * (i : Int) ∧ 0 ≤ m, ⟨none, none, none, none, none, none, none, none, 0, 0, _, rfl, Sub.refl, fun e he => he, by decide, by decide, by decide⟩, fun _ _ _ _ _ _ => True.intro, ?_, ?_⟩
  · rintro i x E1 θ N hi ⟨rfl, rfl⟩ ⟨u1, u2, u3, u4, u5, u6, u7, u8, n, m, R', rfl, sb, up, n0, n1, m0⟩
    dsimp only [List.nil_append] at hi ⊢
    have hi9 : i < 9 := hi
    refine gg_name (by tm_at "g_pv") ?_
    refine (fun h => GSs.sub sb h) ?_
    clear sb
    refine gss_ndM fun ndR => ?_
    tm_at "g"
    tm_at "g_draw"
    intro d0 n2 m2 j0 j1 a0 a1 a2
    tm_at "g"
    obtain ⟨d, ed⟩ : ∃ d : Nat, 1 + d0 = (d : Int) := ⟨(1 + d0).toNat, by omega⟩
    rw [ed]
    refine ge_call (El := NoX) A2 hr passA ?_
    tm_at "g"
    refine ⟨p, c, ms, n2, m2, d, R', rfl, Sub.refl, h63, a0, by omega, a2, by omega, by omega, fun r ps n4 m4 R1 sR mr hp hl hb b0 b1 b2 => ?_⟩
    refine gss_ndM fun nd1 => ?_
    have uR : ∀ e ∈ R', e ∈ R1 := (sR.to (List.nodup_cons.mp (List.nodup_cons.mp nd1).2).2).2
    tm_at "g"
    have le0 : ∀ e ∈ ps, e.2.1 ≤ e.2.2 := fun e he => (hb e he).1
    have le := le_map le0
    have per := inB_per (d := (d : Int)) (rs := ps.map (·.2)) (by omega) le
    refine ge_call (El := NoX) A3 hr passA ?_
    tm_at "g"
    refine ⟨d, r, ps, rfl, by tm_at "g_mem", hp.mono fun _ h => by tm_at "g_mem", le0, by omega, by omega, ?_⟩
    rw [in_inB (by omega) le]
    refine LotN.r fun x1 M1 s1 l1 => ?_
    refine GA.ndc fun ndM1 => ?_
    have u1 := (s1.to ndM1).2
    tm_at "g"
    refine ge_call (El := NoX) A5 hr passA ?_
    tm_at "g"
    refine ge_call (El := NoX) A4 hr passA ?_
    tm_at "g"
    refine ⟨d, r, ps, rfl, u1 _ (by tm_at "g_mem"), hp.mono fun _ h => u1 _ (by tm_at "g_mem"), by omega, by omega, by omega, fun mb => ?_⟩
    tm_at "g"
    refine ⟨d, mb, inB d (ps.map (·.2)), rfl, mem0, by omega, by omega, per, fun tt t2 q0 few M2 s2 mt mt2 pf frm lf => ?_⟩
    refine ga_nil ⟨_, _, rfl, ?_⟩
    show GSs _ _ _ _ _
    refine gss_ndM fun ndM2 => ?_
    have s12 : Sub M1 M2 := Sub.trans Sub.drop s2
    have u12 := (s12.to ndM2).2
    have l2 := l1.up u12
    obtain ⟨R2, pm2, in2, all2⟩ := pen_out ndM2 (Sub.trans s1 s12)
    have l3 := l2.rest all2
    have nol : ∀ {x : Addr} {o : HO}, (x, o) ∈ M2 → (∀ xs, o ≠ HO.lst xs) → (x, o) ∈ R2 := fun {x o} h n => by
      rcases all2 _ h with e | e
      · exact absurd (congrArg Prod.snd e) (n _)
      · rcases List.mem_cons.mp e with e | e
        · exact absurd (congrArg Prod.snd e) (n _)
        · exact e
    have mt3 := nol mt (fun _ z => nomatch z)
    have mt4 := nol mt2 (fun _ z => nomatch z)
    have pf3 : Prs2 few R2 := fun e he => nol (pf e he) (fun _ z => nomatch z)
    have upT : ∀ e ∈ tabsL [(P0, "_law_right.<locals>." ++ "<lambda>"), (P1, "law.<locals>." ++ "<lambda>")] ++ M, e ∈ R2 := fun e he => in2 e (uR e (up e he))
    have mP0 := upT (P0, tabM ("_law_right.<locals>." ++ "<lambda>")) (by simp)
    have mP1 := upT (P1, tabM ("law.<locals>." ++ "<lambda>")) (by simp)
    refine (fun h => GSs.sub (M := (p, penO c n4 m4) :: (c, celO ms) :: R2) (Sub.perm pm2.symm) h) ?_
    clear mt mt2 pf u12 l2 l1 s2 s12 s1 u1 mr hp nol all2 in2 pm2
    have q1 := frm.pos
    have qd : q0 ≤ d := frm.least d (by omega) per
    have fb : ∀ e ∈ few, e.2.1.natAbs < 2 ^ 100 ∧ e.2.2.natAbs < 2 ^ 100 := fun e he => by
      have hm : e.2 ∈ few.map (·.2) := List.mem_map_of_mem he
      have hh : e.2.1.natAbs < 100 ∧ e.2.2.natAbs < 100 := by
        rcases frm.runs with ⟨_, z⟩ | ⟨z, _⟩
        · rw [z] at hm
          rw [List.mem_singleton.mp hm]
          decide
        · have h1 := z.wd _ hm
          have h2 := z.le _ hm
          have h3 := z.cl _ hm _ hm
          omega
      exact ⟨Nat.lt_of_lt_of_le hh.1 (by decide), Nat.lt_of_lt_of_le hh.2 (by decide)⟩
    have q100 : q0.natAbs < 2 ^ 100 := Nat.lt_of_lt_of_le (show q0.natAbs < 100 by omega) (by decide)
    have qm : q0 ≤ (mostP : Nat) := Int.le_trans (show q0 ≤ 100 by omega) (by decide +kernel)
    have fl : (few.map (·.2)).length ≤ 2000 := by rw [List.length_map]; omega
    obtain ⟨g1, g2, g3⟩ := form_small frm qm fl
    obtain ⟨ws, -, -, et, wne, wb, -, -, -⟩ := text_read frm qm fl
    have wb40 : WordsB 126 ws := ⟨Nat.le_trans wb.1 (by rw [List.length_map]; omega), wb.2⟩
    tm_at "g"
    refine ge_call (El := NoX) A6 hr passA ?_
    tm_at "g"
    refine ⟨q0, t2, few, rfl, memS (memS mt4), pf3.mono fun _ h => memS (memS h), by omega, q100, fb, ?_⟩
    tm_at "g"
    have l4 := l3.up (M := (p, penO c n4 m4) :: (c, celO ms) :: R2) fun e he => memS he
    refine gc_lotStr Y hr Z.la l4 frm g1 g2 (Nat.le_trans g3 (by decide)) rfl ?_
    tm_at "g"
    refine go_neS rfl ?_
    tm_at "g"
    refine ge_sta Z.sr (fun _ => gf_of (El := NoX) Z.RR hr passN) ?_
    tm_at "g"
    refine gv_def Z.hC ?_
    refine ⟨rfl, ?_⟩
    tm_at "g"
    refine read_made frm qm fl rfl fun y M3 s3 ly => ?_
    tm_at "g"
    refine GOp_nd fun nd3 => ?_
    have u3 := (s3.to nd3).2
    refine go_neL EQ hr ly (l4.up u3) (fun _ => Iff.rfl) ?_
    tm_at "g"
    refine ge_call (El := NoX) A7 hr passA ?_
    tm_at "g"
    rw [et]
    refine ⟨ws, 126, rfl, u3 _ (memS (memS mP0)), wne, wb40, by decide, ?_⟩
    tm_at "g"
    refine (fun h => GE.sub s3 h) ?_
    clear u3 nd3 ly s3
    refine ge_call (El := NoX) A8 hr passA ?_
    tm_at "g"
    refine ⟨p, c, ms, n4, m4, ws, 126, R2, rfl, Sub.refl, wne, wb40, by decide, h63, b0, by omega, b2, fun ws2 n5 m5 ne2 wb2 c0' c1' c2' => ?_⟩
    tm_at "g"
    refine ge_call (El := NoX) A7 hr passA ?_
    tm_at "g"
    refine ⟨ws2, 127, rfl, memS (memS mP0), ne2, wb2, by decide, ?_⟩
    tm_at "g"
    refine ge_call (El := NoX) A7 hr passA ?_
    tm_at "g"
    refine ge_call (El := NoX) A8 hr passA ?_
    tm_at "g"
    refine ⟨p, c, ms, n5, m5, ws2, 127, R2, rfl, Sub.refl, ne2, wb2, by decide, h63, c0', by omega, c2', fun ws3 n6 m6 ne3 wb3 d0' d1' d2' => ?_⟩
    tm_at "g"
    refine ⟨ws3, 128, rfl, memS (memS mP0), ne3, wb3, by decide, ?_⟩
    tm_at "g"
    refine ge_call (El := NoX) A9 hr passA ?_
    tm_at "g"
    tm_at "g_pk"
    intro k1 v' n7 m7 hk e0' e1' e2'
    obtain ⟨lx, lq, lt, lf', lo, la', -, -⟩ := l3.ex
    have lom := (List.mem_cons.mp la'.o).resolve_left (fun e => nomatch (congrArg Prod.snd e))
    have nt := fun N => notext_of (x := x1) (C := C) (dx := lx) (z1 := Str.ofString "every") (z2 := Str.ofString "none") (fs := [("period", .int lq), ("runs", .ref lt), ("size", .int (lens (lf'.map (·.2))).sum), ("own_begins", .ref lo)]) oT ks hk N
    clear hk
    tm_at "g"
    refine ge_toldR (.text 0) rfl B TE Y Z.la Fh TB rfl (by (repeat with_reducible apply memS); exact mP1) (hr.mono (by decide)) (LamX.lamS_by (sc := defScope s_law) (by decide +kernel)) (fun N hN A0' outer s H Ex f c' hr tk => ?_) fun u9 => ?_
    · have lo' := hN _ (by repeat (first | exact lom | apply memS))
      have nv := nt N (hN _ (by tm_at "g_mem")) (hN _ (by tm_at "g_mem")) (hN _ (by tm_at "g_mem")) lo'
      refine ge_sta Z.sr (fun hN => gf_ofX Z.RR hN hr tk) ?_
      tm_at "g"
      refine gv_def Z.hC ?_
      refine ⟨rfl, ?_⟩
      tm_at "g"
      exact ⟨v', rfl, .inr ⟨nv, telT_out⟩⟩
    tm_at "g"
    refine go_neD (d := (OutR.text 0).d) (e := (OutR.text 0).d) hr.toRoom (OutR.dl (memS mem0)) (dl_tup mem0 (dls_cons dl_int (dls_cons dl_int dls_nil))) (OutR.sh (z := .text 0) trivial) (OutR.sh (z := .text 0) trivial) ?_
    rw [OutR.eq]
    tm_at "g"
    exact ⟨_, _, _, _, _, _, _, _, n7, m7, R2, rfl, by tm_at "g_end", upT, e0', by omega, e2'⟩
  rintro θ N ⟨u1, u2, u3, u4, u5, u6, u7, u8, n, m, R', rfl, sb, up, -, -, -⟩
  refine (fun h => GSs.sub sb h) ?_
  clear sb
  have mP0 := up (P0, tabM ("_law_right.<locals>." ++ "<lambda>")) (by simp)
  have mP1 := up (P1, tabM ("law.<locals>." ++ "<lambda>")) (by simp)
  tm_at "g"
  refine go_cat (memS mem0) mem0 (szL (by simp)) fun q1 => ?_
  dsimp only [List.cons_append, List.nil_append]
  tm_at "g"
  refine go_cat (memS mem0) mem0 (szL (by simp)) fun q2 => ?_
  dsimp only [List.cons_append, List.nil_append]
  tm_at "g"
  refine go_cat (memS mem0) mem0 (szL (by simp)) fun q3 => ?_
  dsimp only [List.cons_append, List.nil_append]
  refine (fun h => GSs.sub (M := (q3, HO.lst (someT.map V.str)) :: (p, penO c n m) :: (c, celO ms) :: R') ?_ h) ?_
  · exact Sub.cons (by tm_at "g_end")
  tm_at "g"
  refine ge_lcNone (by tm_at "g_put") (gi_list ?_) (show blkC N_law (defScope s_law) _ [(_, List.idxOf _ N_law)] = true by decide +kernel)
  tm_at "g"
  refine ⟨fun i x E h => h.2, fun M h => h _ (by tm_at "g_mem"), fun D0 i x hi hx s1 H1 C1 cl1 fp1 => ?_, fun D0 => ?_⟩
  · obtain ⟨z, ez, hz⟩ : ∃ z, x = V.str z ∧ z ∈ someT := by
      have h := hx.1
      rw [List.getElem?_map] at h
      obtain ⟨z, h1, rfl⟩ := Option.map_eq_some_iff.mp h
      exact ⟨z, rfl, List.mem_of_getElem? h1⟩
    subst ez
    obtain ⟨e1, e2, e3, e4⟩ := someT_ok z hz
    tm_at "g"
    refine ge_call (El := NoX) A7 hr passA ?_
    tm_at "g"
    refine ⟨Txt.split z (Str.ofString " "), 900, by rw [← e1], by (repeat with_reducible apply memS); exact mP0, e2, ⟨e3, e4⟩, by decide, ?_⟩
    tm_at "g"
    exact ⟨rfl, Sub.refl⟩
  tm_at "g"
  refine go_neD (d := .list ([].map PyData.int)) (e := .list ([].map PyData.int)) hr.toRoom (dl_lst (by tm_at "g_mem") dls_nil) (dl_lst (by tm_at "g_mem") dls_nil) (shapedL []) (shapedL []) ?_
  rw [eqvL]
  refine ⟨false, rfl, ite_f ?_⟩
  tm_at "g"
  refine (fun h => GE.sub (M := R') (by tm_at "g_end") h) ?_
  refine ge_callF Z.hC M0.kp (fun _ => gf_lot Z.la M0 R hr) ?_
  tm_at "g"
  refine go_powL (r := 1000000) ⟨by decide, by decide, by decide⟩ (by decide +kernel) ?_
  tm_at "g"
  rename_i t1
  refine ⟨1000000, [(t1, (0, 1999))], rfl, fun e he => by rw [List.mem_singleton.mp he]; exact mem0, by simp, by decide, fun e he => by rw [List.mem_singleton.mp he]; dsimp only; decide, LotN.r fun x1 M1 s1 l1 => ?_⟩
  tm_at "g"
  refine GOp_nd fun nd1 => ?_
  have u1 := (s1.to nd1).2
  refine go_lotMulS mL hr Z.la l1 (by decide) (by decide) wide_small fun y M2 s2 l2 => ?_
  have l2 : LotS C wideS y M2 := l2
  show GSs _ _ _ _ _
  refine gss_ndM fun nd2 => ?_
  have u2 := (s2.to nd2).2
  have mP2 : (P1, tabM ("law.<locals>." ++ "<lambda>")) ∈ M2 := u2 _ (u1 _ (memS mP1))
  have sR2 : Sub R' M2 := Sub.trans (Sub.trans Sub.drop s1) s2
  clear u2 u1 nd1 nd2 s1 s2 l1 mP1
  tm_at "g"
  obtain ⟨dy, qy, ty, fy, oy, aty, frmy, fly⟩ := id l2.ex
  have ly : fy.length = 2000 := by
    have := congrArg List.length (frmy.unique wide_form).2
    rwa [List.length_map, wide_len] at this
  refine gc_lenM (El := NoX) hl1 hl2 hl3 hr passA aty.o ⟨y, C, dy, qy, ty, fy, oy, rfl, Z.la, aty, fy.length, rfl, by omega, by omega, ?_⟩
  rw [ly]
  tm_at "g"
  refine ite_n (fun z => absurd rfl z) fun _ => ?_
  obtain ⟨g1, g2, g3⟩ := form_small wide_form (by decide +kernel) (by rw [wide_len]; decide)
  tm_at "g"
  refine ge_sta Z.sr (fun _ => gf_of (El := NoX) Z.RR hr passN) ?_
  tm_at "g"
  refine gv_def Z.hC ?_
  refine ⟨rfl, ?_⟩
  tm_at "g"
  refine gc_lotStr Y hr Z.la l2 wide_form g1 g2 (Nat.le_trans g3 (by decide)) rfl ?_
  tm_at "g"
  refine read_made wide_form (by decide +kernel) (by rw [wide_len]; decide) rfl fun y3 M3 s3 ly3 => ?_
  tm_at "g"
  refine GOp_nd fun nd3 => ?_
  have u3 := (s3.to nd3).2
  refine go_neL EQ hr ly3 (l2.up u3) (fun _ => Iff.rfl) ?_
  tm_at "g"
  refine (fun h => GE.sub s3 h) ?_
  refine ge_toldR (.text 8002) rfl B TE Y Z.la Fh TB rfl mP2 (hr.mono (by decide)) (LamX.lamS_by (sc := defScope s_law) (by decide +kernel)) (fun N hN A0' outer s H Ex f c' hr tk => ?_) fun u9 => ?_
  · refine ge_sta Z.sr (fun hN => gf_ofX Z.RR hN hr tk) ?_
    tm_at "g"
    refine gv_def Z.hC ?_
    refine ⟨rfl, ?_⟩
    tm_at "g"
    refine gc_lotStr Y hr Z.la (l2.up hN) wide_form g1 g2 (Nat.le_trans g3 (by decide)) rfl ?_
    have tl := text_len wide_form (by decide +kernel) (by rw [wide_len]; decide)
    have l15 : (Str.ofString " , 4000 to 4000").length = 15 := by decide
    tm_at "g"
    refine go_catS (szL (by omega)) ?_
    rw [show lotText 2000000 (castR wideR) ++ Str.ofString " , 4000 to 4000" = Txt.join (Str.ofString " ") overW from overT]
    tm_at "g"
    exact ⟨_, rfl, .inl ⟨_, overW, rfl, by rw [← overT, Str.length_append]; exact Nat.le_trans (Nat.add_le_add tl (Nat.le_of_eq l15)) (by decide), split_words (by simp) (fun z hz => (wd_over.2 z hz).2.2), words_r wd_over (by decide), by simp, fun k hk => by
      cases over_read.symm.trans hk
      exact telT_out, fun p rs h => (nomatch over_read.symm.trans h)⟩⟩
  tm_at "g"
  refine go_neD (d := (OutR.text 8002).d) (e := (OutR.text 8002).d) hr.toRoom (OutR.dl (memS mem0)) (dl_tup mem0 (dls_cons dl_int (dls_cons dl_int dls_nil))) (OutR.sh (z := .text 8002) trivial) (OutR.sh (z := .text 8002) trivial) ?_
  rw [OutR.eq]
  tm_at "g"
  have z0 : (Txt.mul (Str.ofString "0") 100).length ≤ 1000 ∧ (Txt.mul (Str.ofString "0") 99).length ≤ 1000 := by decide +kernel
  have z1 : (Str.ofString "modulo 1").length ≤ 100 ∧ (Str.ofString " : 5 to 7").length ≤ 100 ∧ (Str.ofString "1 : 5 to 7").length ≤ 100 := by decide
  refine go_repS mul0.1 ?_
  have hg : ∃ G, G = Txt.mul (Str.ofString "0") 100 := ⟨_, rfl⟩
  obtain ⟨G100, e100⟩ := hg
  obtain ⟨G99, e99⟩ : ∃ G, G = Txt.mul (Str.ofString "0") 99 := ⟨_, rfl⟩
  have fT := farT
  have uT := furT
  rw [← e100] at fT z0 ⊢
  rw [← e99] at uT z0
  tm_at "g"
  refine go_catS (szL (by omega)) ?_
  tm_at "g"
  refine go_catS (szL (by rw [Str.length_append]; omega)) ?_
  rw [fT]
  tm_at "g"
  refine go_repS mul0.2 ?_
  rw [← e99]
  tm_at "g"
  refine go_catS (szL (by omega)) ?_
  tm_at "g"
  refine go_catS (szL (by rw [Str.length_append]; omega)) ?_
  rw [uT]
  tm_at "g"
  refine ge_sta Z.sr (fun _ => gf_of (El := NoX) Z.RR hr passN) ?_
  tm_at "g"
  refine gv_def Z.hC ?_
  refine ⟨rfl, ?_⟩
  tm_at "g"
  refine read_ok far_right.1 far_ok.1 (by decide) (by simp) rfl fun v4 M4 tx s4 => ?_
  tm_at "g"
  refine gc_tx Y hr Z.la tx ?_
  tm_at "g"
  refine go_eqS rfl ?_
  tm_at "g"
  refine (fun h => GE.sub s4 h) ?_
  have eo : outR furW = .text 1 := by unfold outR; rw [far_right.2]
  refine ge_toldR (outR furW) (o := (OutR.text 1).o) (by rw [eo]) B TE Y Z.la Fh TB rfl (by (repeat with_reducible apply memS); exact mP2) (hr.mono (by decide)) (LamX.lamS_by (sc := defScope s_law) (by decide +kernel)) (fun N hN A0' outer s H Ex f c' hr tk => ?_) fun u10 => ?_
  · refine ge_sta Z.sr (fun hN => gf_ofX Z.RR hN hr tk) ?_
    tm_at "g"
    refine gv_def Z.hC ?_
    refine ⟨rfl, ?_⟩
    tm_at "g"
    exact read_out far_ok.2 (by decide) (Nat.le_trans (join_short far_ok.2) (by decide)) (by simp) rfl
  tm_at "g"
  refine go_eqD (d := (OutR.text 1).d) (e := (OutR.text 1).d) hr.toRoom (OutR.dl (memS mem0)) (dl_tup mem0 (dls_cons dl_int (dls_cons dl_int dls_nil))) (OutR.sh (z := .text 1) trivial) (OutR.sh (z := .text 1) trivial) ?_
  rw [OutR.eq]
  exact ⟨_, Sub.refl, q _⟩
end
theorem all_mk {l : PySem.W.OpenLaw} {q : Program} {w : World} {K : PySem.W.Frag} {h : Heap} {mg : Str → Option Value} {fa : Addr} {f0 f1 f2 f3 f4 f5 f6 f7 f8 f9 f10 f11 f12 f13 f14 f15 f16 f17 f18 f19 f20 f21 f22 f23 f24 f25 f26 f27 f28 f29 f30 f31 f32 : Addr} (X : K.In h) (G : h.Ns mainGlobals mg) (hfa : mg "law" = some (.ref fa))
    {od0 an0 od1 an1 od2 an2 od3 an3 od4 an4 od5 an5 od6 an6 od7 an7 od8 an8 od9 an9 od10 an10 od11 an11 od12 an12 od13 an13 od14 an14 od15 an15 od16 an16 od17 an17 od18 an18 od19 an19 od20 an20 od21 an21 od22 an22 od23 an23 od24 an24 od25 an25 od26 an26 od27 an27 od28 an28 od29 an29 od30 an30 od31 an31 od32 an32 : Option Addr} {sl0 sl1 sl2 sl3 sl4 sl5 sl6 sl7 sl8 sl9 sl10 sl11 sl12 sl13 sl14 sl15 sl16 sl17 sl18 sl19 sl20 sl21 sl22 sl23 sl24 sl25 sl26 sl27 sl28 sl29 sl30 sl31 sl32 : Array (Option Value)} {oc0 kV0 dc0 pm0 cd0 ct0 oc1 kV1 dc1 pm1 cd1 ct1 oc2 kV2 dc2 pm2 cd2 ct2 oc3 kV3 dc3 pm3 cd3 ct3 oc4 kV4 dc4 pm4 cd4 ct4 oc5 kV5 dc5 pm5 cd5 ct5 oc6 kV6 dc6 pm6 cd6 ct6 oc7 kV7 dc7 pm7 cd7 ct7 oc8 kV8 dc8 pm8 cd8 ct8 oc9 kV9 dc9 pm9 cd9 ct9 oc10 kV10 dc10 pm10 cd10 ct10 oc11 kV11 dc11 pm11 cd11 ct11 oc12 kV12 dc12 pm12 cd12 ct12 oc13 kV13 dc13 pm13 cd13 ct13 oc14 kV14 dc14 pm14 cd14 ct14 oc15 kV15 dc15 pm15 cd15 ct15 oc16 kV16 dc16 pm16 cd16 ct16 oc17 kV17 dc17 pm17 cd17 ct17 oc18 kV18 dc18 pm18 cd18 ct18 oc19 kV19 dc19 pm19 cd19 ct19 oc20 kV20 dc20 pm20 cd20 ct20 oc21 kV21 dc21 pm21 cd21 ct21 oc22 kV22 dc22 pm22 cd22 ct22 oc23 kV23 dc23 pm23 cd23 ct23 oc24 kV24 dc24 pm24 cd24 ct24 oc25 kV25 dc25 pm25 cd25 ct25 oc26 kV26 dc26 pm26 cd26 ct26 oc27 kV27 dc27 pm27 cd27 ct27 oc28 kV28 dc28 pm28 cd28 ct28 oc29 kV29 dc29 pm29 cd29 ct29 oc30 kV30 dc30 pm30 cd30 ct30 oc31 kV31 dc31 pm31 cd31 ct31 oc32 kV32 dc32 pm32 cd32 ct32 : Value}
    (a0 : PySem.W.nsIn K mainGlobals "is_whole" = some (some (.ref f0))) (l0 : K.lookup f0 = some ⟨oc0, od0, .func (PySem.W.fnOf "is_whole" "is_whole" (defArgs s_is_whole) (defBody s_is_whole) (defScope s_is_whole) .none kV0 dc0 pm0 an0 cd0 ct0), sl0⟩) (c0 : PySem.W.codeIn K cd0 "is_whole" = true) (k0 : PySem.W.keepIn K (.ref f0) = true)
    (a1 : PySem.W.nsIn K mainGlobals "need_whole" = some (some (.ref f1))) (l1 : K.lookup f1 = some ⟨oc1, od1, .func (PySem.W.fnOf "need_whole" "need_whole" (defArgs s_need_whole) (defBody s_need_whole) (defScope s_need_whole) .none kV1 dc1 pm1 an1 cd1 ct1), sl1⟩) (c1 : PySem.W.codeIn K cd1 "need_whole" = true) (k1 : PySem.W.keepIn K (.ref f1) = true)
    (a2 : PySem.W.nsIn K mainGlobals "divisor_of" = some (some (.ref f2))) (l2 : K.lookup f2 = some ⟨oc2, od2, .func (PySem.W.fnOf "divisor_of" "divisor_of" (defArgs s_divisor_of) (defBody s_divisor_of) (defScope s_divisor_of) .none kV2 dc2 pm2 an2 cd2 ct2), sl2⟩) (c2 : PySem.W.codeIn K cd2 "divisor_of" = true) (k2 : PySem.W.keepIn K (.ref f2) = true)
    (a3 : PySem.W.nsIn K mainGlobals "common" = some (some (.ref f3))) (l3 : K.lookup f3 = some ⟨oc3, od3, .func (PySem.W.fnOf "common" "common" (defArgs s_common) (defBody s_common) (defScope s_common) .none kV3 dc3 pm3 an3 cd3 ct3), sl3⟩) (c3 : PySem.W.codeIn K cd3 "common" = true) (k3 : PySem.W.keepIn K (.ref f3) = true)
    (a4 : PySem.W.nsIn K mainGlobals "is_run" = some (some (.ref f4))) (l4 : K.lookup f4 = some ⟨oc4, od4, .func (PySem.W.fnOf "is_run" "is_run" (defArgs s_is_run) (defBody s_is_run) (defScope s_is_run) .none kV4 dc4 pm4 an4 cd4 ct4), sl4⟩) (c4 : PySem.W.codeIn K cd4 "is_run" = true) (k4 : PySem.W.keepIn K (.ref f4) = true)
    (a5 : PySem.W.nsIn K mainGlobals "length_of" = some (some (.ref f5))) (l5 : K.lookup f5 = some ⟨oc5, od5, .func (PySem.W.fnOf "length_of" "length_of" (defArgs s_length_of) (defBody s_length_of) (defScope s_length_of) .none kV5 dc5 pm5 an5 cd5 ct5), sl5⟩) (c5 : PySem.W.codeIn K cd5 "length_of" = true) (k5 : PySem.W.keepIn K (.ref f5) = true)
    (a6 : PySem.W.nsIn K mainGlobals "melted" = some (some (.ref f6))) (l6 : K.lookup f6 = some ⟨oc6, od6, .func (PySem.W.fnOf "melted" "melted" (defArgs s_melted) (defBody s_melted) (defScope s_melted) .none kV6 dc6 pm6 an6 cd6 ct6), sl6⟩) (c6 : PySem.W.codeIn K cd6 "melted" = true) (k6 : PySem.W.keepIn K (.ref f6) = true)
    (a7 : PySem.W.nsIn K mainGlobals "closed_round" = some (some (.ref f7))) (l7 : K.lookup f7 = some ⟨oc7, od7, .func (PySem.W.fnOf "closed_round" "closed_round" (defArgs s_closed_round) (defBody s_closed_round) (defScope s_closed_round) .none kV7 dc7 pm7 an7 cd7 ct7), sl7⟩) (c7 : PySem.W.codeIn K cd7 "closed_round" = true) (k7 : PySem.W.keepIn K (.ref f7) = true)
    (a8 : PySem.W.nsIn K mainGlobals "maximal" = some (some (.ref f8))) (l8 : K.lookup f8 = some ⟨oc8, od8, .func (PySem.W.fnOf "maximal" "maximal" (defArgs s_maximal) (defBody s_maximal) (defScope s_maximal) .none kV8 dc8 pm8 an8 cd8 ct8), sl8⟩) (c8 : PySem.W.codeIn K cd8 "maximal" = true) (k8 : PySem.W.keepIn K (.ref f8) = true)
    (a9 : PySem.W.nsIn K mainGlobals "least_form" = some (some (.ref f9))) (l9 : K.lookup f9 = some ⟨oc9, od9, .func (PySem.W.fnOf "least_form" "least_form" (defArgs s_least_form) (defBody s_least_form) (defScope s_least_form) .none kV9 dc9 pm9 an9 cd9 ct9), sl9⟩) (c9 : PySem.W.codeIn K cd9 "least_form" = true) (k9 : PySem.W.keepIn K (.ref f9) = true)
    (a10 : PySem.W.nsIn K mainGlobals "need_times" = some (some (.ref f10))) (l10 : K.lookup f10 = some ⟨oc10, od10, .func (PySem.W.fnOf "need_times" "need_times" (defArgs s_need_times) (defBody s_need_times) (defScope s_need_times) .none kV10 dc10 pm10 an10 cd10 ct10), sl10⟩) (c10 : PySem.W.codeIn K cd10 "need_times" = true) (k10 : PySem.W.keepIn K (.ref f10) = true)
    (a11 : PySem.W.nsIn K mainGlobals "need_few" = some (some (.ref f11))) (l11 : K.lookup f11 = some ⟨oc11, od11, .func (PySem.W.fnOf "need_few" "need_few" (defArgs s_need_few) (defBody s_need_few) (defScope s_need_few) .none kV11 dc11 pm11 an11 cd11 ct11), sl11⟩) (c11 : PySem.W.codeIn K cd11 "need_few" = true) (k11 : PySem.W.keepIn K (.ref f11) = true)
    (a12 : PySem.W.nsIn K mainGlobals "lot_of" = some (some (.ref f12))) (l12 : K.lookup f12 = some ⟨oc12, od12, .func (PySem.W.fnOf "lot_of" "lot_of" (defArgs s_lot_of) (defBody s_lot_of) (defScope s_lot_of) .none kV12 dc12 pm12 an12 cd12 ct12), sl12⟩) (c12 : PySem.W.codeIn K cd12 "lot_of" = true) (k12 : PySem.W.keepIn K (.ref f12) = true)
    (a13 : PySem.W.nsIn K mainGlobals "written" = some (some (.ref f13))) (l13 : K.lookup f13 = some ⟨oc13, od13, .func (PySem.W.fnOf "written" "written" (defArgs s_written) (defBody s_written) (defScope s_written) .none kV13 dc13 pm13 an13 cd13 ct13), sl13⟩) (c13 : PySem.W.codeIn K cd13 "written" = true) (k13 : PySem.W.keepIn K (.ref f13) = true)
    (a14 : PySem.W.nsIn K mainGlobals "number_in" = some (some (.ref f14))) (l14 : K.lookup f14 = some ⟨oc14, od14, .func (PySem.W.fnOf "number_in" "number_in" (defArgs s_number_in) (defBody s_number_in) (defScope s_number_in) .none kV14 dc14 pm14 an14 cd14 ct14), sl14⟩) (c14 : PySem.W.codeIn K cd14 "number_in" = true) (k14 : PySem.W.keepIn K (.ref f14) = true)
    (a15 : PySem.W.nsIn K mainGlobals "need_word" = some (some (.ref f15))) (l15 : K.lookup f15 = some ⟨oc15, od15, .func (PySem.W.fnOf "need_word" "need_word" (defArgs s_need_word) (defBody s_need_word) (defScope s_need_word) .none kV15 dc15 pm15 an15 cd15 ct15), sl15⟩) (c15 : PySem.W.codeIn K cd15 "need_word" = true) (k15 : PySem.W.keepIn K (.ref f15) = true)
    (a16 : PySem.W.nsIn K mainGlobals "read_runs" = some (some (.ref f16))) (l16 : K.lookup f16 = some ⟨oc16, od16, .func (PySem.W.fnOf "read_runs" "read_runs" (defArgs s_read_runs) (defBody s_read_runs) (defScope s_read_runs) .none kV16 dc16 pm16 an16 cd16 ct16), sl16⟩) (c16 : PySem.W.codeIn K cd16 "read_runs" = true) (k16 : PySem.W.keepIn K (.ref f16) = true)
    (a17 : PySem.W.nsIn K mainGlobals "read_lot" = some (some (.ref f17))) (l17 : K.lookup f17 = some ⟨oc17, od17, .func (PySem.W.fnOf "read_lot" "read_lot" (defArgs s_read_lot) (defBody s_read_lot) (defScope s_read_lot) .none kV17 dc17 pm17 an17 cd17 ct17), sl17⟩) (c17 : PySem.W.codeIn K cd17 "read_lot" = true) (k17 : PySem.W.keepIn K (.ref f17) = true)
    (a18 : PySem.W.nsIn K mainGlobals "_law_pen" = some (some (.ref f18))) (l18 : K.lookup f18 = some ⟨oc18, od18, .func (PySem.W.fnOf "_law_pen" "_law_pen" (defArgs s_law_pen) (defBody s_law_pen) (defScope s_law_pen) .none kV18 dc18 pm18 an18 cd18 ct18), sl18⟩) (c18 : PySem.W.codeIn K cd18 "_law_pen" = true) (k18 : PySem.W.keepIn K (.ref f18) = true)
    (a19 : PySem.W.nsIn K mainGlobals "_law_draw" = some (some (.ref f19))) (l19 : K.lookup f19 = some ⟨oc19, od19, .func (PySem.W.fnOf "_law_draw" "_law_draw" (defArgs s_law_draw) (defBody s_law_draw) (defScope s_law_draw) .none kV19 dc19 pm19 an19 cd19 ct19), sl19⟩) (c19 : PySem.W.codeIn K cd19 "_law_draw" = true) (k19 : PySem.W.keepIn K (.ref f19) = true)
    (a20 : PySem.W.nsIn K mainGlobals "_law_pick" = some (some (.ref f20))) (l20 : K.lookup f20 = some ⟨oc20, od20, .func (PySem.W.fnOf "_law_pick" "_law_pick" (defArgs s_law_pick) (defBody s_law_pick) (defScope s_law_pick) .none kV20 dc20 pm20 an20 cd20 ct20), sl20⟩) (c20 : PySem.W.codeIn K cd20 "_law_pick" = true) (k20 : PySem.W.keepIn K (.ref f20) = true)
    (a21 : PySem.W.nsIn K mainGlobals "_law_runs" = some (some (.ref f21))) (l21 : K.lookup f21 = some ⟨oc21, od21, .func (PySem.W.fnOf "_law_runs" "_law_runs" (defArgs s_law_runs) (defBody s_law_runs) (defScope s_law_runs) .none kV21 dc21 pm21 an21 cd21 ct21), sl21⟩) (c21 : PySem.W.codeIn K cd21 "_law_runs" = true) (k21 : PySem.W.keepIn K (.ref f21) = true)
    (a22 : PySem.W.nsIn K mainGlobals "_law_members" = some (some (.ref f22))) (l22 : K.lookup f22 = some ⟨oc22, od22, .func (PySem.W.fnOf "_law_members" "_law_members" (defArgs s_law_members) (defBody s_law_members) (defScope s_law_members) .none kV22 dc22 pm22 an22 cd22 ct22), sl22⟩) (c22 : PySem.W.codeIn K cd22 "_law_members" = true) (k22 : PySem.W.keepIn K (.ref f22) = true)
    (a23 : PySem.W.nsIn K mainGlobals "_law_made" = some (some (.ref f23))) (l23 : K.lookup f23 = some ⟨oc23, od23, .func (PySem.W.fnOf "_law_made" "_law_made" (defArgs s_law_made) (defBody s_law_made) (defScope s_law_made) .none kV23 dc23 pm23 an23 cd23 ct23), sl23⟩) (c23 : PySem.W.codeIn K cd23 "_law_made" = true) (k23 : PySem.W.keepIn K (.ref f23) = true)
    (a24 : PySem.W.nsIn K mainGlobals "_law_least" = some (some (.ref f24))) (l24 : K.lookup f24 = some ⟨oc24, od24, .func (PySem.W.fnOf "_law_least" "_law_least" (defArgs s_law_least) (defBody s_law_least) (defScope s_law_least) .none kV24 dc24 pm24 an24 cd24 ct24), sl24⟩) (c24 : PySem.W.codeIn K cd24 "_law_least" = true) (k24 : PySem.W.keepIn K (.ref f24) = true)
    (a25 : PySem.W.nsIn K mainGlobals "_law_heard" = some (some (.ref f25))) (l25 : K.lookup f25 = some ⟨oc25, od25, .func (PySem.W.fnOf "_law_heard" "_law_heard" (defArgs s_law_heard) (defBody s_law_heard) (defScope s_law_heard) .none kV25 dc25 pm25 an25 cd25 ct25), sl25⟩) (c25 : PySem.W.codeIn K cd25 "_law_heard" = true) (k25 : PySem.W.keepIn K (.ref f25) = true)
    (a26 : PySem.W.nsIn K mainGlobals "_law_text" = some (some (.ref f26))) (l26 : K.lookup f26 = some ⟨oc26, od26, .func (PySem.W.fnOf "_law_text" "_law_text" (defArgs s_law_text) (defBody s_law_text) (defScope s_law_text) .none kV26 dc26 pm26 an26 cd26 ct26), sl26⟩) (c26 : PySem.W.codeIn K cd26 "_law_text" = true) (k26 : PySem.W.keepIn K (.ref f26) = true)
    (a27 : PySem.W.nsIn K mainGlobals "_law_is_number" = some (some (.ref f27))) (l27 : K.lookup f27 = some ⟨oc27, od27, .func (PySem.W.fnOf "_law_is_number" "_law_is_number" (defArgs s_law_is_number) (defBody s_law_is_number) (defScope s_law_is_number) .none kV27 dc27 pm27 an27 cd27 ct27), sl27⟩) (c27 : PySem.W.codeIn K cd27 "_law_is_number" = true) (k27 : PySem.W.keepIn K (.ref f27) = true)
    (a28 : PySem.W.nsIn K mainGlobals "_law_runs_wrong" = some (some (.ref f28))) (l28 : K.lookup f28 = some ⟨oc28, od28, .func (PySem.W.fnOf "_law_runs_wrong" "_law_runs_wrong" (defArgs s_law_runs_wrong) (defBody s_law_runs_wrong) (defScope s_law_runs_wrong) .none kV28 dc28 pm28 an28 cd28 ct28), sl28⟩) (c28 : PySem.W.codeIn K cd28 "_law_runs_wrong" = true) (k28 : PySem.W.keepIn K (.ref f28) = true)
    (a29 : PySem.W.nsIn K mainGlobals "_law_wrong" = some (some (.ref f29))) (l29 : K.lookup f29 = some ⟨oc29, od29, .func (PySem.W.fnOf "_law_wrong" "_law_wrong" (defArgs s_law_wrong) (defBody s_law_wrong) (defScope s_law_wrong) .none kV29 dc29 pm29 an29 cd29 ct29), sl29⟩) (c29 : PySem.W.codeIn K cd29 "_law_wrong" = true) (k29 : PySem.W.keepIn K (.ref f29) = true)
    (a30 : PySem.W.nsIn K mainGlobals "_law_bent" = some (some (.ref f30))) (l30 : K.lookup f30 = some ⟨oc30, od30, .func (PySem.W.fnOf "_law_bent" "_law_bent" (defArgs s_law_bent) (defBody s_law_bent) (defScope s_law_bent) .none kV30 dc30 pm30 an30 cd30 ct30), sl30⟩) (c30 : PySem.W.codeIn K cd30 "_law_bent" = true) (k30 : PySem.W.keepIn K (.ref f30) = true)
    (a31 : PySem.W.nsIn K mainGlobals "_law_right" = some (some (.ref f31))) (l31 : K.lookup f31 = some ⟨oc31, od31, .func (PySem.W.fnOf "_law_right" "_law_right" (defArgs s_law_right) (defBody s_law_right) (defScope s_law_right) .none kV31 dc31 pm31 an31 cd31 ct31), sl31⟩) (c31 : PySem.W.codeIn K cd31 "_law_right" = true) (k31 : PySem.W.keepIn K (.ref f31) = true)
    (a32 : PySem.W.nsIn K mainGlobals "law" = some (some (.ref f32))) (l32 : K.lookup f32 = some ⟨oc32, od32, .func (PySem.W.fnOf "law" "law" (defArgs s_law) (defBody s_law) (defScope s_law) .none kV32 dc32 pm32 an32 cd32 ct32), sl32⟩) (c32 : PySem.W.codeIn K cd32 "law" = true) (k32 : PySem.W.keepIn K (.ref f32) = true)
    (z0 : PySem.W.nsIn K mainGlobals "len" = some none) (z1 : PySem.W.nsIn K mainGlobals "int" = some none) (z2 : PySem.W.nsIn K mainGlobals "abs" = some none) (z3 : PySem.W.nsIn K mainGlobals "min" = some none) (z4 : PySem.W.nsIn K mainGlobals "max" = some none) (z5 : PySem.W.nsIn K mainGlobals "range" = some none) (z6 : PySem.W.nsIn K mainGlobals "isinstance" = some none) (z7 : PySem.W.nsIn K mainGlobals "list" = some none) (z8 : PySem.W.nsIn K mainGlobals "tuple" = some none) (z9 : PySem.W.nsIn K mainGlobals "bool" = some none) (z10 : PySem.W.nsIn K mainGlobals "str" = some none) (z11 : PySem.W.nsIn K mainGlobals "repr" = some none) (z12 : PySem.W.nsIn K mainGlobals "sum" = some none) (z13 : PySem.W.nsIn K mainGlobals "sorted" = some none) (z14 : PySem.W.nsIn K mainGlobals "any" = some none) (z15 : PySem.W.nsIn K mainGlobals "all" = some none) (z16 : PySem.W.nsIn K mainGlobals "enumerate" = some none) (z17 : PySem.W.nsIn K mainGlobals "zip" = some none) (z18 : PySem.W.nsIn K mainGlobals "ValueError" = some none) (z19 : PySem.W.nsIn K mainGlobals "LookupError" = some none) (z20 : PySem.W.nsIn K mainGlobals "reversed" = some none) (z21 : PySem.W.nsIn K mainGlobals "set" = some none) (z22 : PySem.W.nsIn K mainGlobals "dict" = some none) (z23 : PySem.W.nsIn K mainGlobals "iter" = some none) (z24 : PySem.W.nsIn K mainGlobals "next" = some none) (z25 : PySem.W.nsIn K mainGlobals "type" = some none) (zs : PySem.W.nsIn K mainGlobals "super" = some none) (op : PySem.W.nsIn K cStatics "thirdparty.any" = some none)
    (g1 : PySem.W.specialIn K (.builtin "object.__class__") "__get__" = some (some (.builtin "getset_descriptor.__get__"))) (g2 : PySem.W.takesIn K (.builtin "object.__class__") = some true) (g3 : (l.prog.main.scope.names.lookup ("super" : Str)).isSome = false)
    {C_0 fI_0 c_0 cc_0 N_0 : Addr} {nm_0 qn_0 fl_0 : Str} {bs_0 bm_0 sub_0 : List Value} {sn_0 : List Str} {ab_0 : Bool} {col_0 : Option Bool} {k0_0 k1_0 k2_0 k3_0 k5_0 : Option Value} {oc_0 kV_0 doc_0 pm_0 ct_0 cl_0 ccl_0 : Value} {dd_0 od_0 an_0 cld_0 cdd_0 : Option Addr} {osl_0 csl_0 ccs_0 : Array (Option Value)} {vs_0 : Array Value} {tf_0 : Tok} {cd_0 : ClassData}
    (E_0 : ErrFacts l.prog K "BadNumber" "BadNumber.__init__" s_BadNumber_init C_0 fI_0 c_0 cc_0 nm_0 qn_0 N_0 bs_0 bm_0 sn_0 sub_0 ab_0 col_0 dd_0 k0_0 k1_0 k2_0 k3_0 k5_0 oc_0 kV_0 doc_0 pm_0 ct_0 cl_0 ccl_0 od_0 an_0 cld_0 cdd_0 osl_0 csl_0 ccs_0 vs_0 fl_0 tf_0 cd_0)
    (e0_0 : PySem.W.findIn K (.ref C_0) "value" = some none)
    {C_1 fI_1 c_1 cc_1 N_1 : Addr} {nm_1 qn_1 fl_1 : Str} {bs_1 bm_1 sub_1 : List Value} {sn_1 : List Str} {ab_1 : Bool} {col_1 : Option Bool} {k0_1 k1_1 k2_1 k3_1 k5_1 : Option Value} {oc_1 kV_1 doc_1 pm_1 ct_1 cl_1 ccl_1 : Value} {dd_1 od_1 an_1 cld_1 cdd_1 : Option Addr} {osl_1 csl_1 ccs_1 : Array (Option Value)} {vs_1 : Array Value} {tf_1 : Tok} {cd_1 : ClassData}
    (E_1 : ErrFacts l.prog K "BadLot" "BadLot.__init__" s_BadLot_init C_1 fI_1 c_1 cc_1 nm_1 qn_1 N_1 bs_1 bm_1 sn_1 sub_1 ab_1 col_1 dd_1 k0_1 k1_1 k2_1 k3_1 k5_1 oc_1 kV_1 doc_1 pm_1 ct_1 cl_1 ccl_1 od_1 an_1 cld_1 cdd_1 osl_1 csl_1 ccs_1 vs_1 fl_1 tf_1 cd_1)
    (e1_0 : PySem.W.findIn K (.ref C_1) "part" = some none)
    {C_2 fI_2 c_2 cc_2 N_2 : Addr} {nm_2 qn_2 fl_2 : Str} {bs_2 bm_2 sub_2 : List Value} {sn_2 : List Str} {ab_2 : Bool} {col_2 : Option Bool} {k0_2 k1_2 k2_2 k3_2 k5_2 : Option Value} {oc_2 kV_2 doc_2 pm_2 ct_2 cl_2 ccl_2 : Value} {dd_2 od_2 an_2 cld_2 cdd_2 : Option Addr} {osl_2 csl_2 ccs_2 : Array (Option Value)} {vs_2 : Array Value} {tf_2 : Tok} {cd_2 : ClassData}
    (E_2 : ErrFacts l.prog K "BadText" "BadText.__init__" s_BadText_init C_2 fI_2 c_2 cc_2 nm_2 qn_2 N_2 bs_2 bm_2 sn_2 sub_2 ab_2 col_2 dd_2 k0_2 k1_2 k2_2 k3_2 k5_2 oc_2 kV_2 doc_2 pm_2 ct_2 cl_2 ccl_2 od_2 an_2 cld_2 cdd_2 osl_2 csl_2 ccs_2 vs_2 fl_2 tf_2 cd_2)
    (e2_0 : PySem.W.findIn K (.ref C_2) "line" = some none)
    (e2_1 : PySem.W.findIn K (.ref C_2) "word" = some none)
    {C_3 fI_3 c_3 cc_3 N_3 : Addr} {nm_3 qn_3 fl_3 : Str} {bs_3 bm_3 sub_3 : List Value} {sn_3 : List Str} {ab_3 : Bool} {col_3 : Option Bool} {k0_3 k1_3 k2_3 k3_3 k5_3 : Option Value} {oc_3 kV_3 doc_3 pm_3 ct_3 cl_3 ccl_3 : Value} {dd_3 od_3 an_3 cld_3 cdd_3 : Option Addr} {osl_3 csl_3 ccs_3 : Array (Option Value)} {vs_3 : Array Value} {tf_3 : Tok} {cd_3 : ClassData}
    (E_3 : ErrFacts l.prog K "NoPlace" "NoPlace.__init__" s_NoPlace_init C_3 fI_3 c_3 cc_3 nm_3 qn_3 N_3 bs_3 bm_3 sn_3 sub_3 ab_3 col_3 dd_3 k0_3 k1_3 k2_3 k3_3 k5_3 oc_3 kV_3 doc_3 pm_3 ct_3 cl_3 ccl_3 od_3 an_3 cld_3 cdd_3 osl_3 csl_3 ccs_3 vs_3 fl_3 tf_3 cd_3)
    (e3_0 : PySem.W.findIn K (.ref C_3) "at" = some none)
    {C_4 fI_4 c_4 cc_4 N_4 : Addr} {nm_4 qn_4 fl_4 : Str} {bs_4 bm_4 sub_4 : List Value} {sn_4 : List Str} {ab_4 : Bool} {col_4 : Option Bool} {k0_4 k1_4 k2_4 k3_4 k5_4 : Option Value} {oc_4 kV_4 doc_4 pm_4 ct_4 cl_4 ccl_4 : Value} {dd_4 od_4 an_4 cld_4 cdd_4 : Option Addr} {osl_4 csl_4 ccs_4 : Array (Option Value)} {vs_4 : Array Value} {tf_4 : Tok} {cd_4 : ClassData}
    (E_4 : ErrFacts l.prog K "TooMany" "TooMany.__init__" s_TooMany_init C_4 fI_4 c_4 cc_4 nm_4 qn_4 N_4 bs_4 bm_4 sn_4 sub_4 ab_4 col_4 dd_4 k0_4 k1_4 k2_4 k3_4 k5_4 oc_4 kV_4 doc_4 pm_4 ct_4 cl_4 ccl_4 od_4 an_4 cld_4 cdd_4 osl_4 csl_4 ccs_4 vs_4 fl_4 tf_4 cd_4)
    (e4_0 : PySem.W.findIn K (.ref C_4) "what" = some none)
    (e4_1 : PySem.W.findIn K (.ref C_4) "most" = some none)
    {D_0 : Addr} (d0 : PySem.W.nsIn K mainGlobals "ReachError" = some (some (.ref D_0)))
    {D_1 : Addr} (d1 : PySem.W.nsIn K mainGlobals "NoMember" = some (some (.ref D_1)))
    {O_Lot : Addr} (oa_Lot : PySem.W.nsIn K mainGlobals "Lot" = some (some (.ref O_Lot)))
    (ob_Lot : PySem.W.plainGet K O_Lot Str.empty = true)
    (oc_Lot : PySem.W.hasDictIn K O_Lot = true)
    (od_Lot : PySem.W.plainOver K O_Lot = true)
    (oe_Lot : PySem.W.findIn K (.ref O_Lot) "__setattr__" = some (some (.builtin "object.__setattr__")))
    (of_Lot : PySem.W.keepIn K (.ref O_Lot) = true)
    (og_Lot : PySem.W.plainGet K O_Lot "__class__" = true)
    (oh_Lot : PySem.W.findIn K (.ref O_Lot) "__class__" = some (some (.builtin "object.__class__")))
    (oi_Lot : PySem.W.mroIn K O_Lot (.type "object") = some true)
    {m_Lot_init : Addr} (ma_Lot_init : PySem.W.findIn K (.ref O_Lot) "__init__" = some (some (.ref m_Lot_init)))
    {voc_Lot_init vkV_Lot_init vdc_Lot_init vpm_Lot_init vcd_Lot_init vct_Lot_init : Value} {vod_Lot_init van_Lot_init : Option Addr} {vsl_Lot_init : Array (Option Value)} (ml_Lot_init : K.lookup m_Lot_init = some ⟨voc_Lot_init, vod_Lot_init, .func (PySem.W.fnOf "__init__" "Lot.__init__" (defArgs s_Lot_init) (defBody s_Lot_init) (defScope s_Lot_init) .none vkV_Lot_init vdc_Lot_init vpm_Lot_init van_Lot_init vcd_Lot_init vct_Lot_init), vsl_Lot_init⟩)
    (mc_Lot_init : PySem.W.codeIn K vcd_Lot_init "Lot.__init__" = true)
    (mk_Lot_init : PySem.W.keepIn K (.ref m_Lot_init) = true)
    (mi_Lot_init : PySem.W.isFn K (.ref m_Lot_init) = true)
    {mq_Lot_read : Addr} (ma_Lot_read : PySem.W.findIn K (.ref O_Lot) "read" = some (some (.ref mq_Lot_read)))
    {m_Lot_read : Addr} {mr_Lot_read : List Value} (mb_Lot_read : PySem.W.recIn K mq_Lot_read "staticmethod" = some (.ref m_Lot_read :: mr_Lot_read))
    {voc_Lot_read vkV_Lot_read vdc_Lot_read vpm_Lot_read vcd_Lot_read vct_Lot_read : Value} {vod_Lot_read van_Lot_read : Option Addr} {vsl_Lot_read : Array (Option Value)} (ml_Lot_read : K.lookup m_Lot_read = some ⟨voc_Lot_read, vod_Lot_read, .func (PySem.W.fnOf "read" "Lot.read" (defArgs s_Lot_read) (defBody s_Lot_read) (defScope s_Lot_read) .none vkV_Lot_read vdc_Lot_read vpm_Lot_read van_Lot_read vcd_Lot_read vct_Lot_read), vsl_Lot_read⟩)
    (mc_Lot_read : PySem.W.codeIn K vcd_Lot_read "Lot.read" = true)
    (mk_Lot_read : PySem.W.keepIn K (.ref m_Lot_read) = true)
    (mi_Lot_read : PySem.W.isFn K (.ref m_Lot_read) = true)
    {m_Lot_len : Addr} (ma_Lot_len : PySem.W.findIn K (.ref O_Lot) "__len__" = some (some (.ref m_Lot_len)))
    {voc_Lot_len vkV_Lot_len vdc_Lot_len vpm_Lot_len vcd_Lot_len vct_Lot_len : Value} {vod_Lot_len van_Lot_len : Option Addr} {vsl_Lot_len : Array (Option Value)} (ml_Lot_len : K.lookup m_Lot_len = some ⟨voc_Lot_len, vod_Lot_len, .func (PySem.W.fnOf "__len__" "Lot.__len__" (defArgs s_Lot_len) (defBody s_Lot_len) (defScope s_Lot_len) .none vkV_Lot_len vdc_Lot_len vpm_Lot_len van_Lot_len vcd_Lot_len vct_Lot_len), vsl_Lot_len⟩)
    (mc_Lot_len : PySem.W.codeIn K vcd_Lot_len "Lot.__len__" = true)
    (mk_Lot_len : PySem.W.keepIn K (.ref m_Lot_len) = true)
    (mi_Lot_len : PySem.W.isFn K (.ref m_Lot_len) = true)
    {m_Lot_eq : Addr} (ma_Lot_eq : PySem.W.findIn K (.ref O_Lot) "__eq__" = some (some (.ref m_Lot_eq)))
    {voc_Lot_eq vkV_Lot_eq vdc_Lot_eq vpm_Lot_eq vcd_Lot_eq vct_Lot_eq : Value} {vod_Lot_eq van_Lot_eq : Option Addr} {vsl_Lot_eq : Array (Option Value)} (ml_Lot_eq : K.lookup m_Lot_eq = some ⟨voc_Lot_eq, vod_Lot_eq, .func (PySem.W.fnOf "__eq__" "Lot.__eq__" (defArgs s_Lot_eq) (defBody s_Lot_eq) (defScope s_Lot_eq) .none vkV_Lot_eq vdc_Lot_eq vpm_Lot_eq van_Lot_eq vcd_Lot_eq vct_Lot_eq), vsl_Lot_eq⟩)
    (mc_Lot_eq : PySem.W.codeIn K vcd_Lot_eq "Lot.__eq__" = true)
    (mk_Lot_eq : PySem.W.keepIn K (.ref m_Lot_eq) = true)
    (mi_Lot_eq : PySem.W.isFn K (.ref m_Lot_eq) = true)
    {m_Lot_str : Addr} (ma_Lot_str : PySem.W.findIn K (.ref O_Lot) "__str__" = some (some (.ref m_Lot_str)))
    {voc_Lot_str vkV_Lot_str vdc_Lot_str vpm_Lot_str vcd_Lot_str vct_Lot_str : Value} {vod_Lot_str van_Lot_str : Option Addr} {vsl_Lot_str : Array (Option Value)} (ml_Lot_str : K.lookup m_Lot_str = some ⟨voc_Lot_str, vod_Lot_str, .func (PySem.W.fnOf "__str__" "Lot.__str__" (defArgs s_Lot_str) (defBody s_Lot_str) (defScope s_Lot_str) .none vkV_Lot_str vdc_Lot_str vpm_Lot_str van_Lot_str vcd_Lot_str vct_Lot_str), vsl_Lot_str⟩)
    (mc_Lot_str : PySem.W.codeIn K vcd_Lot_str "Lot.__str__" = true)
    (mk_Lot_str : PySem.W.keepIn K (.ref m_Lot_str) = true)
    (mi_Lot_str : PySem.W.isFn K (.ref m_Lot_str) = true)
    {m_Lot_mul : Addr} (ma_Lot_mul : PySem.W.findIn K (.ref O_Lot) "__mul__" = some (some (.ref m_Lot_mul)))
    {voc_Lot_mul vkV_Lot_mul vdc_Lot_mul vpm_Lot_mul vcd_Lot_mul vct_Lot_mul : Value} {vod_Lot_mul van_Lot_mul : Option Addr} {vsl_Lot_mul : Array (Option Value)} (ml_Lot_mul : K.lookup m_Lot_mul = some ⟨voc_Lot_mul, vod_Lot_mul, .func (PySem.W.fnOf "__mul__" "Lot.__mul__" (defArgs s_Lot_mul) (defBody s_Lot_mul) (defScope s_Lot_mul) .none vkV_Lot_mul vdc_Lot_mul vpm_Lot_mul van_Lot_mul vcd_Lot_mul vct_Lot_mul), vsl_Lot_mul⟩)
    (mc_Lot_mul : PySem.W.codeIn K vcd_Lot_mul "Lot.__mul__" = true)
    (mk_Lot_mul : PySem.W.keepIn K (.ref m_Lot_mul) = true)
    (mi_Lot_mul : PySem.W.isFn K (.ref m_Lot_mul) = true)
    (ka_Lot : PySem.W.makesIn K O_Lot = true)
    (kb_Lot : PySem.W.findIn K (.ref O_Lot) "__init__" = some (some (.ref m_Lot_init)))
    (ta_Lot_read : PySem.W.readsIn K O_Lot (.type "type") = true)
    (tb_Lot_read : PySem.W.specialIn K (.ref O_Lot) "__getattribute__" = some (some (.builtin "type.__getattribute__")))
    (tc_Lot_read : PySem.W.findCls K (.ref O_Lot) (.type "type") "read" = some (.get (.builtin "staticmethod.__get__") (.ref mq_Lot_read) .none (.ref O_Lot)))
    (qa_Lot : PySem.W.findIn K (.ref O_Lot) "__eq__" = some (some (.ref m_Lot_eq)))
    (qb_Lot : PySem.W.findIn K (.ref O_Lot) "__ne__" = some (some (.builtin "object.__ne__")))
    (ua_Lot : PySem.W.selfFirst K O_Lot = true)
    (ub_Lot_mul : PySem.W.findIn K (.ref O_Lot) "__mul__" = some (some (.ref m_Lot_mul)))
    (uc_Lot_mul_int : PySem.W.findIn K (.ref O_Lot) "__rmul__" = some none)
    {ud0_Lot_mul_int : Option Value} (ud_Lot_mul_int : PySem.W.findIn K (.type "int") "__mul__" = some ud0_Lot_mul_int)
    {ue0_Lot_mul_int : Option Value} (ue_Lot_mul_int : PySem.W.findIn K (.type "int") "__rmul__" = some ue0_Lot_mul_int)
    (uf_Lot_int : PySem.W.subIn K (.type "int") (.ref O_Lot) = some false)
    (no_Lot_period : PySem.W.findIn K (.ref O_Lot) "period" = some none)
    (no_Lot_runs : PySem.W.findIn K (.ref O_Lot) "runs" = some none)
    (no_Lot_size : PySem.W.findIn K (.ref O_Lot) "size" = some none)
    (no_Lot_own_begins : PySem.W.findIn K (.ref O_Lot) "own_begins" = some none)
    {u_MOST_RUNS : Value} (ga_MOST_RUNS : PySem.W.nsIn K mainGlobals "MOST_RUNS" = some (some u_MOST_RUNS))
    (r_MOST_RUNS : RelV (.int 2000) u_MOST_RUNS)
    {u_MOST_TIMES : Value} (ga_MOST_TIMES : PySem.W.nsIn K mainGlobals "MOST_TIMES" = some (some u_MOST_TIMES))
    (r_MOST_TIMES : RelV (.int 1000000000000000000000000000000) u_MOST_TIMES)
    {u_MOST_FIGURES : Value} (ga_MOST_FIGURES : PySem.W.nsIn K mainGlobals "MOST_FIGURES" = some (some u_MOST_FIGURES))
    (r_MOST_FIGURES : RelV (.int 120) u_MOST_FIGURES)
    {u_MOST_PERIOD : Value} (ga_MOST_PERIOD : PySem.W.nsIn K mainGlobals "MOST_PERIOD" = some (some u_MOST_PERIOD))
    (r_MOST_PERIOD : RelV (.int 10000000000000000000000000000000000000000000000000000000000000000000000000000000000000000000000000000) u_MOST_PERIOD)
    (x1 : PySem.W.kitOne K (.ref O_Lot) (.ref O_Lot) = some true)
    (x2 : PySem.W.notFirst K O_Lot (.ref O_Lot) = true)
    (x3 : PySem.W.findIn K (.ref O_Lot) "__len__" = some (some (.ref m_Lot_len)))
    (x5 : PySem.W.findIn K (.ref O_Lot) "__str__" = some (some (.ref m_Lot_str)))
    (x6 : PySem.W.kitOne K (.ref O_Lot) (.type "str") = some false)
    (x7 : PySem.W.exmOne K (.ref C_2) (.ref D_0) = some true)
    (x8 : PySem.W.kitOne K (.ref C_2) (.ref C_2) = some true)
    {mc0 mp0 : Addr} {me0 : Value} {md0 : Option Addr} {mv0 : Array Value} {ms0 : Array (Option Value)} (mq0 : cd31 = .ref mc0) (mk0 : K.lookup mc0 = some ⟨me0, md0, .fields mv0, ms0⟩) (mt0 : mv0[11]? = some (.ref mp0)) (mr0 : ((recsOf q).find? fun e => e.name == ("_law_right" : Str)).isSome = true) (ml0 : K.lookup mp0 = none)
    {mc1 mp1 : Addr} {me1 : Value} {md1 : Option Addr} {mv1 : Array Value} {ms1 : Array (Option Value)} (mq1 : cd32 = .ref mc1) (mk1 : K.lookup mc1 = some ⟨me1, md1, .fields mv1, ms1⟩) (mt1 : mv1[11]? = some (.ref mp1)) (mr1 : ((recsOf q).find? fun e => e.name == ("law" : Str)).isSome = true) (ml1 : K.lookup mp1 = none)
    (mnd : ([mp0, mp1] : List Addr).Nodup) :
    LawG q l.prog w K 14 mg fa := by
  have e := hfa.symm.trans (PySem.W.mg_of X G a32)
  cases e
  have B : Bi mg := ⟨PySem.W.mg_none_of X G z0, PySem.W.mg_none_of X G z1, PySem.W.mg_none_of X G z2, PySem.W.mg_none_of X G z3, PySem.W.mg_none_of X G z4, PySem.W.mg_none_of X G z5, PySem.W.mg_none_of X G z6, PySem.W.mg_none_of X G z7, PySem.W.mg_none_of X G z8, PySem.W.mg_none_of X G z9, PySem.W.mg_none_of X G z10, PySem.W.mg_none_of X G z11, PySem.W.mg_none_of X G z12, PySem.W.mg_none_of X G z13, PySem.W.mg_none_of X G z14, PySem.W.mg_none_of X G z15, PySem.W.mg_none_of X G z16, PySem.W.mg_none_of X G z17, PySem.W.mg_none_of X G z18, PySem.W.mg_none_of X G z19, PySem.W.mg_none_of X G z20, PySem.W.mg_none_of X G z21, PySem.W.mg_none_of X G z22, PySem.W.mg_none_of X G z23, PySem.W.mg_none_of X G z24, PySem.W.mg_none_of X G z25⟩
  have F_is_whole : Df K mg "is_whole" s_is_whole := ⟨_, _, PySem.W.mg_of X G a0, fun_mk l0 c0 k0⟩
  have F_need_whole : Df K mg "need_whole" s_need_whole := ⟨_, _, PySem.W.mg_of X G a1, fun_mk l1 c1 k1⟩
  have F_divisor_of : Df K mg "divisor_of" s_divisor_of := ⟨_, _, PySem.W.mg_of X G a2, fun_mk l2 c2 k2⟩
  have F_common : Df K mg "common" s_common := ⟨_, _, PySem.W.mg_of X G a3, fun_mk l3 c3 k3⟩
  have F_is_run : Df K mg "is_run" s_is_run := ⟨_, _, PySem.W.mg_of X G a4, fun_mk l4 c4 k4⟩
  have F_length_of : Df K mg "length_of" s_length_of := ⟨_, _, PySem.W.mg_of X G a5, fun_mk l5 c5 k5⟩
  have F_melted : Df K mg "melted" s_melted := ⟨_, _, PySem.W.mg_of X G a6, fun_mk l6 c6 k6⟩
  have F_closed_round : Df K mg "closed_round" s_closed_round := ⟨_, _, PySem.W.mg_of X G a7, fun_mk l7 c7 k7⟩
  have F_maximal : Df K mg "maximal" s_maximal := ⟨_, _, PySem.W.mg_of X G a8, fun_mk l8 c8 k8⟩
  have F_least_form : Df K mg "least_form" s_least_form := ⟨_, _, PySem.W.mg_of X G a9, fun_mk l9 c9 k9⟩
  have F_need_times : Df K mg "need_times" s_need_times := ⟨_, _, PySem.W.mg_of X G a10, fun_mk l10 c10 k10⟩
  have F_need_few : Df K mg "need_few" s_need_few := ⟨_, _, PySem.W.mg_of X G a11, fun_mk l11 c11 k11⟩
  have F_lot_of : Df K mg "lot_of" s_lot_of := ⟨_, _, PySem.W.mg_of X G a12, fun_mk l12 c12 k12⟩
  have F_written : Df K mg "written" s_written := ⟨_, _, PySem.W.mg_of X G a13, fun_mk l13 c13 k13⟩
  have F_number_in : Df K mg "number_in" s_number_in := ⟨_, _, PySem.W.mg_of X G a14, fun_mk l14 c14 k14⟩
  have F_need_word : Df K mg "need_word" s_need_word := ⟨_, _, PySem.W.mg_of X G a15, fun_mk l15 c15 k15⟩
  have F_read_runs : Df K mg "read_runs" s_read_runs := ⟨_, _, PySem.W.mg_of X G a16, fun_mk l16 c16 k16⟩
  have F_read_lot : Df K mg "read_lot" s_read_lot := ⟨_, _, PySem.W.mg_of X G a17, fun_mk l17 c17 k17⟩
  have F_law_pen : Df K mg "_law_pen" s_law_pen := ⟨_, _, PySem.W.mg_of X G a18, fun_mk l18 c18 k18⟩
  have F_law_draw : Df K mg "_law_draw" s_law_draw := ⟨_, _, PySem.W.mg_of X G a19, fun_mk l19 c19 k19⟩
  have F_law_pick : Df K mg "_law_pick" s_law_pick := ⟨_, _, PySem.W.mg_of X G a20, fun_mk l20 c20 k20⟩
  have F_law_runs : Df K mg "_law_runs" s_law_runs := ⟨_, _, PySem.W.mg_of X G a21, fun_mk l21 c21 k21⟩
  have F_law_members : Df K mg "_law_members" s_law_members := ⟨_, _, PySem.W.mg_of X G a22, fun_mk l22 c22 k22⟩
  have F_law_made : Df K mg "_law_made" s_law_made := ⟨_, _, PySem.W.mg_of X G a23, fun_mk l23 c23 k23⟩
  have F_law_least : Df K mg "_law_least" s_law_least := ⟨_, _, PySem.W.mg_of X G a24, fun_mk l24 c24 k24⟩
  have F_law_heard : Df K mg "_law_heard" s_law_heard := ⟨_, _, PySem.W.mg_of X G a25, fun_mk l25 c25 k25⟩
  have F_law_text : Df K mg "_law_text" s_law_text := ⟨_, _, PySem.W.mg_of X G a26, fun_mk l26 c26 k26⟩
  have F_law_is_number : Df K mg "_law_is_number" s_law_is_number := ⟨_, _, PySem.W.mg_of X G a27, fun_mk l27 c27 k27⟩
  have F_law_runs_wrong : Df K mg "_law_runs_wrong" s_law_runs_wrong := ⟨_, _, PySem.W.mg_of X G a28, fun_mk l28 c28 k28⟩
  have F_law_wrong : Df K mg "_law_wrong" s_law_wrong := ⟨_, _, PySem.W.mg_of X G a29, fun_mk l29 c29 k29⟩
  have F_law_bent : Df K mg "_law_bent" s_law_bent := ⟨_, _, PySem.W.mg_of X G a30, fun_mk l30 c30 k30⟩
  have F_law_right : Df K mg "_law_right" s_law_right := ⟨_, _, PySem.W.mg_of X G a31, fun_mk l31 c31 k31⟩
  have C_law_right : DfC K mg "_law_right" s_law_right mc0 := ⟨_, _, _, _, _, _, _, _, _, PySem.W.mg_of X G a31, mq0 ▸ l31, mq0 ▸ c31, k31⟩
  have C_law : DfC K mg "law" s_law mc1 := ⟨_, _, _, _, _, _, _, _, _, PySem.W.mg_of X G a32, mq1 ▸ l32, mq1 ▸ c32, k32⟩
  have FL := fun_mk (st := s_law) l32 c32 k32
  have A : ErrAll l.prog K mg := ⟨g3, op, PySem.W.mg_none_of X G zs, g1, g2⟩
  refine ⟨[("_law_right", mc0, mp0, ("_law_right.<locals>." ++ "<lambda>" : Str)), ("law", mc1, mp1, ("law.<locals>." ++ "<lambda>" : Str))], mnd, fun p hp => by
    simp only [List.mem_cons, List.not_mem_nil, or_false] at hp
    rcases hp with rfl | rfl
    · exact ⟨tab_mk a31 (mq0 ▸ l31) mk0 mt0, mr0, ml0⟩
    · exact ⟨tab_mk a32 (mq1 ▸ l32) mk1 mt1, mr1, ml1⟩
  , fun base hK hG hT => ?_⟩
  have TB_law_right := hT ("_law_right", mc0, mp0, _) List.mem_cons_self
  have TB_law := hT ("law", mc1, mp1, _) (List.mem_cons_of_mem _ List.mem_cons_self)
  have T_BadNumber : ErrT l.prog w K mg base "BadNumber" C_0 ["value"] := err_mk1 "value" X G A E_0 e0_0 sc_BadNumber_init rfl rfl rfl rfl (fun _ => rfl) (fun _ => rfl) (fun _ => ⟨_, rfl⟩) (fun _ => rfl) (by decide) (by decide) (fun us hl => match us, hl with | [_, _], _ => rfl)
  have T_BadLot : ErrT l.prog w K mg base "BadLot" C_1 ["part"] := err_mk1 "part" X G A E_1 e1_0 sc_BadLot_init rfl rfl rfl rfl (fun _ => rfl) (fun _ => rfl) (fun _ => ⟨_, rfl⟩) (fun _ => rfl) (by decide) (by decide) (fun us hl => match us, hl with | [_, _], _ => rfl)
  have T_BadText : ErrT l.prog w K mg base "BadText" C_2 ["line", "word"] := err_mk2 "line" "word" X G A E_2 e2_0 e2_1 sc_BadText_init rfl rfl rfl rfl (fun _ => rfl) (fun _ => rfl) (fun _ => ⟨_, rfl⟩) (fun _ => rfl) (fun _ => rfl) (by decide) (by decide) (by decide) (by decide) (fun us hl => match us, hl with | [_, _, _], _ => rfl)
  have T_NoPlace : ErrT l.prog w K mg base "NoPlace" C_3 ["at"] := err_mk1 "at" X G A E_3 e3_0 sc_NoPlace_init rfl rfl rfl rfl (fun _ => rfl) (fun _ => rfl) (fun _ => ⟨_, rfl⟩) (fun _ => rfl) (by decide) (by decide) (fun us hl => match us, hl with | [_, _], _ => rfl)
  have T_TooMany : ErrT l.prog w K mg base "TooMany" C_4 ["what", "most"] := err_mk2 "what" "most" X G A E_4 e4_0 e4_1 sc_TooMany_init rfl rfl rfl rfl (fun _ => rfl) (fun _ => rfl) (fun _ => ⟨_, rfl⟩) (fun _ => rfl) (fun _ => rfl) (by decide) (by decide) (by decide) (by decide) (fun us hl => match us, hl with | [_, _, _], _ => rfl)
  have G_ReachError : mg "ReachError" = some (.ref D_0) := PySem.W.mg_of X G d0
  have G_NoMember : mg "NoMember" = some (.ref D_1) := PySem.W.mg_of X G d1
  have G_Lot : mg "Lot" = some (.ref O_Lot) := PySem.W.mg_of X G oa_Lot
  have c_Lot : L2.Cls K O_Lot := ⟨ob_Lot, oc_Lot, od_Lot, oe_Lot⟩
  have t_Lot : OwnT K O_Lot := ⟨og_Lot, oc_Lot, oh_Lot, g1, g2, oi_Lot⟩
  have FM_Lot_init := fun_mk (st := s_Lot_init) ml_Lot_init mc_Lot_init mk_Lot_init
  have FM_Lot_read := fun_mk (st := s_Lot_read) ml_Lot_read mc_Lot_read mk_Lot_read
  have FM_Lot_len := fun_mk (st := s_Lot_len) ml_Lot_len mc_Lot_len mk_Lot_len
  have FM_Lot_eq := fun_mk (st := s_Lot_eq) ml_Lot_eq mc_Lot_eq mk_Lot_eq
  have FM_Lot_str := fun_mk (st := s_Lot_str) ml_Lot_str mc_Lot_str mk_Lot_str
  have FM_Lot_mul := fun_mk (st := s_Lot_mul) ml_Lot_mul mc_Lot_mul mk_Lot_mul
  have mk_Lot : Mk K O_Lot m_Lot_init := ⟨ka_Lot, kb_Lot, mi_Lot_init, of_Lot⟩
  have sta_Lot_read : CSta K O_Lot (.type "type") "read" mq_Lot_read m_Lot_read := ⟨⟨ta_Lot_read, tb_Lot_read⟩, tc_Lot_read, ⟨_, mb_Lot_read⟩, mk_Lot_read⟩
  have oe_Lot : OwnEq K O_Lot m_Lot_eq := ⟨qa_Lot, mi_Lot_eq, qb_Lot, oi_Lot⟩
  have bo_Lot_mul : OwnBin K O_Lot "mul" m_Lot_mul := ⟨ua_Lot, ub_Lot_mul, mi_Lot_mul⟩
  have bt_Lot_mul_int : BinT K O_Lot "mul" "int" := ⟨uc_Lot_mul_int, ⟨_, ud_Lot_mul_int⟩, ⟨_, ue_Lot_mul_int⟩, uf_Lot_int⟩
  have g_MOST_RUNS := PySem.W.mg_of X G ga_MOST_RUNS
  have g_MOST_TIMES := PySem.W.mg_of X G ga_MOST_TIMES
  have g_MOST_FIGURES := PySem.W.mg_of X G ga_MOST_FIGURES
  have g_MOST_PERIOD := PySem.W.mg_of X G ga_MOST_PERIOD
  have D_whole := fn_is_wholeI (P := l.prog) (w := w) (base := base) B F_is_whole
  have D_run := fn_is_run B F_is_run D_whole
  have D_len := fn_length_of (P := l.prog) (w := w) (base := base) F_length_of
  have D_melt := fn_melted (P := l.prog) (w := w) (base := base) B F_melted
  have D_clos := fn_closed_round (P := l.prog) (w := w) (base := base) B F_closed_round
  have D_max := fn_maximal B F_maximal D_len D_melt D_clos
  have D_lform := fn_least_form B F_least_form D_len
  have D_few := fn_need_few (P := l.prog) (w := w) (base := base) F_need_few g_MOST_RUNS r_MOST_RUNS
  have la : LotA K O_Lot := ⟨c_Lot, no_Lot_period, no_Lot_runs, no_Lot_size, no_Lot_own_begins⟩
  have R_i := run_Lot_init B FM_Lot_init D_whole D_run D_max D_few D_lform D_len
  have R_ln := run_Lot_len (P := l.prog) (w := w) (mg := mg) (base := base) B FM_Lot_len
  have R_eq := run_Lot_eq (P := l.prog) (w := w) (base := base) B FM_Lot_eq G_Lot la t_Lot x1
  have EQ : LotEq l.prog w K mg base O_Lot := ⟨m_Lot_eq, oe_Lot, R_eq, x2⟩
  have R_st := run_Lot_str (P := l.prog) (w := w) (mg := mg) (base := base) B FM_Lot_str
  have YS : LStr l.prog w K mg base O_Lot := ⟨m_Lot_str, x5, mi_Lot_str, R_st⟩
  have D_lotof := fn_lot_of (P := l.prog) (w := w) (base := base) F_lot_of G_Lot la mk_Lot R_i
  have D_times := fn_need_times F_need_times g_MOST_TIMES r_MOST_TIMES D_whole
  have R_mul := run_Lot_mulS B FM_Lot_mul D_times D_few D_lotof
  have LT : LOp l.prog w K mg base O_Lot "mul" 7 (spMulSm K O_Lot) := ⟨m_Lot_mul, bo_Lot_mul, bt_Lot_mul_int, R_mul⟩
  have D_wri := fn_written (P := l.prog) (w := w) (base := base) B F_written g_MOST_FIGURES r_MOST_FIGURES
  have D_nin := fn_number_in B F_number_in D_wri T_BadText
  have D_nw := fn_need_wordR B F_need_word T_BadText
  have D_rr := fn_read_runs B F_read_runs T_BadText D_nin D_nw g_MOST_RUNS r_MOST_RUNS
  have D_rl := fn_read_lot B F_read_lot T_BadText G_Lot la mk_Lot R_i D_nin D_nw D_rr g_MOST_PERIOD r_MOST_PERIOD
  have R_r := run_Lot_read FM_Lot_read argsP (fun _ _ _ _ _ _ us hl => match us, hl with | [_], _ => rfl) D_rl
  have R_rk := run_Lot_read FM_Lot_read (argsK 0 ["text"]) (fun _ _ _ _ _ _ us hl => match us, hl with | [_], _ => rfl) D_rl
  have TE : ErrR l.prog w K mg base C_2 D_0 := ⟨T_BadText, by assumption, x7, x8⟩
  have Z : RdL l.prog w K mg base O_Lot C_2 mq_Lot_read m_Lot_read (.type "type") := ⟨la, G_Lot, sta_Lot_read, R_r, R_rk⟩
  have L_pen := fn_law_pen (P := l.prog) (w := w) (base := base) B F_law_pen
  have L_draw := fn_law_draw (P := l.prog) (w := w) (base := base) B F_law_draw
  have L_pick := fn_law_pick B F_law_pick L_draw
  have L_least := fn_law_least (P := l.prog) (w := w) (base := base) B F_law_least
  have L_runs := fn_law_runs B F_law_runs L_draw L_pick
  have L_mem := fn_law_members (P := l.prog) (w := w) (base := base) B F_law_members
  have L_made := fn_law_made B F_law_made G_Lot la mk_Lot R_i
  have L_text := fn_law_text (P := l.prog) (w := w) (base := base) B F_law_text
  have L_num := fn_law_is_number (P := l.prog) (w := w) (base := base) B F_law_is_number
  have L_rw := fn_law_runs_wrong B F_law_runs_wrong L_num
  have L_wr := fn_law_wrong B F_law_wrong L_num L_rw
  have L_bent := fn_law_bent B F_law_bent L_draw L_pick
  have L_right := fn_law_right B C_law_right TB_law_right L_wr F_law_heard TE YS Z
  exact fn_entryC (fn_law B C_law TB_law L_pen L_draw L_runs L_made L_mem L_least L_text L_right L_bent L_pick F_law_heard TE YS Z EQ mk_Lot R_i t_Lot x6 LT x3 mi_Lot_len R_ln) hfa
theorem walk {l : PySem.W.OpenLaw} {q : Program} {loose : List Str} {XP : (Str → Option Value) → Heap → Prop} {YP : World → Heap → Prop} {d : DefRec} {K : Params → PySem.W.Frag} (hn : l.most = some 63) (hdf : d.params.defaults = [])
    (hY : ∀ (w : World) (h : Heap), YP w h → (K w.params).In h)
    (F : ∀ (w : World) (mg : Str → Option Value) (fa : Addr) (h : Heap), (K w.params).In h → h.Ns mainGlobals mg → mg d.name = some (.ref fa) → LawG q l.prog w (K w.params) 14 mg fa) : PySem.W.WalkO q loose XP YP l.row.toRowW d [] (fun f vs => PySem.call f vs) :=
  walkG (n := 63) hn (by decide) hdf ⟨rfl, by decide, by decide⟩ hY F
end T
open PySem PySem.W PyProof.Rows G in
set_option maxRecDepth 100000 in
set_option maxHeartbeats 0 in
theorem PySem.Challenge.cw_wheelreach_k14_texts_of_lots_holds : PySem.Challenge.rw_wheelreach_k14_texts_of_lots.Holds := by
  refine T.headT ?_
  k_fill
  refine T.walk (l := PySem.Challenge.rw_wheelreach_k14_texts_of_lots) rfl rfl (fun w h Y => by first | exact PySem.W.kIn_of Y | exact PySem.W.km_in_of Y) ?F
  case F =>
    intro w mg fa h KX G hmg
    refine' T.all_mk KX G hmg ?a0 ?l0 ?c0 ?k0 ?a1 ?l1 ?c1 ?k1 ?a2 ?l2 ?c2 ?k2 ?a3 ?l3 ?c3 ?k3 ?a4 ?l4 ?c4 ?k4 ?a5 ?l5 ?c5 ?k5 ?a6 ?l6 ?c6 ?k6 ?a7 ?l7 ?c7 ?k7 ?a8 ?l8 ?c8 ?k8 ?a9 ?l9 ?c9 ?k9 ?a10 ?l10 ?c10 ?k10 ?a11 ?l11 ?c11 ?k11 ?a12 ?l12 ?c12 ?k12 ?a13 ?l13 ?c13 ?k13 ?a14 ?l14 ?c14 ?k14 ?a15 ?l15 ?c15 ?k15 ?a16 ?l16 ?c16 ?k16 ?a17 ?l17 ?c17 ?k17 ?a18 ?l18 ?c18 ?k18 ?a19 ?l19 ?c19 ?k19 ?a20 ?l20 ?c20 ?k20 ?a21 ?l21 ?c21 ?k21 ?a22 ?l22 ?c22 ?k22 ?a23 ?l23 ?c23 ?k23 ?a24 ?l24 ?c24 ?k24 ?a25 ?l25 ?c25 ?k25 ?a26 ?l26 ?c26 ?k26 ?a27 ?l27 ?c27 ?k27 ?a28 ?l28 ?c28 ?k28 ?a29 ?l29 ?c29 ?k29 ?a30 ?l30 ?c30 ?k30 ?a31 ?l31 ?c31 ?k31 ?a32 ?l32 ?c32 ?k32 ?z0 ?z1 ?z2 ?z3 ?z4 ?z5 ?z6 ?z7 ?z8 ?z9 ?z10 ?z11 ?z12 ?z13 ?z14 ?z15 ?z16 ?z17 ?z18 ?z19 ?z20 ?z21 ?z22 ?z23 ?z24 ?z25 ?zs ?op ?g1 ?g2 ?g3 ?E_0 ?e0_0 ?E_1 ?e1_0 ?E_2 ?e2_0 ?e2_1 ?E_3 ?e3_0 ?E_4 ?e4_0 ?e4_1 ?d0 ?d1 ?oa_Lot ?ob_Lot ?oc_Lot ?od_Lot ?oe_Lot ?of_Lot ?og_Lot ?oh_Lot ?oi_Lot ?ma_Lot_init ?ml_Lot_init ?mc_Lot_init ?mk_Lot_init ?mi_Lot_init ?ma_Lot_read ?mb_Lot_read ?ml_Lot_read ?mc_Lot_read ?mk_Lot_read ?mi_Lot_read ?ma_Lot_len ?ml_Lot_len ?mc_Lot_len ?mk_Lot_len ?mi_Lot_len ?ma_Lot_eq ?ml_Lot_eq ?mc_Lot_eq ?mk_Lot_eq ?mi_Lot_eq ?ma_Lot_str ?ml_Lot_str ?mc_Lot_str ?mk_Lot_str ?mi_Lot_str ?ma_Lot_mul ?ml_Lot_mul ?mc_Lot_mul ?mk_Lot_mul ?mi_Lot_mul ?ka_Lot ?kb_Lot ?ta_Lot_read ?tb_Lot_read ?tc_Lot_read ?qa_Lot ?qb_Lot ?ua_Lot ?ub_Lot_mul ?uc_Lot_mul_int ?ud_Lot_mul_int ?ue_Lot_mul_int ?uf_Lot_int ?no_Lot_period ?no_Lot_runs ?no_Lot_size ?no_Lot_own_begins ?ga_MOST_RUNS ?r_MOST_RUNS ?ga_MOST_TIMES ?r_MOST_TIMES ?ga_MOST_FIGURES ?r_MOST_FIGURES ?ga_MOST_PERIOD ?r_MOST_PERIOD ?x1 ?x2 ?x3 ?x5 ?x6 ?x7 ?x8 ?mq0 ?mk0 ?mt0 ?mr0 ?ml0 ?mq1 ?mk1 ?mt1 ?mr1 ?ml1 ?mnd
    (case a0 => k_is)
    (case l0 => k_is)
    (case c0 => k_is)
    (case k0 => k_is)
    (case a1 => k_is)
    (case l1 => k_is)
    (case c1 => k_is)
    (case k1 => k_is)
    (case a2 => k_is)
    (case l2 => k_is)
    (case c2 => k_is)
    (case k2 => k_is)
    (case a3 => k_is)
    (case l3 => k_is)
    (case c3 => k_is)
    (case k3 => k_is)
    (case a4 => k_is)
    (case l4 => k_is)
    (case c4 => k_is)
    (case k4 => k_is)
    (case a5 => k_is)
    (case l5 => k_is)
    (case c5 => k_is)
    (case k5 => k_is)
    (case a6 => k_is)
    (case l6 => k_is)
    (case c6 => k_is)
    (case k6 => k_is)
    (case a7 => k_is)
    (case l7 => k_is)
    (case c7 => k_is)
    (case k7 => k_is)
    (case a8 => k_is)
    (case l8 => k_is)
    (case c8 => k_is)
    (case k8 => k_is)
    (case a9 => k_is)
    (case l9 => k_is)
    (case c9 => k_is)
    (case k9 => k_is)
    (case a10 => k_is)
    (case l10 => k_is)
    (case c10 => k_is)
    (case k10 => k_is)
    (case a11 => k_is)
    (case l11 => k_is)
    (case c11 => k_is)
    (case k11 => k_is)
    (case a12 => k_is)
    (case l12 => k_is)
    (case c12 => k_is)
    (case k12 => k_is)
    (case a13 => k_is)
    (case l13 => k_is)
    (case c13 => k_is)
    (case k13 => k_is)
    (case a14 => k_is)
    (case l14 => k_is)
    (case c14 => k_is)
    (case k14 => k_is)
    (case a15 => k_is)
    (case l15 => k_is)
    (case c15 => k_is)
    (case k15 => k_is)
    (case a16 => k_is)
    (case l16 => k_is)
    (case c16 => k_is)
    (case k16 => k_is)
    (case a17 => k_is)
    (case l17 => k_is)
    (case c17 => k_is)
    (case k17 => k_is)
    (case a18 => k_is)
    (case l18 => k_is)
    (case c18 => k_is)
    (case k18 => k_is)
    (case a19 => k_is)
    (case l19 => k_is)
    (case c19 => k_is)
    (case k19 => k_is)
    (case a20 => k_is)
    (case l20 => k_is)
    (case c20 => k_is)
    (case k20 => k_is)
    (case a21 => k_is)
    (case l21 => k_is)
    (case c21 => k_is)
    (case k21 => k_is)
    (case a22 => k_is)
    (case l22 => k_is)
    (case c22 => k_is)
    (case k22 => k_is)
    (case a23 => k_is)
    (case l23 => k_is)
    (case c23 => k_is)
    (case k23 => k_is)
    (case a24 => k_is)
    (case l24 => k_is)
    (case c24 => k_is)
    (case k24 => k_is)
    (case a25 => k_is)
    (case l25 => k_is)
    (case c25 => k_is)
    (case k25 => k_is)
    (case a26 => k_is)
    (case l26 => k_is)
    (case c26 => k_is)
    (case k26 => k_is)
    (case a27 => k_is)
    (case l27 => k_is)
    (case c27 => k_is)
    (case k27 => k_is)
    (case a28 => k_is)
    (case l28 => k_is)
    (case c28 => k_is)
    (case k28 => k_is)
    (case a29 => k_is)
    (case l29 => k_is)
    (case c29 => k_is)
    (case k29 => k_is)
    (case a30 => k_is)
    (case l30 => k_is)
    (case c30 => k_is)
    (case k30 => k_is)
    (case a31 => k_is)
    (case l31 => k_is)
    (case c31 => k_is)
    (case k31 => k_is)
    (case a32 => k_is)
    (case l32 => k_is)
    (case c32 => k_is)
    (case k32 => k_is)
    (case z0 => k_is)
    (case z1 => k_is)
    (case z2 => k_is)
    (case z3 => k_is)
    (case z4 => k_is)
    (case z5 => k_is)
    (case z6 => k_is)
    (case z7 => k_is)
    (case z8 => k_is)
    (case z9 => k_is)
    (case z10 => k_is)
    (case z11 => k_is)
    (case z12 => k_is)
    (case z13 => k_is)
    (case z14 => k_is)
    (case z15 => k_is)
    (case z16 => k_is)
    (case z17 => k_is)
    (case z18 => k_is)
    (case z19 => k_is)
    (case z20 => k_is)
    (case z21 => k_is)
    (case z22 => k_is)
    (case z23 => k_is)
    (case z24 => k_is)
    (case z25 => k_is)
    (case zs => k_is)
    (case op => k_is)
    (case g1 => k_is)
    (case g2 => k_is)
    (case g3 => rfl)
    (case E_0 => (refine' ErrFacts.mk ?y_a1 ?y_a2 ?y_a3 ?y_a4 ?y_a5 ?y_a6 ?y_a7 ?y_a8 ?y_a9 ?y_b1 ?y_b2 ?y_b3 ?y_b4 ?y_b5 ?y_b6 ?y_b7 ?y_b8 ?y_b9 ?y_c1 ?y_c2 ?y_c3 ?y_c4 ?y_c5 ?y_c6; (case y_a1 => k_is); (case y_a2 => k_is); (case y_a3 => rfl); (case y_a4 => k_is); (case y_a5 => k_is); (case y_a6 => k_is); (case y_a7 => k_is); (case y_a8 => k_is); (case y_a9 => k_is); (case y_b1 => first | kernel_rfl | rfl | decide +kernel); (case y_b2 => k_is); (case y_b3 => k_is); (case y_b4 => k_is); (case y_b5 => k_is); (case y_b6 => k_is); (case y_b7 => k_is); (case y_b8 => rfl); (case y_b9 => rfl); (case y_c1 => k_is); (case y_c2 => k_is); (case y_c3 => k_is); (case y_c4 => k_is); (case y_c5 => k_is); (case y_c6 => k_is)))
    (case e0_0 => k_is)
    (case E_1 => (refine' ErrFacts.mk ?y_a1 ?y_a2 ?y_a3 ?y_a4 ?y_a5 ?y_a6 ?y_a7 ?y_a8 ?y_a9 ?y_b1 ?y_b2 ?y_b3 ?y_b4 ?y_b5 ?y_b6 ?y_b7 ?y_b8 ?y_b9 ?y_c1 ?y_c2 ?y_c3 ?y_c4 ?y_c5 ?y_c6; (case y_a1 => k_is); (case y_a2 => k_is); (case y_a3 => rfl); (case y_a4 => k_is); (case y_a5 => k_is); (case y_a6 => k_is); (case y_a7 => k_is); (case y_a8 => k_is); (case y_a9 => k_is); (case y_b1 => first | kernel_rfl | rfl | decide +kernel); (case y_b2 => k_is); (case y_b3 => k_is); (case y_b4 => k_is); (case y_b5 => k_is); (case y_b6 => k_is); (case y_b7 => k_is); (case y_b8 => rfl); (case y_b9 => rfl); (case y_c1 => k_is); (case y_c2 => k_is); (case y_c3 => k_is); (case y_c4 => k_is); (case y_c5 => k_is); (case y_c6 => k_is)))
    (case e1_0 => k_is)
    (case E_2 => (refine' ErrFacts.mk ?y_a1 ?y_a2 ?y_a3 ?y_a4 ?y_a5 ?y_a6 ?y_a7 ?y_a8 ?y_a9 ?y_b1 ?y_b2 ?y_b3 ?y_b4 ?y_b5 ?y_b6 ?y_b7 ?y_b8 ?y_b9 ?y_c1 ?y_c2 ?y_c3 ?y_c4 ?y_c5 ?y_c6; (case y_a1 => k_is); (case y_a2 => k_is); (case y_a3 => rfl); (case y_a4 => k_is); (case y_a5 => k_is); (case y_a6 => k_is); (case y_a7 => k_is); (case y_a8 => k_is); (case y_a9 => k_is); (case y_b1 => first | kernel_rfl | rfl | decide +kernel); (case y_b2 => k_is); (case y_b3 => k_is); (case y_b4 => k_is); (case y_b5 => k_is); (case y_b6 => k_is); (case y_b7 => k_is); (case y_b8 => rfl); (case y_b9 => rfl); (case y_c1 => k_is); (case y_c2 => k_is); (case y_c3 => k_is); (case y_c4 => k_is); (case y_c5 => k_is); (case y_c6 => k_is)))
    (case e2_0 => k_is)
    (case e2_1 => k_is)
    (case E_3 => (refine' ErrFacts.mk ?y_a1 ?y_a2 ?y_a3 ?y_a4 ?y_a5 ?y_a6 ?y_a7 ?y_a8 ?y_a9 ?y_b1 ?y_b2 ?y_b3 ?y_b4 ?y_b5 ?y_b6 ?y_b7 ?y_b8 ?y_b9 ?y_c1 ?y_c2 ?y_c3 ?y_c4 ?y_c5 ?y_c6; (case y_a1 => k_is); (case y_a2 => k_is); (case y_a3 => rfl); (case y_a4 => k_is); (case y_a5 => k_is); (case y_a6 => k_is); (case y_a7 => k_is); (case y_a8 => k_is); (case y_a9 => k_is); (case y_b1 => first | kernel_rfl | rfl | decide +kernel); (case y_b2 => k_is); (case y_b3 => k_is); (case y_b4 => k_is); (case y_b5 => k_is); (case y_b6 => k_is); (case y_b7 => k_is); (case y_b8 => rfl); (case y_b9 => rfl); (case y_c1 => k_is); (case y_c2 => k_is); (case y_c3 => k_is); (case y_c4 => k_is); (case y_c5 => k_is); (case y_c6 => k_is)))
    (case e3_0 => k_is)
    (case E_4 => (refine' ErrFacts.mk ?y_a1 ?y_a2 ?y_a3 ?y_a4 ?y_a5 ?y_a6 ?y_a7 ?y_a8 ?y_a9 ?y_b1 ?y_b2 ?y_b3 ?y_b4 ?y_b5 ?y_b6 ?y_b7 ?y_b8 ?y_b9 ?y_c1 ?y_c2 ?y_c3 ?y_c4 ?y_c5 ?y_c6; (case y_a1 => k_is); (case y_a2 => k_is); (case y_a3 => rfl); (case y_a4 => k_is); (case y_a5 => k_is); (case y_a6 => k_is); (case y_a7 => k_is); (case y_a8 => k_is); (case y_a9 => k_is); (case y_b1 => first | kernel_rfl | rfl | decide +kernel); (case y_b2 => k_is); (case y_b3 => k_is); (case y_b4 => k_is); (case y_b5 => k_is); (case y_b6 => k_is); (case y_b7 => k_is); (case y_b8 => rfl); (case y_b9 => rfl); (case y_c1 => k_is); (case y_c2 => k_is); (case y_c3 => k_is); (case y_c4 => k_is); (case y_c5 => k_is); (case y_c6 => k_is)))
    (case e4_0 => k_is)
    (case e4_1 => k_is)
    (case d0 => k_is)
    (case d1 => k_is)
    (case oa_Lot => k_is)
    (case ob_Lot => k_is)
    (case oc_Lot => k_is)
    (case od_Lot => k_is)
    (case oe_Lot => k_is)
    (case of_Lot => k_is)
    (case og_Lot => k_is)
    (case oh_Lot => k_is)
    (case oi_Lot => k_is)
    (case ma_Lot_init => k_is)
    (case ml_Lot_init => k_is)
    (case mc_Lot_init => k_is)
    (case mk_Lot_init => k_is)
    (case mi_Lot_init => k_is)
    (case ma_Lot_read => k_is)
    (case mb_Lot_read => k_is)
    (case ml_Lot_read => k_is)
    (case mc_Lot_read => k_is)
    (case mk_Lot_read => k_is)
    (case mi_Lot_read => k_is)
    (case ma_Lot_len => k_is)
    (case ml_Lot_len => k_is)
    (case mc_Lot_len => k_is)
    (case mk_Lot_len => k_is)
    (case mi_Lot_len => k_is)
    (case ma_Lot_eq => k_is)
    (case ml_Lot_eq => k_is)
    (case mc_Lot_eq => k_is)
    (case mk_Lot_eq => k_is)
    (case mi_Lot_eq => k_is)
    (case ma_Lot_str => k_is)
    (case ml_Lot_str => k_is)
    (case mc_Lot_str => k_is)
    (case mk_Lot_str => k_is)
    (case mi_Lot_str => k_is)
    (case ma_Lot_mul => k_is)
    (case ml_Lot_mul => k_is)
    (case mc_Lot_mul => k_is)
    (case mk_Lot_mul => k_is)
    (case mi_Lot_mul => k_is)
    (case ka_Lot => k_is)
    (case kb_Lot => k_is)
    (case ta_Lot_read => first | k_is | kernel_rfl | rfl | decide +kernel)
    (case tb_Lot_read => first | k_is | kernel_rfl | rfl | decide +kernel)
    (case tc_Lot_read => first | kernel_rfl | rfl | k_is)
    (case qa_Lot => k_is)
    (case qb_Lot => k_is)
    (case ua_Lot => first | k_is | kernel_rfl | rfl | decide +kernel)
    (case ub_Lot_mul => k_is)
    (case uc_Lot_mul_int => k_is)
    (case ud_Lot_mul_int => k_is)
    (case ue_Lot_mul_int => k_is)
    (case uf_Lot_int => first | k_is | kernel_rfl | rfl | decide +kernel)
    (case no_Lot_period => k_is)
    (case no_Lot_runs => k_is)
    (case no_Lot_size => k_is)
    (case no_Lot_own_begins => k_is)
    (case ga_MOST_RUNS => k_is)
    (case r_MOST_RUNS => first | exact rfl | exact ⟨_, rfl⟩)
    (case ga_MOST_TIMES => k_is)
    (case r_MOST_TIMES => first | exact rfl | exact ⟨_, rfl⟩)
    (case ga_MOST_FIGURES => k_is)
    (case r_MOST_FIGURES => first | exact rfl | exact ⟨_, rfl⟩)
    (case ga_MOST_PERIOD => k_is)
    (case r_MOST_PERIOD => first | exact rfl | exact ⟨_, rfl⟩)
    (case x1 => first | kts_exm | kit_is | k_is | decide +kernel)
    (case x2 => first | kts_exm | kit_is | k_is | decide +kernel)
    (case x3 => first | kts_exm | kit_is | k_is | decide +kernel)
    (case x5 => first | kts_exm | kit_is | k_is | decide +kernel)
    (case x6 => first | kts_exm | kit_is | k_is | decide +kernel)
    (case x7 => first | kts_exm | kit_is | k_is | decide +kernel)
    (case x8 => first | kts_exm | kit_is | k_is | decide +kernel)
    (case mq0 => rfl)
    (case mk0 => k_is)
    (case mt0 => rfl)
    (case mr0 => first | rfl | decide +kernel)
    (case ml0 => first | k_is | kernel_rfl | rfl)
    (case mq1 => rfl)
    (case mk1 => k_is)
    (case mt1 => rfl)
    (case mr1 => first | rfl | decide +kernel)
    (case ml1 => first | k_is | kernel_rfl | rfl)
    (case mnd => decide +kernel)
