import PyProof.Rows.All
import Wide.All
import OpenK.AllK
import Wide.FinOn
import HandS.ForMost
import HandS.ForExc
import HandS.Wide
import HandS.Star
import HandS.IsInst
import HandS.Style
import HandS.Flow
import HandS.Lambda
import HandS.EndTab
import HandS.Nested
import HandS.Comp
import HandS.ExcInit
import HandS.ExcField
import HandS.ExcOwn
import HandS.ExcIs
import KE.KExcSuper
import HandS.Walk
import HandS.Zip
import HandS.Rev
import HandS.Iter
import HandS.RaiseMore
import PyProof.Rows.NestShow
import HandS.CallLocal
import PyProof.ReprLen
import PyProof.Rows.ReprItems
import PyProof.Rows.RegStrFacts
import HandS.MakeKw
import HandS.MakeKwOnly
import HandS.Property
import KE.KSuper
import PyProof.InstEq
import HandS.SortInts
import KE.GoesMore
import KE.DataMinMax
import HandS.SlotsOwn
import HandS.ClsMeth
import HandS.FStr
import HandS.SetFor
import KE.KCallOwn
import HandS.ExcValue
import HandS.SortRule
import HandS.New0
import HandS.IterVal
import OpenK.KMeth
import KE.KOwnIter
import HandS.DictSub
import KE.KOpsOwn
import KE.KStar
import KE.GoesZip
import KE.GoesEnum
import PyProof.LongRange
import PyProof.NoPylong
import HandS.OwnEq
import KE.OsRunLaw
import OpenK.KOps
import HandS.ListEq
import HandS.Conv
import HandS.TupAny
import HandS.TryOnly
import HandS.Text
import HandS.Steps
import HandS.Dict
import KE.KDictWalk
import HandS.OwnIter
import HandS.ListItems
import HandS.Defaults
import PySem.Challenge.RW_wheelreach_k74_trains_made_and_read
set_option Elab.async false
set_option linter.all false
set_option maxRecDepth 100000
set_option maxHeartbeats 4000000
namespace T
set_option maxHeartbeats 0
section
open PySem PySem.W PySem.Calls PyProof.Rows HeadRun
theorem splitRun {α β γ : Type} {o : Option α} {f : α → β} {g : α → γ} {a : β} {b : γ} (h1 : o.map f = some a) (h2 : o.map g = some b) : o.map (fun s => (f s, g s)) = some (a, b) := by
  cases o with
  | none => cases h1
  | some s =>
    have e1 : f s = a := Option.some.inj h1
    have e2 : g s = b := Option.some.inj h2
    rw [← e1, ← e2]
    rfl
theorem joinRun {α β γ : Type} {o : Option α} {f : α → β × γ} {a : β} {b : γ} (h1 : o.map (fun s => (f s).1) = some a) (h2 : o.map (fun s => (f s).2) = some b) : o.map f = some (a, b) := by
  cases o with
  | none => cases h1
  | some s =>
    have e1 : (f s).1 = a := Option.some.inj h1
    have e2 : (f s).2 = b := Option.some.inj h2
    rw [← e1, ← e2]
    rfl
theorem viaRun {α β : Type} {o : Option α} {f g : α → β} {a c : β} (h : o.map f = some a) (e1 : f = g) (e2 : a = c) : o.map g = some c := e1 ▸ e2 ▸ h
def keepAt : List Nat → List Stmt → List Stmt
  | [], _ => []
  | i :: is, l => match l.drop i with | s :: _ => s :: keepAt is l | [] => []
def qv : Program := { (PySem.Challenge.rw_wheelreach_k74_trains_made_and_read).row.prog with main := { (Program.main (PySem.Challenge.rw_wheelreach_k74_trains_made_and_read).row.prog) with body := keepAt [1, 2, 3, 4, 5, 6, 7, 9, 10, 11, 12, 13, 14, 16, 17, 18, 19, 20, 21, 22, 24, 25, 26, 27, 28, 29, 30, 31, 32, 33, 35, 36, 37, 38, 39, 40, 41, 42, 43, 44, 45, 46, 47, 48, 49, 50] (Module.body (Program.main (PySem.Challenge.rw_wheelreach_k74_trains_made_and_read).row.prog)) } }
theorem fstRun {α β γ : Type} {o : Option α} {f : α → β} {g : α → γ} {a : β} {b : γ} (h : o.map (fun s => (f s, g s)) = some (a, b)) : o.map f = some a := by
  cases o with
  | none => cases h
  | some s => exact congrArg some (Prod.mk.inj (Option.some.inj h)).1
theorem sndRun {α β γ : Type} {o : Option α} {f : α → β} {g : α → γ} {a : β} {b : γ} (h : o.map (fun s => (f s, g s)) = some (a, b)) : o.map g = some b := by
  cases o with
  | none => cases h
  | some s => exact congrArg some (Prod.mk.inj (Option.some.inj h)).2
theorem runG0 (w : World) (os : OsState) : (endF (stepQ (denQ tabQ) (PySem.Challenge.rw_wheelreach_k74_trains_made_and_read).row.prog w) 7278 (PySem.Challenge.rw_wheelreach_k74_trains_made_and_read).row.prog w os).map (fun s => (looksF (PySem.Challenge.rw_wheelreach_k74_trains_made_and_read).row.prog (boot_heap w.params) s.abs, ((seenQ qv [Str.ofString "MOST_UNITS", Str.ofString "Train"] (importedModules (Module.body (Program.main (PySem.Challenge.rw_wheelreach_k74_trains_made_and_read).row.prog))) (fun s => xlAt qv [(Str.ofString "MOST_UNITS", WData.int 1000000)] s && recOk [] s) s.abs).2.1), ((seenQ qv [Str.ofString "MOST_UNITS", Str.ofString "Train"] (importedModules (Module.body (Program.main (PySem.Challenge.rw_wheelreach_k74_trains_made_and_read).row.prog))) (fun s => xlAt qv [(Str.ofString "MOST_UNITS", WData.int 1000000)] s && recOk [] s) s.abs).2.2.2.2.1))) = some (true, bltViewBooted, (pinGoodD (drecsOf qv))) := by kernel_rfl
theorem runA (w : World) (os : OsState) : (endF (stepQ (denQ tabQ) (PySem.Challenge.rw_wheelreach_k74_trains_made_and_read).row.prog w) 7278 (PySem.Challenge.rw_wheelreach_k74_trains_made_and_read).row.prog w os).map (fun s => looksF (PySem.Challenge.rw_wheelreach_k74_trains_made_and_read).row.prog (boot_heap w.params) s.abs) = some true := (fstRun (runG0 w os))
theorem runP1 (w : World) (os : OsState) : (endF (stepQ (denQ tabQ) (PySem.Challenge.rw_wheelreach_k74_trains_made_and_read).row.prog w) 7278 (PySem.Challenge.rw_wheelreach_k74_trains_made_and_read).row.prog w os).map (fun s => ((seenQ qv [Str.ofString "MOST_UNITS", Str.ofString "Train"] (importedModules (Module.body (Program.main (PySem.Challenge.rw_wheelreach_k74_trains_made_and_read).row.prog))) (fun s => xlAt qv [(Str.ofString "MOST_UNITS", WData.int 1000000)] s && recOk [] s) s.abs).2.1)) = some bltViewBooted := (fstRun (sndRun (runG0 w os)))
theorem runP4 (w : World) (os : OsState) : (endF (stepQ (denQ tabQ) (PySem.Challenge.rw_wheelreach_k74_trains_made_and_read).row.prog w) 7278 (PySem.Challenge.rw_wheelreach_k74_trains_made_and_read).row.prog w os).map (fun s => ((seenQ qv [Str.ofString "MOST_UNITS", Str.ofString "Train"] (importedModules (Module.body (Program.main (PySem.Challenge.rw_wheelreach_k74_trains_made_and_read).row.prog))) (fun s => xlAt qv [(Str.ofString "MOST_UNITS", WData.int 1000000)] s && recOk [] s) s.abs).2.2.2.2.1)) = some (pinGoodD (drecsOf qv)) := (sndRun (sndRun (runG0 w os)))
theorem runG1 (w : World) (os : OsState) : (endF (stepQ (denQ tabQ) (PySem.Challenge.rw_wheelreach_k74_trains_made_and_read).row.prog w) 7278 (PySem.Challenge.rw_wheelreach_k74_trains_made_and_read).row.prog w os).map (fun s => (((seenQ qv [Str.ofString "MOST_UNITS", Str.ofString "Train"] (importedModules (Module.body (Program.main (PySem.Challenge.rw_wheelreach_k74_trains_made_and_read).row.prog))) (fun s => xlAt qv [(Str.ofString "MOST_UNITS", WData.int 1000000)] s && recOk [] s) s.abs).1), ((seenQ qv [Str.ofString "MOST_UNITS", Str.ofString "Train"] (importedModules (Module.body (Program.main (PySem.Challenge.rw_wheelreach_k74_trains_made_and_read).row.prog))) (fun s => xlAt qv [(Str.ofString "MOST_UNITS", WData.int 1000000)] s && recOk [] s) s.abs).2.2.2.2.2.2.1))) = some ((expectedOf qv), (plainGoodD qv [Str.ofString "MOST_UNITS", Str.ofString "Train"])) := by kernel_rfl
theorem runP0 (w : World) (os : OsState) : (endF (stepQ (denQ tabQ) (PySem.Challenge.rw_wheelreach_k74_trains_made_and_read).row.prog w) 7278 (PySem.Challenge.rw_wheelreach_k74_trains_made_and_read).row.prog w os).map (fun s => ((seenQ qv [Str.ofString "MOST_UNITS", Str.ofString "Train"] (importedModules (Module.body (Program.main (PySem.Challenge.rw_wheelreach_k74_trains_made_and_read).row.prog))) (fun s => xlAt qv [(Str.ofString "MOST_UNITS", WData.int 1000000)] s && recOk [] s) s.abs).1)) = some (expectedOf qv) := (fstRun (runG1 w os))
theorem runP6 (w : World) (os : OsState) : (endF (stepQ (denQ tabQ) (PySem.Challenge.rw_wheelreach_k74_trains_made_and_read).row.prog w) 7278 (PySem.Challenge.rw_wheelreach_k74_trains_made_and_read).row.prog w os).map (fun s => ((seenQ qv [Str.ofString "MOST_UNITS", Str.ofString "Train"] (importedModules (Module.body (Program.main (PySem.Challenge.rw_wheelreach_k74_trains_made_and_read).row.prog))) (fun s => xlAt qv [(Str.ofString "MOST_UNITS", WData.int 1000000)] s && recOk [] s) s.abs).2.2.2.2.2.2.1)) = some (plainGoodD qv [Str.ofString "MOST_UNITS", Str.ofString "Train"]) := (sndRun (runG1 w os))
theorem runG2 (w : World) (os : OsState) : (endF (stepQ (denQ tabQ) (PySem.Challenge.rw_wheelreach_k74_trains_made_and_read).row.prog w) 7278 (PySem.Challenge.rw_wheelreach_k74_trains_made_and_read).row.prog w os).map (fun s => (((seenQ qv [Str.ofString "MOST_UNITS", Str.ofString "Train"] (importedModules (Module.body (Program.main (PySem.Challenge.rw_wheelreach_k74_trains_made_and_read).row.prog))) (fun s => xlAt qv [(Str.ofString "MOST_UNITS", WData.int 1000000)] s && recOk [] s) s.abs).2.2.1), ((seenQ qv [Str.ofString "MOST_UNITS", Str.ofString "Train"] (importedModules (Module.body (Program.main (PySem.Challenge.rw_wheelreach_k74_trains_made_and_read).row.prog))) (fun s => xlAt qv [(Str.ofString "MOST_UNITS", WData.int 1000000)] s && recOk [] s) s.abs).2.2.2.1))) = some (true, true) := by kernel_rfl
theorem runP2 (w : World) (os : OsState) : (endF (stepQ (denQ tabQ) (PySem.Challenge.rw_wheelreach_k74_trains_made_and_read).row.prog w) 7278 (PySem.Challenge.rw_wheelreach_k74_trains_made_and_read).row.prog w os).map (fun s => ((seenQ qv [Str.ofString "MOST_UNITS", Str.ofString "Train"] (importedModules (Module.body (Program.main (PySem.Challenge.rw_wheelreach_k74_trains_made_and_read).row.prog))) (fun s => xlAt qv [(Str.ofString "MOST_UNITS", WData.int 1000000)] s && recOk [] s) s.abs).2.2.1)) = some true := (fstRun (runG2 w os))
theorem runP3 (w : World) (os : OsState) : (endF (stepQ (denQ tabQ) (PySem.Challenge.rw_wheelreach_k74_trains_made_and_read).row.prog w) 7278 (PySem.Challenge.rw_wheelreach_k74_trains_made_and_read).row.prog w os).map (fun s => ((seenQ qv [Str.ofString "MOST_UNITS", Str.ofString "Train"] (importedModules (Module.body (Program.main (PySem.Challenge.rw_wheelreach_k74_trains_made_and_read).row.prog))) (fun s => xlAt qv [(Str.ofString "MOST_UNITS", WData.int 1000000)] s && recOk [] s) s.abs).2.2.2.1)) = some true := (sndRun (runG2 w os))
theorem runG3 (w : World) (os : OsState) : (endF (stepQ (denQ tabQ) (PySem.Challenge.rw_wheelreach_k74_trains_made_and_read).row.prog w) 7278 (PySem.Challenge.rw_wheelreach_k74_trains_made_and_read).row.prog w os).map (fun s => (((seenQ qv [Str.ofString "MOST_UNITS", Str.ofString "Train"] (importedModules (Module.body (Program.main (PySem.Challenge.rw_wheelreach_k74_trains_made_and_read).row.prog))) (fun s => xlAt qv [(Str.ofString "MOST_UNITS", WData.int 1000000)] s && recOk [] s) s.abs).2.2.2.2.2.1), ((seenQ qv [Str.ofString "MOST_UNITS", Str.ofString "Train"] (importedModules (Module.body (Program.main (PySem.Challenge.rw_wheelreach_k74_trains_made_and_read).row.prog))) (fun s => xlAt qv [(Str.ofString "MOST_UNITS", WData.int 1000000)] s && recOk [] s) s.abs).2.2.2.2.2.2.2.2))) = some ((plainGoodE qv (looseW qv [Str.ofString "MOST_UNITS", Str.ofString "Train"])), (clsGoodW qv [Str.ofString "MOST_UNITS", Str.ofString "Train"])) := by kernel_rfl
theorem runP5 (w : World) (os : OsState) : (endF (stepQ (denQ tabQ) (PySem.Challenge.rw_wheelreach_k74_trains_made_and_read).row.prog w) 7278 (PySem.Challenge.rw_wheelreach_k74_trains_made_and_read).row.prog w os).map (fun s => ((seenQ qv [Str.ofString "MOST_UNITS", Str.ofString "Train"] (importedModules (Module.body (Program.main (PySem.Challenge.rw_wheelreach_k74_trains_made_and_read).row.prog))) (fun s => xlAt qv [(Str.ofString "MOST_UNITS", WData.int 1000000)] s && recOk [] s) s.abs).2.2.2.2.2.1)) = some (plainGoodE qv (looseW qv [Str.ofString "MOST_UNITS", Str.ofString "Train"])) := (fstRun (runG3 w os))
theorem runP8 (w : World) (os : OsState) : (endF (stepQ (denQ tabQ) (PySem.Challenge.rw_wheelreach_k74_trains_made_and_read).row.prog w) 7278 (PySem.Challenge.rw_wheelreach_k74_trains_made_and_read).row.prog w os).map (fun s => ((seenQ qv [Str.ofString "MOST_UNITS", Str.ofString "Train"] (importedModules (Module.body (Program.main (PySem.Challenge.rw_wheelreach_k74_trains_made_and_read).row.prog))) (fun s => xlAt qv [(Str.ofString "MOST_UNITS", WData.int 1000000)] s && recOk [] s) s.abs).2.2.2.2.2.2.2.2)) = some (clsGoodW qv [Str.ofString "MOST_UNITS", Str.ofString "Train"]) := (sndRun (runG3 w os))
theorem runP7 (w : World) (os : OsState) : (endF (stepQ (denQ tabQ) (PySem.Challenge.rw_wheelreach_k74_trains_made_and_read).row.prog w) 7278 (PySem.Challenge.rw_wheelreach_k74_trains_made_and_read).row.prog w os).map (fun s => ((seenQ qv [Str.ofString "MOST_UNITS", Str.ofString "Train"] (importedModules (Module.body (Program.main (PySem.Challenge.rw_wheelreach_k74_trains_made_and_read).row.prog))) (fun s => xlAt qv [(Str.ofString "MOST_UNITS", WData.int 1000000)] s && recOk [] s) s.abs).2.2.2.2.2.2.2.1)) = some (wideGood qv) := by kernel_rfl
theorem runS (w : World) (os : OsState) : (endF (stepQ (denQ tabQ) (PySem.Challenge.rw_wheelreach_k74_trains_made_and_read).row.prog w) 7278 (PySem.Challenge.rw_wheelreach_k74_trains_made_and_read).row.prog w os).map (fun s => (seenQ qv [Str.ofString "MOST_UNITS", Str.ofString "Train"] (importedModules (Module.body (Program.main (PySem.Challenge.rw_wheelreach_k74_trains_made_and_read).row.prog))) (fun s => xlAt qv [(Str.ofString "MOST_UNITS", WData.int 1000000)] s && recOk [] s) s.abs)) = some ((expectedOf qv), bltViewBooted, true, true, (pinGoodD (drecsOf qv)), (plainGoodE qv (looseW qv [Str.ofString "MOST_UNITS", Str.ofString "Train"])), (plainGoodD qv [Str.ofString "MOST_UNITS", Str.ofString "Train"]), (wideGood qv), (clsGoodW qv [Str.ofString "MOST_UNITS", Str.ofString "Train"])) := (joinRun (runP0 w os) (joinRun (runP1 w os) (joinRun (runP2 w os) (joinRun (runP3 w os) (joinRun (runP4 w os) (joinRun (runP5 w os) (joinRun (runP6 w os) (joinRun (runP7 w os) (runP8 w os)))))))))
end
section
local macro_rules | `(tactic| k_head) => `(tactic| k_headL)
local macro_rules | `(tactic| kernel_rfl) => `(tactic| ((with_reducible refine T.splitRun (T.runA _ _) ?_); (with_reducible refine T.splitRun ?_ ?_); (with_reducible refine T.viaRun (T.runS _ _) ?_ ?_); kernel_rfl; kernel_rfl; kernel_rfl))
open PySem PySem.W PyProof.Rows
open_top headT for PySem.Challenge.rw_wheelreach_k74_trains_made_and_read
end
end T
set_option Elab.async false
set_option linter.all false
set_option maxRecDepth 100000
set_option maxHeartbeats 4000000
namespace G
open PySem PySem.Spec PyProof.Rows L2
abbrev En := List (Str × Option V)
abbrev Lg := List (Addr × HO)
def names (η : En) : List Str := η.map (·.1)
def vals (η : En) : L2.St := η.map (·.2)
/-- the mark of a code object's table in a ledger: what stands in it are code objects named q -/
def tabM (q : Str) : HO := .tbl #[.str q 0]
/-- what an entry says -/
def holds (H : Hp) (a : Addr) : HO → Prop
  | .tbl m => ∃ q, HO.tbl m = tabM q ∧ LamX.TabS H a q
  | o => H a = some o
/-- neither a table nor a thing told by a predicate -/
def plain : HO → Bool
  | .tbl _ => false
  | .ext _ => false
  | _ => true
def notab : HO → Bool
  | .tbl _ => false
  | _ => true
theorem holds_of {H : Hp} {a : Addr} {o : HO} (n : notab o = true) (h : H a = some o) : holds H a o := by
  cases o <;> first | exact h | cases n
theorem holds_get {H : Hp} {a : Addr} {o : HO} (n : notab o = true) (h : holds H a o) : H a = some o := by
  cases o <;> first | exact h | cases n
theorem holds_tab' {H : Hp} {a : Addr} {q : Str} (h : LamX.TabS H a q) : holds H a (tabM q) := ⟨q, rfl, h⟩
theorem plain_notab {o : HO} (h : plain o = true) : notab o = true := by
  cases o <;> first | rfl | cases h
theorem holds_some {H : Hp} {a : Addr} {o : HO} (h : holds H a o) : ∃ u, H a = some u := by
  cases o with
  | tbl m =>
    obtain ⟨q, _, ps, e, _⟩ := h
    exact ⟨_, e⟩
  | _ => exact ⟨_, h⟩
theorem holds_grow {H H' : Hp} {a : Addr} {o : HO} (g : ∀ b u, H b = some u → H' b = some u) (h : holds H a o) : holds H' a o := by
  cases o with
  | tbl m =>
    obtain ⟨q, e, t⟩ := h
    exact ⟨q, e, t.ext g⟩
  | _ => exact g _ _ h
theorem holds_upd {H : Hp} {a p : Addr} {o u v : HO} (e : H p = some u) (n : plain u = true) (ne : a ≠ p) (h : holds H a o) : holds (upd H p v) a o := by
  cases o with
  | tbl m =>
    obtain ⟨q, em, ps, e1, t2, t3⟩ := h
    refine ⟨q, em, ps, by rw [upd_ne ne]; exact e1, t2, fun pos cv hc => ?_⟩
    obtain ⟨c, e2, e3⟩ := t3 pos cv hc
    refine ⟨c, e2, ?_⟩
    rw [upd_ne fun z => ?_]
    · exact e3
    · rw [z, e] at e3
      rw [Option.some.inj e3] at n
      cases n
  | _ => exact (upd_ne ne).trans h
def Has (H : Hp) (L : Lg) : Prop := (L.map (·.1)).Nodup ∧ ∀ e ∈ L, holds H e.1 e.2
inductive At (x : Str) (v : V) : En → Prop
  | here {η : En} : At x v ((x, some v) :: η)
  | there {e : Str × Option V} {η : En} : At x v η → At x v (e :: η)
inductive Put (x : Str) (v : V) : En → En → Prop
  | here {o : Option V} {η : En} : Put x v ((x, o) :: η) ((x, some v) :: η)
  | there {e : Str × Option V} {η θ : En} : Put x v η θ → Put x v (e :: η) (e :: θ)
theorem At.idx {x : Str} {v : V} {η : En} (h : At x v η) : ∃ i : Nat, (names η)[i]? = some x ∧ (vals η)[i]? = some (some v) := by
  induction h with
  | here => exact ⟨0, rfl, rfl⟩
  | there _ ih =>
    obtain ⟨i, a, b⟩ := ih
    exact ⟨i + 1, a, b⟩
theorem Put.idx {x : Str} {v : V} {η θ : En} (h : Put x v η θ) : ∃ i : Nat, (names η)[i]? = some x ∧ vals θ = (vals η).set i (some v) ∧ names θ = names η := by
  induction h with
  | here => exact ⟨0, rfl, rfl, rfl⟩
  | there _ ih =>
    obtain ⟨i, a, b, c⟩ := ih
    refine ⟨i + 1, a, ?_, ?_⟩
    · show _ :: vals _ = _ :: (vals _).set i (some v)
      rw [b] <;> rfl
    · show _ :: names _ = _ :: names _
      rw [c] <;> rfl
/-- the environment with x set, as a function of what is put -/
inductive PutF (x : Str) : En → (V → En) → Prop
  | here {o : Option V} {η : En} : PutF x ((x, o) :: η) (fun v => (x, some v) :: η)
  | there {e : Str × Option V} {η : En} {f : V → En} : PutF x η f → PutF x (e :: η) (fun v => e :: f v)
theorem PutF.idx {x : Str} {η : En} {f : V → En} (h : PutF x η f) : ∃ i : Nat, (names η)[i]? = some x ∧ ∀ v, vals (f v) = (vals η).set i (some v) ∧ names (f v) = names η := by
  induction h with
  | here => exact ⟨0, rfl, fun _ => ⟨rfl, rfl⟩⟩
  | there _ ih =>
    obtain ⟨i, a, b⟩ := ih
    refine ⟨i + 1, a, fun v => ⟨?_, ?_⟩⟩
    · show _ :: vals _ = _ :: (vals _).set i (some v)
      rw [(b v).1] <;> rfl
    · show _ :: names _ = _ :: names _
      rw [(b v).2] <;> rfl
theorem Has.nil {H : Hp} : Has H [] := ⟨List.nodup_nil, fun _ h => absurd h (by simp)⟩
theorem Has.get {H : Hp} {L : Lg} {a : Addr} {o : HO} (h : Has H L) (m : (a, o) ∈ L) (n : notab o = true := by rfl) : H a = some o := holds_get n (h.2 (a, o) m)
theorem Has.out {H : Hp} {L : Lg} {p : Addr} (h : Has H L) (n : H p = none) : p ∉ L.map (·.1) := fun m => by
  obtain ⟨e, he, rfl⟩ := List.mem_map.mp m
  obtain ⟨u, z⟩ := holds_some (h.2 e he)
  rw [z] at n
  cases n
theorem Has.newB {H H' : Hp} {L : Lg} {p : Addr} {o : HO} (h : Has H L) (n : H p = none) (g : ∀ b u, H b = some u → H' b = some u) (x : holds H' p o) : Has H' ((p, o) :: L) := by
  refine ⟨List.nodup_cons.mpr ⟨h.out n, h.1⟩, fun e m => ?_⟩
  rcases List.mem_cons.mp m with rfl | m
  · exact x
  · exact holds_grow g (h.2 e m)
theorem updGrow {H : Hp} {p : Addr} {o : HO} (n : H p = none) : ∀ b u, H b = some u → upd H p o b = some u := fun b u e => (upd_ne (ne_of_none e n)).trans e
theorem Has.new {H : Hp} {L : Lg} {p : Addr} {o : HO} (h : Has H L) (n : H p = none) (t : notab o = true := by rfl) : Has (upd H p o) ((p, o) :: L) := h.newB n (updGrow n) (holds_of t upd_same)
/-- one entry replaced by another of its address -/
inductive Swap (p : Addr) (o : HO) : Lg → Lg → Prop
  | here {u : HO} {L : Lg} (pl : plain u = true := by rfl) : Swap p o ((p, u) :: L) ((p, o) :: L)
  | there {e : Addr × HO} {L M : Lg} : Swap p o L M → Swap p o (e :: L) (e :: M)
theorem Swap.was {p : Addr} {o : HO} {L M : Lg} (s : Swap p o L M) : ∃ u, plain u = true ∧ (p, u) ∈ L := by
  induction s with
  | here pl => exact ⟨_, pl, List.mem_cons_self⟩
  | there _ ih =>
    obtain ⟨u, a, b⟩ := ih
    exact ⟨u, a, List.mem_cons_of_mem _ b⟩
theorem Swap.fst {p : Addr} {o : HO} {L M : Lg} (s : Swap p o L M) : M.map (·.1) = L.map (·.1) ∧ p ∈ L.map (·.1) := by
  induction s with
  | here => exact ⟨rfl, List.mem_cons_self⟩
  | there _ ih => exact ⟨by rw [List.map_cons, List.map_cons, ih.1], List.mem_cons_of_mem _ ih.2⟩
theorem Swap.mem {p : Addr} {o : HO} {L M : Lg} (s : Swap p o L M) (nd : (L.map (·.1)).Nodup) : ∀ e ∈ M, e = (p, o) ∨ (e ∈ L ∧ e.1 ≠ p) := by
  induction s with
  | here =>
    intro e m
    rcases List.mem_cons.mp m with rfl | m
    · exact .inl rfl
    · have n := (List.nodup_cons.mp nd).1
      exact .inr ⟨List.mem_cons_of_mem _ m, fun z => n (List.mem_map.mpr ⟨e, m, z⟩)⟩
  | there s ih =>
    intro e m
    have n := List.nodup_cons.mp nd
    rcases List.mem_cons.mp m with rfl | m
    · exact .inr ⟨List.mem_cons_self, fun z => n.1 (by have q := s.fst.2; rw [← z] at q; exact q)⟩
    · rcases ih n.2 e m with q | ⟨q, r⟩
      · exact .inl q
      · exact .inr ⟨List.mem_cons_of_mem _ q, r⟩
theorem Has.swap {H : Hp} {L M : Lg} {p : Addr} {o : HO} (h : Has H L) (s : Swap p o L M) (t : notab o = true := by rfl) : Has (upd H p o) M := by
  obtain ⟨u, pl, mu⟩ := s.was
  refine ⟨by rw [s.fst.1]; exact h.1, fun e m => ?_⟩
  rcases s.mem h.1 e m with rfl | ⟨q, r⟩
  · exact holds_of t upd_same
  · exact holds_upd (h.get mu (plain_notab pl)) pl r (h.2 e q)
/-- M is told by L -/
structure Sub (M L : Lg) : Prop where
  to : (L.map (·.1)).Nodup → (M.map (·.1)).Nodup ∧ ∀ e ∈ M, e ∈ L
theorem Sub.has {M L : Lg} (s : Sub M L) (H : Hp) (h : Has H L) : Has H M := ⟨(s.to h.1).1, fun e m => h.2 e ((s.to h.1).2 e m)⟩
instance {M L : Lg} : CoeFun (Sub M L) (fun _ => ∀ H, Has H L → Has H M) := ⟨Sub.has⟩
theorem Sub.refl {L : Lg} : Sub L L := ⟨fun h => ⟨h, fun _ h => h⟩⟩
theorem Sub.trans {L M N : Lg} (a : Sub N M) (b : Sub M L) : Sub N L := ⟨fun h => ⟨(a.to (b.to h).1).1, fun e m => (b.to h).2 e ((a.to (b.to h).1).2 e m)⟩⟩
theorem Sub.drop {L : Lg} {e : Addr × HO} : Sub L (e :: L) := ⟨fun h => ⟨(List.nodup_cons.mp h).2, fun _ m => List.mem_cons_of_mem _ m⟩⟩
theorem Sub.cons {L M : Lg} {e : Addr × HO} (s : Sub M L) : Sub (e :: M) (e :: L) := by
  refine ⟨fun h => ?_⟩
  obtain ⟨n, h⟩ := List.nodup_cons.mp h
  obtain ⟨a, b⟩ := s.to h
  refine ⟨List.nodup_cons.mpr ⟨fun m => ?_, a⟩, fun u m => ?_⟩
  · obtain ⟨u, hu, eu⟩ := List.mem_map.mp m
    exact n (List.mem_map.mpr ⟨u, b u hu, eu⟩)
  · rcases List.mem_cons.mp m with rfl | m
    · exact List.mem_cons_self
    · exact List.mem_cons_of_mem _ (b u m)
theorem Sub.append {L M : Lg} (s : Sub M L) : ∀ {E : Lg}, Sub (E ++ M) (E ++ L)
  | [] => s
  | _ :: E => Sub.cons (Sub.append s (E := E))
theorem Sub.perm {L M : Lg} (p : M.Perm L) : Sub M L := ⟨fun h => ⟨(p.map _).nodup_iff.mpr h, fun e m => p.mem_iff.mp m⟩⟩
theorem Sub.sublist {L M : Lg} (p : M.Sublist L) : Sub M L := ⟨fun h => ⟨(p.map _).nodup h, fun e m => p.subset m⟩⟩
theorem Swap.ex {p : Addr} {o u : HO} (pl : plain u = true) : ∀ {L : Lg}, (p, u) ∈ L → ∃ M, Swap p o L M
  | e :: L, m => by
    rcases List.mem_cons.mp m with z | m
    · subst z
      exact ⟨_, .here pl⟩
    · obtain ⟨M, s⟩ := Swap.ex (o := o) pl m
      exact ⟨_, .there s⟩
theorem Swap.keep {p : Addr} {o : HO} {L M : Lg} (s : Swap p o L M) {e : Addr × HO} (h : e ∈ L) (n : e.1 ≠ p) : e ∈ M := by
  induction s with
  | here _ =>
    rcases List.mem_cons.mp h with z | h
    · subst z
      exact absurd rfl n
    · exact List.mem_cons_of_mem _ h
  | there _ ih =>
    rcases List.mem_cons.mp h with z | h
    · subst z
      exact List.mem_cons_self
    · exact List.mem_cons_of_mem _ (ih h)
theorem Swap.got {p : Addr} {o : HO} {L M : Lg} (s : Swap p o L M) : (p, o) ∈ M := by
  induction s with
  | here _ => exact List.mem_cons_self
  | there _ ih => exact List.mem_cons_of_mem _ ih
/-- one entry changed below what is known -/
theorem Sub.swap {p : Addr} {o u : HO} {L M N : Lg} (s : Sub ((p, u) :: L) M) (w : Swap p o M N) : Sub ((p, o) :: L) N := by
  refine ⟨fun h => ?_⟩
  rw [w.fst.1] at h
  obtain ⟨a, b⟩ := s.to h
  refine ⟨a, fun e m => ?_⟩
  rcases List.mem_cons.mp m with rfl | m
  · exact w.got
  · refine w.keep (b e (List.mem_cons_of_mem _ m)) fun z => (List.nodup_cons.mp a).1 ?_
    exact List.mem_map.mpr ⟨e, m, z⟩
abbrev QV := V → Lg → Prop
def up (Q : QV) : VK := fun v H => ∃ L, Has H L ∧ Q v L
def upB (Q : Bool → Lg → Prop) : Bool → Hp → Prop := fun b H => ∃ L, Has H L ∧ Q b L
def upA (Q : List V → Lg → Prop) : List V → Hp → Prop := fun vs H => ∃ L, Has H L ∧ Q vs L
def WE (X : Cx) (e : Expr) : TE := fun σ H Q => ∀ pins s, Inv X pins σ H s → wpAny (model X.prog X.w) X.A (eval e X.env) (EP X pins σ Q) X.xe s
def WT (X : Cx) (e : Expr) : TT := fun σ H Q => ∀ pins s, Inv X pins σ H s → wpAny (model X.prog X.w) X.A (isTrue e X.env (eval e X.env)) (TP X pins σ Q) X.xe s
def WW (X : Cx) (e : Expr) : TT := fun σ H Q => ∀ whole pins s, Inv X pins σ H s → wpAny (model X.prog X.w) X.A (isTrue e X.env whole) (TP X pins σ Q) X.xe s
def WA (X : Cx) (es : List Expr) : TA := fun σ H Q => ∀ pos pins s, Inv X pins σ H s → wpAny (model X.prog X.w) X.A (spliced (backTo pos (starEach es X.env))) (AP X pins σ Q) X.xe s
def WS (X : Cx) (st : Stmt) : TS := fun D σ H => ∀ pins s, Inv X pins σ H s → wpAny (model X.prog X.w) X.A (exec st X.env) (SP X pins D) X.xe s
def WSs (X : Cx) (st : List Stmt) : TS := fun D σ H => ∀ pins s, Inv X pins σ H s → wpAny (model X.prog X.w) X.A (execs st X.env) (SP X pins D) X.xe s
def WG (X : Cx) (tg : Expr) : TG := fun v σ H Q => ∀ pins s u, Inv X pins σ H s → RelV v u → wpAny (model X.prog X.w) X.A (assign tg X.env u) (fun _ s' => ∃ σ' H', Inv X pins σ' H' s' ∧ Q σ' H') X.xe s
def WGs (X : Cx) (ts : List Expr) : TGs := fun vs σ H Q => ∀ pins s us, Inv X pins σ H s → Vals vs us → wpAny (model X.prog X.w) X.A (assignInOrder ((assignEach ts X.env).map (·.2)) us) (fun _ s' => ∃ σ' H', Inv X pins σ' H' s' ∧ Q σ' H') X.xe s
section
variable {X : Cx} {e : Expr} {σ : L2.St} {H : Hp}
theorem pe_W : PE X e (WE X e) := ⟨fun pins s _ _ _ I h => h pins s I⟩
theorem pt_W : PT X e (WT X e) := ⟨fun pins s _ _ _ I h => h pins s I⟩
theorem pw_W : PW X e (WW X e) := ⟨fun u pins s _ _ _ I h => h u pins s I⟩
theorem pa_W {es : List Expr} : PA X es (WA X es) := ⟨fun pos pins s _ _ _ I h => h pos pins s I⟩
theorem ps_W {st : Stmt} : PS X st (WS X st) := ⟨fun pins s _ _ _ I h => h pins s I⟩
theorem pss_W {st : List Stmt} : PSs X st (WSs X st) := ⟨fun pins s _ _ _ I h => h pins s I⟩
theorem pg_W : PG X e (WG X e) := ⟨fun pins s _ _ _ u _ I r h => h pins s u I r⟩
theorem pgs_W {es : List Expr} : PGs X es (WGs X es) := ⟨fun pins s _ _ _ us _ I r h => h pins s us I r⟩
theorem WE.of {t : TE} {Q : VK} (h : PE X e t) (q : t σ H Q) : WE X e σ H Q := fun pins s I => h.run pins s σ H Q I q
theorem WT.of {t : TT} {Q : Bool → Hp → Prop} (h : PT X e t) (q : t σ H Q) : WT X e σ H Q := fun pins s I => h.run pins s σ H Q I q
theorem WW.of {t : TT} {Q : Bool → Hp → Prop} (h : PW X e t) (q : t σ H Q) : WW X e σ H Q := fun u pins s I => h.run u pins s σ H Q I q
theorem WA.of {es : List Expr} {t : TA} {Q : List V → Hp → Prop} (h : PA X es t) (q : t σ H Q) : WA X es σ H Q := fun pos pins s I => h.run pos pins s σ H Q I q
theorem WS.of {st : Stmt} {t : TS} {D : Ends} (h : PS X st t) (q : t D σ H) : WS X st D σ H := fun pins s I => h.run pins s σ H D I q
theorem WSs.of {st : List Stmt} {t : TS} {D : Ends} (h : PSs X st t) (q : t D σ H) : WSs X st D σ H := fun pins s I => h.run pins s σ H D I q
theorem WG.of {t : TG} {v : V} {Q : L2.St → Hp → Prop} (h : PG X e t) (q : t v σ H Q) : WG X e v σ H Q := fun pins s u I r => h.run pins s σ H v u Q I r q
theorem WGs.of {es : List Expr} {t : TGs} {vs : List V} {Q : L2.St → Hp → Prop} (h : PGs X es t) (q : t vs σ H Q) : WGs X es vs σ H Q := fun pins s us I r => h.run pins s σ H vs us Q I r q
theorem WE.mono {Q Q' : VK} (h : WE X e σ H Q) (m : ∀ v H', Q v H' → Q' v H') : WE X e σ H Q' := fun pins s I =>
  thn (h pins s I) fun _ _ ⟨v, H', J, r, q⟩ => ⟨v, H', J, r, m v H' q⟩
theorem WT.mono {Q Q' : Bool → Hp → Prop} (h : WT X e σ H Q) (m : ∀ v H', Q v H' → Q' v H') : WT X e σ H Q' := fun pins s I =>
  thn (h pins s I) fun _ _ ⟨H', J, q⟩ => ⟨H', J, m _ H' q⟩
theorem WW.mono {Q Q' : Bool → Hp → Prop} (h : WW X e σ H Q) (m : ∀ v H', Q v H' → Q' v H') : WW X e σ H Q' := fun u pins s I =>
  thn (h u pins s I) fun _ _ ⟨H', J, q⟩ => ⟨H', J, m _ H' q⟩
theorem WA.mono {es : List Expr} {Q Q' : List V → Hp → Prop} (h : WA X es σ H Q) (m : ∀ v H', Q v H' → Q' v H') : WA X es σ H Q' := fun pos pins s I =>
  thn (h pos pins s I) fun _ _ ⟨v, H', J, r, q⟩ => ⟨v, H', J, r, m v H' q⟩
theorem WG.mono {v : V} {Q Q' : L2.St → Hp → Prop} (h : WG X e v σ H Q) (m : ∀ v H', Q v H' → Q' v H') : WG X e v σ H Q' := fun pins s u I r =>
  thn (h pins s u I r) fun _ _ ⟨v, H', J, q⟩ => ⟨v, H', J, m v H' q⟩
theorem WGs.mono {es : List Expr} {vs : List V} {Q Q' : L2.St → Hp → Prop} (h : WGs X es vs σ H Q) (m : ∀ v H', Q v H' → Q' v H') : WGs X es vs σ H Q' := fun pins s u I r =>
  thn (h pins s u I r) fun _ _ ⟨v, H', J, q⟩ => ⟨v, H', J, m v H' q⟩
end
def GE (X : Cx) (e : Expr) (η : En) (L : Lg) (Q : QV) : Prop := X.N = names η → ∀ H, Has H L → WE X e (vals η) H (up Q)
def GT (X : Cx) (e : Expr) (η : En) (L : Lg) (Q : Bool → Lg → Prop) : Prop := X.N = names η → ∀ H, Has H L → WT X e (vals η) H (upB Q)
def GW (X : Cx) (e : Expr) (η : En) (L : Lg) (Q : Bool → Lg → Prop) : Prop := X.N = names η → ∀ H, Has H L → WW X e (vals η) H (upB Q)
def GA (X : Cx) (es : List Expr) (η : En) (L : Lg) (Q : List V → Lg → Prop) : Prop := X.N = names η → ∀ H, Has H L → WA X es (vals η) H (upA Q)
/-- what is wanted behind a statement -/
structure GD where
  nx : En → Lg → Prop
  rt : QV
  bk : En → Lg → Prop
  ct : En → Lg → Prop
def upS (X : Cx) (Q : En → Lg → Prop) : L2.St → Hp → Prop := fun σ H => ∃ η L, X.N = names η ∧ σ = vals η ∧ Has H L ∧ Q η L
def GD.ends (X : Cx) (D : GD) : Ends := { nx := upS X D.nx, rt := up D.rt, bk := upS X D.bk, ct := upS X D.ct }
def GS (X : Cx) (st : Stmt) (D : GD) (η : En) (L : Lg) : Prop := X.N = names η → ∀ H, Has H L → WS X st (D.ends X) (vals η) H
def GSs (X : Cx) (st : List Stmt) (D : GD) (η : En) (L : Lg) : Prop := X.N = names η → ∀ H, Has H L → WSs X st (D.ends X) (vals η) H
def GG (X : Cx) (tg : Expr) (v : V) (η : En) (L : Lg) (Q : En → Lg → Prop) : Prop := X.N = names η → ∀ H, Has H L → WG X tg v (vals η) H (upS X Q)
def GGs (X : Cx) (ts : List Expr) (vs : List V) (η : En) (L : Lg) (Q : En → Lg → Prop) : Prop := X.N = names η → ∀ H, Has H L → WGs X ts vs (vals η) H (upS X Q)
/-- an operator, a call, a subscript by values -/
def GOp (X : Cx) (f : Value → Value → Sem Value) (x y : V) (L : Lg) (Q : QV) : Prop := ∀ pins s σ H v u, Has H L → Inv X pins σ H s → RelV x v → RelV y u → wpAny (model X.prog X.w) X.A (f v u) (EP X pins σ (up Q)) X.xe s
def GUn (X : Cx) (f : Value → Sem Value) (x : V) (L : Lg) (Q : QV) : Prop := ∀ pins s σ H v, Has H L → Inv X pins σ H s → RelV x v → wpAny (model X.prog X.w) X.A (f v) (EP X pins σ (up Q)) X.xe s
def GC (X : Cx) (f : Value) (xs : List V) (L : Lg) (Q : QV) : Prop := ∀ pins s σ H us, Has H L → Inv X pins σ H s → Vals xs us → wpAny (model X.prog X.w) X.A (call f us) (EP X pins σ (up Q)) X.xe s
section
variable {X : Cx} {L : Lg} {Q : QV} {x y : V}
theorem GOp.of {f : Value → Value → Sem Value} {r : R2} (h : OpR X f r) (q : ∀ H, Has H L → r x y H (up Q)) : GOp X f x y L Q := fun pins s σ H v u hH I rv ru => h pins s σ H x y v u _ I rv ru (q H hH)
theorem GUn.of {f : Value → Sem Value} {r : V → Hp → VK → Prop} (h : UnR X f r) (q : ∀ H, Has H L → r x H (up Q)) : GUn X f x L Q := fun pins s σ H v hH I rv => h pins s σ H x v _ I rv (q H hH)
theorem GC.of {f : Value} {xs : List V} {r : List V → Hp → VK → Prop} (h : CallR X f r) (q : ∀ H, Has H L → r xs H (up Q)) : GC X f xs L Q := fun pins s σ H us hH I rv => h pins s σ H xs us _ I rv (q H hH)
end
section
variable {X : Cx} {η : En} {L : Lg} {Q : QV} {a b c e : Expr} {pos : Pos}
theorem ge_var {x : Str} {v : V} (h : At x v η) (q : Q v L) (hv : Vis X.env.scope x := by first | exact Or.inl rfl | exact Or.inr (Or.inl rfl) | exact Or.inr (Or.inr rfl))
    (hd : (x == ("__debug__" : Str)) = false := by decide) (hcd : (x == ("__classdict__" : Str)) = false := by decide) : GE X (.Name x pos) η L Q := fun hN H hH => by
  obtain ⟨i, h1, h2⟩ := h.idx
  exact WE.of (pe_var (i := i) (by rw [hN]; exact h1) hv hd hcd) ⟨v, h2, L, hH, q⟩
theorem ge_con {v : V} (p : PE X e (tC v)) (q : Q v L) : GE X e η L Q := fun _ H hH => WE.of p ⟨L, hH, q⟩
theorem ge_int {i : Int} {j} (q : Q (.int i) L) : GE X (.Constant (.int i) j pos) η L Q := ge_con pe_int q
theorem ge_bl {i : Bool} {j} (q : Q (.bl i) L) : GE X (.Constant (.bool i) j pos) η L Q := ge_con pe_bl q
theorem ge_non {j} (q : Q .non L) : GE X (.Constant .none j pos) η L Q := ge_con pe_non q
theorem ge_str {x : Str} {j} (q : Q (.str x) L) : GE X (.Constant (.str x) j pos) η L Q := ge_con pe_str q
/-- what is known may be cut -/
theorem GE.nd (h : GE X e η L fun v L1 => (L1.map (·.1)).Nodup → Q v L1) : GE X e η L Q := fun hN H hH => (h hN H hH).mono fun v _ ⟨L', h', q⟩ => ⟨L', h', q h'.1⟩
theorem GE.sub {M : Lg} (s : Sub M L) (h : GE X e η M Q) : GE X e η L Q := fun hN H hH => h hN H (s H hH)
theorem GT.sub {M : Lg} {Q : Bool → Lg → Prop} (s : Sub M L) (h : GT X e η M Q) : GT X e η L Q := fun hN H hH => h hN H (s H hH)
theorem GE.imp {Q' : QV} (h : GE X e η L Q) (m : ∀ v L', Q v L' → Q' v L') : GE X e η L Q' := fun hN H hH => (h hN H hH).mono fun v _ ⟨L', h', q⟩ => ⟨L', h', m v L' q⟩
theorem GA.imp {es : List Expr} {Q Q' : List V → Lg → Prop} (h : GA X es η L Q) (m : ∀ v L', Q v L' → Q' v L') : GA X es η L Q' := fun hN H hH => (h hN H hH).mono fun v _ ⟨L', h', q⟩ => ⟨L', h', m v L' q⟩
theorem GT.imp {Q Q' : Bool → Lg → Prop} (h : GT X e η L Q) (m : ∀ v L', Q v L' → Q' v L') : GT X e η L Q' := fun hN H hH => (h hN H hH).mono fun v _ ⟨L', h', q⟩ => ⟨L', h', m v L' q⟩
/-- then -/
theorem GE.then {Q' : VK} (h : GE X a η L Q) (hN : X.N = names η) {H : Hp} (hH : Has H L) (m : ∀ v L1 H1, Has H1 L1 → Q v L1 → Q' v H1) : WE X a (vals η) H Q' := (h hN H hH).mono fun v H1 ⟨L1, h1, q1⟩ => m v L1 H1 h1 q1
theorem GA.then {es : List Expr} {Q : List V → Lg → Prop} {Q' : List V → Hp → Prop} (h : GA X es η L Q) (hN : X.N = names η) {H : Hp} (hH : Has H L) (m : ∀ v L1 H1, Has H1 L1 → Q v L1 → Q' v H1) : WA X es (vals η) H Q' := (h hN H hH).mono fun v H1 ⟨L1, h1, q1⟩ => m v L1 H1 h1 q1
theorem GT.then {Q : Bool → Lg → Prop} {Q' : Bool → Hp → Prop} (h : GT X a η L Q) (hN : X.N = names η) {H : Hp} (hH : Has H L) (m : ∀ v L1 H1, Has H1 L1 → Q v L1 → Q' v H1) : WT X a (vals η) H Q' := (h hN H hH).mono fun v H1 ⟨L1, h1, q1⟩ => m v L1 H1 h1 q1
theorem GW.then {Q : Bool → Lg → Prop} {Q' : Bool → Hp → Prop} (h : GW X a η L Q) (hN : X.N = names η) {H : Hp} (hH : Has H L) (m : ∀ v L1 H1, Has H1 L1 → Q v L1 → Q' v H1) : WW X a (vals η) H Q' := (h hN H hH).mono fun v H1 ⟨L1, h1, q1⟩ => m v L1 H1 h1 q1
theorem ge_bin {op : Operator} (h : GE X a η L fun x L1 => GE X b η L1 fun y L2 => GOp X (binaryOp op) x y L2 Q) : GE X (.BinOp a op b pos) η L Q := fun hN H hH =>
  WE.of (pe_op (r := fun x y H' Q' => ∀ pins s σ v u, Inv X pins σ H' s → RelV x v → RelV y u → wpAny (model X.prog X.w) X.A (binaryOp op v u) (EP X pins σ Q') X.xe s)
    (fun pins s σ H' x y v u Q' I r1 r2 q => q pins s σ v u I r1 r2) pe_W pe_W)
    (h.then hN hH fun _ _ _ h1 q1 => q1.then hN h1 fun _ _ _ h2 q2 => fun pins s σ v u I r1 r2 => q2 pins s σ _ v u h2 I r1 r2)
theorem ge_un {op : UnaryOp} (h : GE X a η L fun x L1 => GUn X (unaryOp op) x L1 Q) : GE X (.UnaryOp op a pos) η L Q := fun hN H hH =>
  WE.of (pe_un (r := fun x H' Q' => ∀ pins s σ v, Inv X pins σ H' s → RelV x v → wpAny (model X.prog X.w) X.A (unaryOp op v) (EP X pins σ Q') X.xe s)
    (fun pins s σ H' x v Q' I r1 q => q pins s σ v I r1) pe_W)
    (h.then hN hH fun _ _ _ h1 q1 => fun pins s σ v I r1 => q1 pins s σ _ v h1 I r1)
theorem ge_cmp {op : CmpOp} (h : GE X a η L fun x L1 => GE X b η L1 fun y L2 => GOp X (compareOp op) x y L2 Q) (hm : behindInMarks op b = false := by rfl) : GE X (.Compare a [op] [b] pos) η L Q := fun hN H hH =>
  WE.of (pe_cmpR (r := fun x y H' Q' => ∀ pins s σ v u, Inv X pins σ H' s → RelV x v → RelV y u → wpAny (model X.prog X.w) X.A (compareOp op v u) (EP X pins σ Q') X.xe s)
    (fun pins s σ H' x y v u Q' I r1 r2 q => q pins s σ v u I r1 r2) pe_W pe_W hm)
    (h.then hN hH fun _ _ _ h1 q1 => q1.then hN h1 fun _ _ _ h2 q2 => fun pins s σ v u I r1 r2 => q2 pins s σ _ v u h2 I r1 r2)
theorem ge_one {op : BoolOp} (h : GE X a η L Q) : GE X (.BoolOp op [a] pos) η L Q := fun hN H hH => WE.of (pe_one pe_W) (h hN H hH)
theorem ge_and {rest : List Expr} (h : GE X a η L fun x L1 => ∃ k, x = .bl k ∧ if k = true then GE X (.BoolOp .And (b :: rest) pos) η L1 Q else Q (.bl false) L1) : GE X (.BoolOp .And (a :: b :: rest) pos) η L Q := fun hN H hH =>
  WE.of (pe_and pe_W pe_W) (h.then hN hH fun x L1 H1 h1 ⟨k, e1, q1⟩ => ⟨k, e1, by
    cases k with
    | true => exact q1 hN H1 h1
    | false => exact ⟨L1, h1, q1⟩⟩)
theorem ge_or {rest : List Expr} (h : GE X a η L fun x L1 => ∃ k, x = .bl k ∧ if k = true then Q (.bl true) L1 else GE X (.BoolOp .Or (b :: rest) pos) η L1 Q) : GE X (.BoolOp .Or (a :: b :: rest) pos) η L Q := fun hN H hH =>
  WE.of (pe_or pe_W pe_W) (h.then hN hH fun x L1 H1 h1 ⟨k, e1, q1⟩ => ⟨k, e1, by
    cases k with
    | true => exact ⟨L1, h1, q1⟩
    | false => exact q1 hN H1 h1⟩)
theorem ge_not (h : GE X a η L fun x L1 => ∃ k, x = .bl k ∧ Q (.bl (!k)) L1) : GE X (.UnaryOp .Not a pos) η L Q := fun hN H hH =>
  WE.of (pe_not pe_W) (h.then hN hH fun x L1 H1 h1 ⟨k, e1, q1⟩ => ⟨k, e1, L1, h1, q1⟩)
theorem ge_if (h : GT X c η L fun k L1 => if k = true then GE X a η L1 Q else GE X b η L1 Q) : GE X (.IfExp c a b pos) η L Q := fun hN H hH =>
  WE.of (pe_ifExp pt_W pe_W pe_W) (h.then hN hH fun k L1 H1 h1 q1 => by
    cases k with
    | true => exact q1 hN H1 h1
    | false => exact q1 hN H1 h1)
theorem ga_nil {Q : List V → Lg → Prop} (q : Q [] L) : GA X [] η L Q := fun _ H hH => WA.of pa_nil ⟨L, hH, q⟩
theorem ga_cons {es : List Expr} {Q : List V → Lg → Prop} (h : GE X e η L fun x L1 => GA X es η L1 fun xs L2 => Q (x :: xs) L2) (hs : starEach (e :: es) X.env = (false, eval e X.env) :: starEach es X.env := by rfl) : GA X (e :: es) η L Q := fun hN H hH =>
  WA.of (pa_cons pe_W pa_W hs) (h.then hN hH fun _ _ _ h1 q1 => q1.then hN h1 fun _ L2 _ h2 q2 => ⟨L2, h2, q2⟩)
theorem ge_tup {es : List Expr} {x1} (h : GA X es η L fun xs L1 => xs.length ≤ sizeLine ∧ ∀ p, Q (.ref p) ((p, .tup xs) :: L1)) : GE X (.Tuple es x1 pos) η L Q := fun hN H hH =>
  WE.of (pe_tup pa_W) (h.then hN hH fun xs L1 H1 h1 ⟨z, q1⟩ => ⟨z, fun p hp => ⟨_, h1.new hp, q1 p⟩⟩)
theorem ge_lst {es : List Expr} (h : GA X es η L fun xs L1 => xs.length ≤ sizeLine ∧ ∀ p, Q (.ref p) ((p, .lst xs) :: L1)) : GE X (.List es pos) η L Q := fun hN H hH =>
  WE.of (pe_lst pa_W) (h.then hN hH fun xs L1 H1 h1 ⟨z, q1⟩ => ⟨z, fun p hp => ⟨_, h1.new hp, q1 p⟩⟩)
/-- a subscript by values -/
def GIx (X : Cx) (x y : V) (L : Lg) (Q : QV) : Prop := ∀ (value slice : Expr) pins s σ H v u, Has H L → Inv X pins σ H s → RelV x v → RelV y u → subscripted slice false v u = operate [v, u] (getItem v u) → wpAny (model X.prog X.w) X.A (subscriptTail value slice v u) (EP X pins σ (up Q)) X.xe s
theorem GIx.of {x y : V} {r : R2} (h : IxR X r) (q : ∀ H, Has H L → r x y H (up Q)) : GIx X x y L Q := fun value slice pins s σ H v u hH I rv ru hs => h value slice pins s σ H x y v u _ I rv ru (q H hH) hs
theorem ge_ix (h : GE X a η L fun x L1 => GE X b η L1 fun y L2 => GIx X x y L2 Q) (hs : PlainIx b := by exact fun _ _ => rfl) : GE X (.Subscript a b pos) η L Q := fun hN H hH =>
  WE.of (pe_ix (r := fun x y H' Q' => ∀ (value slice : Expr) pins s σ v u, Inv X pins σ H' s → RelV x v → RelV y u → subscripted slice false v u = operate [v, u] (getItem v u) → wpAny (model X.prog X.w) X.A (subscriptTail value slice v u) (EP X pins σ Q') X.xe s)
    (fun value slice pins s σ H' x y v u Q' I r1 r2 q z => q value slice pins s σ v u I r1 r2 z) pe_W pe_W hs)
    (h.then hN hH fun _ _ _ h1 q1 => q1.then hN h1 fun _ _ _ h2 q2 => fun value slice pins s σ v u I r1 r2 z => q2 value slice pins s σ _ v u h2 I r1 r2 z)
end
section
variable {X : Cx} {η : En} {L : Lg} {Q : Bool → Lg → Prop} {a b c e : Expr} {pos : Pos}
theorem gt_cmp {op : CmpOp} (h : GE X a η L fun x L1 => GE X b η L1 fun y L2 => GOp X (compareOp op) x y L2 fun z L3 => ∃ k, z = .bl k ∧ Q k L3) (hm : behindInMarks op b = false := by rfl) : GT X (.Compare a [op] [b] pos) η L Q := fun hN H hH =>
  WT.of (pt_cmpR (r := fun x y H' Q' => ∀ pins s σ v u, Inv X pins σ H' s → RelV x v → RelV y u → wpAny (model X.prog X.w) X.A (compareOp op v u) (EP X pins σ Q') X.xe s)
    (fun pins s σ H' x y v u Q' I r1 r2 q => q pins s σ v u I r1 r2) pe_W pe_W hm)
    (h.then hN hH fun _ _ _ h1 q1 => q1.then hN h1 fun _ _ _ h2 q2 => fun pins s σ v u I r1 r2 =>
      thn (q2 pins s σ _ v u h2 I r1 r2) fun _ _ ⟨z, H3, J, r3, L3, h3, k, ek, q3⟩ => ⟨z, H3, J, r3, k, ek, L3, h3, q3⟩)
theorem gt_val (h : GE X a η L fun x L1 => ∃ k, x = .bl k ∧ Q k L1) (he : ∀ whole, isTrue a X.env whole = (do let v ← whole; standAt a.pos; holding [v] (truthy v)) := by intro _; rfl) : GT X a η L Q := fun hN H hH =>
  WT.of (pt_val pe_W he) (h.then hN hH fun _ L1 _ h1 ⟨k, e1, q1⟩ => ⟨k, e1, L1, h1, q1⟩)
theorem gt_w {op : BoolOp} {es : List Expr} (h : GW X (.BoolOp op es pos) η L Q) : GT X (.BoolOp op es pos) η L Q := fun hN H hH => WT.of pw_W.pt (h hN H hH)
theorem gw_and1 (h : GT X a η L Q) : GW X (.BoolOp .And [a] pos) η L Q := fun hN H hH => WW.of (pw_and1 pt_W) (h hN H hH)
theorem gw_or1 (h : GT X a η L Q) : GW X (.BoolOp .Or [a] pos) η L Q := fun hN H hH => WW.of (pw_or1 pt_W) (h hN H hH)
theorem gw_and {rest : List Expr} (h : GT X a η L fun k L1 => if k = true then GW X (.BoolOp .And (b :: rest) pos) η L1 Q else Q false L1) : GW X (.BoolOp .And (a :: b :: rest) pos) η L Q := fun hN H hH =>
  WW.of (pw_and pt_W pw_W) (h.then hN hH fun k L1 H1 h1 q1 => by
    cases k with
    | true => exact q1 hN H1 h1
    | false => exact ⟨L1, h1, q1⟩)
theorem gw_or {rest : List Expr} (h : GT X a η L fun k L1 => if k = true then Q true L1 else GW X (.BoolOp .Or (b :: rest) pos) η L1 Q) : GW X (.BoolOp .Or (a :: b :: rest) pos) η L Q := fun hN H hH =>
  WW.of (pw_or pt_W pw_W) (h.then hN hH fun k L1 H1 h1 q1 => by
    cases k with
    | true => exact ⟨L1, h1, q1⟩
    | false => exact q1 hN H1 h1)
theorem gt_not (h : GT X a η L fun k L1 => Q (!k) L1) : GT X (.UnaryOp .Not a pos) η L Q := fun hN H hH =>
  WT.of (pt_not pt_W) (h.then hN hH fun k L1 H1 h1 q1 => ⟨L1, h1, q1⟩)
end
theorem mem0 {α : Type} {a : α} {l : List α} : a ∈ a :: l := List.mem_cons_self
theorem memS {α : Type} {a b : α} {l : List α} (h : a ∈ l) : a ∈ b :: l := List.mem_cons_of_mem _ h
theorem sql {K : PySem.W.Frag} {H : Hp} {L : Lg} {p : Addr} {xs : List V} (h : Has H L) (m : (p, HO.lst xs) ∈ L) : SqL K H p xs := SqL.of (h.get m)
theorem sqt {K : PySem.W.Frag} {H : Hp} {L : Lg} {p : Addr} {xs : List V} (h : Has H L) (m : (p, HO.tup xs) ∈ L) : SqT K H p xs := SqT.of (h.get m)
section
variable {X : Cx} {L : Lg} {Q : QV} {x y : V} {i j : Int} {p q : Addr} {xs ys : List V} {v : V}
theorem go_add (h : Q (.int (i + j)) L) : GOp X (binaryOp .Add) (.int i) (.int j) L Q := GOp.of op_add fun H hH => ⟨i, j, rfl, rfl, L, hH, h⟩
theorem go_sub (h : Q (.int (i - j)) L) : GOp X (binaryOp .Sub) (.int i) (.int j) L Q := GOp.of op_sub fun H hH => ⟨i, j, rfl, rfl, L, hH, h⟩
theorem go_mul (c : CMulW i j) (h : Q (.int (i * j)) L) : GOp X (binaryOp .Mult) (.int i) (.int j) L Q := GOp.of op_mulW fun H hH => ⟨i, j, rfl, rfl, c, L, hH, h⟩
theorem go_mulS (c : (-(2 ^ 64) < i ∧ i < 2 ^ 64) ∨ (-(2 ^ 64) < j ∧ j < 2 ^ 64)) (h : Q (.int (i * j)) L) : GOp X (binaryOp .Mult) (.int i) (.int j) L Q := GOp.of op_mul fun H hH => ⟨i, j, rfl, rfl, c, L, hH, h⟩
theorem go_mod (c : 0 < j) (h : Q (.int (i % j)) L) : GOp X (binaryOp .Mod) (.int i) (.int j) L Q := GOp.of op_modN fun H hH => ⟨i, j, rfl, rfl, by omega, L, hH, by
  show Q (.int (i.fmod j)) L
  rw [Int.fmod_eq_emod_of_nonneg i (by omega)]
  exact h⟩
theorem go_div (c : 0 < j) (d : j.natAbs < 2 ^ 9000) (h : Q (.int (i / j)) L) : GOp X (binaryOp .FloorDiv) (.int i) (.int j) L Q := GOp.of op_fdivW fun H hH => ⟨i, j, rfl, rfl, wide_div c d (by decide) (by decide), L, hH, h⟩
theorem go_pow (c : CPow i j) (h : Q (.int (i ^ j.toNat)) L) : GOp X (binaryOp .Pow) (.int i) (.int j) L Q := GOp.of op_pow fun H hH => ⟨i, j, rfl, rfl, c, L, hH, h⟩
theorem go_lt (h : Q (.bl (decide (i < j))) L) : GOp X (compareOp .Lt) (.int i) (.int j) L Q := GOp.of op_lt fun H hH => ⟨i, j, rfl, rfl, L, hH, h⟩
theorem go_le (h : Q (.bl (decide (i ≤ j))) L) : GOp X (compareOp .LtE) (.int i) (.int j) L Q := GOp.of op_le fun H hH => ⟨i, j, rfl, rfl, L, hH, h⟩
theorem go_gt (h : Q (.bl (decide (j < i))) L) : GOp X (compareOp .Gt) (.int i) (.int j) L Q := GOp.of op_gt fun H hH => ⟨i, j, rfl, rfl, L, hH, h⟩
theorem go_ge (h : Q (.bl (decide (j ≤ i))) L) : GOp X (compareOp .GtE) (.int i) (.int j) L Q := GOp.of op_ge fun H hH => ⟨i, j, rfl, rfl, L, hH, h⟩
theorem dec_int : decide (V.int i = V.int j) = decide (i = j) := by
  by_cases e : i = j
  · rw [e, decide_eq_true rfl, decide_eq_true rfl]
  · rw [decide_eq_false e, decide_eq_false fun z => e (V.int.inj z)]
theorem go_eq (h : Q (.bl (decide (i = j))) L) : GOp X (compareOp .Eq) (.int i) (.int j) L Q := GOp.of op_eq fun H hH => ⟨rfl, L, hH, by rw [dec_int]; exact h⟩
theorem go_ne (h : Q (.bl (!decide (i = j))) L) : GOp X (compareOp .NotEq) (.int i) (.int j) L Q := GOp.of op_ne fun H hH => ⟨rfl, L, hH, by rw [dec_int]; exact h⟩
theorem go_eqV (s : scal x y = true) (h : Q (.bl (decide (x = y))) L) : GOp X (compareOp .Eq) x y L Q := GOp.of op_eq fun H hH => ⟨s, L, hH, h⟩
theorem go_neV (s : scal x y = true) (h : Q (.bl (!decide (x = y))) L) : GOp X (compareOp .NotEq) x y L Q := GOp.of op_ne fun H hH => ⟨s, L, hH, h⟩
theorem go_isN (h : Q (.bl (decide (x = .non))) L) : GOp X (compareOp .Is) x .non L Q := GOp.of op_isN fun H hH => ⟨rfl, L, hH, h⟩
theorem go_notN (h : Q (.bl (!decide (x = .non))) L) : GOp X (compareOp .IsNot) x .non L Q := GOp.of op_notN fun H hH => ⟨rfl, L, hH, h⟩
/-- data, told by the ledger -/
def Dl (L : Lg) (v : V) (d : PyData) : Prop := ∀ K H, Has H L → Dp K H v d
def Dls (L : Lg) (vs : List V) (ds : List PyData) : Prop := ∀ K H, Has H L → DpAll K H vs ds
theorem dl_bl {b : Bool} : Dl L (.bl b) (.bool b) := fun _ _ _ => .bl b
theorem dl_int : Dl L (.int i) (.int i) := fun _ _ _ => .int i
theorem dl_str {z : Str} : Dl L (.str z) (.str z) := fun _ _ _ => .str z
theorem dl_lst {ds : List PyData} (m : (p, HO.lst xs) ∈ L) (h : Dls L xs ds) : Dl L (.ref p) (.list ds) := fun K H hH => .lst (sql hH m) (h K H hH)
theorem dl_tup {ds : List PyData} (m : (p, HO.tup xs) ∈ L) (h : Dls L xs ds) : Dl L (.ref p) (.tuple ds) := fun K H hH => .tup (sqt hH m) (h K H hH)
theorem dls_nil : Dls L [] [] := fun _ _ _ => .nil
theorem dls_cons {d : PyData} {ds : List PyData} (a : Dl L v d) (h : Dls L xs ds) : Dls L (v :: xs) (d :: ds) := fun K H hH => .cons (a K H hH) (h K H hH)
theorem dls_ints : ∀ {ns : List Int}, Dls L (ns.map V.int) (ns.map PyData.int)
  | [] => dls_nil
  | _ :: _ => dls_cons dl_int dls_ints
theorem go_eqD {k : Nat} {d e : PyData} (hr : Room k X.A) (a : Dl L x d) (b : Dl L y e) (s1 : SeqAt.shaped d = true) (s2 : SeqAt.shaped e = true) (h : Q (.bl (PyData.eqv d e)) L) : GOp X (compareOp .Eq) x y L Q := GOp.of (op_eqD hr.units) fun H hH => ⟨d, e, a _ H hH, b _ H hH, s1, s2, L, hH, h⟩
theorem go_neD {k : Nat} {d e : PyData} (hr : Room k X.A) (a : Dl L x d) (b : Dl L y e) (s1 : SeqAt.shaped d = true) (s2 : SeqAt.shaped e = true) (h : Q (.bl (!PyData.eqv d e)) L) : GOp X (compareOp .NotEq) x y L Q := GOp.of (op_neD hr.units) fun H hH => ⟨d, e, a _ H hH, b _ H hH, s1, s2, L, hH, h⟩
theorem gi_lst (m : (p, HO.lst xs) ∈ L) (e : atI xs i = some v) (h : Q v L) : GIx X (.ref p) (.int i) L Q := GIx.of ix_list fun H hH => ⟨p, xs, i, v, rfl, rfl, sql hH m, e, L, hH, h⟩
theorem gi_tup (m : (p, HO.tup xs) ∈ L) (e : atI xs i = some v) (h : Q v L) : GIx X (.ref p) (.int i) L Q := GIx.of ix_tup fun H hH => ⟨p, xs, i, v, rfl, rfl, sqt hH m, e, L, hH, h⟩
theorem gc_lenL (m : (p, HO.lst xs) ∈ L) (h : Q (.int (xs.length : Int)) L) : GC X (.builtin "len") [.ref p] L Q := GC.of call_len_seq fun H hH => ⟨p, xs, rfl, .inl (sql hH m), L, hH, h⟩
theorem gc_lenT (m : (p, HO.tup xs) ∈ L) (h : Q (.int (xs.length : Int)) L) : GC X (.builtin "len") [.ref p] L Q := GC.of call_len_seq fun H hH => ⟨p, xs, rfl, .inr (sqt hH m), L, hH, h⟩
theorem gc_int (h : Q (.int i) L) : GC X (.type "int") [.int i] L Q := GC.of call_int1 fun H hH => .inl ⟨i, rfl, L, hH, h⟩
theorem gc_intB {k : Bool} (h : Q (.int (if k then 1 else 0)) L) : GC X (.type "int") [.bl k] L Q := GC.of call_int1 fun H hH => .inr ⟨k, rfl, L, hH, h⟩
theorem gc_abs (h : Q (.int (i.natAbs : Int)) L) : GC X (.builtin "abs") [.int i] L Q := GC.of call_abs fun H hH => ⟨i, rfl, L, hH, by
  have e : (if i < 0 then -i else i) = (i.natAbs : Int) := by split <;> omega
  rw [e]
  exact h⟩
theorem gc_min2 (hc : X.calm = true) (h : Q (.int (if j < i then j else i)) L) : GC X (.builtin "min") [.int i, .int j] L Q := GC.of (call_min2 hc) fun H hH => ⟨i, j, rfl, L, hH, h⟩
theorem gc_list (m : (p, HO.lst xs) ∈ L) (h : ∀ q, Q (.ref q) ((q, .lst xs) :: L)) : GC X (.type "list") [.ref p] L Q := GC.of call_list_of fun H hH => ⟨p, xs, rfl, .inl (sql hH m), fun l hl => ⟨_, hH.new hl, h l⟩⟩
/-- isinstance against a built-in class -/
theorem gc_isi {T c : String} {b : Bool} (ty : ∀ H, Has H L → TyX X.K H x (.type T)) (k : kitB T c = some b) (h : Q (.bl b) L) : GC X (.builtin "isinstance") [x, .ty c] L Q :=
  GC.of call_isi fun H hH => ⟨x, .ty c, .type T, .type c, b, rfl, .ty c, ty H hH, kit_ty k, L, hH, h⟩
end
section
variable {X : Cx} {η : En} {L : Lg} {Q : QV} {e : Expr} {es : List Expr} {pos p : Pos} {x : Str}
theorem ge_B {id : String} (hm : X.mg x = none) (hv : bootBuiltins x = some (.builtin id)) (h : GA X (e :: es) η L fun xs L1 => GC X (.builtin id) xs L1 Q) (hg : Gl X x := by rfl) (hn : x ≠ "__name__" := by decide) (hdb : (x == ("__debug__" : Str)) = false := by decide)
    (he : starEach (e :: es) X.env = (false, eval e X.env) :: starEach es X.env := by rfl) (hpl : (backTo pos (starEach es X.env)).any (·.1) = false := by rfl) : GE X (.Call (.Name x p) (e :: es) [] pos) η L Q := fun hN H hH =>
  WE.of (pe_callB (r := fun xs H' Q' => ∀ pins s σ us, Inv X pins σ H' s → Vals xs us → wpAny (model X.prog X.w) X.A (call (.builtin id) us) (EP X pins σ Q') X.xe s)
    (fun pins s σ H' xs us Q' I r q => q pins s σ us I r) hg hm hv pa_W hn hdb he hpl)
    (h.then hN hH fun _ _ _ h1 q1 => fun pins s σ us I r => q1 pins s σ _ us h1 I r)
theorem ge_Y {T : String} (hm : X.mg x = none) (hv : bootBuiltins x = some (.type T)) (h : GA X (e :: es) η L fun xs L1 => GC X (.type T) xs L1 Q) (hg : Gl X x := by rfl) (hn : x ≠ "__name__" := by decide) (hdb : (x == ("__debug__" : Str)) = false := by decide)
    (he : starEach (e :: es) X.env = (false, eval e X.env) :: starEach es X.env := by rfl) (hpl : (backTo pos (starEach es X.env)).any (·.1) = false := by rfl) : GE X (.Call (.Name x p) (e :: es) [] pos) η L Q := fun hN H hH =>
  WE.of (pe_callTy (r := fun xs H' Q' => ∀ pins s σ us, Inv X pins σ H' s → Vals xs us → wpAny (model X.prog X.w) X.A (call (.type T) us) (EP X pins σ Q') X.xe s)
    (fun pins s σ H' xs us Q' I r q => q pins s σ us I r) hg hm hv pa_W hn hdb he hpl)
    (h.then hN hH fun _ _ _ h1 q1 => fun pins s σ us I r => q1 pins s σ _ us h1 I r)
/-- the name of a built-in class as a value -/
theorem ge_tyName {T : String} (hm : X.mg x = none) (hv : bootBuiltins x = some (.type T)) (q : Q (.ty T) L) (hg : Gl X x := by rfl) (hn : x ≠ "__name__" := by decide) (hdb : (x == ("__debug__" : Str)) = false := by decide) : GE X (.Name x pos) η L Q :=
  ge_con (pe_bltn (v := .ty T) hg hm hv rfl hn hdb) q
/-- the built-ins are no names of the module -/
structure Bi (mg : Str → Option Value) : Prop where
  len : mg "len" = none
  int : mg "int" = none
  abs : mg "abs" = none
  min : mg "min" = none
  max : mg "max" = none
  range : mg "range" = none
  isinstance : mg "isinstance" = none
  list : mg "list" = none
  tuple : mg "tuple" = none
  bool : mg "bool" = none
  str : mg "str" = none
  repr : mg "repr" = none
  sum : mg "sum" = none
  sorted : mg "sorted" = none
  any : mg "any" = none
  all : mg "all" = none
  enumerate : mg "enumerate" = none
  zip : mg "zip" = none
  ValueError : mg "ValueError" = none
  LookupError : mg "LookupError" = none
  reversed : mg "reversed" = none
  b_set : mg "set" = none
  dict : mg "dict" = none
  iter : mg "iter" = none
  next : mg "next" = none
  b_type : mg "type" = none
theorem bt_len : bootBuiltins "len" = some (.builtin "len") := by decide +kernel
theorem bt_abs : bootBuiltins "abs" = some (.builtin "abs") := by decide +kernel
theorem bt_min : bootBuiltins "min" = some (.builtin "min") := by decide +kernel
theorem bt_isinstance : bootBuiltins "isinstance" = some (.builtin "isinstance") := by decide +kernel
theorem bt_int : bootBuiltins "int" = some (.type "int") := by decide +kernel
theorem bt_bool : bootBuiltins "bool" = some (.type "bool") := by decide +kernel
theorem bt_list : bootBuiltins "list" = some (.type "list") := by decide +kernel
theorem bt_tuple : bootBuiltins "tuple" = some (.type "tuple") := by decide +kernel
theorem bt_ValueError : bootBuiltins "ValueError" = some (.type "ValueError") := by decide +kernel
theorem bt_LookupError : bootBuiltins "LookupError" = some (.type "LookupError") := by decide +kernel
theorem bt_str : bootBuiltins "str" = some (.type "str") := by decide +kernel
end
section
variable {X : Cx} {η : En} {L : Lg} {e a b c tg : Expr} {pos : Pos} {st : Stmt} {rest body : List Stmt} {D : GD} {v : V}
theorem GG.then {Q : En → Lg → Prop} {Q' : L2.St → Hp → Prop} (h : GG X tg v η L Q) (hN : X.N = names η) {H : Hp} (hH : Has H L) (m : ∀ θ L1 H1, X.N = names θ → Has H1 L1 → Q θ L1 → Q' (vals θ) H1) : WG X tg v (vals η) H Q' := (h hN H hH).mono fun σ' H1 ⟨θ, L1, n1, es, h1, q1⟩ => by
  rw [es]
  exact m θ L1 H1 n1 h1 q1
theorem GGs.then {ts : List Expr} {vs : List V} {Q : En → Lg → Prop} {Q' : L2.St → Hp → Prop} (h : GGs X ts vs η L Q) (hN : X.N = names η) {H : Hp} (hH : Has H L) (m : ∀ θ L1 H1, X.N = names θ → Has H1 L1 → Q θ L1 → Q' (vals θ) H1) : WGs X ts vs (vals η) H Q' := (h hN H hH).mono fun σ' H1 ⟨θ, L1, n1, es, h1, q1⟩ => by
  rw [es]
  exact m θ L1 H1 n1 h1 q1
theorem gg_name {x : Str} {θ : En} {Q : En → Lg → Prop} (p : Put x v η θ) (q : Q θ L) (hn : X.N.Nodup := by assumption) (hx : Loc X.env.scope x := by first | exact Or.inl rfl | exact Or.inr rfl) (hf : X.fn x = true ∨ X.env.scope.names.lookup x = some .local := by first | exact .inl rfl | exact .inr rfl) : GG X (.Name x pos) v η L Q := fun hN H hH => by
  obtain ⟨i, h1, h2, h3⟩ := p.idx
  refine WG.of (pg_name (i := i) hn (by rw [hN]; exact h1) hx hf) ?_
  show upS X Q ((vals η).set i (some v)) H
  exact ⟨θ, L, by rw [h3]; exact hN, h2.symm, hH, q⟩
theorem ggs_nil {Q : En → Lg → Prop} (q : Q η L) : GGs X [] [] η L Q := fun hN H hH => WGs.of pgs_nil ⟨rfl, η, L, hN, rfl, hH, q⟩
theorem ggs_cons {ts : List Expr} {vs : List V} {Q : En → Lg → Prop} (h : GG X e v η L fun θ L1 => GGs X ts vs θ L1 Q)
    (hs : (assignEach (e :: ts) X.env).map (·.2) = assign e X.env :: (assignEach ts X.env).map (·.2) := by rfl) : GGs X (e :: ts) (v :: vs) η L Q := fun hN H hH =>
  WGs.of (pgs_cons pg_W pgs_W hs) ⟨v, vs, rfl, h.then hN hH fun θ L1 H1 n1 h1 q1 => q1 n1 H1 h1⟩
theorem gg_tup {es : List Expr} {k : Nat} {p : Addr} {xs : List V} {Q : En → Lg → Prop} (m : (p, HO.tup xs) ∈ L) (h : GGs X es xs η L Q) (hl : xs.length = es.length := by rfl) (hc : X.calm = true := by rfl)
    (hn : (assignEach es X.env).length = es.length := by rfl) (hst : (assignEach es X.env).findIdx? (·.1) = none := by rfl) : GG X (.Tuple es k pos) (.ref p) η L Q := fun hN H hH =>
  WG.of (pg_tup hc pgs_W hn hst) ⟨p, xs, rfl, sqt hH m, hl, h hN H hH⟩
/-- o[i] = v, by values -/
def GSt (X : Cx) (o i v : V) (L : Lg) (Q : Lg → Prop) : Prop := ∀ pins s σ H ov iv u, Has H L → Inv X pins σ H s → RelV o ov → RelV i iv → RelV v u →
  wpAny (model X.prog X.w) X.A (setItem ov iv u) (fun _ s' => ∃ H', Inv X pins σ H' s' ∧ ∃ L', Has H' L' ∧ Q L') X.xe s
theorem gst_lst {p : Addr} {xs : List V} {k : Int} {j : Nat} {M : Lg} {Q : Lg → Prop} (m : (p, HO.lst xs) ∈ L) (hi : ixN xs.length k = some j) (sw : Swap p (.lst (xs.set j v)) L M) (q : Q M) : GSt X (.ref p) (.int k) v L Q :=
  fun pins s σ H ov iv u hH I r1 r2 r3 => (show PSet X rSetL from set_list) pins s σ H (.ref p) (.int k) v ov iv u _ I r1 r2 r3 ⟨p, xs, k, j, rfl, rfl, hH.get m, hi, M, hH.swap sw, q⟩
theorem gst_30 {p : Addr} {a b c : V} {M : Lg} {Q : Lg → Prop} (m : (p, HO.lst [a, b, c]) ∈ L) (sw : Swap p (.lst [v, b, c]) L M) (q : Q M) : GSt X (.ref p) (.int 0) v L Q := gst_lst (j := 0) m rfl sw q
theorem gst_31 {p : Addr} {a b c : V} {M : Lg} {Q : Lg → Prop} (m : (p, HO.lst [a, b, c]) ∈ L) (sw : Swap p (.lst [a, v, c]) L M) (q : Q M) : GSt X (.ref p) (.int 1) v L Q := gst_lst (j := 1) m rfl sw q
theorem gst_32 {p : Addr} {a b c : V} {M : Lg} {Q : Lg → Prop} (m : (p, HO.lst [a, b, c]) ∈ L) (sw : Swap p (.lst [a, b, v]) L M) (q : Q M) : GSt X (.ref p) (.int 2) v L Q := gst_lst (j := 2) m rfl sw q
theorem gg_sub {o i : Expr} {Q : En → Lg → Prop} (h : GE X o η L fun x L1 => GE X i η L1 fun y L2 => GSt X x y v L2 fun L3 => Q η L3)
    (ha : ∀ v, assign (.Subscript o i pos) X.env v = (do
      let ov ← holding [v] (eval o X.env)
      let iv ← holding [v, ov] (eval i X.env)
      standAt pos
      holding [v, ov, iv] (setItem ov iv v)
      release [v, ov, iv] []) := by intro _; rfl) : GG X (.Subscript o i pos) v η L Q := fun hN H hH =>
  WG.of (pg_sub (t := fun x y z H' Q' => ∀ pins s σ ov iv u, Inv X pins σ H' s → RelV x ov → RelV y iv → RelV z u → wpAny (model X.prog X.w) X.A (setItem ov iv u) (fun _ s' => ∃ H'', Inv X pins σ H'' s' ∧ Q' H'') X.xe s)
    pe_W pe_W (fun pins s σ H' x y z ov iv u Q' I r1 r2 r3 q => q pins s σ ov iv u I r1 r2 r3) ha)
    (h.then hN hH fun _ _ _ h1 q1 => q1.then hN h1 fun _ _ _ h2 q2 => fun pins s σ ov iv u I r1 r2 r3 =>
      thn (q2 pins s σ _ ov iv u h2 I r1 r2 r3) fun _ _ ⟨H3, J, L3, h3, q3⟩ => ⟨H3, J, η, L3, hN, rfl, h3, q3⟩)
theorem GS.run {σ : L2.St} {H : Hp} (h : GS X st D η L) (hN : X.N = names η) (hH : Has H L) : WS X st (D.ends X) (vals η) H := h hN H hH
theorem SPm {pins : List (Addr × Obj)} {D D' : Ends} {f : Flow} {s : Shared} (h : SP X pins D f s) (nx : ∀ σ H, D.nx σ H → D'.nx σ H) (rt : ∀ v H, D.rt v H → D'.rt v H) (bk : ∀ σ H, D.bk σ H → D'.bk σ H) (ct : ∀ σ H, D.ct σ H → D'.ct σ H) : SP X pins D' f s := by
  cases f with
  | next => obtain ⟨σ', H', I, q⟩ := h; exact ⟨σ', H', I, nx _ _ q⟩
  | brk => obtain ⟨σ', H', I, q⟩ := h; exact ⟨σ', H', I, bk _ _ q⟩
  | cont => obtain ⟨σ', H', I, q⟩ := h; exact ⟨σ', H', I, ct _ _ q⟩
  | ret u => obtain ⟨v, σ', H', I, r, q⟩ := h; exact ⟨v, σ', H', I, r, rt _ _ q⟩
theorem WS.mono {σ : L2.St} {H : Hp} {D D' : Ends} (h : WS X st D σ H) (nx : ∀ σ H, D.nx σ H → D'.nx σ H) (rt : ∀ v H, D.rt v H → D'.rt v H) (bk : ∀ σ H, D.bk σ H → D'.bk σ H) (ct : ∀ σ H, D.ct σ H → D'.ct σ H) : WS X st D' σ H :=
  fun pins s I => thn (h pins s I) fun _ _ z => SPm z nx rt bk ct
theorem WSs.mono {σ : L2.St} {H : Hp} {D D' : Ends} {sts : List Stmt} (h : WSs X sts D σ H) (nx : ∀ σ H, D.nx σ H → D'.nx σ H) (rt : ∀ v H, D.rt v H → D'.rt v H) (bk : ∀ σ H, D.bk σ H → D'.bk σ H) (ct : ∀ σ H, D.ct σ H → D'.ct σ H) : WSs X sts D' σ H :=
  fun pins s I => thn (h pins s I) fun _ _ z => SPm z nx rt bk ct
theorem gss_nil (q : D.nx η L) : GSs X [] D η L := fun hN H hH => WSs.of pss_nil ⟨η, L, hN, rfl, hH, q⟩
theorem gss_cons (h : GS X st { D with nx := fun θ L1 => GSs X rest D θ L1 } η L) : GSs X (st :: rest) D η L := fun hN H hH =>
  WSs.of (pss_cons ps_W pss_W) ((h hN H hH).mono (fun σ1 H1 ⟨θ, L1, n1, es, h1, q1⟩ => by
    rw [es]
    exact q1 n1 H1 h1) (fun _ _ z => z) (fun _ _ z => z) fun _ _ z => z)
theorem GS.cut (M : En → Lg → Prop) {Q : En → Lg → Prop} (h : GS X st { D with nx := M } η L) (k : ∀ θ L1, M θ L1 → Q θ L1) (e : D.nx = Q := by rfl) : GS X st D η L := fun hN H hH =>
  (h hN H hH).mono (fun σ1 H1 ⟨θ, L1, n1, es, h1, q1⟩ => ⟨θ, L1, n1, es, h1, by rw [e]; exact k θ L1 q1⟩) (fun _ _ z => z) (fun _ _ z => z) fun _ _ z => z
theorem GSs.sub {M : Lg} {sts : List Stmt} (s : Sub M L) (h : GSs X sts D η M) : GSs X sts D η L := fun hN H hH => h hN H (s H hH)
theorem GS.sub {M : Lg} (s : Sub M L) (h : GS X st D η M) : GS X st D η L := fun hN H hH => h hN H (s H hH)
theorem gs_pass (q : D.nx η L) : GS X (.Pass pos) D η L := fun hN H hH => WS.of ps_pass ⟨η, L, hN, rfl, hH, q⟩
theorem gs_break (q : D.bk η L) : GS X (.Break pos) D η L := fun hN H hH => WS.of ps_break ⟨η, L, hN, rfl, hH, q⟩
theorem gs_continue (q : D.ct η L) : GS X (.Continue pos) D η L := fun hN H hH => WS.of ps_continue ⟨η, L, hN, rfl, hH, q⟩
theorem gs_expr (h : GE X e η L fun _ L1 => D.nx η L1) (hs : swapsWith e none pos.line X.env = pure false := by rfl) : GS X (.Expr e pos) D η L := fun hN H hH =>
  WS.of (ps_expr pe_W hs) (h.then hN hH fun _ L1 H1 h1 q1 => ⟨η, L1, hN, rfl, h1, q1⟩)
theorem gs_ret (h : GE X e η L D.rt) : GS X (.Return (some e) pos) D η L := fun hN H hH => WS.of (ps_ret pe_W) (h hN H hH)
theorem gs_retN (q : D.rt .non L) : GS X (.Return none pos) D η L := fun hN H hH => WS.of ps_retN ⟨L, hH, q⟩
theorem gs_if {p q : List Stmt} (h : GT X c η L fun k L1 => if k = true then GSs X p D η L1 else GSs X q D η L1) : GS X (.If c p q pos) D η L := fun hN H hH =>
  WS.of (ps_if pt_W pss_W pss_W) (h.then hN hH fun k L1 H1 h1 q1 => by
    cases k with
    | true => exact q1 hN H1 h1
    | false => exact q1 hN H1 h1)
/-- x = e, x a name of the def's own -/
theorem gs_set {x : Str} {f : V → En} {pos' : Pos} (p : PutF x η f) (h : GE X e η L fun v L1 => D.nx (f v) L1) (hn : X.N.Nodup := by assumption) (hx : Loc X.env.scope x := by first | exact Or.inl rfl | exact Or.inr rfl)
    (hs : swapsWith e (some (.Name x pos')) pos.line X.env = pure false := by rfl) (hf : X.fn x = true ∨ X.env.scope.names.lookup x = some .local := by first | exact .inl rfl | exact .inr rfl) : GS X (.Assign [.Name x pos'] e pos) D η L := fun hN H hH => by
  obtain ⟨i, h1, h2⟩ := p.idx
  refine WS.of (ps_set (i := i) hn (by rw [hN]; exact h1) hx pe_W hs hf) (h.then hN hH fun v L1 H1 g1 q1 => ?_)
  show upS X D.nx ((vals η).set i (some v)) H1
  exact ⟨f v, L1, by rw [(h2 v).2]; exact hN, (h2 v).1.symm, g1, q1⟩
/-- x op= y, by values -/
def GIp (X : Cx) (op : Operator) (x y : V) (L : Lg) (Q : QV) : Prop := ∀ pins s σ H v u, Has H L → Inv X pins σ H s → RelV x v → RelV y u → wpAny (model X.prog X.w) X.A (inplaceOp op v u) (EP X pins σ (up Q)) X.xe s
theorem gp_add {i j : Int} {Q : QV} (h : Q (.int (i + j)) L) : GIp X .Add (.int i) (.int j) L Q := fun pins s σ H v u hH I r1 r2 => (show PIp X .Add (ipI fun i j => i + j) from ip_add) pins s σ H _ _ v u _ I r1 r2 ⟨i, j, rfl, rfl, L, hH, h⟩
theorem gp_sub {i j : Int} {Q : QV} (h : Q (.int (i - j)) L) : GIp X .Sub (.int i) (.int j) L Q := fun pins s σ H v u hH I r1 r2 => (show PIp X .Sub (ipI fun i j => i - j) from ip_sub) pins s σ H _ _ v u _ I r1 r2 ⟨i, j, rfl, rfl, L, hH, h⟩
/-- x op= e -/
theorem gs_aug {x : Str} {y : V} {f : V → En} {pos' : Pos} {op : Operator} (r : At x y η) (p : PutF x η f)
    (h : GE X e η L fun z L1 => GIp X op y z L1 fun w L2 => D.nx (f w) L2)
    (hn : X.N.Nodup := by assumption) (hx : Loc X.env.scope x := by first | exact Or.inl rfl | exact Or.inr rfl) (hf : X.fn x = true ∨ X.env.scope.names.lookup x = some .local := by first | exact .inl rfl | exact .inr rfl) : GS X (.AugAssign (.Name x pos') op e pos) D η L := fun hN H hH => by
  obtain ⟨i, h1, h2⟩ := p.idx
  obtain ⟨j, g1, g2⟩ := r.idx
  have ij : i = j := by
    have h1' : X.N[i]? = some x := by rw [hN]; exact h1
    have g1' : X.N[j]? = some x := by rw [hN]; exact g1
    obtain ⟨a1, a2⟩ := List.getElem?_eq_some_iff.mp h1'
    obtain ⟨b1, b2⟩ := List.getElem?_eq_some_iff.mp g1'
    exact (List.getElem_inj hn).mp (a2.trans b2.symm)
  subst ij
  refine WS.of (ps_aug (i := i) (ti := fun a b H' Q' => ∀ pins s σ v u, Inv X pins σ H' s → RelV a v → RelV b u → wpAny (model X.prog X.w) X.A (inplaceOp op v u) (EP X pins σ Q') X.xe s) hn (by rw [hN]; exact h1) hx pe_W
    (fun pins s σ H' a b v u Q' I r1 r2 q => q pins s σ v u I r1 r2) hf) ⟨y, g2, ?_⟩
  refine h.then hN hH fun z L1 H1 k1 q1 => fun pins s σ v u I r1 r2 => ?_
  refine thn (q1 pins s σ H1 v u k1 I r1 r2) fun w _ ⟨x', H2, J, r3, L2, k2, q2⟩ => ⟨x', H2, J, r3, ?_⟩
  show upS X D.nx ((vals η).set i (some x')) H2
  exact ⟨f x', L2, by rw [(h2 x').2]; exact hN, (h2 x').1.symm, k2, q2⟩
/-- a, b = x, y (both written) -/
theorem gs_par {x y : Str} {f : V → En} {g : V → V → En} {px py pt pos : Pos} {kt k2 pt2} (p : PutF x η f) (q : ∀ v, PutF y (f v) (g v)) (h : GA X [a, b] η L fun vs L1 => ∃ v w, vs = [v, w] ∧ D.nx (g v w) L1)
    (hw : swappedStores [.Tuple [.Name x px, .Name y py] kt pt] (.Tuple [a, b] k2 pt2) X.env = pure (some [x, y]) := by rfl) (hxy : x ≠ y := by decide +kernel) (hn : X.N.Nodup := by assumption) (hc : X.calm = true := by rfl)
    (hx : X.env.scope.names.lookup x = some .local := by rfl) (hy : X.env.scope.names.lookup y = some .local := by rfl)
    (hs : swapsWithSole [.Tuple [.Name x px, .Name y py] kt pt] (.Tuple [a, b] k2 pt2) pos.line X.env = pure false := by rfl) :
    GS X (.Assign [.Tuple [.Name x px, .Name y py] kt pt] (.Tuple [a, b] k2 pt2) pos) D η L := fun hN H hH => by
  obtain ⟨i, h1, h2⟩ := p.idx
  obtain ⟨j, g1⟩ : ∃ j : Nat, ∀ v, (names (f v))[j]? = some y ∧ ∀ w, vals (g v w) = (vals (f v)).set j (some w) ∧ names (g v w) = names (f v) := by
    obtain ⟨j, k1, k2⟩ := (q .non).idx
    refine ⟨j, fun v => ?_⟩
    obtain ⟨j', m1, m2⟩ := (q v).idx
    have e : j = j' := by
      rw [(h2 .non).2] at k1
      rw [(h2 v).2] at m1
      have k1' : X.N[j]? = some y := by rw [hN]; exact k1
      have m1' : X.N[j']? = some y := by rw [hN]; exact m1
      obtain ⟨a1, a2⟩ := List.getElem?_eq_some_iff.mp k1'
      obtain ⟨b1, b2⟩ := List.getElem?_eq_some_iff.mp m1'
      exact (List.getElem_inj hn).mp (a2.trans b2.symm)
    subst e
    exact ⟨m1, m2⟩
  have hi : X.N[i]? = some x := by rw [hN]; exact h1
  have hj : X.N[j]? = some y := by
    have z := (g1 .non).1
    rw [(h2 .non).2] at z
    rw [hN]
    exact z
  have hij : i ≠ j := fun e => hxy (by rw [e, hj] at hi; exact (Option.some.inj hi).symm)
  refine WS.of (ps_par (i := i) (j := j) hc hn hi hj hij hx hy pa_W hw hs) (h.then hN hH fun vs L1 H1 k1 ⟨v, w, e1, q1⟩ => ⟨v, w, e1, ?_⟩)
  show upS X D.nx (((vals η).set i (some v)).set j (some w)) H1
  refine ⟨g v w, L1, ?_, ?_, k1, q1⟩
  · rw [((g1 v).2 w).2, (h2 v).2]
    exact hN
  · rw [((g1 v).2 w).1, (h2 v).1]
end
section
variable {X : Cx} {η : En} {L : Lg} {e a b c tg iter : Expr} {pos : Pos} {body : List Stmt} {D : GD}
theorem gs_asg (h : GE X e η L fun v L1 => GG X tg v η L1 D.nx) (hs : swapsWithSole [tg] e pos.line X.env = pure false := by rfl) (hw : swappedStores [tg] e X.env = pure none := by rfl)
    (h1 : (assignEach [tg] X.env).map (·.2) = [assign tg X.env] := by rfl) : GS X (.Assign [tg] e pos) D η L := fun hN H hH =>
  WS.of (ps_asg pe_W pg_W hs hw h1) (h.then hN hH fun v L1 H1 k1 q1 => q1 hN H1 k1)
/-- a loop's invariant: Pv by the turn -/
structure LoopBy (X : Cx) (tg : Expr) (body : List Stmt) (D : GD) (item : Nat → V → Prop) (n : Nat) (η : En) (L : Lg) (Pv : Nat → En → Lg → Prop) : Prop where
  h0 : Pv 0 η L
  hs : ∀ i x θ M, i < n → item i x → Pv i θ M → GG X tg x θ M fun θ' M' => GSs X body { nx := Pv (i + 1), rt := D.rt, bk := D.nx, ct := Pv (i + 1) } θ' M'
  hd : ∀ θ M, Pv n θ M → D.nx θ M
/-- one turn, as the library's loops ask it -/
theorem turn {item : Nat → V → Prop} {n : Nat} {Pv : Nat → En → Lg → Prop} (l : LoopBy X tg body D item n η L Pv) {i : Nat} {x : V} {σ : L2.St} {H : Hp} (hi : i < n) (hx : item i x) (p : upS X (Pv i) σ H) :
    WG X tg x σ H fun σ2 H2 => WSs X body { D.ends X with nx := upS X (Pv (i + 1)), ct := upS X (Pv (i + 1)), bk := (D.ends X).nx } σ2 H2 := by
  obtain ⟨θ, M, n1, es, h1, q1⟩ := p
  rw [es]
  exact (l.hs i x θ M hi hx q1).then n1 h1 fun θ' M' H2 n2 h2 q2 => q2 n2 H2 h2
/-- while: the word Pv with its measure as a part -/
theorem gs_while (Pv : Nat → En → Lg → Prop) (m0 : Nat) (h0 : Pv m0 η L)
    (hs : ∀ m θ M, Pv m θ M → GT X c θ M fun k M1 => if k = true then GSs X body { nx := fun θ' M' => ∃ m', m' < m ∧ Pv m' θ' M', rt := D.rt, bk := D.nx, ct := fun θ' M' => ∃ m', m' < m ∧ Pv m' θ' M' } θ M1 else D.nx θ M1)
    (hp : PassesOwn (model X.prog X.w) X.A X.env X.xe := by first | exact PassesOwn.never | exact passes_of rfl | assumption) : GS X (.While c body [] pos) D η L := fun hN H hH =>
  WS.of (ps_while hp pt_W pss_W) ⟨fun m => upS X (Pv m), ⟨m0, η, L, hN, rfl, hH, h0⟩, fun m σ H1 ⟨θ, M, n1, es, h1, q1⟩ => by
    rw [es]
    refine (hs m θ M q1).then n1 h1 fun k M1 H2 h2 q2 => ?_
    cases k with
    | true =>
      refine ⟨upS X fun θ' M' => ∃ m', m' < m ∧ Pv m' θ' M', fun σ' H' ⟨θ', M', n', e', h', m', hlt, q'⟩ => ⟨m', hlt, θ', M', n', e', h', q'⟩, ?_⟩
      exact q2 n1 H2 h2
    | false => exact ⟨θ, M1, n1, rfl, h2, q2⟩⟩
end
abbrev XL := Value → Option Addr → Lg → Prop
abbrev SpL := List V → Lg → QV → XL → Prop
/-- a promise over ledgers, as the library's -/
def toSp (sp : SpL) : Sp := fun vs H Q E => ∃ L Ql El, Has H L ∧ sp vs L Ql El ∧ (∀ v L' H', Has H' L' → Ql v L' → Q v H') ∧ ∀ c d L' H', Has H' L' → El c d L' → E c d H'
section
variable {P : Program} {w : World} {K : PySem.W.Frag} {mg : Str → Option Value} {base : Heap}
/-- the def x of the text as it stands behind the top -/
def Df (K : PySem.W.Frag) (mg : Str → Option Value) (x : Str) (st : Stmt) : Prop := ∃ f fd, mg x = some (.ref f) ∧ Fun K x x st f fd
/-- room for calls, and no repr that is under way -/
structure RoomG (k : Nat) (A : Around) : Prop extends Room k A where
  gd : A.guards = some []
theorem RoomG.mono {j k : Nat} {A : Around} (r : RoomG k A) (h : j ≤ k) : RoomG j A := ⟨r.toRoom.mono h, r.gd⟩
/-- what is at f keeps its promise; args: how the call's values are handed over -/
def RunG (P : Program) (w : World) (K : PySem.W.Frag) (mg : Str → Option Value) (base : Heap) (CX : CXT) (k : Nat) (f : Addr) (args : List Value → Args) (sp : Sp) : Prop :=
  ∀ (A : Around) (outer : List Env) (s : Shared) (H : Hp) (us : List Value) (vs : List V) (Q : VK) (E : XK), RoomG k A → Env0 P w K mg base A outer s H → Vals vs us → sp vs H Q E → codeAny (model P w) A (.call (.ref f) (args us)) (CR CX outer P w H s Q E) s
abbrev argsP : List Value → Args := fun us => ⟨us, []⟩
abbrev argsK (n : Nat) (ks : List Str) : List Value → Args := fun us => ⟨us.take n, ks.zip (us.drop n)⟩
theorem RunG.imp {CX : CXT} {k : Nat} {f : Addr} {args : List Value → Args} {sp sp' : Sp} (F : RunG P w K mg base CX k f args sp) (h : ∀ vs H Q E, sp' vs H Q E → sp vs H Q E) : RunG P w K mg base CX k f args sp' := fun A outer s H us vs Q E hr e0 r hs => F A outer s H us vs Q E hr e0 r (h _ _ _ _ hs)
theorem RunG.mono {CX : CXT} {j k : Nat} {f : Addr} {args : List Value → Args} {sp : Sp} (F : RunG P w K mg base CX j f args sp) (h : j ≤ k) : RunG P w K mg base CX k f args sp := fun A outer s H us vs Q E hr => F A outer s H us vs Q E (hr.mono h)
/-- the def x keeps its promise -/
def FnA (P : Program) (w : World) (K : PySem.W.Frag) (mg : Str → Option Value) (base : Heap) (CX : CXT) (x : Str) (k : Nat) (args : List Value → Args) (sp : SpL) : Prop := ∃ f, mg x = some (.ref f) ∧ PySem.W.keepIn K (.ref f) = true ∧ RunG P w K mg base CX k f args (toSp sp)
abbrev Fn (P : Program) (w : World) (K : PySem.W.Frag) (mg : Str → Option Value) (base : Heap) (CX : CXT) (x : Str) (k : Nat) (sp : SpL) : Prop := FnA P w K mg base CX x k argsP sp
/-- what is left over may be dropped -/
def drp (Q : QV) : QV := fun v L => ∃ M, Sub M L ∧ Q v M
def bodyD (Q : QV) : GD := { nx := fun _ L => drp Q .non L, rt := drp Q, bk := fun _ _ => False, ct := fun _ _ => False }
def begun (N : List Str) (vs : List V) : En := N.zip (L2.start N vs)
theorem names_begun {N : List Str} {vs : List V} (h : vs.length ≤ N.length) : names (begun N vs) = N ∧ vals (begun N vs) = L2.start N vs := by
  have l : (L2.start N vs).length = N.length := by
    unfold L2.start
    rw [List.length_append, List.length_map, List.length_replicate]
    omega
  unfold names vals begun
  exact ⟨List.map_fst_zip (Nat.le_of_eq l.symm), List.map_snd_zip (Nat.le_of_eq l)⟩
/-- where the body of such a def stands -/
def cx0 (P : Program) (w : World) (K : PySem.W.Frag) (mg : Str → Option Value) (base : Heap) (N : List Str) (x : Str) (sc : Scope) (f : Addr) (cdv : Value) (A : Around) (outer : List Env) (s : Shared) (H : Hp) (E0 : XK) : Cx := (cxOf CX0 P w K mg base N x sc f cdv A outer s H E0).nox
/-- what a body shows, as the library wants it -/
theorem body_end {X : Cx} {st : List Stmt} {vs : List V} {H : Hp} {Q : VK} {Ql : QV} (hl : vs.length ≤ X.N.length) (hq : ∀ v L' H', Has H' L' → Ql v L' → Q v H') {L : Lg} (hH : Has H L) (h : GSs X st (bodyD Ql) (begun X.N vs) L) :
    WSs X st { nx := fun _ H' => Q .non H', rt := Q } (L2.start X.N vs) H := by
  have z := h (by rw [(names_begun hl).1] <;> rfl) H hH
  rw [(names_begun hl).2] at z
  refine z.mono (fun σ H' hh => ?_) (fun v H' hh => ?_) (fun _ _ hh => ?_) (fun _ _ hh => ?_)
  · obtain ⟨θ, M, _, _, h', M', sb, q⟩ := hh
    exact hq _ M' H' (sb _ h') q
  · obtain ⟨M, h', M', sb, q⟩ := hh
    exact hq _ M' H' (sb _ h') q
  · obtain ⟨_, _, _, _, _, q⟩ := hh
    exact q.elim
  · obtain ⟨_, _, _, _, _, q⟩ := hh
    exact q.elim
theorem guard_deeper {A : Around} {e : Env} (h : A.guards = some []) : (A.deeper e).guards = some [] := h
/-- what a promise's body is shown of -/
abbrev BodyOf (P : Program) (w : World) (K : PySem.W.Frag) (mg : Str → Option Value) (base : Heap) (N : List Str) (q : Str) (st : Stmt) (k : Nat) (sp : SpL) : Prop :=
  ∀ (X : Cx) (f : Addr) (cdv : Value) (A : Around) (outer : List Env) (s : Shared) (H : Hp) (E0 : XK) (L : Lg) (vs : List V) (Q : QV) (E : XL), X = cx0 P w K mg base N q (defScope st) f cdv A outer s H E0 → X.N.Nodup → RoomG k X.A → sp vs L Q E → GSs X (defBody st) (bodyD Q) (begun N vs) L
theorem run_plain {x q : Str} {st : Stmt} {f : Addr} {fd : FuncData} {N ps : List Str} {k : Nat} {sp : SpL} (F : Fun K x q st f fd) (S : FnScope N ps (defScope st)) (args : List Value → Args) (pmV : List V → List V) (pmU : List Value → List Value) (hpm : ∀ vs us, Vals vs us → Vals (pmV vs) (pmU us))
    (hb : ∀ (kV doc pm : Value) (an : Option Addr) (cdv ct : Value) (us : List Value), (pmU us).length = ps.length → bindArgs (PySem.W.fnOf x q (defArgs st) (defBody st) (defScope st) .none kV doc pm an cdv ct) (args us) = pure (ps.zip (pmU us)))
    (hl : ps.length ≤ N.length) (len : ∀ vs L Q E, sp vs L Q E → vs.length = ps.length) (body : BodyOf P w K mg base N q st k sp) : RunG P w K mg base CX0 (k + 1) f args (fun vs => toSp sp (pmV vs)) := by
  obtain ⟨oc, od, kV, doc, pm, an, cdv, ct, osl, rfl, lk, hcd⟩ := F.ex
  intro A outer s H us vs Q E hr e0 r hsp
  obtain ⟨L, Ql, El, hH, h, hq, _⟩ := hsp
  have hn : (pmV vs).length = ps.length := len _ L Ql El h
  have r2 := hpm vs us r
  have hlv : (pmV vs).length ≤ N.length := by
    rw [hn]
    exact hl
  exact LamX.run_ofS (CX := CX0) lk hcd S hr.toRoom e0 (.of_eq (hb kV doc pm an cdv ct us (by rw [← r2.length]; exact hn))) r2 hn fun hr2 =>
    ⟨WSs _ (defBody st), PSs.nox pss_W, body_end (X := cx0 P w K mg base N q (defScope st) f cdv A outer s H E) hlv hq hH (body _ f cdv A outer s H E L (pmV vs) Ql El rfl S.nd ⟨hr2, guard_deeper hr.gd⟩ h)⟩
/-- THE RULE for a def that lets no exception out -/
theorem fn_plain {x : Str} {st : Stmt} {N ps : List Str} {k : Nat} {sp : SpL} (F : Df K mg x st) (S : FnScope N ps (defScope st))
    (hb : ∀ (kV doc pm : Value) (an : Option Addr) (cdv ct : Value) (us : List Value), us.length = ps.length → bindArgs (PySem.W.fnOf x x (defArgs st) (defBody st) (defScope st) .none kV doc pm an cdv ct) ⟨us, []⟩ = pure (ps.zip us))
    (hl : ps.length ≤ N.length) (len : ∀ vs L Q E, sp vs L Q E → vs.length = ps.length) (body : BodyOf P w K mg base N x st k sp) : Fn P w K mg base CX0 x (k + 1) sp := by
  obtain ⟨f, fd, hm, F⟩ := F
  exact ⟨f, hm, F.kp, run_plain F S argsP id id (fun _ _ r => r) hb hl len body⟩
end
def NoX : XL := fun _ _ _ => False
def upX (E : XL) : XK := fun c d H => ∃ L, Has H L ∧ E c d L
section
variable {X : Cx} {η : En} {L : Lg} {Q : QV} {El : XL} {CX : CXT} {x : Str} {j k : Nat} {sp : SpL} {e o : Expr} {es : List Expr} {pos p apos : Pos}
theorem passA {E : XK} : Passes CX0 X E := fun _ _ _ _ _ _ _ h => h.elim
theorem passN : Passes (L2.CX X.prog X.w) X (upX NoX) := fun _ _ _ _ _ _ _ h => by
  obtain ⟨_, _, _, _, _, _, _, _, _, _, _, _, _, _, z⟩ := h
  exact z.elim
theorem up_sp {vs : List V} {H : Hp} (hH : Has H L) (h : sp vs L Q El) : toSp sp vs H (up Q) (upX El) := ⟨L, Q, El, hH, h, fun _ L' _ h' q => ⟨L', h', q⟩, fun _ _ L' _ h' q => ⟨L', h', q⟩⟩
/-- a call that got its values -/
theorem run_G {pins : List (Addr × Obj)} {σ : L2.St} {H : Hp} {s : Shared} {f : Addr} {args : List Value → Args} {us : List Value} {vs : List V} {sp : Sp} {E : XK} {Q : VK} (F : RunG X.prog X.w X.K X.mg X.base CX k f args sp) (hr : RoomG k X.A) (hx : Passes CX X E) (I : Inv X pins σ H s) (r : Vals vs us) (h : sp vs H Q E) :
    wpAny (model X.prog X.w) X.A (call (.ref f) (args us).pos (args us).kw) (EP X pins σ Q) X.xe s := by
  refine wpAny_call (codeAny_mono (F X.A X.stack s H us vs Q E hr I.env0 r h) fun r' s' hq => ?_)
  cases r' with
  | error e => exact hx pins σ H s e s' I hq
  | ok fl =>
    cases fl with
    | ret u => exact I.after hq
    | next => exact hq.elim
    | brk => exact hq.elim
    | cont => exact hq.elim
theorem ge_call (F : Fn X.prog X.w X.K X.mg X.base CX x k sp) (hr : RoomG j X.A) (hx : Passes CX X (upX El)) (h : GA X (e :: es) η L fun vs L1 => sp vs L1 Q El) (hjk : k ≤ j := by decide) (hg : Gl X x := by rfl) (hd : (x == ("__debug__" : Str)) = false := by decide)
    (he : starEach (e :: es) X.env = (false, eval e X.env) :: starEach es X.env := by rfl) (hpl : (backTo pos (starEach es X.env)).any (·.1) = false := by rfl) : GE X (.Call (.Name x p) (e :: es) [] pos) η L Q := fun hN H hH pins s I => by
  obtain ⟨f, hm, hk, F⟩ := F
  refine wpAny_Call_Name_kw (ld_glob I hg hm ?_ hd)
  refine PySem.W.callWith_K (h₀ := X.base) I.ok.mod.kin hk ?_ he hpl
  refine thn (h hN H hH pos pins s I) fun us s1 ⟨vs, H1, J, r, L1, h1, q⟩ => ⟨J.kIn, ?_⟩
  exact run_G (args := argsP) F (hr.mono hjk) hx J r (up_sp h1 q)
/-- xs.append(e) -/
theorem ge_append (h : GE X o η L fun v L1 => ∃ l zs, v = .ref l ∧ (l, HO.lst zs) ∈ L1 ∧ GE X e η L1 fun y L2 => ∃ xs M, (l, HO.lst xs) ∈ L2 ∧ xs.length < sizeLine ∧ Swap l (.lst (xs ++ [y])) L2 M ∧ Q .non M)
    (hbase : attributeBase o "append" X.env (eval o X.env) = eval o X.env := by rfl)
    (hfew : ((backTo pos (starEach [e] X.env)).all (fun x => !x.1) && (backToKw pos (keywordEach [] X.env)).all (fun x => x.1.isSome)
      && decide ([e].length + ([] : List Keyword).length + (if ([] : List Keyword).isEmpty then 0 else 1) < 30)) = true := by rfl)
    (hline : (apos.endLine == pos.line) = true := by rfl) (hs : starEach [e] X.env = (false, eval e X.env) :: starEach [] X.env := by rfl) : GE X (.Call (.Attribute o "append" apos) [e] [] pos) η L Q := fun hN H hH =>
  WE.of (pe_bm PySem.F.plainAttrs_list PySem.F.slot_list_append PySem.F.type_list_append mt_append pe_W (pa_cons pe_W pa_nil hs) hbase hfew hline hs rfl) (h.then hN hH fun v L1 H1 k1 ⟨l, zs, ev, m, q⟩ => by
    subst ev
    exact ⟨.inl ⟨rfl, zs, sql k1 m⟩, q.then hN k1 fun y L2 H2 k2 ⟨xs, M, m2, z, sw, q2⟩ => ⟨l, xs, y, rfl, rfl, k2.get m2, z, M, k2.swap sw, q2⟩⟩)
/-- a slice with both ends left out, or written -/
def GPart (X : Cx) (o : Option Expr) (η : En) (L : Lg) (Q : Option Int → Lg → Prop) : Prop := match o with
  | none => Q none L
  | some e => GE X e η L fun v L1 => ∃ i, v = .int i ∧ Q (some i) L1
def WPart (X : Cx) (o : Option Expr) : TO := match o with
  | none => tNoPart
  | some e => tPart (WE X e)
theorem po_W {o : Option Expr} : PO X o (WPart X o) := by
  cases o with
  | none => exact po_none
  | some e => exact po_some pe_W
theorem GPart.then {o : Option Expr} {Q : Option Int → Lg → Prop} {Q' : Option Int → Hp → Prop} (h : GPart X o η L Q) (hN : X.N = names η) {H : Hp} (hH : Has H L) (m : ∀ v L1 H1, Has H1 L1 → Q v L1 → Q' v H1) : WPart X o (vals η) H Q' := by
  cases o with
  | none => exact m none L H hH h
  | some e => exact GE.then h hN hH fun v L1 H1 h1 ⟨i, ei, q⟩ => ⟨i, ei, m _ L1 H1 h1 q⟩
def InL (K : PySem.W.Frag) (L : Lg) (p : Addr) (xs : List V) : Prop := ∀ H, Has H L → SqL K H p xs
theorem ge_sliceL {lo hi : Option Expr} {p2 : Pos} (h : GE X e η L fun v L1 => ∃ p xs, v = .ref p ∧ GPart X lo η L1 fun i L2 => GPart X hi η L2 fun j L3 => InL X.K L3 p xs ∧ ∀ q, Q (.ref q) ((q, .lst (cutV xs i j)) :: L3)) : GE X (.Subscript e (.Slice lo hi none p2) pos) η L Q := fun hN H hH =>
  WE.of (pe_slice sl_list pe_W po_W po_W) (h.then hN hH fun v L1 H1 k1 ⟨p, xs, ev, q⟩ => q.then hN k1 fun i L2 H2 k2 q2 => q2.then hN k2 fun j L3 H3 k3 ⟨m, q3⟩ => ⟨p, xs, ev, m H3 k3, fun r hr => ⟨_, k3.new hr, q3 r⟩⟩)
end
/-- def f(*v) -/
def spStar (sp : SpL) : SpL := fun vs L Q E => vs.length ≤ sizeLine ∧ ∀ p, sp [.ref p] ((p, .tup vs) :: L) Q E
theorem bind_star0 {B : List Value → Sem (List (Str × Value))} {pv : Str} (h0 : B [] = (newTuple [] >>= fun t => pure [(pv, t)])) (h1 : ∀ r rs, B (r :: rs) = (newTuple (r :: rs) >>= fun t => pure [(pv, t)])) :
    ∀ us rest : List Value, us.length = ([] : List Str).length → B (us ++ rest) = (newTuple rest >>= fun t => pure (([] : List Str).zip us ++ [(pv, t)]))
  | [], [], _ => h0
  | [], r :: rs, _ => h1 r rs
section
variable {P : Program} {w : World} {K : PySem.W.Frag} {mg : Str → Option Value} {base : Heap}
/-- values, then a tuple of the rest -/
theorem run_starred {x q pv : Str} {st : Stmt} {f : Addr} {fd : FuncData} {N ps : List Str} {k : Nat} {sp : SpL} (F : Fun K x q st f fd) (S : FnScope N (ps ++ [pv]) (defScope st))
    (hb : ∀ (kV doc pm : Value) (an : Option Addr) (cdv ct : Value) (us rest : List Value), us.length = ps.length → bindArgs (PySem.W.fnOf x q (defArgs st) (defBody st) (defScope st) .none kV doc pm an cdv ct) ⟨us ++ rest, []⟩ = (newTuple rest >>= fun t => pure (ps.zip us ++ [(pv, t)])))
    (hl : ps.length + 1 ≤ N.length) (body : BodyOf P w K mg base N q st k sp) (len : ∀ vs L Q E, sp vs L Q E → vs.length = ps.length + 1) : RunG P w K mg base CX0 (k + 1) f argsP (toSp fun vs L Q E => ∃ ws rest, vs = ws ++ rest ∧ ws.length = ps.length ∧ rest.length ≤ sizeLine ∧ ∀ p, sp (ws ++ [.ref p]) ((p, .tup rest) :: L) Q E) := by
  obtain ⟨oc, od, kV, doc, pm, an, cdv, ct, osl, rfl, lk, hcd⟩ := F.ex
  intro A outer s H us vs Q E hr e0 r hsp
  obtain ⟨L, Ql, El, hH, ⟨ws, rest, ev, hlw, hz, hs⟩, hq, _⟩ := hsp
  subst ev
  obtain ⟨u1, u2, eu, r1, r2⟩ := StX.vals_split r
  subst eu
  have hn : H s.heap.objs.size = none := e0.hok.fresh (Nat.le_refl _)
  have hl1 : u1.length = ps.length := by
    rw [← r1.length]
    exact hlw
  have hl2 : u2.length ≤ sizeLine := by
    rw [← r2.length]
    exact hz
  refine StX.run_bnd (CX := CX0) lk hcd S hr.toRoom e0 (G := fun xs H2 => ∃ p, H p = none ∧ xs = ws ++ [V.ref p] ∧ H2 = upd H p (.tup rest)) (fun A' Ex Q' h => ?_) fun s2 H2 xs ⟨p, hp, ex, eH⟩ hr' => ?_
  · rw [show bindArgs _ (argsP (u1 ++ u2)) = _ from hb kV doc pm an cdv ct u1 u2 hl1]
    refine wpAny_bind (wpAny_newTuple (wpAny_pure ?_) hl2)
    have new : ObjOk P w (upd H s.heap.objs.size (.tup rest)) (s.heap.push ({ cls := .type "tuple", data := .seq u2.toArray } : Obj)) s.heap.objs.size (.tup rest) := ⟨hz, u2, r2, ⟨_, Heap.get?_push_size _ rfl, rfl, _, rfl⟩⟩
    have un := StX.un_laid (fs := frs outer) (s := s) (o := ({ cls := .type "tuple", data := .seq u2.toArray } : Obj)) (u := .tup rest) hn
    have z := h _ _ (ws ++ [V.ref s.heap.objs.size]) (u1 ++ [Value.ref s.heap.objs.size]) (StX.env0_laid e0 new) un rfl (fun _ _ z => z.elim) (r1.append (.cons rfl .nil)) (by rw [List.length_append, List.length_append, hlw] <;> rfl) ⟨_, hn, rfl, rfl⟩
    rw [List.zip_append hl1.symm] at z
    exact z
  · subst ex eH
    have hlv : (ws ++ [V.ref p]).length ≤ N.length := by
      rw [List.length_append, hlw]
      exact hl
    exact ⟨WSs _ (defBody st), PSs.nox pss_W, body_end (X := cx0 P w K mg base N q (defScope st) f cdv A outer s2 (upd H p (.tup rest)) E) hlv hq (hH.new hp) (body _ f cdv A outer s2 _ E _ _ Ql El rfl S.nd ⟨hr', guard_deeper hr.gd⟩ (hs p))⟩
theorem fn_starred {x pv : Str} {st : Stmt} {N : List Str} {k : Nat} {sp : SpL} (F : Df K mg x st) (S : FnScope N [pv] (defScope st))
    (h0 : ∀ (kV doc pm : Value) (an : Option Addr) (cdv ct : Value), bindArgs (PySem.W.fnOf x x (defArgs st) (defBody st) (defScope st) .none kV doc pm an cdv ct) ⟨[], []⟩ = (newTuple [] >>= fun t => pure [(pv, t)]))
    (h1 : ∀ (kV doc pm : Value) (an : Option Addr) (cdv ct : Value) (r : Value) (rs : List Value), bindArgs (PySem.W.fnOf x x (defArgs st) (defBody st) (defScope st) .none kV doc pm an cdv ct) ⟨r :: rs, []⟩ = (newTuple (r :: rs) >>= fun t => pure [(pv, t)]))
    (hl : 1 ≤ N.length) (len : ∀ vs L Q E, sp vs L Q E → vs.length = 1) (body : BodyOf P w K mg base N x st k sp) : Fn P w K mg base CX0 x (k + 1) (spStar sp) := by
  obtain ⟨f, fd, hm, F⟩ := F
  refine ⟨f, hm, F.kp, (run_starred (ps := []) F S (fun kV doc pm an cdv ct => bind_star0 (B := fun us => bindArgs (PySem.W.fnOf x x (defArgs st) (defBody st) (defScope st) .none kV doc pm an cdv ct) ⟨us, []⟩) (h0 kV doc pm an cdv ct) (h1 kV doc pm an cdv ct)) hl body len).imp fun vs H Q E ⟨L, Ql, El, hH, h, hq, he⟩ => ⟨L, Ql, El, hH, ⟨[], vs, rfl, rfl, h.1, h.2⟩, hq, he⟩⟩
end
inductive Knd (L : Lg) : V → String → Prop
  | non : Knd L .non "NoneType"
  | bl {b : Bool} : Knd L (.bl b) "bool"
  | int {i : Int} : Knd L (.int i) "int"
  | str {x : Str} : Knd L (.str x) "str"
  | lst {p : Addr} {xs : List V} (m : (p, HO.lst xs) ∈ L) : Knd L (.ref p) "list"
  | tup {p : Addr} {xs : List V} (m : (p, HO.tup xs) ∈ L) : Knd L (.ref p) "tuple"
  | dct {p : Addr} {kvs : List (Key × V)} (m : (p, HO.dK kvs) ∈ L) : Knd L (.ref p) "dict"
theorem Knd.ty {K : PySem.W.Frag} {L : Lg} {x : V} {T : String} (k : Knd L x T) (H : Hp) (hH : Has H L) : TyX K H x (.type T) := by
  cases k with
  | non => exact .base .non
  | bl => exact .base (.bl _)
  | int => exact .base (.int _)
  | str => exact .base (.str _)
  | lst m => exact .base (.lst (hH.get m))
  | tup m => exact .base (.tup (hH.get m))
  | dct m => exact .base (.dK (hH.get m))
theorem Knd.sub {L M : Lg} {x : V} {T : String} (k : Knd L x T) (s : ∀ e ∈ L, e ∈ M) : Knd M x T := by
  cases k with
  | non => exact .non
  | bl => exact .bl
  | int => exact .int
  | str => exact .str
  | lst m => exact .lst (s _ m)
  | tup m => exact .tup (s _ m)
  | dct m => exact .dct (s _ m)
theorem kb_int_int : kitB "int" "int" = some true := by decide +kernel
theorem kb_int_bool : kitB "int" "bool" = some false := by decide +kernel
section
variable {X : Cx} {L : Lg} {Q : QV} {x : V} {T c : String} {b : Bool}
theorem gc_isK (k : Knd L x T) (e : kitB T c = some b) (h : Q (.bl b) L) : GC X (.builtin "isinstance") [x, .ty c] L Q := gc_isi (fun H hH => k.ty H hH) e h
end
theorem sz1 : 1 ≤ sizeLine := by decide +kernel
theorem sz2 : 2 ≤ sizeLine := by decide +kernel
theorem sz3 : 3 ≤ sizeLine := by decide +kernel
theorem sz_le {n : Nat} (h : n ≤ 1000) : n ≤ sizeLine := Nat.le_trans h (by decide +kernel)
theorem sz_lt {n : Nat} (h : n < 1000) : n < sizeLine := Nat.lt_of_lt_of_le h (by decide +kernel)
theorem Sub.keep {L M : Lg} {e : Addr × HO} (s : M.Sublist L) : Sub (e :: M) (e :: L) := Sub.sublist (s.cons_cons e)
section
variable {a b c d e f g h i : Addr × HO} {R : Lg}
theorem br0 : Sub (a :: b :: R) (a :: b :: R) := Sub.refl
theorem br1 : Sub (a :: b :: c :: R) (c :: a :: b :: R) := Sub.perm (List.perm_middle (l₁ := [a, b])).symm.symm
theorem br2 : Sub (a :: b :: c :: d :: R) (c :: d :: a :: b :: R) := Sub.perm (by
  have z := List.perm_append_comm (l₁ := [a, b]) (l₂ := [c, d])
  exact z.append_right R)
theorem br3 : Sub (a :: b :: c :: d :: e :: R) (c :: d :: e :: a :: b :: R) := Sub.perm (by
  have z := List.perm_append_comm (l₁ := [a, b]) (l₂ := [c, d, e])
  exact z.append_right R)
theorem br4 : Sub (a :: b :: c :: d :: e :: f :: R) (c :: d :: e :: f :: a :: b :: R) := Sub.perm (by
  have z := List.perm_append_comm (l₁ := [a, b]) (l₂ := [c, d, e, f])
  exact z.append_right R)
theorem br5 : Sub (a :: b :: c :: d :: e :: f :: g :: R) (c :: d :: e :: f :: g :: a :: b :: R) := Sub.perm (by
  have z := List.perm_append_comm (l₁ := [a, b]) (l₂ := [c, d, e, f, g])
  exact z.append_right R)
theorem br6 : Sub (a :: b :: c :: d :: e :: f :: g :: h :: R) (c :: d :: e :: f :: g :: h :: a :: b :: R) := Sub.perm (by
  have z := List.perm_append_comm (l₁ := [a, b]) (l₂ := [c, d, e, f, g, h])
  exact z.append_right R)
end
section
variable {X : Cx} {η : En} {L : Lg} {Q : QV} {e : Expr} {es : List Expr} {pos p : Pos}
theorem gb_len (B : Bi X.mg) (h : GA X (e :: es) η L fun xs L1 => GC X (.builtin "len") xs L1 Q) (hg : Gl X "len" := by rfl) (he : starEach (e :: es) X.env = (false, eval e X.env) :: starEach es X.env := by rfl) (hpl : (backTo pos (starEach es X.env)).any (·.1) = false := by rfl) :
    GE X (.Call (.Name "len" p) (e :: es) [] pos) η L Q := ge_B B.len bt_len h hg (by decide) (by decide) he hpl
theorem gb_abs (B : Bi X.mg) (h : GA X (e :: es) η L fun xs L1 => GC X (.builtin "abs") xs L1 Q) (hg : Gl X "abs" := by rfl) (he : starEach (e :: es) X.env = (false, eval e X.env) :: starEach es X.env := by rfl) (hpl : (backTo pos (starEach es X.env)).any (·.1) = false := by rfl) :
    GE X (.Call (.Name "abs" p) (e :: es) [] pos) η L Q := ge_B B.abs bt_abs h hg (by decide) (by decide) he hpl
theorem gb_min (B : Bi X.mg) (h : GA X (e :: es) η L fun xs L1 => GC X (.builtin "min") xs L1 Q) (hg : Gl X "min" := by rfl) (he : starEach (e :: es) X.env = (false, eval e X.env) :: starEach es X.env := by rfl) (hpl : (backTo pos (starEach es X.env)).any (·.1) = false := by rfl) :
    GE X (.Call (.Name "min" p) (e :: es) [] pos) η L Q := ge_B B.min bt_min h hg (by decide) (by decide) he hpl
theorem gb_isinstance (B : Bi X.mg) (h : GA X (e :: es) η L fun xs L1 => GC X (.builtin "isinstance") xs L1 Q) (hg : Gl X "isinstance" := by rfl) (he : starEach (e :: es) X.env = (false, eval e X.env) :: starEach es X.env := by rfl) (hpl : (backTo pos (starEach es X.env)).any (·.1) = false := by rfl) :
    GE X (.Call (.Name "isinstance" p) (e :: es) [] pos) η L Q := ge_B B.isinstance bt_isinstance h hg (by decide) (by decide) he hpl
theorem gb_int (B : Bi X.mg) (h : GA X (e :: es) η L fun xs L1 => GC X (.type "int") xs L1 Q) (hg : Gl X "int" := by rfl) (he : starEach (e :: es) X.env = (false, eval e X.env) :: starEach es X.env := by rfl) (hpl : (backTo pos (starEach es X.env)).any (·.1) = false := by rfl) :
    GE X (.Call (.Name "int" p) (e :: es) [] pos) η L Q := ge_Y B.int bt_int h hg (by decide) (by decide) he hpl
theorem gb_list (B : Bi X.mg) (h : GA X (e :: es) η L fun xs L1 => GC X (.type "list") xs L1 Q) (hg : Gl X "list" := by rfl) (he : starEach (e :: es) X.env = (false, eval e X.env) :: starEach es X.env := by rfl) (hpl : (backTo pos (starEach es X.env)).any (·.1) = false := by rfl) :
    GE X (.Call (.Name "list" p) (e :: es) [] pos) η L Q := ge_Y B.list bt_list h hg (by decide) (by decide) he hpl
theorem gb_tuple (B : Bi X.mg) (h : GA X (e :: es) η L fun xs L1 => GC X (.type "tuple") xs L1 Q) (hg : Gl X "tuple" := by rfl) (he : starEach (e :: es) X.env = (false, eval e X.env) :: starEach es X.env := by rfl) (hpl : (backTo pos (starEach es X.env)).any (·.1) = false := by rfl) :
    GE X (.Call (.Name "tuple" p) (e :: es) [] pos) η L Q := ge_Y B.tuple bt_tuple h hg (by decide) (by decide) he hpl
theorem gb_bool (B : Bi X.mg) (h : GA X (e :: es) η L fun xs L1 => GC X (.type "bool") xs L1 Q) (hg : Gl X "bool" := by rfl) (he : starEach (e :: es) X.env = (false, eval e X.env) :: starEach es X.env := by rfl) (hpl : (backTo pos (starEach es X.env)).any (·.1) = false := by rfl) :
    GE X (.Call (.Name "bool" p) (e :: es) [] pos) η L Q := ge_Y B.bool bt_bool h hg (by decide) (by decide) he hpl
theorem gb_str (B : Bi X.mg) (h : GA X (e :: es) η L fun xs L1 => GC X (.type "str") xs L1 Q) (hg : Gl X "str" := by rfl) (he : starEach (e :: es) X.env = (false, eval e X.env) :: starEach es X.env := by rfl) (hpl : (backTo pos (starEach es X.env)).any (·.1) = false := by rfl) :
    GE X (.Call (.Name "str" p) (e :: es) [] pos) η L Q := ge_Y B.str bt_str h hg (by decide) (by decide) he hpl
theorem gv_int (B : Bi X.mg) (q : Q (.ty "int") L) (hg : Gl X "int" := by rfl) : GE X (.Name "int" pos) η L Q := ge_tyName B.int bt_int q hg (by decide) (by decide)
theorem gv_bool (B : Bi X.mg) (q : Q (.ty "bool") L) (hg : Gl X "bool" := by rfl) : GE X (.Name "bool" pos) η L Q := ge_tyName B.bool bt_bool q hg (by decide) (by decide)
theorem gv_tuple (B : Bi X.mg) (q : Q (.ty "tuple") L) (hg : Gl X "tuple" := by rfl) : GE X (.Name "tuple" pos) η L Q := ge_tyName B.tuple bt_tuple q hg (by decide) (by decide)
theorem gv_list (B : Bi X.mg) (q : Q (.ty "list") L) (hg : Gl X "list" := by rfl) : GE X (.Name "list" pos) η L Q := ge_tyName B.list bt_list q hg (by decide) (by decide)
theorem gv_str (B : Bi X.mg) (q : Q (.ty "str") L) (hg : Gl X "str" := by rfl) : GE X (.Name "str" pos) η L Q := ge_tyName B.str bt_str q hg (by decide) (by decide)
end
theorem ite_t {A B : Prop} (h : A) : if true = true then A else B := by rw [if_pos rfl]; exact h
theorem ite_f {A B : Prop} (h : B) : if false = true then A else B := by rw [if_neg Bool.false_ne_true]; exact h
theorem ite_d {c A B : Prop} [Decidable c] (h : c → A) (k : ¬ c → B) : if decide c = true then A else B := by
  by_cases z : c
  · rw [if_pos (decide_eq_true z)]; exact h z
  · rw [decide_eq_false z, if_neg Bool.false_ne_true]; exact k z
theorem ite_n {c A B : Prop} [Decidable c] (h : ¬ c → A) (k : c → B) : if (!decide c) = true then A else B := by
  by_cases z : c
  · rw [decide_eq_true z]; exact ite_f (k z)
  · rw [decide_eq_false z]; exact ite_t (h z)
theorem ite_b {b : Bool} {A B : Prop} (h : b = true → A) (k : b = false → B) : if b = true then A else B := by
  cases b with
  | true => exact ite_t (h rfl)
  | false => exact ite_f (k rfl)
section
variable {X : Cx} {L : Lg} {Q : QV} {i j r : Int}
theorem go_modR (c : 0 < j) (h : ∀ r, 0 ≤ r → r < j → Q (.int r) L) : GOp X (binaryOp .Mod) (.int i) (.int j) L Q := go_mod c (h _ (Int.emod_nonneg _ (by omega)) (Int.emod_lt_of_pos _ c))
theorem go_powL (c : CPow i j) (e : i ^ j.toNat = r) (h : Q (.int r) L) : GOp X (binaryOp .Pow) (.int i) (.int j) L Q := go_pow c (by rw [e]; exact h)
theorem go_powR (c : CPow i j) (h : ∀ r, Q (.int r) L) : GOp X (binaryOp .Pow) (.int i) (.int j) L Q := go_pow c (h _)
end
theorem bnd {s t A B : Int} (s0 : 0 ≤ s) (s1 : s ≤ A) (t0 : 0 ≤ t) (t1 : t ≤ B) : 0 ≤ s * t ∧ s * t ≤ A * B := ⟨Int.mul_nonneg s0 t0, Int.mul_le_mul s1 t1 t0 (Int.le_trans s0 s1)⟩
theorem depthInts : ∀ ns : List Int, PyData.depthAll (ns.map PyData.int) = 0
  | [] => by simp [PyData.depthAll]
  | n :: r => by
    have e := depthInts r
    simp [PyData.depthAll, PyData.depth, e]
theorem layInts : ∀ ns : List Int, PyData.canLayAll0 (ns.map PyData.int) = true
  | [] => by simp [PyData.canLayAll0]
  | n :: r => by
    have e := layInts r
    simp [PyData.canLayAll0, PyData.canLay0, e]
theorem shapedL (ns : List Int) : SeqAt.shaped (.list (ns.map PyData.int)) = true := by
  have a := depthInts ns
  have b := layInts ns
  simp [SeqAt.shaped, PyData.canLay0, PyData.depth, a, b]
theorem shapedT (ns : List Int) : SeqAt.shaped (.tuple (ns.map PyData.int)) = true := by
  have a := depthInts ns
  have b := layInts ns
  simp [SeqAt.shaped, PyData.canLay0, PyData.depth, a, b]
theorem eqvInts : ∀ ns ms : List Int, PyData.eqvAll (ns.map PyData.int) (ms.map PyData.int) = decide (ns = ms)
  | [], [] => by simp [PyData.eqvAll]
  | [], m :: r => by simp [PyData.eqvAll]
  | n :: r, [] => by simp [PyData.eqvAll]
  | n :: r, m :: q => by
    have e := eqvInts r q
    simp [PyData.eqvAll, PyData.eqv, e]
    by_cases h : n = m <;> by_cases k : r = q <;> simp [h, k]
theorem eqvL (ns ms : List Int) : PyData.eqv (.list (ns.map PyData.int)) (.list (ms.map PyData.int)) = decide (ns = ms) := by
  rw [← eqvInts]
  simp [PyData.eqv]
section
variable {X : Cx} {L : Lg} {Q : QV} {i j r : Int}
theorem go_divS (c : 0 < j) (d : j < 2 ^ 64) (h : Q (.int (i / j)) L) : GOp X (binaryOp .FloorDiv) (.int i) (.int j) L Q := go_div c (Nat.lt_of_lt_of_le (by omega : j.natAbs < 2 ^ 64) (Nat.pow_le_pow_right (by decide) (by decide))) h
theorem go_divK {k : Nat} (c : 0 < j) (d : j.natAbs < 2 ^ k) (hk : k ≤ 9000) (h : Q (.int (i / j)) L) : GOp X (binaryOp .FloorDiv) (.int i) (.int j) L Q := go_div c (Nat.lt_of_lt_of_le d (Nat.pow_le_pow_right (by decide) hk)) h
end
theorem idxU {N : List Str} (hn : N.Nodup) {i j : Nat} {x : Str} (h : N[i]? = some x) (k : N[j]? = some x) : i = j := by
  obtain ⟨a1, a2⟩ := List.getElem?_eq_some_iff.mp h
  obtain ⟨b1, b2⟩ := List.getElem?_eq_some_iff.mp k
  exact (List.getElem_inj hn).mp (a2.trans b2.symm)
section
variable {X : Cx} {η : En} {L : Lg} {a b c : Expr} {D : GD}
theorem PutF.at {x : Str} {N : List Str} {i : Nat} {θ : En} {f : V → En} (p : PutF x θ f) (hn : N.Nodup) (hN : N = names θ) (h : N[i]? = some x) (v : V) : vals (f v) = (vals θ).set i (some v) ∧ names (f v) = names θ := by
  obtain ⟨j, h1, h2⟩ := p.idx
  have e : i = j := idxU hn h (by rw [hN]; exact h1)
  subst e
  exact h2 v
theorem gs_par3 {x y z : Str} {f : V → En} {g : V → V → En} {k : V → V → V → En} {px py pz pt pos : Pos} {kt k2 pt2} (p : PutF x η f) (q : ∀ v, PutF y (f v) (g v)) (r : ∀ v w, PutF z (g v w) (k v w))
    (h : GA X [a, b, c] η L fun vs L1 => ∃ u v w, vs = [u, v, w] ∧ D.nx (k u v w) L1)
    (hw : swappedStores [.Tuple [.Name x px, .Name y py, .Name z pz] kt pt] (.Tuple [a, b, c] k2 pt2) X.env = pure (some [x, y, z]) := by rfl) (hxy : x ≠ y := by decide +kernel) (hxz : x ≠ z := by decide +kernel) (hyz : y ≠ z := by decide +kernel) (hn : X.N.Nodup := by assumption) (hc : X.calm = true := by rfl)
    (hx : X.env.scope.names.lookup x = some .local := by rfl) (hy : X.env.scope.names.lookup y = some .local := by rfl) (hz : X.env.scope.names.lookup z = some .local := by rfl)
    (hs : swapsWithSole [.Tuple [.Name x px, .Name y py, .Name z pz] kt pt] (.Tuple [a, b, c] k2 pt2) pos.line X.env = pure false := by rfl) :
    GS X (.Assign [.Tuple [.Name x px, .Name y py, .Name z pz] kt pt] (.Tuple [a, b, c] k2 pt2) pos) D η L := fun hN H hH => by
  obtain ⟨i, h1, h2⟩ := p.idx
  have nf : ∀ v, names (f v) = X.N := fun v => (h2 v).2.trans hN.symm
  obtain ⟨j, g1, _⟩ := (q .non).idx
  rw [nf] at g1
  have ng : ∀ v w, names (g v w) = X.N := fun v w => ((q v).at hn (nf v).symm g1 w).2.trans (nf v)
  obtain ⟨l, k1, _⟩ := (r .non .non).idx
  rw [ng] at k1
  have i1 : X.N[i]? = some x := by rw [hN]; exact h1
  have ne : ∀ {m n : Nat} {s t : Str}, X.N[m]? = some s → X.N[n]? = some t → s ≠ t → m ≠ n := fun hm hn' d e => d (by rw [e, hn'] at hm; exact (Option.some.inj hm).symm)
  refine WS.of (ps_par3 (i := i) (j := j) (l := l) hc hn i1 g1 k1 (ne i1 g1 hxy) (ne i1 k1 hxz) (ne g1 k1 hyz) hx hy hz pa_W hw hs) (h.then hN hH fun vs L1 H1 m1 ⟨u, v, w, e1, q1⟩ => ⟨u, v, w, e1, ?_⟩)
  show upS X D.nx ((((vals η).set i (some u)).set j (some v)).set l (some w)) H1
  have z := (r u v).at hn (ng u v).symm k1 w
  refine ⟨k u v w, L1, (z.2.trans (ng u v)).symm, ?_, m1, q1⟩
  rw [z.1, ((q u).at hn (nf u).symm g1 v).1, (h2 u).1]
end
section
variable {X : Cx} {L : Lg} {Q : QV} {i : Int} {p : Addr}
theorem isN_int (h : Q (.bl false) L) : GOp X (compareOp .Is) (.int i) .non L Q := go_isN h
theorem isN_ref (h : Q (.bl false) L) : GOp X (compareOp .Is) (.ref p) .non L Q := go_isN h
theorem isN_non (h : Q (.bl true) L) : GOp X (compareOp .Is) .non .non L Q := go_isN h
theorem notN_int (h : Q (.bl true) L) : GOp X (compareOp .IsNot) (.int i) .non L Q := go_notN h
theorem notN_ref (h : Q (.bl true) L) : GOp X (compareOp .IsNot) (.ref p) .non L Q := go_notN h
theorem notN_non (h : Q (.bl false) L) : GOp X (compareOp .IsNot) .non .non L Q := go_notN h
end
theorem gu_neg {X : Cx} {L : Lg} {Q : QV} {i : Int} (h : Q (.int (-i)) L) : GUn X (unaryOp .USub) (.int i) L Q := GUn.of un_neg fun H hH => ⟨i, rfl, L, hH, h⟩
/-- the law's own promise; ts: the tables of code objects -/
def spLaw (K : PySem.W.Frag) (ts : Lg) : SpL := fun vs L Q _ => ∃ (a : Addr) (ns : List Int) (M : Lg), vs = [.ref a] ∧ L = ts ++ M ∧ InL K L a (ns.map V.int) ∧ (∀ z ∈ ns, Builtin.Int.intBits z ≤ 1048576) ∧ ∀ M, Q (.bl true) M
abbrev tabsL (ts : List (Addr × Str)) : Lg := ts.map fun p => (p.1, tabM p.2)
/-- the heap that the law begins with: the script, the tables -/
def lawH (K : PySem.W.Frag) (a : Addr) (ob : Obj) (ns : List Int) (ts : List Addr) : Hp := fun b =>
  if b = a then (match K.lookup a with | none => some (.frz ob (.lst (ns.map V.int))) | some _ => none) else if b ∈ ts then some (.tbl #[]) else none
section
variable {K : PySem.W.Frag} {a b : Addr} {ob : Obj} {ns : List Int} {ts : List Addr}
theorem lawH_a (e : K.lookup a = none) : lawH K a ob ns ts a = some (.frz ob (.lst (ns.map V.int))) := by
  unfold lawH
  rw [if_pos rfl, e]
theorem lawH_k {o : Obj} (e : K.lookup a = some o) : lawH K a ob ns ts a = none := by
  unfold lawH
  rw [if_pos rfl, e]
theorem lawH_t (n : b ≠ a) (m : b ∈ ts) : lawH K a ob ns ts b = some (.tbl #[]) := by
  unfold lawH
  rw [if_neg n, if_pos m]
theorem lawH_n (n : b ≠ a) (m : b ∉ ts) : lawH K a ob ns ts b = none := by
  unfold lawH
  rw [if_neg n, if_neg m]
/-- one of the three -/
theorem lawH_way (b : Addr) : (b = a ∧ K.lookup a = none ∧ lawH K a ob ns ts b = some (.frz ob (.lst (ns.map V.int)))) ∨ (b ≠ a ∧ b ∈ ts ∧ lawH K a ob ns ts b = some (.tbl #[])) ∨ lawH K a ob ns ts b = none := by
  by_cases n : b = a
  · subst n
    cases e : K.lookup b with
    | none => exact .inl ⟨rfl, rfl, lawH_a e⟩
    | some o => exact .inr (.inr (lawH_k e))
  · by_cases m : b ∈ ts
    · exact .inr (.inl ⟨n, m, lawH_t n m⟩)
    · exact .inr (.inr (lawH_n n m))
end
section
variable {P : Program} {w : World} {K : PySem.W.Frag} {mg mb : Str → Option Value}
/-- the law's call, from its promise; cs: the code objects with their tables and the names of what stands in these -/
theorem law_run {k : Nat} {fa a : Addr} {cs : List (Addr × Addr × Str)} {t0 : Shared} {vs : List Value} {ns : List Int}
    (KX : K.In t0.heap) (hns : t0.heap.Ns mainGlobals mg) (hb : t0.heap.Ns builtinsNs mb) (hbb : ∀ x : Str, x ≠ "__name__" → mb x = bootBuiltins x) (hlim : t0.heap.NoLimit) (hg : t0.gens = #[])
    (nd : (cs.map fun p => p.2.1).Nodup) (hT : ∀ p ∈ cs, t0.heap.get? p.2.1 = some { cls := .none, data := .fields #[] }) (nT : ∀ p ∈ cs, K.lookup p.2.1 = none) (C : ∀ p ∈ cs, PySem.W.CodeHd t0.heap p.1 p.2.1)
    (hbm : ∃ (bm : Addr) (ob : Obj), mg "__builtins__" = some (.ref bm) ∧ bm ≠ builtinsNs ∧ t0.heap.get? bm = some ob ∧ ob.cls = .type "module" ∧ ob.dict = some builtinsNs ∧ ob.data = .plain)
    (ha : t0.heap.get? a = some { cls := .type "list", data := .seq vs.toArray }) (hi : IntsAre vs ns) (hl : ns.length ≤ sizeLine) (bits : ∀ z ∈ ns, Builtin.Int.intBits z ≤ 1048576) (hr : Room k callerA)
    (F : ∀ base : Heap, K.In base → base.Ns mainGlobals mg → (∀ p ∈ cs, LamX.TabB base mg p.1 p.2.1) → RunG P w K mg base CX0 k fa argsP (toSp (spLaw K (tabsL (cs.map fun p => p.2))))) :
    codeAny (model P w) callerA (.call (.ref fa) ⟨[.ref a], []⟩) (fun r s' => r = .ok (.ret (.bool true)) ∧ OldK t0.heap s'.heap ∧ s'.os = t0.os ∧ AllBare s'.gens) t0 := by
  let ob : Obj := { cls := .type "list", data := .seq vs.toArray }
  let ts : List Addr := cs.map fun p => p.2.1
  let H : Hp := lawH K a ob ns ts
  have way : ∀ b : Addr, (b = a ∧ K.lookup a = none ∧ H b = some (.frz ob (.lst (ns.map V.int)))) ∨ (b ≠ a ∧ b ∈ ts ∧ H b = some (.tbl #[])) ∨ H b = none := lawH_way
  have tsT : ∀ b ∈ ts, ∃ p ∈ cs, p.2.1 = b := fun b hb => List.mem_map.mp hb
  have isT : ∀ b ∈ ts, t0.heap.get? b = some { cls := .none, data := .fields #[] } := fun b hb => by
    obtain ⟨p, hp, e⟩ := tsT b hb
    exact e ▸ hT p hp
  have memT : ∀ p ∈ cs, p.2.1 ∈ ts := fun p hp => List.mem_map.mpr ⟨p, hp, rfl⟩
  have aT : ∀ b ∈ ts, b ≠ a := fun b hb z => by
    have q := (isT b hb).symm.trans (z ▸ ha)
    have q2 : Data.fields #[] = Data.seq vs.toArray _ := congrArg Obj.data (Option.some.inj q)
    cases q2
  have tabH : ∀ p ∈ cs, H p.2.1 = some (.tbl #[]) := fun p hp => lawH_t (aT _ (memT p hp)) (memT p hp)
  have rv := vals_ints hi
  -- what is neither a list nor a table is hidden from H
  have hid : ∀ {b : Addr} {o : Obj}, t0.heap.get? b = some o → (∀ u n, o.data ≠ .seq u n) → o.data ≠ .fields #[] → H b = none := fun {b o} e n1 n2 => by
    rcases way b with ⟨rfl, _, _⟩ | ⟨_, m, _⟩ | z
    · exact absurd (congrArg Obj.data (Option.some.inj (ha.symm.trans e))).symm (n1 _ _)
    · exact absurd (congrArg Obj.data (Option.some.inj ((isT b m).symm.trans e))).symm n2
    · exact z
  let base : Heap := hidT t0.heap H
  have inB : ∀ {b : Addr} {o : Obj}, t0.heap.get? b = some o → H b = none → base.get? b = some o := fun e n => hidT_get e n
  have nsB : ∀ {b : Addr} {m : Str → Option Value}, t0.heap.Ns b m → base.Ns b m := fun {b m} ⟨o, es, ep, e, d, r⟩ => ⟨o, es, ep, inB e (hid e (fun u n z => by rw [d] at z; cases z) fun z => by rw [d] at z; cases z), d, r⟩
  have KB : K.In base := fun b o e => inB (KX b o e) (by
    rcases way b with ⟨rfl, n, _⟩ | ⟨_, m, _⟩ | z
    · exact absurd (n.symm.trans e) (by simp)
    · obtain ⟨p, hp, ep⟩ := tsT b m
      exact absurd ((nT p hp).symm.trans (ep ▸ e)) (by simp)
    · exact z)
  have hM : L2.Mod K mg base := ⟨KB, nsB hns, ⟨mb, nsB hb, hbb⟩, let ⟨mc, h1, h2⟩ := hlim; ⟨mc, nsB h1, h2⟩⟩
  have TB : ∀ p ∈ cs, LamX.TabB base mg p.1 p.2.1 := fun p hp => by
    have tp := hT p hp
    refine ⟨?_, ?_, fun z => ?_⟩
    · obtain ⟨o, us, file, tf, flags, tg, inF, text, tt, e1, r1, r2, r3, rest⟩ := C p hp
      refine ⟨o, us, file, tf, flags, tg, inF, text, tt, inB e1 (hid e1 (fun u n z => ?_) fun z => ?_), r1, r2, r3, rest⟩
      · rw [r2] at z
        cases z
      · rw [r2] at z
        cases z
        simp at r3
    · obtain ⟨bm, o, b1, b2, b3, b4, b5, b6⟩ := hbm
      refine ⟨bm, o, b1, b2, fun q => ?_, fun q => ?_, inB b3 (hid b3 (fun u n z => ?_) fun z => ?_), b4, b5, b6⟩
      · obtain ⟨o2, es, ep, e, hd, _⟩ := hns
        have z := (congrArg Obj.data (Option.some.inj ((q ▸ b3).symm.trans e))).symm.trans b6
        rw [hd] at z
        cases z
      · have z := b6.symm.trans (congrArg Obj.data (Option.some.inj ((q ▸ b3).symm.trans tp)))
        cases z
      · rw [b6] at z
        cases z
      · rw [b6] at z
        cases z
    · obtain ⟨o, es, ep, e, hd, _⟩ := hns
      have q := hd.symm.trans (congrArg Obj.data (Option.some.inj (e.symm.trans (z ▸ tp))))
      cases q
  have hokH : HOk P w H t0.heap := fun b u e => by
    rcases way b with ⟨rfl, _, z⟩ | ⟨_, m, z⟩ | z
    · cases z.symm.trans e
      exact ⟨ha, by rw [List.length_map]; exact hl, vs, _, rv, ha⟩
    · cases z.symm.trans e
      exact isT b m
    · cases z.symm.trans e
  have sq : SqL K H a (ns.map V.int) := by
    cases hk : K.lookup a with
    | none => exact .inl (.inr ⟨ob, lawH_a hk⟩)
    | some o =>
      cases ha.symm.trans (KX a o hk)
      exact .inr ⟨_, vs.toArray, _, hk, rfl, rfl, rfl, by rw [List.size_toArray, hi.length]; exact hl, by simpa using rv⟩
  have e0 : Env0 P w K mg base callerA [] t0 H := ⟨rfl, hM, fun b o e => of_hidT e, Nat.le_of_eq (hidT_size _ _), trivial, fun b z => (List.not_mem_nil z).elim, hokH, .of_eq hg⟩
  -- the ledger: the tables, and the script where it is no object of the module's
  have hsp : toSp (spLaw K (tabsL (cs.map fun p => p.2))) [.ref a] H (fun v _ => v = .bl true) fun _ _ _ => False := by
    have hasT : Has H (tabsL (cs.map fun p => p.2)) := by
      refine ⟨by simpa [tabsL, List.map_map, Function.comp_def] using nd, fun e m => ?_⟩
      obtain ⟨q, hq, rfl⟩ := List.mem_map.mp m
      obtain ⟨p, hp, rfl⟩ := List.mem_map.mp hq
      exact holds_tab' (.nil (tabH p hp))
    cases hk : K.lookup a with
    | some o =>
      refine ⟨_, fun v _ => v = .bl true, NoX, hasT, ⟨a, ns, [], rfl, by rw [List.append_nil], fun H' _ => ?_, bits, fun _ => rfl⟩, fun _ _ _ _ q => q, fun _ _ _ _ _ q => q⟩
      rcases sq with (z | ⟨o2, z⟩) | z
      · exact absurd ((lawH_k hk).symm.trans z) (by simp)
      · exact absurd ((lawH_k hk).symm.trans z) (by simp)
      · exact .inr z
    | none =>
      have ea : H a = some (.frz ob (.lst (ns.map V.int))) := lawH_a hk
      refine ⟨tabsL (cs.map fun p => p.2) ++ [(a, .frz ob (.lst (ns.map V.int)))], fun v _ => v = .bl true, NoX, ?_, ⟨a, ns, _, rfl, rfl, fun H' h' => ?_, bits, fun _ => rfl⟩, fun _ _ _ _ q => q, fun _ _ _ _ _ q => q⟩
      · refine ⟨?_, fun e m => ?_⟩
        · rw [List.map_append]
          refine List.nodup_append.mpr ⟨hasT.1, by simp, fun x hx y hy => ?_⟩
          have hy' : y = a := by simpa using hy
          obtain ⟨e, he, rfl⟩ := List.mem_map.mp hx
          obtain ⟨q, hq, rfl⟩ := List.mem_map.mp he
          obtain ⟨p, hp, rfl⟩ := List.mem_map.mp hq
          rw [hy']
          exact aT _ (memT p hp)
        · rcases List.mem_append.mp m with m | m
          · exact hasT.2 e m
          · obtain rfl : e = (a, _) := by simpa using m
            exact ea
      · exact .inl (.inr ⟨ob, h'.get (List.mem_append_right _ (List.mem_singleton.mpr rfl))⟩)
  refine codeAny_mono (F base KB (nsB hns) TB callerA [] t0 H [.ref a] [.ref a] _ _ ⟨hr, rfl⟩ e0 (.cons rfl .nil) hsp) fun r s' h => ?_
  cases r with
  | error e => exact False.elim h
  | ok fl =>
    cases fl with
    | ret u =>
      obtain ⟨v, H', os, bare, un, hok', r', q⟩ := h
      have q' : v = .bl true := q
      subst q'
      obtain rfl : u = Value.bool true := r'
      have grown : ∀ b ∈ ts, ∃ more : Array Value, s'.heap.get? b = some { cls := .none, data := .fields more } := fun b hb => by
        obtain ⟨more, z⟩ := un.tbls b #[] (lawH_t (aT b hb) hb)
        exact ⟨_, hok' b _ z⟩
      have same : ∀ b o, b ∉ ts → t0.heap.get? b = some o → s'.heap.get? b = some o := fun b o nb e => by
        rcases way b with ⟨_, _, z⟩ | ⟨_, m, _⟩ | z
        · have e1 := (hokH b _ z).1
          have e2 := (hok' b _ (un.frzs b ob _ z)).1
          exact e2.trans (e1.symm.trans e)
        · exact absurd m nb
        · exact un.keep b o e z (fun q => (List.not_mem_nil q).elim) (List.not_mem_nil)
      refine ⟨rfl, ⟨fun b o e => ?_, fun b o e => ?_⟩, os, bare⟩
      · by_cases hb : b ∈ ts
        · obtain ⟨more, hm⟩ := grown b hb
          obtain ⟨p, hp, rfl⟩ := tsT b hb
          cases (hT p hp).symm.trans e
          exact .inr (.inl ⟨((C p hp).tab (hT p hp)).isCodeTable, rfl, #[], more, rfl, by rw [Array.empty_append]; exact hm⟩)
        · exact .inl (same b o hb e)
      · by_cases hb : b ∈ ts
        · obtain ⟨more, hm⟩ := grown b hb
          exact ⟨_, hm⟩
        · exact ⟨o, same b o hb e⟩
    | next => exact False.elim h
    | brk => exact False.elim h
    | cont => exact False.elim h
end
/-- what the end wants of the law at the head's heap h: cs, the makers of lambdas by name, with their code objects, tables, and what stands in these -/
def LawG (q : Program) (P : Program) (w : World) (K : PySem.W.Frag) (k : Nat) (mg : Str → Option Value) (fa : Addr) : Prop :=
  ∃ cs : List (Str × Addr × Addr × Str), (cs.map fun p => p.2.2.1).Nodup ∧ (∀ p ∈ cs, PySem.W.tabIn K p.1 = some (p.2.1, p.2.2.1) ∧ ((recsOf q).find? fun e => e.name == p.1).isSome = true ∧ K.lookup p.2.2.1 = none) ∧
    ∀ base : Heap, K.In base → base.Ns mainGlobals mg → (∀ p ∈ cs, LamX.TabB base mg p.2.1 p.2.2.1) → RunG P w K mg base CX0 k fa argsP (toSp (spLaw K (tabsL (cs.map fun p => p.2.2))))
theorem walkG {l : PySem.W.OpenLaw} {n k : Nat} {q : Program} {loose : List Str} {XP : (Str → Option Value) → Heap → Prop} {YP : World → Heap → Prop} {d : DefRec} {K : Params → PySem.W.Frag}
    (hn : l.most = some n) (hn2 : n ≤ sizeLine) (hdf : d.params.defaults = []) (hr : Room k callerA) (hY : ∀ (w : World) (h : Heap), YP w h → (K w.params).In h)
    (F : ∀ (w : World) (mg : Str → Option Value) (fa : Addr) (h : Heap), (K w.params).In h → h.Ns mainGlobals mg → mg d.name = some (.ref fa) → LawG q l.prog w (K w.params) k mg fa) : PySem.W.WalkO q loose XP YP l.row.toRowW d [] (fun f vs => PySem.call f vs) := by
  refine Att.attach_callB hn hdf fun w s₀ t0 mg mb fa o pm cd doc a vs ns G Y ho hd hcd hmg hobj hints hlen hbits hg => ?_
  have KX := hY w _ Y
  obtain ⟨cs, nd, hcs, hF⟩ := F w mg fa _ KX G.T.g hmg
  have tb : ∀ p ∈ cs, PySem.W.CodeHd t0.heap p.2.1 p.2.2.1 ∧ t0.heap.get? p.2.2.1 = some { cls := .none, data := .fields #[] } := fun p hp => by
    obtain ⟨e1, e2, _⟩ := hcs p hp
    obtain ⟨dr, e3⟩ := Option.isSome_iff_exists.mp e2
    exact PySem.W.tab_of G.T KX e3 e1
  have up : ∀ {φ : Addr × Addr × Str → Prop}, (∀ p ∈ cs, φ p.2) → ∀ p ∈ cs.map (·.2), φ p := fun {φ} h p hp => by
    obtain ⟨p', h', rfl⟩ := List.mem_map.mp hp
    exact h p' h'
  refine law_run (cs := cs.map (·.2)) KX G.T.g G.T.b G.T.builtins G.T.nolimit hg (by rw [List.map_map]; exact nd) (up fun p hp => (tb p hp).2) (up fun p hp => (hcs p hp).2.2) (up fun p hp => (tb p hp).1) G.T.bmain hobj hints (Nat.le_trans hlen hn2) hbits hr fun base h1 h2 h3 => ?_
  rw [List.map_map]
  exact hF base h1 h2 fun p hp => h3 p.2 (List.mem_map.mpr ⟨p, hp, rfl⟩)
/-- the law's own entry -/
theorem fn_entry {P : Program} {w : World} {K : PySem.W.Frag} {mg : Str → Option Value} {base : Heap} {x : Str} {st : Stmt} {N ps : List Str} {k : Nat} {sp : SpL} {f : Addr} {fd : FuncData} (F : Fun K x x st f fd) (S : FnScope N ps (defScope st))
    (hb : ∀ (kV doc pm : Value) (an : Option Addr) (cdv ct : Value) (us : List Value), us.length = ps.length → bindArgs (PySem.W.fnOf x x (defArgs st) (defBody st) (defScope st) .none kV doc pm an cdv ct) ⟨us, []⟩ = pure (ps.zip us))
    (hl : ps.length ≤ N.length) (len : ∀ vs L Q E, sp vs L Q E → vs.length = ps.length) (body : BodyOf P w K mg base N x st k sp) : RunG P w K mg base CX0 (k + 1) f argsP (toSp sp) := run_plain F S argsP id id (fun _ _ r => r) hb hl len body
end G
set_option Elab.async false
set_option linter.all false
set_option maxRecDepth 100000
set_option maxHeartbeats 4000000
namespace G
open PySem PySem.Spec PyProof.Rows L2 NdefX
def AtSs (X : Cx) (B sts : List Stmt) : TS := fun D σ H => ∀ pins s, Inv X pins σ H s → _root_.PySem.wpAt (model X.prog X.w) X.A (.func B X.env) (execs sts X.env) (SP X pins D) X.xe s
theorem AtSs.any {X : Cx} {B sts : List Stmt} {D : Ends} {σ : L2.St} {H : Hp} (h : WSs X sts D σ H) : AtSs X B sts D σ H := fun pins s I => _root_.PySem.wpAt_of_wpAny (h pins s I)
/-- the words of a method that says super() -/
abbrev nfS (x q : Str) (st : Stmt) (cc c : Addr) : NF := ⟨x, q, defArgs st, defBody st, defScope st, [("__class__", cc)], c⟩
structure SupF (P : Program) (K : PySem.W.Frag) (x q : Str) (st : Stmt) (f c cc D : Addr) (fd : FuncData) : Prop where
  ex : ∃ (oc : Value) (od : Option Addr) (kV doc pm ct : Value) (an : Option Addr) (osl : Array (Option Value)), fd = PySem.W.fnX x q (defArgs st) (defBody st) (defScope st) [("__class__", cc)] .none kV doc pm an (.ref c) ct ∧ K.lookup f = some ⟨oc, od, .func fd, osl⟩
  cd : PySem.W.codeIn K (.ref c) q = true
  cell : ∃ (cl : Value) (cld : Option Addr) (csl : Array (Option Value)), K.lookup cc = some ⟨cl, cld, .cell (some (.ref D)), csl⟩
  file : ∃ (ccl : Value) (cdd : Option Addr) (vs : Array Value) (ccs : Array (Option Value)) (fl : Str) (tf : Tok), K.lookup c = some ⟨ccl, cdd, .fields vs, ccs⟩ ∧ vs[2]? = some (.str fl tf) ∧ (P.main.file == fl) = true
  cls : ∃ cd, PySem.W.clsIn K D = some cd
  top : (P.main.scope.names.lookup ("super" : Str)).isSome = false
section
variable {CX : CXT} {P : Program} {w : World} {K : PySem.W.Frag} {mg : Str → Option Value} {base : Heap} {N ps : List Str} {x q : Str} {st : Stmt} {f c cc D : Addr} {fd : FuncData} {k : Nat} {sp : Sp}
theorem SupF.cells (F : SupF P K x q st f c cc D fd) {A : Around} {outer : List Env} {s : Shared} {H : Hp} (e0 : Env0 P w K mg base A outer s H) : CellsAt [("__class__", cc)] ["__class__"] [none] s.heap H := by
  obtain ⟨cl, cld, csl, hc⟩ := F.cell
  have look : ∀ {y : Str} {a : Addr}, List.lookup y [(("__class__" : Str), cc)] = some a → y = "__class__" ∧ a = cc := fun {y a} e => by
    by_cases hy : y = "__class__"
    · subst hy
      simp [List.lookup] at e
      exact ⟨rfl, e.symm⟩
    · have z : (y == ("__class__" : Str)) = false := by simpa using hy
      simp [List.lookup, z] at e
  have hb := e0.bs cc _ (e0.mod.kin _ _ hc)
  refine ⟨rfl, fun y a e => ?_, fun y z a e1 e2 => (look e1).1.trans (look e2).1.symm, fun i y e => ?_⟩
  · obtain ⟨_, rfl⟩ := look e
    exact ⟨hb.2, _, _, hb.1, rfl⟩
  · cases i with
    | zero =>
      have e' : some ("__class__" : Str) = some y := e
      cases e'
      exact ⟨cc, by simp [List.lookup], fun v z => by cases z⟩
    | succ i => cases e
/-- such a method keeps its promise -/
theorem SupF.ok (F : SupF P K x q st f c cc D fd) (S : NScope N ps ["__class__"] (defScope st)) (len : ∀ vs H Q E, sp vs H Q E → vs.length = ps.length)
    (body : ∀ (A : Around) (outer : List Env) (s : Shared) (H : Hp) (vs : List V) (Q : VK) (E : XK), Room k (A.deeper (envF (nfS x q st cc c) f s.heap.objs.size)) → sp vs H Q E →
      AtSs (ncx CX P w K mg base N (nfS x q st cc c) f A outer s H E) (defBody st) (defBody st) { nx := fun _ H' => Q .non H', rt := Q } (startF N vs [none]) H) : FnOk P w K mg base CX (k + 1) f fd ps sp := by
  refine ⟨len, fun A outer s H args us vs Q E hr e0 hb r hsp => ?_⟩
  obtain ⟨oc, od, kV, doc, pm, ct, an, osl, rfl, lk⟩ := F.ex
  have KX : K.In s.heap := e0.mod.kin.keeps fun b o e => (e0.bs b o e).1
  have lim : s.heap.NoLimit := e0.mod.nolimit.keeps fun b o e => (e0.bs b o e).1
  refine _root_.PySem.ks_codeAny_call_defAt (body := defBody st) hr.depth (KX _ _ lk) rfl lim (PySem.W.codeRec_of KX F.cd) rfl hb S.nocell (fun ⟨n, _⟩ hy => S.par n (List.of_mem_zip hy).1) (fun h₁ hns kp => ?_) S.co S.gen S.kind
  have I : Inv (ncx CX P w K mg base N (nfS x q st cc c) f A outer s H E) [] (startF N vs [none]) H { s with heap := h₁, toks := s.toks + (ps.zip us).length } := inv_startN S hr.hd e0 (len _ _ _ _ hsp) r (F.cells e0) hns kp
  refine _root_.PySem.wpAt_mono (body A outer s H vs Q E (hr.deeper _) hsp [] _ I) (fun fl s' hs => ?_) fun e s' hs => hs
  have fin : ∀ {σ' : L2.St} {H' : Hp} {v : V} {u : Value}, Inv (ncx CX P w K mg base N (nfS x q st cc c) f A outer s H E) [] σ' H' s' → L2.RelV v u → Q v H' → CE outer P w H s Q u s' := fun {σ' H' v u} J rv qq => ⟨v, H', J.os, J.bare, J.base, J.hok, rv, qq⟩
  cases fl with
  | ret u =>
    obtain ⟨v, σ', H', J, rv, qq⟩ := hs
    exact fin J rv qq
  | next =>
    obtain ⟨σ', H', J, qq⟩ := hs
    exact fin (v := V.non) (u := Value.none) J rfl qq
  | brk => exact hs.elim fun _ z => z.elim fun _ z => z.2.elim
  | cont => exact hs.elim fun _ z => z.elim fun _ z => z.2.elim
end
/-- ValueError.__init__ bound to the error at x -/
def mwO (x u : Addr) : HO := .ext fun h => h.get? u = some (PySem.W.kxs_mw "ValueError.__init__" x)
theorem mwO_ok {P : Program} {w : World} {H : Hp} {h : Heap} {x u : Addr} (e : h.get? u = some (PySem.W.kxs_mw "ValueError.__init__" x)) : ObjOk P w H h u (mwO x u) := ⟨e, ⟨_, e⟩, fun _ _ z k => k _ z⟩
theorem mwO_at {P : Program} {w : World} {H : Hp} {h : Heap} {x u : Addr} (hok : HOk P w H h) (e : H u = some (mwO x u)) : h.get? u = some (PySem.W.kxs_mw "ValueError.__init__" x) := by
  obtain ⟨z, _, _⟩ := hok u _ e
  exact z
section
variable {prog : Program} {w : World} {A : Around} {E : Value → Shared → Prop} {h : Heap} {g : Array GenState} {d : Drawn} {t : Nat} {os : OsState}
variable {nm q : Str} {C N : Addr} {bs bm : List Value} {hdct : Bool} {sn : List Str} {sub : List Value} {ab : Bool} {col : Option Bool} {dd : Option Addr} {k0 k1 k2 k3 k5 : Option Value}
theorem call_mw {u e t0 : Addr} {us : List Value} {Q : Value → Shared → Prop} (hC : h.get? C = some (excClassObj nm q C N bs bm hdct sn sub ab col dd k0 k1 k2 k3 k5 "ValueError.__new__")) (he : h.get? e = some (PySem.HandSPX.excO C t0))
    (hu : h.get? u = some (PySem.W.kxs_mw "ValueError.__init__" e)) (hl : us.length ≤ sizeLine) (hq : ∀ h' t1, (∀ b o, b ≠ e → h.get? b = some o → h'.get? b = some o) → h'.get? e = some (PySem.HandSPX.excO C t1) → Q .none ⟨h', g, d, t, os⟩) :
    wpAny (model prog w) A (call (.ref u) us) Q E ⟨h, g, d, t, os⟩ := by
  refine wpAny_call (codeAny_of_tree (show wpAny _ A.in1 (callAny (.ref u) ⟨us, []⟩) _ _ _ from ?_))
  unfold callAny
  refine wpAny_bind (wpAny_load hu ?_)
  show wpAny _ _ (if (Value.type "method-wrapper" == Value.type "method" || Value.type "method-wrapper" == Value.type "builtin_function_or_method" || Value.type "method-wrapper" == Value.type "method-wrapper") = true then _ else _) _ _ _
  rw [if_pos (by decide)]
  refine PySem.W.KFB.if_so (show (Value.type "method-wrapper" != Value.type "method") = true by decide) (wpAny_bind (PySem.W.check_bound_init F.excBase_ValueError.toExcCallFacts hC he rfl (wpAny_bind (wpAny_pure (wpAny_pure ⟨_root_.PySem.plainId_quiet F.excBase_ValueError.init.plain _, codeAny_builtin F.excBase_ValueError.initEntry ?_⟩)))))
  exact PySem.W.exc_init_tree (cls := .ref C) (t0 := t0) (dv := none) (c2 := .none) (c3 := .none) (b4 := .bool false) he hl fun h' k e1 _ => hq h' _ k e1
end
section
variable {X : Cx} {B rest : List Stmt} {D : Ends} {σ : L2.St} {H : Hp} {x q : Str} {st : Stmt} {f c cc D0 C a : Addr} {fd : FuncData} {i : Nat} {ar : Arg} {ta : TA} {e : Expr} {es : List Expr} {p0 p1 p2 p3 p4 : Pos} {pl : Sem Bool}
theorem at_supx (F : SupF X.prog X.K x q st f c cc D0 fd) (hfu : X.env.func = some f) (hco : X.env.code = .ref c) (hcl : X.env.cells.lookup ("__class__" : Str) = some cc) (hp : (fd.params.posonlyargs ++ fd.params.args).head? = some ar)
    (hks : X.env.kindOf "super" = some .globalImplicit) (hkc : X.env.kindOf "__class__" = some .free) (hka : X.env.kindOf ar.arg = some .local) (hm : X.mg "super" = none)
    (T : OexC X.K C) (sm : PySem.W.ks_superIn X.K C D0 "__init__" = some (some (.builtin "ValueError.__init__"))) (sub : PySem.W.mroIn X.K C (.ref D0) = some true) (sV : PySem.W.subIn X.K (.ref C) (.type "ValueError") = some true)
    (op : PySem.W.nsIn X.K cStatics "thirdparty.any" = some none) (hi : X.N[i]? = some ar.arg) (hs : σ[i]? = some (some (.ref a))) (ha : H a = some (exo a C none)) (pa : PA X (e :: es) ta)
    (h : ∀ u, H u = none → ta σ (upd H u (mwO a u)) fun vs H1 => vs.length ≤ 1000 ∧ H1 u = some (mwO a u) ∧ H1 a = some (exo a C none) ∧ AtSs X B rest D σ H1)
    (he : starEach (e :: es) X.env = (false, eval e X.env) :: starEach es X.env := by rfl) (hpl : (backTo p3 (starEach es X.env)).any (·.1) = false := by rfl) (hint : interactive X.env = false := by rfl)
    (hsw : swapsWith (.Call (.Attribute (.Call (.Name "super" p0) [] [] p1) "__init__" p2) (e :: es) [] p3) none p4.line X.env = pure false := by rfl)
    (hev : eval (.Call (.Attribute (.Call (.Name "super" p0) [] [] p1) "__init__" p2) (e :: es) [] p3) X.env = (do
      let ov ← attributeBase (.Call (.Name "super" p0) [] [] p1) "__init__" X.env (eval (.Call (.Name "super" p0) [] [] p1) X.env)
      standAt p2.atName
      let (ff, first) ← holding [ov] (getMethod ov "__init__" pl)
      callWith p3 ff first (backTo p3 (starEach (e :: es) X.env)) []) := by rfl) :
    AtSs X B (.Expr (.Call (.Attribute (.Call (.Name "super" p0) [] [] p1) "__init__" p2) (e :: es) [] p3) p4 :: rest) D σ H := fun pins s I => by
  obtain ⟨oc, od, kV, doc, pm, ct, an, osl, efd, lk⟩ := F.ex
  obtain ⟨ccl, cdd, vs, ccs, fl, tf, lc, hvs, hfile⟩ := F.file
  obtain ⟨cl, cld, csl, hcell⟩ := F.cell
  obtain ⟨cdD, hD⟩ := F.cls
  obtain ⟨mb, hb1, hb2⟩ := I.mod.blt
  obtain ⟨oD, hD1, hD2⟩ : ∃ oD, s.heap.get? D0 = some oD ∧ oD.data = .cls cdD := by
    unfold PySem.W.clsIn at hD
    split at hD
    · rename_i c' d' cd' sl' ho
      cases hD
      exact ⟨_, I.kIn _ _ ho, rfl⟩
    · cases hD
  obtain ⟨nm, qn, NN, bs, bm, sn, sb, ab, col, dd, k0, k1, k2, k3, k5, hC, hbm⟩ := T.cls
  have hcC : PySem.W.clsIn X.K C = some { name := nm, bases := bs, mro := .ref C :: bm, ns := NN, qualname := qn, hasDict := true, slotNames := sn, subclasses := sb, abstract := ab, collection := col, hasDel := false } := by unfold PySem.W.clsIn; rw [hC] <;> rfl
  obtain ⟨t0, hx⟩ := exo_at I.hok ha
  have IA : PySem.W.InstAt s.heap a _ C none := ⟨hx, rfl, rfl, trivial⟩
  have xC : a ≠ C := PySem.W.ks_ne I.kIn IA hcC
  refine _root_.PySem.ks_wpAt_execs_cons (_root_.PySem.ks_wpAt_Expr_any (_root_.PySem.ks_wpAt_MethodCall (pl := pl) (_root_.PySem.ks_wpAt_super_base hks hkc rfl hfu (I.kIn _ _ lk) rfl hp hco (I.kIn _ _ lc) rfl hvs hfile F.top ?_) hev) hint hsw)
  refine PySem.W.ks_loadName_global I.ok.kind hks (Calls.loadGlobal_builtin (by rw [I.ok.glob]; exact I.mod.glob.keeps I.bk) hm (by rw [I.ok.blt]; exact hb1.keeps I.bk) ((hb2 _ (by decide)).trans (by decide +kernel)) ⟨rfl, ?_⟩)
  refine wpAny_loadName_free I.ok.kind hkc hcl ⟨_, I.kIn _ _ hcell, rfl⟩ ?_
  obtain ⟨m, hn, hl⟩ := id I.loc
  obtain ⟨u, r, qq⟩ := hl i _ _ hi hs (.inl hka)
  obtain rfl : u = Value.ref a := r
  rcases qq with ⟨_, em⟩ | ⟨k, _⟩
  · refine wpAny_loadName_local I.ok.kind hka hn em ?_
    obtain ⟨hp', g, d, t, os⟩ := s
    refine _root_.PySem.ks_wpAny_isType_cls hD1 hD2 ⟨rfl, ?_⟩
    refine _root_.PySem.ks_wpAny_call_super hD1 hD2 hx rfl (fun c e => by cases e) (PySem.W.looks_mroIn I.kIn sub) (fun h' eS kS => ?_)
    have J1 : Inv X pins σ H ⟨h', g, d, t, os⟩ := I.kept (t' := t) kS
    have IA1 : PySem.W.InstAt h' a _ C none := ⟨kS _ _ hx, rfl, rfl, trivial⟩
    have sm' := sm
    unfold PySem.W.ks_superIn at sm'
    rw [hcC] at sm'
    refine PySem.W.kxs_getMethod PySem.W.kxs_ValueError eS (PySem.W.looks_opaque J1.kIn op) ((PySem.W.looks_clsIn J1.kIn hcC).andThen .now) rfl J1.kIn sm' (IA1.type.andThen (PySem.W.looks_subIn J1.kIn sV)) xC rfl ?_
    have nu : H h'.objs.size = none := J1.hok.fresh (Nat.le_refl _)
    have J2 : Inv X pins σ (upd H h'.objs.size (mwO a h'.objs.size)) ⟨h'.push (PySem.W.kxs_mw "ValueError.__init__" a), g, d, t + 1, os⟩ :=
      J1.laid (t' := t + 1) (a := h'.objs.size) (fun b o z => Heap.get?_push_of_some _ z) (Nat.le_refl _) (mwO_ok (Heap.get?_push_size _ rfl))
    show wpAny _ _ (callWith p3 (Value.ref h'.objs.size) [] (backTo p3 (starEach (e :: es) X.env)) []) _ _ _
    have hpa := pa.run p3 pins _ σ _ _ J2 (h _ nu)
    rw [he] at hpa ⊢
    refine PySem.W.kxs_callWith (i := "ValueError.__init__") (x := a) (by show (false || (backTo p3 (starEach es X.env)).any (·.1)) = false; rw [hpl]; rfl) (Calls.evalArgs_plain (thn hpa fun us s1 ⟨vs', H1, J3, r1, hlen, e1, e2, qk⟩ => ?_))
    refine ⟨mwO_at J3.hok e1, ?_⟩
    show wpAny _ _ (call (Value.ref h'.objs.size) us) _ _ _
    obtain ⟨t1, hx1⟩ := exo_at J3.hok e2
    have hul : us.length ≤ sizeLine := by
      rw [← Paired.length r1, sizeLine_eq]
      omega
    have hCx := J3.kIn _ _ hC
    have hmw := mwO_at J3.hok e1
    obtain ⟨h1, g1, d1, t1', os1⟩ := s1
    refine call_mw hCx hx1 hmw hul (fun h2 t2 k2 hx2 => ?_)
    have J4 := J3.write (t' := t1') (x := a) (e := a) (o := exo a C none) (by rw [e2]; exact True.intro) (.inl rfl) k2 ⟨_, hx2⟩ (exo_ok hx2)
    have eu : upd H1 a (exo a C none) = H1 := by
      funext b
      by_cases hb : b = a
      · rw [hb, upd_same, e2]
      · rw [upd_ne hb]
    rw [eu] at J4
    exact qk pins _ J4
  · rcases k with k | k
    · have z := k.symm.trans hka
      cases z
    · have z := k.symm.trans hka
      cases z
end
/-- what the written part says of the error class at C, named x, with the fields ns -/
structure ErrK (K : PySem.W.Frag) (mg : Str → Option Value) (x : Str) (C fI : Addr) (ns : List Str) : Prop where
  gC : mg x = some (.ref C)
  T : OexC K C
  iC : PySem.W.findIn K (.ref C) "__init__" = some (some (.ref fI))
  tI : PySem.W.typeIn K (.ref fI) = some (.type "function")
  no : ∀ n ∈ ns, PySem.W.findIn K (.ref C) n = some none
  sm : PySem.W.ks_superIn K C C "__init__" = some (some (.builtin "ValueError.__init__"))
  sub : PySem.W.mroIn K C (.ref C) = some true
  sV : PySem.W.subIn K (.ref C) (.type "ValueError") = some true
  op : PySem.W.nsIn K cStatics "thirdparty.any" = some none
  su : mg "super" = none
/-- __init__ keeps: the fields stand in a new dict -/
def spErr (C : Addr) (ns : List Str) : Sp := fun vs H Q _ => ∃ (a : Addr) (ws : List V), vs = .ref a :: ws ∧ ws.length = ns.length ∧ H a = some (exo a C none) ∧
  ∀ u d, H u = none → d ≠ u → d ≠ a → u ≠ a → H d = none → Q .non (upd (upd (upd H u (mwO a u)) d (exd d (ns.zip ws).reverse)) a (exo a C (some d)))
section
variable {P : Program} {w : World} {K : PySem.W.Frag} {mg : Str → Option Value} {base : Heap} {x q : Str} {st : Stmt} {f c cc C : Addr} {fd : FuncData} {n m : Str} {pa0 : Arg} {p0 p1 p2 p3 p4 p5 p6 q0 q1 q2 q3 r0 r1 r2 r3 : Pos}
theorem clsCell {cc : Addr} : List.lookup ("__class__" : Str) [(("__class__" : Str), cc)] = some cc := by simp [List.lookup]
/-- super().__init__(n); self.n = n -/
theorem err1_ok (F : SupF P K "__init__" q st f c cc C fd) (G : ErrK K mg x C f [n]) (S : NScope ["self", n, "__class__"] ["self", n] ["__class__"] (defScope st))
    (eb : defBody st = [.Expr (.Call (.Attribute (.Call (.Name "super" p0) [] [] p1) "__init__" p2) [.Name n p3] [] p4) p5, .Assign [.Attribute (.Name "self" q0) n q1] (.Name n q2) q3])
    (hp : (fd.params.posonlyargs ++ fd.params.args).head? = some pa0) (h0 : pa0.arg = "self") (hks : (defScope st).names.lookup ("super" : Str) = some .globalImplicit)
    (hint : ∀ L, interactive (envF (nfS "__init__" q st cc c) f L) = false)
    (hsw1 : ∀ L, swapsWith (.Call (.Attribute (.Call (.Name "super" p0) [] [] p1) "__init__" p2) [.Name n p3] [] p4) none p5.line (envF (nfS "__init__" q st cc c) f L) = pure false)
    (hev : ∀ L, ∃ pl : Sem Bool, eval (.Call (.Attribute (.Call (.Name "super" p0) [] [] p1) "__init__" p2) [.Name n p3] [] p4) (envF (nfS "__init__" q st cc c) f L) = (do
      let ov ← attributeBase (.Call (.Name "super" p0) [] [] p1) "__init__" (envF (nfS "__init__" q st cc c) f L) (eval (.Call (.Name "super" p0) [] [] p1) (envF (nfS "__init__" q st cc c) f L))
      standAt p2.atName
      let (ff, first) ← holding [ov] (getMethod ov "__init__" pl)
      callWith p4 ff first (backTo p4 (starEach [.Name n p3] (envF (nfS "__init__" q st cc c) f L))) []))
    (hsw2 : ∀ L, swapsWith (.Name n q2) (some (.Attribute (.Name "self" q0) n q1)) q3.line (envF (nfS "__init__" q st cc c) f L) = pure false) (hdb : (n == ("__debug__" : Str)) = false) (hcd : (n == ("__classdict__" : Str)) = false) : FnOk P w K mg base CX0 1 f fd ["self", n] (spErr C [n]) := by
  refine F.ok S (fun vs H Q E h => ?_) (fun A outer s H vs Q E hr h => ?_)
  · obtain ⟨a, ws, rfl, hl, _⟩ := h
    simpa using hl
  · obtain ⟨a, ws, rfl, hl, ha, hq⟩ := h
    match ws, hl with
    | [v], _ =>
      obtain ⟨pl, hev⟩ := hev s.heap.objs.size
      rw [eb]
      have vn : Vis (defScope st) n := .inl (S.par n (by simp))
      have hself : (defScope st).names.lookup ("self" : Str) = some .local := S.par "self" (by simp)
      have pN : PE (ncx CX0 P w K mg base ["self", n, "__class__"] (nfS "__init__" q st cc c) f A outer s H E) (.Name n p3) (tVar 1) := pe_var rfl vn hdb hcd
      refine at_supx (i := 0) F rfl rfl clsCell hp hks (S.frk "__class__" (by simp)) (by rw [h0]; exact hself) G.su G.T G.sm G.sub G.sV G.op (by rw [h0]; rfl) rfl ha (pa_cons pN pa_nil) (fun u hu => ?_) (hint := hint _) (hsw := hsw1 _) (hev := hev)
      have ua : u ≠ a := fun z => by
        rw [z, ha] at hu
        cases hu
      refine ⟨v, rfl, by show 1 ≤ 1000; decide, upd_same, ?_, .any ?_⟩
      · rw [upd_ne (Ne.symm ua)]
        exact ha
      · refine WSs.of (pss_one (ps_ost (pe_var (i := 0) rfl (.inl hself)) (pe_var (i := 1) rfl vn hdb hcd) (hsw2 _))) ?_
        refine ⟨v, rfl, .ref a, rfl, a, C, rfl, G.T, G.no n (by simp), .inl ⟨?_, fun d hd hda => ?_⟩⟩
        · rw [upd_ne (Ne.symm ua)]
          exact ha
        · have du : d ≠ u := fun z => by
            rw [z, upd_same] at hd
            cases hd
          rw [upd_ne du] at hd
          exact hq u d hu du hda ua hd
/-- super().__init__(n, m); self.n = n; self.m = m -/
theorem err2_ok (F : SupF P K "__init__" q st f c cc C fd) (G : ErrK K mg x C f [n, m]) (S : NScope ["self", n, m, "__class__"] ["self", n, m] ["__class__"] (defScope st))
    (eb : defBody st = [.Expr (.Call (.Attribute (.Call (.Name "super" p0) [] [] p1) "__init__" p2) [.Name n p3, .Name m p6] [] p4) p5, .Assign [.Attribute (.Name "self" q0) n q1] (.Name n q2) q3, .Assign [.Attribute (.Name "self" r0) m r1] (.Name m r2) r3])
    (hp : (fd.params.posonlyargs ++ fd.params.args).head? = some pa0) (h0 : pa0.arg = "self") (hks : (defScope st).names.lookup ("super" : Str) = some .globalImplicit)
    (hint : ∀ L, interactive (envF (nfS "__init__" q st cc c) f L) = false)
    (hsw1 : ∀ L, swapsWith (.Call (.Attribute (.Call (.Name "super" p0) [] [] p1) "__init__" p2) [.Name n p3, .Name m p6] [] p4) none p5.line (envF (nfS "__init__" q st cc c) f L) = pure false)
    (hev : ∀ L, ∃ pl : Sem Bool, eval (.Call (.Attribute (.Call (.Name "super" p0) [] [] p1) "__init__" p2) [.Name n p3, .Name m p6] [] p4) (envF (nfS "__init__" q st cc c) f L) = (do
      let ov ← attributeBase (.Call (.Name "super" p0) [] [] p1) "__init__" (envF (nfS "__init__" q st cc c) f L) (eval (.Call (.Name "super" p0) [] [] p1) (envF (nfS "__init__" q st cc c) f L))
      standAt p2.atName
      let (ff, first) ← holding [ov] (getMethod ov "__init__" pl)
      callWith p4 ff first (backTo p4 (starEach [.Name n p3, .Name m p6] (envF (nfS "__init__" q st cc c) f L))) []))
    (hsw2 : ∀ L, swapsWith (.Name n q2) (some (.Attribute (.Name "self" q0) n q1)) q3.line (envF (nfS "__init__" q st cc c) f L) = pure false) (hsw3 : ∀ L, swapsWith (.Name m r2) (some (.Attribute (.Name "self" r0) m r1)) r3.line (envF (nfS "__init__" q st cc c) f L) = pure false)
    (hdb : (n == ("__debug__" : Str)) = false) (hcd : (n == ("__classdict__" : Str)) = false) (mdb : (m == ("__debug__" : Str)) = false) (mcd : (m == ("__classdict__" : Str)) = false) : FnOk P w K mg base CX0 1 f fd ["self", n, m] (spErr C [n, m]) := by
  refine F.ok S (fun vs H Q E h => ?_) (fun A outer s H vs Q E hr h => ?_)
  · obtain ⟨a, ws, rfl, hl, _⟩ := h
    simpa using hl
  · obtain ⟨a, ws, rfl, hl, ha, hq⟩ := h
    match ws, hl with
    | [v, z], _ =>
      obtain ⟨pl, hev⟩ := hev s.heap.objs.size
      rw [eb]
      have vn : Vis (defScope st) n := .inl (S.par n (by simp))
      have vm : Vis (defScope st) m := .inl (S.par m (by simp))
      have hself : (defScope st).names.lookup ("self" : Str) = some .local := S.par "self" (by simp)
      have pN : PE (ncx CX0 P w K mg base ["self", n, m, "__class__"] (nfS "__init__" q st cc c) f A outer s H E) (.Name n p3) (tVar 1) := pe_var rfl vn hdb hcd
      have pM : PE (ncx CX0 P w K mg base ["self", n, m, "__class__"] (nfS "__init__" q st cc c) f A outer s H E) (.Name m p6) (tVar 2) := pe_var rfl vm mdb mcd
      refine at_supx (i := 0) F rfl rfl clsCell hp hks (S.frk "__class__" (by simp)) (by rw [h0]; exact hself) G.su G.T G.sm G.sub G.sV G.op (by rw [h0]; rfl) rfl ha (pa_cons pN (pa_cons pM pa_nil)) (fun u hu => ?_) (hint := hint _) (hsw := hsw1 _) (hev := hev)
      have ua : u ≠ a := fun y => by
        rw [y, ha] at hu
        cases hu
      refine ⟨v, rfl, z, rfl, by show 2 ≤ 1000; decide, upd_same, ?_, .any ?_⟩
      · rw [upd_ne (Ne.symm ua)]
        exact ha
      · refine WSs.of (pss_cons (ps_ost (pe_var (i := 0) rfl (.inl hself)) (pe_var (i := 1) rfl vn hdb hcd) (hsw2 _)) (pss_one (ps_ost (pe_var (i := 0) rfl (.inl hself)) (pe_var (i := 2) rfl vm mdb mcd) (hsw3 _)))) ?_
        refine ⟨v, rfl, .ref a, rfl, a, C, rfl, G.T, G.no n (by simp), .inl ⟨?_, fun d hd hda => ?_⟩⟩
        · rw [upd_ne (Ne.symm ua)]
          exact ha
        · have du : d ≠ u := fun y => by
            rw [y, upd_same] at hd
            cases hd
          rw [upd_ne du] at hd
          refine ⟨z, rfl, .ref a, rfl, a, C, rfl, G.T, G.no m (by simp), .inr ⟨d, _, upd_same, by rw [upd_ne hda, upd_same], by show 1 ≤ 900; decide, ?_⟩⟩
          have key := hq u d hu du hda ua hd
          have e : upd (upd (upd (upd H u (mwO a u)) d (exd d [(n, v)])) a (exo a C (some d))) d (exd d [(m, z), (n, v)]) = upd (upd (upd H u (mwO a u)) d (exd d [(m, z), (n, v)])) a (exo a C (some d)) := by
            funext b
            by_cases hb : b = d
            · subst hb
              rw [upd_same, upd_ne hda, upd_same]
            · rw [upd_ne hb]
              by_cases h2 : b = a
              · subst h2
                rw [upd_same, upd_same]
              · rw [upd_ne h2, upd_ne hb, upd_ne h2, upd_ne hb]
          show Q .non (upd (upd (upd (upd H u (mwO a u)) d (exd d [(n, v)])) a (exo a C (some d))) d (exd d [(m, z), (n, v)]))
          rw [e]
          exact key
end
abbrev XW := Value → Option Addr → En → Lg → Prop
def upW (X : Cx) (W : XW) : WX := fun cls d σ H => ∃ η L, X.N = names η ∧ σ = vals η ∧ Has H L ∧ W cls d η L
/-- the frame lets out what W tells -/
def Tk (X : Cx) (W : XW) : Prop := Takes X (upW X W)
/-- an error class that can be made -/
structure ErrC (P : Program) (w : World) (K : PySem.W.Frag) (mg : Str → Option Value) (base : Heap) (x : Str) (C : Addr) (ns : List Str) : Prop where
  ex : ∃ fI fd, ErrK K mg x C fI ns ∧ FnOk P w K mg base CX0 1 fI fd ("self" :: ns) (spErr C ns) ∧ L2.Binds K fd ("self" :: ns) []
def GMk (X : Cx) (e : Expr) (η : En) (L : Lg) (Q : XL) : Prop := X.N = names η → ∀ H, Has H L → ∀ pins s, Inv X pins (vals η) H s → wpAny (model X.prog X.w) X.A (eval e X.env) (MkP X pins (vals η) (upX Q)) X.xe s
theorem mkp_imp {X : Cx} {pins : List (Addr × Obj)} {σ : L2.St} {Q Q' : XK} {u : Value} {s : Shared} (h : MkP X pins σ Q u s) (m : ∀ c d H, Q c d H → Q' c d H) : MkP X pins σ Q' u s := by
  obtain ⟨a, oe, vs, sI, H', cls, d, h1, h2, h3, h4, h5, h6, h7, h8, h9, h10, h11, h12, q⟩ := h
  exact ⟨a, oe, vs, sI, H', cls, d, h1, h2, h3, h4, h5, h6, h7, h8, h9, h10, h11, h12, m _ _ _ q⟩
section
variable {X : Cx} {η : En} {L : Lg} {e : Expr} {es : List Expr} {pos p : Pos} {D : GD} {W : XW} {Q : QV} {j k : Nat} {x : Str} {C : Addr} {ns : List Str}
theorem gs_raise (tk : Tk X W) (h : GMk X e η L fun c d L1 => W c d η L1) (hc : X.calm = true := by rfl) : GS X (.Raise (some e) none pos) D η L := fun hN H hH =>
  WS.of (ps_raise (t := fun σ H Q => ∀ pins s, Inv X pins σ H s → wpAny (model X.prog X.w) X.A (eval e X.env) (MkP X pins σ Q) X.xe s) hc tk (fun pins s σ H Q I q => q pins s I))
    (fun pins s I => thn (h hN H hH pins s I) fun u s' z => mkp_imp z fun c d H' ⟨L', h', q⟩ => ⟨η, L', hN, rfl, h', q⟩)
theorem gmk_err {E : XL} (T : ErrC X.prog X.w X.K X.mg X.base x C ns) (hr : RoomG j X.A) (h : GA X (e :: es) η L fun vs L1 => vs.length = ns.length ∧ ∀ d, E (.ref C) (some d) ((d, .xd (ns.zip vs).reverse) :: L1)) (hn : ns.length ≤ 900) (hj : 2 ≤ j := by decide) (hg : Gl X x := by rfl)
    (hdb : (x == ("__debug__" : Str)) = false := by decide) (he : starEach (e :: es) X.env = (false, eval e X.env) :: starEach es X.env := by rfl) (hpl : (backTo pos (starEach es X.env)).any (·.1) = false := by rfl) : GMk X (.Call (.Name x p) (e :: es) [] pos) η L E := fun hN H hH pins s I => by
  obtain ⟨fI, fd, G, F, hb⟩ := T.ex
  refine pmk_oex (dvs := []) (ds := []) G.T G.iC G.tI F (hr.toRoom.mono hj) hb .nil (fun _ _ _ _ _ _ _ z => z.elim) hg G.gC pa_W hdb he hpl pins s (vals η) H _ I ?_
  refine (h hN H hH).mono fun vs H1 ⟨L1, h1, hl, q⟩ => ⟨by omega, fun a ha => ⟨a, vs, by rw [List.append_nil], hl, upd_same, fun u d hu du da ua hd => ⟨rfl, d, _, upd_same, by rw [upd_ne da, upd_same], ?_, ?_⟩⟩⟩
  · rw [upd_ne da] at hd
    exact hd
  · refine ⟨_, ?_, q d⟩
    have hd1 : H1 d = none := by
      rw [upd_ne da] at hd
      exact hd
    have hu1 : H1 u = none := by
      rw [upd_ne ua] at hu
      exact hu
    have old : ∀ b o, H1 b = some o → (upd (del (upd (upd (upd (upd H1 a (exo a C none)) u (mwO a u)) d (exd d (ns.zip vs).reverse)) a (exo a C (some d))) a) d (.xd (ns.zip vs).reverse)) b = some o := fun b o z => by
      have na := ne_of_none z ha
      rw [upd_ne (ne_of_none z hd1), del_ne na, upd_ne na, upd_ne (ne_of_none z hd1), upd_ne (ne_of_none z hu1), upd_ne na]
      exact z
    exact h1.newB hd1 old upd_same
end
section
variable {P : Program} {w : World} {K : PySem.W.Frag} {mg : Str → Option Value} {base : Heap}
/-- where the body of a def stands that may let errors out -/
abbrev cxR (P : Program) (w : World) (K : PySem.W.Frag) (mg : Str → Option Value) (base : Heap) (N : List Str) (x : Str) (sc : Scope) (f : Addr) (cdv : Value) (A : Around) (outer : List Env) (s : Shared) (H : Hp) (E0 : XK) : Cx := cxOf (L2.CX P w) P w K mg base N x sc f cdv A outer s H E0
/-- what is left over may be dropped -/
def drpE (E : XL) : XL := fun c d L => ∃ M, Sub M L ∧ E c d M
abbrev BodyX (P : Program) (w : World) (K : PySem.W.Frag) (mg : Str → Option Value) (base : Heap) (N : List Str) (q : Str) (st : Stmt) (k : Nat) (sp : SpL) : Prop :=
  ∀ (X : Cx) (f : Addr) (cdv : Value) (A : Around) (outer : List Env) (s : Shared) (H : Hp) (E0 : XK) (L : Lg) (vs : List V) (Q : QV) (E : XL), X = cxR P w K mg base N q (defScope st) f cdv A outer s H E0 → X.N.Nodup → RoomG k X.A → Tk X (fun c d _ L' => drpE E c d L') → sp vs L Q E → GSs X (defBody st) (bodyD Q) (begun N vs) L
theorem run_raise {x q : Str} {st : Stmt} {f : Addr} {fd : FuncData} {N ps : List Str} {k : Nat} {sp : SpL} (F : Fun K x q st f fd) (S : FnScope N ps (defScope st)) (args : List Value → Args) (pmV : List V → List V) (pmU : List Value → List Value) (hpm : ∀ vs us, Vals vs us → Vals (pmV vs) (pmU us))
    (hb : ∀ (kV doc pm : Value) (an : Option Addr) (cdv ct : Value) (us : List Value), (pmU us).length = ps.length → bindArgs (PySem.W.fnOf x q (defArgs st) (defBody st) (defScope st) .none kV doc pm an cdv ct) (args us) = pure (ps.zip (pmU us)))
    (hl : ps.length ≤ N.length) (len : ∀ vs L Q E, sp vs L Q E → vs.length = ps.length) (body : BodyX P w K mg base N q st k sp) : RunG P w K mg base (L2.CX P w) (k + 1) f args (fun vs => toSp sp (pmV vs)) := by
  obtain ⟨oc, od, kV, doc, pm, an, cdv, ct, osl, rfl, lk, hcd⟩ := F.ex
  intro A outer s H us vs Q E hr e0 r hsp
  obtain ⟨L, Ql, El, hH, h, hq, he⟩ := hsp
  have hn : (pmV vs).length = ps.length := len _ L Ql El h
  have r2 := hpm vs us r
  have hlv : (pmV vs).length ≤ N.length := by
    rw [hn]
    exact hl
  have tk : Tk (cxR P w K mg base N q (defScope st) f cdv A outer s H E) (fun c d _ L' => drpE El c d L') := (takes_of rfl rfl rfl rfl).imp fun c d σ H' ⟨η, L', _, _, h', M, sb, z⟩ => he c d M H' (sb _ h') z
  exact LamX.run_ofS (CX := L2.CX P w) lk hcd S hr.toRoom e0 (.of_eq (hb kV doc pm an cdv ct us (by rw [← r2.length]; exact hn))) r2 hn fun hr2 =>
    ⟨WSs _ (defBody st), pss_W, body_end (X := cxR P w K mg base N q (defScope st) f cdv A outer s H E) hlv hq hH (body _ f cdv A outer s H E L (pmV vs) Ql El rfl S.nd ⟨hr2, guard_deeper hr.gd⟩ tk h)⟩
/-- THE RULE for a def that may let errors out -/
theorem fn_raise {x : Str} {st : Stmt} {N ps : List Str} {k : Nat} {sp : SpL} (F : Df K mg x st) (S : FnScope N ps (defScope st))
    (hb : ∀ (kV doc pm : Value) (an : Option Addr) (cdv ct : Value) (us : List Value), us.length = ps.length → bindArgs (PySem.W.fnOf x x (defArgs st) (defBody st) (defScope st) .none kV doc pm an cdv ct) ⟨us, []⟩ = pure (ps.zip us))
    (hl : ps.length ≤ N.length) (len : ∀ vs L Q E, sp vs L Q E → vs.length = ps.length) (body : BodyX P w K mg base N x st k sp) : Fn P w K mg base (L2.CX P w) x (k + 1) sp := by
  obtain ⟨f, fd, hm, F⟩ := F
  exact ⟨f, hm, F.kp, run_raise F S argsP id id (fun _ _ r => r) hb hl len body⟩
end
/-- the slot of a name is empty again -/
inductive Clr (x : Str) : En → En → Prop
  | here {o : Option V} {η : En} : Clr x ((x, o) :: η) ((x, none) :: η)
  | there {e : Str × Option V} {η θ : En} : Clr x η θ → Clr x (e :: η) (e :: θ)
theorem Clr.idx {x : Str} {η θ : En} (h : Clr x η θ) : ∃ i : Nat, (names η)[i]? = some x ∧ vals θ = (vals η).set i none ∧ names θ = names η := by
  induction h with
  | here => exact ⟨0, rfl, rfl, rfl⟩
  | there _ ih =>
    obtain ⟨i, a, b, c⟩ := ih
    refine ⟨i + 1, a, ?_, ?_⟩
    · show _ :: vals _ = _ :: (vals _).set i none
      rw [b] <;> rfl
    · show _ :: names _ = _ :: names _
      rw [c] <;> rfl
end G
set_option Elab.async false
set_option linter.all false
set_option maxRecDepth 100000
set_option maxHeartbeats 4000000
namespace G
open PySem PySem.Spec PyProof.Rows L2
/-- n turns; keep: what must stand at every turn; item: what comes at turn i, with the entries that come with it -/
structure Src where
  n : Nat
  keep : Lg → Prop
  item : Nat → V → Lg → Prop
structure SrcOk (J : It) (S : Src) : Prop where
  goes : ∀ i H M, i < S.n → Has H M → S.keep M → J.go i H
  stops : ∀ H M, Has H M → S.keep M → J.stop S.n H
  yields : ∀ i H x H' M, i < S.n → Has H M → S.keep M → J.yld i H x H' → ∃ E, S.item i x E ∧ Has H' (E ++ M)
theorem SrcOk.of {J : It} {n : Nat} {G : Hp → Prop} {Y : Nat → Hp → V → Hp → Prop} {keep : Lg → Prop} {item : Nat → V → Lg → Prop} (w : Walk J n G Y) (hg : ∀ H M, Has H M → keep M → G H)
    (hy : ∀ i H x H' M, i < n → Has H M → keep M → Y i H x H' → ∃ E, item i x E ∧ Has H' (E ++ M)) : SrcOk J ⟨n, keep, item⟩ :=
  ⟨fun i H M hi h k => w.goes i H hi (hg H M h k), fun H M h k => w.stops H (hg H M h k), fun i H x H' M hi h k y => hy i H x H' M hi h k (w.yields i H x H' hi (hg H M h k) y)⟩
def WI (X : Cx) (tg iter : Expr) : TI := fun σ H R => ∀ pins s, Inv X pins σ H s → wpAny (model X.prog X.w) X.A (eval iter X.env) (fun v s1 => wpAny (model X.prog X.w) X.A (pyIter v) (PIE X pins σ tg R) X.xe s1) X.xe s
theorem pi_W {X : Cx} {tg iter : Expr} : PI X tg iter (WI X tg iter) := ⟨fun pins s _ _ _ I h => h pins s I⟩
theorem WI.of {X : Cx} {tg iter : Expr} {wi : TI} {σ : L2.St} {H : Hp} {R : It → Hp → Prop} (h : PI X tg iter wi) (q : wi σ H R) : WI X tg iter σ H R := fun pins s I => h.run pins s σ H R I q
def GI (X : Cx) (tg iter : Expr) (η : En) (L : Lg) (Q : Src → Lg → Prop) : Prop := X.N = names η → ∀ H, Has H L → WI X tg iter (vals η) H fun J H1 => ∃ L1 S, Has H1 L1 ∧ SrcOk J S ∧ Q S L1
/-- one item of a list as it stands -/
def itemAt (xs : List V) : Nat → V → Lg → Prop := fun i x E => xs[i]? = some x ∧ E = []
def itemFn (f : Nat → V) : Nat → V → Lg → Prop := fun i x E => x = f i ∧ E = []
def itemPr (f g : Nat → Option V) : Nat → V → Lg → Prop := fun i v E => ∃ t x y, v = .ref t ∧ E = [(t, .tup [x, y])] ∧ f i = some x ∧ g i = some y
theorem y_at {xs : List V} {i : Nat} {H H' : Hp} {x : V} {M : Lg} (h : Has H M) (y : YAt xs i H x H') : ∃ E, itemAt xs i x E ∧ Has H' (E ++ M) := by
  obtain ⟨e, y⟩ := y
  subst e
  exact ⟨[], ⟨y, rfl⟩, h⟩
theorem y_pr {f g : Nat → Option V} {i : Nat} {H H' : Hp} {x : V} {M : Lg} (h : Has H M) (y : YPair f g i H x H') : ∃ E, itemPr f g i x E ∧ Has H' (E ++ M) := by
  obtain ⟨T, u, v, e1, n, e2, e3, e4⟩ := y
  subst e1 e2
  exact ⟨[(T, .tup [u, v])], ⟨T, u, v, rfl, rfl, e3, e4⟩, h.new n⟩
/-- the list of xs at p stands in the ledger -/
def KeepL (p : Addr) (xs : List V) : Lg → Prop := fun M => (p, HO.lst xs) ∈ M
def KeepT (p : Addr) (xs : List V) : Lg → Prop := fun M => (p, HO.tup xs) ∈ M
section
variable {X : Cx} {η : En} {L : Lg} {Q : Src → Lg → Prop} {tg a b c e : Expr} {p pos : Pos}
theorem gi_list (h : GE X e η L fun v L1 => ∃ q xs, v = .ref q ∧ (q, HO.lst xs) ∈ L1 ∧ Q ⟨xs.length, KeepL q xs, itemAt xs⟩ L1) : GI X tg e η L Q := fun hN H hH =>
  WI.of (pi_list pe_W) (h.then hN hH fun v L1 H1 k1 ⟨q, xs, ev, m, z⟩ => ⟨q, ev, ⟨xs, sql k1 m⟩, L1, _, k1, SrcOk.of walk_list (fun H M hM k => sql hM k) (fun i H x H' M _ hM _ y => y_at hM y), z⟩)
theorem gi_tuple (h : GE X e η L fun v L1 => ∃ q xs, v = .ref q ∧ (q, HO.tup xs) ∈ L1 ∧ Q ⟨xs.length, KeepT q xs, itemAt xs⟩ L1) : GI X tg e η L Q := fun hN H hH =>
  WI.of (pi_tup pe_W) (h.then hN hH fun v L1 H1 k1 ⟨q, xs, ev, m, z⟩ => ⟨q, ev, ⟨xs, sqt k1 m⟩, L1, _, k1, SrcOk.of walk_tup (fun H M hM k => sqt hM k) (fun i H x H' M _ hM _ y => y_at hM y), z⟩)
theorem gi_str (h : GE X e η L fun v L1 => ∃ z : Str, v = .str z ∧ Q ⟨z.cps.size, fun _ => True, fun i v E => (∃ c, z.cps[i]? = some c ∧ v = .str ⟨#[c]⟩) ∧ E = []⟩ L1) : GI X tg e η L Q := fun hN H hH =>
  WI.of (pi_str pe_W) (h.then hN hH fun v L1 H1 k1 ⟨z, ev, q⟩ => ⟨z, ev, L1, _, k1, SrcOk.of walk_str (fun _ _ _ _ => True.intro) (fun i H x H' M _ hM _ y => ⟨[], ⟨y.2, rfl⟩, y.1 ▸ hM⟩), q⟩)
theorem gi_range1 (h : GA X [a] η L fun vs L1 => ∃ j : Int, vs = [.int j] ∧ (-(2 ^ 62) ≤ j ∧ j < 2 ^ 62) ∧ Q ⟨j.toNat, fun _ => True, itemFn fun i => .int (i : Int)⟩ L1) (hm : X.mg "range" = none) (hg : Gl X "range" := by rfl)
    (hs' : starEach [a] X.env = [(false, eval a X.env)] := by rfl) : GI X tg (.Call (.Name "range" p) [a] [] pos) η L Q := fun hN H hH =>
  WI.of (pi_range1 hg hm pa_W hs') (h.then hN hH fun vs L1 H1 k1 ⟨j, e1, bd, q⟩ => ⟨j, e1, bd.1, bd.2, L1, _, k1, SrcOk.of walk_range (fun _ _ _ _ => True.intro) (fun i H x H' M _ hM _ y => by
    obtain ⟨e, y⟩ := y
    subst e
    exact ⟨[], ⟨y.trans (congrArg V.int (Int.zero_add _)), rfl⟩, hM⟩), q⟩)
theorem gi_enum {elts : List Expr} {kk : Nat} {tpos : Pos} (h : GA X [e] η L fun vs L1 => ∃ q xs, vs = [.ref q] ∧ (q, HO.lst xs) ∈ L1 ∧ Q ⟨xs.length, KeepL q xs, itemPr (fun i => some (.int (i : Nat))) (fun i => xs[i]?)⟩ L1) (hm : X.mg "enumerate" = none) (hg : Gl X "enumerate" := by rfl)
    (hs' : starEach [e] X.env = [(false, eval e X.env)] := by rfl) : GI X (.Tuple elts kk tpos) (.Call (.Name "enumerate" p) [e] [] pos) η L Q := fun hN H hH =>
  WI.of (pi_enum hg hm pa_W hs') (h.then hN hH fun vs L1 H1 k1 ⟨q, xs, e1, m, z⟩ => ⟨q, xs, e1, sql k1 m, L1, _, k1, SrcOk.of walk_enum (fun H M hM k => sql hM k) (fun i H x H' M _ hM _ y => y_pr hM y), z⟩)
end
structure LoopS (X : Cx) (tg : Expr) (body : List Stmt) (D : GD) (S : Src) (η : En) (L : Lg) (Pv : Nat → En → Lg → Prop) : Prop where
  h0 : Pv 0 η L
  kp : ∀ i θ M, i ≤ S.n → (M.map (·.1)).Nodup → Pv i θ M → S.keep M
  hs : ∀ i x E θ M, i < S.n → S.item i x E → Pv i θ M → GG X tg x θ (E ++ M) fun θ' M' => GSs X body { nx := Pv (i + 1), rt := D.rt, bk := D.nx, ct := Pv (i + 1) } θ' M'
  hd : ∀ θ M, Pv S.n θ M → D.nx θ M
section
variable {X : Cx} {η : En} {L : Lg} {tg iter : Expr} {body : List Stmt} {pos : Pos} {D : GD}
theorem gs_for (h : GI X tg iter η L fun S L1 => ∃ Pv, LoopS X tg body D S η L1 Pv) (hp : PassesOwn (model X.prog X.w) X.A X.env X.xe := by first | exact PassesOwn.never | exact passes_of rfl | assumption) (hc : X.calm = true := by rfl)
    (hs : ∀ x, foldedSetIterable iter X.env x = pure x := by intro _; rfl) : GS X (.For tg iter body [] pos) D η L := fun hN H hH =>
  WS.of (ps_for hp hc pi_W pg_W pss_W hs) (by
    intro pins s I
    refine wpAny_mono (h hN H hH pins s I) (fun v s1 z => wpAny_mono z (fun itv s2 z2 => ?_) fun _ _ z => z) fun _ _ z => z
    obtain ⟨it, fp, tn, J, H1, ev, I2, T, t0, f2, L1, S, k1, ok, Pv, l⟩ := z2
    refine ⟨it, fp, tn, J, H1, ev, I2, T, t0, f2, ?_⟩
    refine ⟨fun i m σ H => m = S.n - i ∧ i ≤ S.n ∧ upS X (Pv i) σ H, ⟨S.n, by simp, Nat.zero_le _, η, L1, hN, rfl, k1, l.h0⟩, ?_⟩
    rintro i m σ H ⟨rfl, hi, θ, M, n1, es, h1, q1⟩
    have kk := l.kp i θ M hi h1.1 q1
    by_cases hlt : i < S.n
    · refine .inr ⟨ok.goes i H M hlt h1 kk, upS X (Pv (i + 1)), fun σ' H' p' => ⟨S.n - (i + 1), by omega, rfl, hlt, p'⟩, fun x H' y => ?_⟩
      obtain ⟨E, it', h2⟩ := ok.yields i H x H' M hlt h1 kk y
      rw [es]
      exact (l.hs i x E θ M hlt it' q1).then n1 h2 fun θ' M' H2 n2 h2 q2 => q2 n2 H2 h2
    · have e : i = S.n := by omega
      subst e
      exact .inl ⟨ok.stops H M h1 kk, θ, M, n1, es, h1, l.hd θ M q1⟩)
end
def GTs (X : Cx) (ifs : List Expr) (η : En) (L : Lg) (Q : Bool → Lg → Prop) : Prop := match ifs with
  | [] => Q true L
  | [c] => GT X c η L Q
  | _ => False
def WTs (X : Cx) (ifs : List Expr) : TT := match ifs with
  | [] => tYes
  | [c] => WT X c
  | _ => fun _ _ _ => False
theorem pts_W {X : Cx} {ifs : List Expr} : PTs X ifs (WTs X ifs) := by
  match ifs with
  | [] => exact pts_nil
  | [c] => exact pts_one pt_W
  | _ :: _ :: _ => exact ⟨fun _ _ _ _ _ _ h => h.elim⟩
theorem GTs.then {X : Cx} {ifs : List Expr} {η : En} {L : Lg} {Q : Bool → Lg → Prop} {Q' : Bool → Hp → Prop} (h : GTs X ifs η L Q) (hN : X.N = names η) {H : Hp} (hH : Has H L) (m : ∀ b L1 H1, Has H1 L1 → Q b L1 → Q' b H1) : WTs X ifs (vals η) H Q' := by
  match ifs, h with
  | [], h => exact m true L H hH h
  | [c], h => exact GT.then h hN hH m
/-- the block of a comprehension -/
abbrev blkX (X : Cx) (s : Shared) (H : Hp) (scope : Scope) (C : Addr) (cl : List (Str × Addr)) (fp : List Addr) : Cx := X.blk s H scope (compEnvC scope cl C X.env) fp
/-- one turn of a comprehension: the item stands in θ; B: the block's contexts -/
abbrev AllBlk (X : Cx) (scope : Scope) (φ : Cx → Prop) : Prop := ∀ (s : Shared) (H : Hp) (C : Addr) (cl : List (Str × Addr)) (fp : List Addr), φ (blkX X s H scope C cl fp)
abbrev LocB (X : Cx) (scope : Scope) (x : Str) : Prop := AllBlk X scope fun B => Loc B.env.scope x ∧ (B.fn x = true ∨ B.env.scope.names.lookup x = some .local)
theorem idxEq {N : List Str} (hn : N.Nodup) {i : Nat} {x : Str} (h : N[i]? = some x) : N.idxOf x = i := idxU hn (by
  have m := List.idxOf_lt_length_of_mem (List.mem_of_getElem? h)
  rw [List.getElem?_eq_getElem m, List.getElem_idxOf m]) h
def LcTurn (X : Cx) (scope : Scope) (ifs : List Expr) (elt : Expr) (D : Addr) (Nx : Lg → Prop) (θ : En) (M : Lg) : Prop :=
  AllBlk X scope fun B => GTs B ifs θ M fun b M1 => if b = true then AllBlk X scope fun B => GE B elt θ M1 fun y M2 => ∃ acc M3, (D, HO.lst acc) ∈ M2 ∧ acc.length < sizeLine ∧ Swap D (.lst (acc ++ [y])) M2 M3 ∧ Nx M3 else Nx M1
structure LcS (X : Cx) (scope : Scope) (ifs : List Expr) (elt : Expr) (S : Src) (D : Addr) (L : Lg) (st : V → Lg → (En → Lg → Prop) → Prop) (Pv : Nat → Lg → Prop) (Q : QV) : Prop where
  h0 : Pv 0 ((D, .lst []) :: L)
  kp : ∀ i M, i ≤ S.n → (M.map (·.1)).Nodup → Pv i M → S.keep M
  hs : ∀ i x E M, i < S.n → S.item i x E → ((E ++ M).map (·.1)).Nodup → Pv i M → st x (E ++ M) fun θ M' => LcTurn X scope ifs elt D (Pv (i + 1)) θ M'
  hd : ∀ M, Pv S.n M → Q (.ref D) M
theorem wipe_one {σ : L2.St} {i : Nat} {v : Option V} : wipe (σ.set i v) [i] = wipe σ [i] := by
  show (σ.set i v).set i none = σ.set i none
  rw [List.set_set]
def teB (X : Cx) (scope : Scope) (elt : Expr) : TE := fun σ H q => AllBlk X scope fun B => WE B elt σ H q
def ttB (X : Cx) (scope : Scope) (ifs : List Expr) : TT := fun σ H q => AllBlk X scope fun B => WTs B ifs σ H q
theorem pe_teB {X : Cx} {scope : Scope} {elt : Expr} (s : Shared) (H : Hp) (C : Addr) (cl : List (Str × Addr)) (fp : List Addr) : PE (blkX X s H scope C cl fp) elt (teB X scope elt) := ⟨fun pins s1 σ H1 Q I h => h s H C cl fp pins s1 I⟩
theorem pts_ttB {X : Cx} {scope : Scope} {ifs : List Expr} (s : Shared) (H : Hp) (C : Addr) (cl : List (Str × Addr)) (fp : List Addr) : PTs (blkX X s H scope C cl fp) ifs (ttB X scope ifs) := ⟨fun pins s1 σ H1 Q I h => pts_W.run pins s1 σ H1 Q I (h s H C cl fp)⟩
section
variable {X : Cx} {η : En} {L : Lg} {elt iter tg : Expr} {ifs : List Expr} {scope : Scope} {pos p1 p2 p3 : Pos} {x y : Str} {f : V → En} {Q : QV}
/-- what the library's comprehension asks, from ours -/
theorem lc_core' {g : TG} {vs : List Nat} {st : V → Lg → (En → Lg → Prop) → Prop} (nη : X.N = names η) {H : Hp} (hH : Has H L) {Qh : VK} (hq : ∀ D M H', Has H' M → Q (.ref D) M → Qh (.ref D) H')
    (hst : ∀ v M H' k Qk, Has H' M → st v M k → (∀ θ M' H2, X.N = names θ → Has H2 M' → k θ M' → wipe (vals θ) vs = wipe (vals η) vs → Qk (vals θ) H2) → g v (wipe (vals η) vs) H' Qk)
    (h : GI X tg iter η L fun S L1 => ∀ D, ∃ Pv, LcS X scope ifs elt S D L1 st Pv Q) : tLc (WI X tg iter) g (ttB X scope ifs) (teB X scope elt) vs (vals η) H Qh := by
  intro pins s I
  refine wpAny_mono (h nη H hH pins s I) (fun v s1 z => wpAny_mono z (fun itv s2 z2 => ?_) fun _ _ z => z) fun _ _ z => z
  obtain ⟨it, fp, tn, J, H1, ev, I2, T, t0, f2, L1, S, k1, ok, l⟩ := z2
  refine ⟨it, fp, tn, J, H1, ev, I2, T, t0, f2, fun D nD => ?_⟩
  obtain ⟨Pv, l⟩ := l D
  refine ⟨fun i m H => m = S.n - i ∧ i ≤ S.n ∧ ∃ M, Has H M ∧ Pv i M, ⟨S.n, by simp, Nat.zero_le _, _, k1.new nD, l.h0⟩, ?_⟩
  rintro t m H2 ⟨rfl, hi2, M, h3, q1⟩
  have kk := l.kp t M hi2 h3.1 q1
  by_cases hlt : t < S.n
  · refine .inr ⟨ok.goes t H2 M hlt h3 kk, fun H' => ∃ M, Has H' M ∧ Pv (t + 1) M, fun H' p' => ⟨S.n - (t + 1), by omega, rfl, hlt, p'⟩, fun v H3 y => ?_⟩
    obtain ⟨E, it', h4⟩ := ok.yields t H2 v H3 M hlt h3 kk y
    refine hst v (E ++ M) H3 _ _ h4 (l.hs t v E M hlt it' h4.1 q1) fun θ M' H5 nθ h5 q2 ew => ⟨ew, fun s' H' C cl fp => ?_⟩
    refine (q2 s' H' C cl fp).then nθ h5 fun b M1 H6 h6 q3 => ?_
    cases b with
    | true =>
      rw [if_pos rfl] at q3 ⊢
      refine fun s' H' C cl fp => (q3 s' H' C cl fp).then nθ h6 fun y M2 H7 h7 q4 => ?_
      obtain ⟨acc, M3, m2, z, sw, q5⟩ := q4
      exact ⟨acc, h7.get m2, z, M3, h7.swap sw, q5⟩
    | false =>
      rw [if_neg Bool.false_ne_true] at q3 ⊢
      exact ⟨M1, h6, q3⟩
  · have e : t = S.n := by omega
    subst e
    exact .inl ⟨ok.stops H2 M h3 kk, hq D M H2 h3 (l.hd M q1)⟩
/-- the store of the item: one name -/
theorem st_one {i : Nat} (P : PutF x η f) (hi : X.N[i]? = some x) (hN : X.N.Nodup) (nη : X.N = names η) : ∀ (v : V) (M : Lg) (H' : Hp) (k : En → Lg → Prop) (Qk : L2.St → Hp → Prop), Has H' M → k (f v) M → (∀ θ M' H2, X.N = names θ → Has H2 M' → k θ M' → wipe (vals θ) [i] = wipe (vals η) [i] → Qk (vals θ) H2) → gName i v (wipe (vals η) [i]) H' Qk := fun v M H' k Qk hM q hk => by
  obtain ⟨j, h1, h2⟩ := P.idx
  have ij : i = j := idxU hN hi (by rw [nη]; exact h1)
  subst ij
  have e1 : (wipe (vals η) [i]).set i (some v) = vals (f v) := by
    rw [(h2 v).1]
    show ((vals η).set i none).set i (some v) = _
    rw [List.set_set]
  have z := hk (f v) M H' (by rw [(h2 v).2]; exact nη) hM q (by rw [(h2 v).1]; exact wipe_one)
  show Qk ((wipe (vals η) [i]).set i (some v)) H'
  rw [e1]
  exact z
/-- [elt for x in iter if ..], as a value -/
theorem ge_lc1 (P : PutF x η f) (h : GI X (.Name x p1) iter η L fun S L1 => ∀ D, ∃ Pv, LcS X scope ifs elt S D L1 (fun v M k => k (f v) M) Pv Q) (hb : blkC X.N X.env.scope scope [(x, X.N.idxOf x)] = true) (hlx : LocB X scope x := by exact fun _ _ _ _ _ => ⟨.inl rfl, .inr rfl⟩)
    (hN : X.N.Nodup := by assumption) (hc : X.calm = true := by rfl) (hs : ∀ z, foldedSetIterable iter X.env z = pure z := by intro _; rfl) : GE X (.ListComp elt [⟨.Name x p1, iter, ifs, 0⟩] scope pos) η L Q := fun nη H hH => by
  obtain ⟨i, h1, _⟩ := P.idx
  have hi : X.N[i]? = some x := by rw [nη]; exact h1
  exact WE.of (pe_lc (own := [(x, i)]) hc hN pi_W (blkOk_by (by rw [idxEq hN hi] at hb; exact hb)) (fun s H C cl fp => pg_name (X := blkX X s H scope C cl fp) hN hi (hlx s H C cl fp).1 (hlx s H C cl fp).2) pts_ttB pe_teB hs)
    (lc_core' (Qh := up Q) nη hH (fun D M H' hM q => ⟨M, hM, q⟩) (st_one P hi hN nη) h)
theorem wipe_two {σ : L2.St} {i j : Nat} (ne : i ≠ j) {a b : Option V} : ((wipe σ [i, j]).set i a).set j b = (σ.set i a).set j b ∧ wipe ((σ.set i a).set j b) [i, j] = wipe σ [i, j] := by
  refine ⟨?_, ?_⟩
  · show ((((σ.set j none).set i none).set i a).set j b) = _
    rw [List.set_set, List.set_comm _ _ ne, List.set_set, List.set_comm _ _ (Ne.symm ne)]
  · show ((((σ.set i a).set j b).set j none).set i none) = (σ.set j none).set i none
    rw [List.set_set, List.set_comm _ _ ne, List.set_set, List.set_comm _ _ (Ne.symm ne)]
/-- the store of an item: a pair's two names -/
theorem st_two {K : PySem.W.Frag} {g : V → V → En} {i j : Nat} (P : PutF x η f) (R : ∀ v, PutF y (f v) (g v)) (hi : X.N[i]? = some x) (hj : X.N[j]? = some y) (ne : i ≠ j) (hN : X.N.Nodup) (nη : X.N = names η) :
    ∀ (v : V) (M : Lg) (H' : Hp) (k : En → Lg → Prop) (Qk : L2.St → Hp → Prop), Has H' M → (∃ p a b, v = .ref p ∧ (p, HO.tup [a, b]) ∈ M ∧ k (g a b) M) → (∀ θ M' H2, X.N = names θ → Has H2 M' → k θ M' → wipe (vals θ) [i, j] = wipe (vals η) [i, j] → Qk (vals θ) H2) →
      gTup K 2 (gCons (gName i) (gCons (gName j) gNil)) v (wipe (vals η) [i, j]) H' Qk := fun v M H' k Qk hM ⟨p, a, b, ev, m, q⟩ hk => by
  have nf : ∀ v, X.N = names (f v) := fun v => by
    obtain ⟨_, _, h2⟩ := P.idx
    rw [(h2 v).2]
    exact nη
  have e1 : vals (f a) = (vals η).set i (some a) := (P.at hN nη hi a).1
  have e2 : vals (g a b) = (vals (f a)).set j (some b) := ((R a).at hN (nf a) hj b).1
  have nθ : X.N = names (g a b) := (nf a).trans ((R a).at hN (nf a) hj b).2.symm
  have e3 : vals (g a b) = ((vals η).set i (some a)).set j (some b) := by rw [e2, e1]
  refine ⟨p, [a, b], ev, sqt hM m, rfl, a, [b], rfl, b, [], rfl, rfl, ?_⟩
  have z := hk (g a b) M H' nθ hM q (by rw [e3]; exact (wipe_two ne).2)
  rw [e3] at z
  show Qk (((wipe (vals η) [i, j]).set i (some a)).set j (some b)) H'
  rw [(wipe_two ne).1]
  exact z
theorem pg_pair {i j : Nat} {kt : Nat} {pt : Pos} (hc : X.calm = true) (hN : X.N.Nodup) (hi : X.N[i]? = some x) (hj : X.N[j]? = some y) (hlx : LocB X scope x) (hly : LocB X scope y) :
    ∀ (s : Shared) (H : Hp) (C : Addr) (cl : List (Str × Addr)) (fp : List Addr), PG (blkX X s H scope C cl fp) (.Tuple [.Name x p1, .Name y p2] kt pt) (gTup X.K 2 (gCons (gName i) (gCons (gName j) gNil))) := fun s H C cl fp =>
  pg_tup (X := blkX X s H scope C cl fp) (n := 2) hc (pgs_cons (pg_name hN hi (hlx s H C cl fp).1 (hlx s H C cl fp).2) (pgs_cons (pg_name hN hj (hly s H C cl fp).1 (hly s H C cl fp).2) pgs_nil)) rfl rfl
/-- [elt for x, y in iter if ..], as a value -/
theorem ge_lc2 {g : V → V → En} {kt : Nat} {pt : Pos} (P : PutF x η f) (R : ∀ v, PutF y (f v) (g v)) (h : GI X (.Tuple [.Name x p1, .Name y p2] kt pt) iter η L fun S L1 => ∀ D, ∃ Pv, LcS X scope ifs elt S D L1 (fun v M k => ∃ p a b, v = .ref p ∧ (p, HO.tup [a, b]) ∈ M ∧ k (g a b) M) Pv Q)
    (hxy : x ≠ y) (hb : blkC X.N X.env.scope scope [(x, X.N.idxOf x), (y, X.N.idxOf y)] = true) (hlx : LocB X scope x := by exact fun _ _ _ _ _ => ⟨.inl rfl, .inr rfl⟩) (hly : LocB X scope y := by exact fun _ _ _ _ _ => ⟨.inl rfl, .inr rfl⟩)
    (hN : X.N.Nodup := by assumption) (hc : X.calm = true := by rfl) (hs : ∀ z, foldedSetIterable iter X.env z = pure z := by intro _; rfl) : GE X (.ListComp elt [⟨.Tuple [.Name x p1, .Name y p2] kt pt, iter, ifs, 0⟩] scope pos) η L Q := fun nη H hH => by
  obtain ⟨i, h1, h2⟩ := P.idx
  have hi : X.N[i]? = some x := by rw [nη]; exact h1
  obtain ⟨j, k1, _⟩ := (R .non).idx
  have hj : X.N[j]? = some y := by
    rw [(h2 .non).2] at k1
    rw [nη]
    exact k1
  have ne : i ≠ j := fun z => hxy (by rw [z, hj] at hi; exact (Option.some.inj hi).symm)
  exact WE.of (pe_lc (own := [(x, i), (y, j)]) hc hN pi_W (blkOk_by (by rw [idxEq hN hi, idxEq hN hj] at hb; exact hb)) (pg_pair hc hN hi hj hlx hly) pts_ttB pe_teB hs)
    (lc_core' (Qh := up Q) nη hH (fun D M H' hM q => ⟨M, hM, q⟩) (st_two P R hi hj ne hN nη) h)
theorem gs_lc2 {D : GD} {fy : V → En} {z : Str} {pz : Pos} {g : V → V → En} {kt : Nat} {pt : Pos} (Pz : PutF z η fy) (P : PutF x η f) (R : ∀ v, PutF y (f v) (g v)) (h : GI X (.Tuple [.Name x p1, .Name y p2] kt pt) iter η L fun S L1 => ∀ d, ∃ Pv, LcS X scope ifs elt S d L1 (fun v M k => ∃ p a b, v = .ref p ∧ (p, HO.tup [a, b]) ∈ M ∧ k (g a b) M) Pv fun v M => D.nx (fy v) M)
    (hxy : x ≠ y) (hb : blkC X.N X.env.scope scope [(x, X.N.idxOf x), (y, X.N.idxOf y)] = true) (hlx : LocB X scope x := by exact fun _ _ _ _ _ => ⟨.inl rfl, .inr rfl⟩) (hly : LocB X scope y := by exact fun _ _ _ _ _ => ⟨.inl rfl, .inr rfl⟩)
    (hzl : X.env.scope.names.lookup z = some .local := by rfl) (hsw : swapsWith (.ListComp elt [⟨.Tuple [.Name x p1, .Name y p2] kt pt, iter, ifs, 0⟩] scope pos) (some (.Name z pz)) p3.line X.env = pure true := by rfl)
    (hN : X.N.Nodup := by assumption) (hc : X.calm = true := by rfl) (hs : ∀ z, foldedSetIterable iter X.env z = pure z := by intro _; rfl) : GS X (.Assign [.Name z pz] (.ListComp elt [⟨.Tuple [.Name x p1, .Name y p2] kt pt, iter, ifs, 0⟩] scope pos) p3) D η L := fun nη H hH => by
  obtain ⟨i, h1, h2⟩ := P.idx
  have hi : X.N[i]? = some x := by rw [nη]; exact h1
  obtain ⟨j, k1, _⟩ := (R .non).idx
  have hj : X.N[j]? = some y := by
    rw [(h2 .non).2] at k1
    rw [nη]
    exact k1
  have ne : i ≠ j := fun z => hxy (by rw [z, hj] at hi; exact (Option.some.inj hi).symm)
  obtain ⟨l, l1, l2⟩ := Pz.idx
  have hl : X.N[l]? = some z := by rw [nη]; exact l1
  refine WS.of (ps_setLc (own := [(x, i), (y, j)]) hc hN hl hzl hsw pi_W (blkOk_by (by rw [idxEq hN hi, idxEq hN hj] at hb; exact hb)) (pg_pair hc hN hi hj hlx hly) pts_ttB pe_teB hs) ?_
  refine lc_core' (Qh := fun v H1 => gName l v (vals η) H1 (D.ends X).nx) nη hH (fun d M H' hM q => ?_) (st_two P R hi hj ne hN nη) h
  show upS X D.nx ((vals η).set l (some (.ref d))) H'
  exact ⟨fy (.ref d), M, by rw [(l2 _).2]; exact nη, (l2 _).1.symm, hM, q⟩
end
end G
set_option Elab.async false
set_option linter.all false
set_option maxRecDepth 100000
set_option maxHeartbeats 4000000
namespace G
open PySem PySem.Spec PyProof.Rows L2
open PySem.W in
/-- what an own error class says of its instances -/
structure ErV (K : Frag) (D : Addr) : Prop where
  ga : findIn K (.ref D) "__getattribute__" = some (some (.builtin "BaseException.__getattribute__"))
  gt : findIn K (.ref D) "__getattr__" = some none
  ex : subIn K (.ref D) (.type "BaseException") = some true
  hd : hasDictIn K D = true
  cl : findIn K (.ref D) "__class__" = some (some (.builtin "object.__class__"))
  sp : specialIn K (.builtin "object.__class__") "__get__" = some (some (.builtin "getset_descriptor.__get__"))
  tk : takesIn K (.builtin "object.__class__") = some true
  mo : mroIn K D (.type "object") = some true
section
open PySem.W
variable {prog : Program} {w : World} {A : Around} {E : Value → Shared → Prop} {s : Shared} {K : Frag} {x D : Addr} {ox : Obj} {od : Option Obj}
theorem ErV.find (T : ErV K D) : findObj K D od "__class__" = some (.bind (.builtin "getset_descriptor.__get__") (.builtin "object.__class__")) := by
  obtain ⟨cd, hc, _⟩ := any_some T.hd
  unfold findObj
  rw [hc, Option.bind_some, T.cl, Option.bind_some]
  simp [T.sp, T.tk]
/-- its __class__ -/
theorem ErV.cls (T : ErV K D) {Q : Option Value → Shared → Prop} (X : K.In s.heap) (I : InstAt s.heap x ox D od) (h : Q (some (.ref D)) { s with toks := s.toks + 1 }) : wpAny (model prog w) A (getAttr? (.ref x) "__class__") Q E s := by
  obtain ⟨hh, gg, dd, tt, oo⟩ := s
  have ty := I.type (M := model prog w)
  have lga := looks_findIn (M := model prog w) X T.ga
  have lgt := looks_findIn (M := model prog w) X T.gt
  have lfi := looks_find (M := model prog w) X I T.find
  have isb : Looks (model prog w) hh (isInstance (.ref x) (.type "BaseException")) true := ty.andThen (looks_subIn X T.ex)
  have no : (Value.builtin "BaseException.__getattribute__" == Value.builtin "object.__getattribute__") = false := by decide +kernel
  have no2 : (onTheHeap (Value.ref D) && Value.builtin "BaseException.__getattribute__" == Value.builtin "object.__getattribute__") = false := by
    rw [no]
    rfl
  have no3 : (false && onTheHeap (Value.builtin "BaseException.__getattribute__")) = false := rfl
  unfold getAttr? getAttrBy? getAttrBy
  refine wpAny_bind (wpAny_mkText (wpAny_bind (wpAny_attempt (wpAny_holding (wpAny_bind (ty.at (wpAny_bind (lga.at ?_))))))))
  show wpAny _ _ (if (onTheHeap (Value.ref D) && Value.builtin "BaseException.__getattribute__" == Value.builtin "object.__getattribute__") = true then _ else _) _ _ _
  rw [no2, if_neg Bool.false_ne_true]
  unfold getAttrByItsOwn hookBefore
  refine wpAny_bind ?_
  rw [if_pos (show onTheHeap (Value.ref D) = true from rfl)]
  refine lgt.at (wpAny_bind (wpAny_attempt (wpAny_holding ?_)))
  unfold callGetattribute
  rw [no3, if_neg Bool.false_ne_true]
  unfold boundAndCalled
  rw [PySem.F.excAttr_ValueError.ga.bind (.ref x)]
  refine wpAny_bind (wpAny_pure ?_)
  show wpAny _ _ (call (.builtin "BaseException.__getattribute__") [.ref x, .str "__class__" tt]) _ _ _
  refine wpAny_call (codeAny_call_builtin PySem.F.excAttr_ValueError.ga.plain PySem.F.entry_bexc_ga (@check_slot (model prog w) _ _ ⟨hh, gg, dd, tt + 1, oo⟩ "BaseException.__getattribute__" "BaseException" "__getattribute__" (.ref x) [.str "__class__" tt] [] _ (by decide +kernel) (by decide +kernel) isb (PySem.F.args_bexc_ga (.ref x) (.str "__class__" tt)) ?_))
  unfold Builtin.«object.__getattribute__»
  refine wpAny_bind (wpAny_of_eq (a := ((Value.ref x : Value), [Value.str "__class__" tt])) (by first | rfl | (simp only [slotArgs]; rfl)) (wpAny_bind (wpAny_pure (wpAny_bind (ty.at (wpAny_bind (lfi.at ?_)))))))
  show wpAny _ _ (holding [Value.builtin "object.__class__"] (call (.builtin "getset_descriptor.__get__") [.builtin "object.__class__", .ref x, .ref D]) >>= ret) _ _ _
  refine wpAny_bind (wpAny_holding (wpAny_call (class_get (s := ⟨hh, gg, dd, tt + 1, oo⟩) (ox := ox) (od := od) X I T.mo (wpAny_pure ?_))))
  show wpAny _ _ (handedOut (.ref D)) _ _ _
  rw [handedOut_of (v := .ref D) rfl]
  first
    | exact wpAny_pure (wpAny_pure h)
    | exact wpAny_pure h
    | exact wpAny_pure (wpAny_bind (wpAny_pure (wpAny_pure h)))
end
section
variable {X : Cx} {η : En} {L : Lg} {Q : QV} {a C D : Addr} {d : Option Addr} {c : V} {e : Expr} {pos : Pos} {n : Str}
/-- a field of an error -/
def GAt (X : Cx) (n : Str) (x : V) (L : Lg) (Q : QV) : Prop := ∀ pins s σ H u (ex : Bool), Has H L → Inv X pins σ H s → RelV x u → wpAny (model X.prog X.w) X.A (getAttr u n ex) (EP X pins σ (up Q)) X.xe s
theorem ge_attr (h : GE X e η L fun x L1 => GAt X n x L1 Q) (hb : attributeBase e n X.env (eval e X.env) = eval e X.env := by rfl) : GE X (.Attribute e n pos) η L Q := fun hN H hH pins s I =>
  attr_of hb (thn (h hN H hH pins s I) fun u s1 ⟨x, H1, I1, r1, L1, k1, q1⟩ => q1 pins s1 _ H1 u _ k1 I1 r1)
end
end G
set_option Elab.async false
set_option linter.all false
set_option maxRecDepth 100000
set_option maxHeartbeats 4000000
namespace G
open PySem PySem.Spec PyProof.Rows L2
/-- v is the value d, as repr reads it -/
def Rd (L : Lg) (v : V) (d : PyData) : Prop := ∀ (X : Cx) (pins : List (Addr × Obj)) (σ : L2.St) (H : Hp) (s : Shared) (u : Value), Has H L → Inv X pins σ H s → RelV v u → ∃ as, Reads s.heap u d as ∧ (d.hasDict = true → sysModules ∉ as)
section
variable {L : Lg} {v : V} {d : PyData} {p : Addr} {x : Str} {i : Int}
theorem rd_dl (h : Dl L v d) (n : d.hasDict = false) : Rd L v d := fun X pins σ H s u hH I r => by
  obtain ⟨as, q⟩ := Dp.reads I d v u (h X.K H hH) r
  exact ⟨as, q, PyData.noDict_hsm n⟩
theorem rd_bl {b : Bool} : Rd L (.bl b) (.bool b) := rd_dl dl_bl (by simp only [PyData.hasDict])
theorem rd_int : Rd L (.int i) (.int i) := rd_dl dl_int (by simp only [PyData.hasDict])
end
section
variable {X : Cx} {L : Lg} {Q : QV} {v : V} {d : PyData} {k : Nat}
theorem gc_repr (hr : RoomG k X.A) (r : Rd L v d) (s : d.showable = true) (dp : d.depth ≤ 60) (sz : d.shown.length ≤ sizeLine) (q : Q (.str d.shown) L) : GC X (.builtin "repr") [v] L Q := fun pins s' σ H us hH I rv => by
  cases rv with
  | cons ru rr =>
    cases rr
    obtain ⟨as, rd, ns⟩ := r X pins σ H s' _ hH I ru
    have fin : ∀ tk, EP X pins σ (up Q) (.str d.shown tk) { s' with toks := s'.toks + 1 } := fun tk => ⟨.str d.shown, H, I.tok _, ⟨tk, rfl⟩, L, hH, q⟩
    have hu : X.A.units + (d.depth + 1) < cLine := by
      have := hr.toRoom.un
      omega
    cases rd with
    | none =>
      rw [PyData.shown] at fin
      exact P.repr_of_none (fin _)
    | bool b =>
      rw [PyData.shown] at fin
      exact P.repr_of_bool (fin _)
    | int i t =>
      rw [PyData.shown] at fin
      rw [PyData.showable] at s
      exact P.repr_of_int (of_decide_eq_true s) (fin _)
    | str x t =>
      rw [PyData.shown] at fin sz
      exact P.repr_of_str (fin _) sz
    | list h1 h2 h3 h4 => exact repr_of_reads' (.list h1 h2 h3 h4) s ns hr.gd hu (fun _ _ e => e) (fun h' u tk kp => ⟨.str _, H, I.kept (t' := tk) kp, ⟨u, rfl⟩, L, hH, q⟩) sz
    | tuple h1 h2 h3 h4 => exact repr_of_reads' (.tuple h1 h2 h3 h4) s ns hr.gd hu (fun _ _ e => e) (fun h' u tk kp => ⟨.str _, H, I.kept (t' := tk) kp, ⟨u, rfl⟩, L, hH, q⟩) sz
    | dict h1 h2 h3 h4 h5 => exact repr_of_reads' (.dict h1 h2 h3 h4 h5) s ns hr.gd hu (fun _ _ e => e) (fun h' u tk kp => ⟨.str _, H, I.kept (t' := tk) kp, ⟨u, rfl⟩, L, hH, q⟩) sz
end
end G
set_option Elab.async false
set_option linter.all false
set_option maxRecDepth 100000
set_option maxHeartbeats 4000000
namespace G
open PySem PySem.Spec PyProof.Rows L2
end G
set_option Elab.async false
set_option linter.all false
set_option maxRecDepth 100000
set_option maxHeartbeats 4000000
namespace G
open PySem PySem.Spec PyProof.Rows L2 NdefX
def clsBody : Stmt → List Stmt
  | .ClassDef _ _ _ b _ _ _ _ _ _ _ => b
  | _ => []
def clsAt (c : Stmt) (j : Nat) : Stmt := (clsBody c).getD j (.Pass ⟨0, 0, 0, 0⟩)
/-- an own error class, as its user wants it -/
structure ErrT (P : Program) (w : World) (K : PySem.W.Frag) (mg : Str → Option Value) (base : Heap) (x : Str) (C : Addr) (ns : List Str) : Prop where
  gC : mg x = some (.ref C)
  ck : ErrC P w K mg base x C ns
  ev : ErV K C
  no : ∀ n ∈ ns, PySem.W.findIn K (.ref C) n = some none
section
variable {P : Program} {w : World} {K : PySem.W.Frag} {mg : Str → Option Value} {base : Heap} {x q : Str} {st : Stmt} {C fI c cc : Addr} {n m : Str}
variable {nm qn : Str} {N : Addr} {bs bm : List Value} {sn : List Str} {sub : List Value} {ab : Bool} {col : Option Bool} {dd : Option Addr} {k0 k1 k2 k3 k5 : Option Value} {oc kV doc pm ct cl ccl : Value} {od an cld cdd : Option Addr} {osl csl ccs : Array (Option Value)} {vs : Array Value} {fl : Str} {tf : Tok} {cd : ClassData}
/-- what the written part says of an own error class with its own __init__ over ValueError's -/
structure ErrFacts (P : Program) (K : PySem.W.Frag) (x q : Str) (st : Stmt) (C fI c cc : Addr) (nm qn : Str) (N : Addr) (bs bm : List Value) (sn : List Str) (sub : List Value) (ab : Bool) (col : Option Bool) (dd : Option Addr) (k0 k1 k2 k3 k5 : Option Value) (oc kV doc pm ct cl ccl : Value) (od an cld cdd : Option Addr) (osl csl ccs : Array (Option Value)) (vs : Array Value) (fl : Str) (tf : Tok) (cd : ClassData) : Prop where
  a1 : PySem.W.nsIn K mainGlobals x = some (some (.ref C))
  a2 : K.lookup C = some (excClassObj nm qn C N bs bm true sn sub ab col dd k0 k1 k2 k3 k5 "ValueError.__new__")
  a3 : PySem.HandSPX.refsVE bm = true
  a4 : PySem.W.findIn K (.ref C) "__setattr__" = some (some (.builtin "object.__setattr__"))
  a5 : PySem.W.subIn K (.ref C) (.type "BaseException") = some true
  a6 : PySem.W.typeIn K (.ref C) = some (.type "type")
  a7 : PySem.W.keepIn K (.ref C) = true
  a8 : PySem.W.findIn K (.ref C) "__init__" = some (some (.ref fI))
  a9 : PySem.W.typeIn K (.ref fI) = some (.type "function")
  b1 : PySem.W.ks_superIn K C C "__init__" = some (some (.builtin "ValueError.__init__"))
  b2 : PySem.W.mroIn K C (.ref C) = some true
  b3 : PySem.W.subIn K (.ref C) (.type "ValueError") = some true
  b4 : K.lookup fI = some ⟨oc, od, .func (PySem.W.fnX "__init__" q (defArgs st) (defBody st) (defScope st) [("__class__", cc)] .none kV doc pm an (.ref c) ct), osl⟩
  b5 : PySem.W.codeIn K (.ref c) q = true
  b6 : K.lookup cc = some ⟨cl, cld, .cell (some (.ref C)), csl⟩
  b7 : K.lookup c = some ⟨ccl, cdd, .fields vs, ccs⟩
  b8 : vs[2]? = some (.str fl tf)
  b9 : (P.main.file == fl) = true
  c1 : PySem.W.clsIn K C = some cd
  c2 : PySem.W.findIn K (.ref C) "__getattribute__" = some (some (.builtin "BaseException.__getattribute__"))
  c3 : PySem.W.findIn K (.ref C) "__getattr__" = some none
  c4 : PySem.W.hasDictIn K C = true
  c5 : PySem.W.findIn K (.ref C) "__class__" = some (some (.builtin "object.__class__"))
  c6 : PySem.W.mroIn K C (.type "object") = some true
section
variable (F : ErrFacts P K x q st C fI c cc nm qn N bs bm sn sub ab col dd k0 k1 k2 k3 k5 oc kV doc pm ct cl ccl od an cld cdd osl csl ccs vs fl tf cd)
include F
theorem ErrFacts.sup (top : (P.main.scope.names.lookup ("super" : Str)).isSome = false) : SupF P K "__init__" q st fI c cc C (PySem.W.fnX "__init__" q (defArgs st) (defBody st) (defScope st) [("__class__", cc)] .none kV doc pm an (.ref c) ct) :=
  ⟨⟨oc, od, kV, doc, pm, ct, an, osl, rfl, F.b4⟩, F.b5, ⟨cl, cld, csl, F.b6⟩, ⟨ccl, cdd, vs, ccs, fl, tf, F.b7, F.b8, F.b9⟩, ⟨cd, F.c1⟩, top⟩
theorem ErrFacts.errK {ns : List Str} {h : Heap} (X : K.In h) (G : h.Ns mainGlobals mg) (op : PySem.W.nsIn K cStatics "thirdparty.any" = some none) (su : mg "super" = none) (no : ∀ n ∈ ns, PySem.W.findIn K (.ref C) n = some none) : ErrK K mg x C fI ns :=
  ⟨PySem.W.mg_of X G F.a1, ⟨⟨_, _, _, _, _, _, _, _, _, _, _, _, _, _, _, F.a2, F.a3⟩, F.a4, F.a5, F.a6, F.a7⟩, F.a8, F.a9, no, F.b1, F.b2, F.b3, op, su⟩
theorem ErrFacts.errV (sp : PySem.W.specialIn K (.builtin "object.__class__") "__get__" = some (some (.builtin "getset_descriptor.__get__"))) (tk : PySem.W.takesIn K (.builtin "object.__class__") = some true) : ErV K C := ⟨F.c2, F.c3, F.a5, F.c4, F.c5, sp, tk, F.c6⟩
end
/-- the top's own words, needed for every error class -/
structure ErrAll (P : Program) (K : PySem.W.Frag) (mg : Str → Option Value) : Prop where
  top : (P.main.scope.names.lookup ("super" : Str)).isSome = false
  op : PySem.W.nsIn K cStatics "thirdparty.any" = some none
  su : mg "super" = none
  sp : PySem.W.specialIn K (.builtin "object.__class__") "__get__" = some (some (.builtin "getset_descriptor.__get__"))
  tk : PySem.W.takesIn K (.builtin "object.__class__") = some true
section
variable {p0 p1 p2 p3 p4 p5 p6 q0 q1 q2 q3 r0 r1 r2 r3 : Pos} {pa0 : Arg}
/-- a class of one field: def __init__(self, n): super().__init__(n); self.n = n -/
theorem err_mk1 {h : Heap} (n : Str) (X : K.In h) (G : h.Ns mainGlobals mg) (A : ErrAll P K mg) (F : ErrFacts P K x q st C fI c cc nm qn N bs bm sn sub ab col dd k0 k1 k2 k3 k5 oc kV doc pm ct cl ccl od an cld cdd osl csl ccs vs fl tf cd) (no : PySem.W.findIn K (.ref C) n = some none)
    (S : NScope ["self", n, "__class__"] ["self", n] ["__class__"] (defScope st))
    (eb : defBody st = [.Expr (.Call (.Attribute (.Call (.Name "super" p0) [] [] p1) "__init__" p2) [.Name n p3] [] p4) p5, .Assign [.Attribute (.Name "self" q0) n q1] (.Name n q2) q3])
    (hp : ((defArgs st).posonlyargs ++ (defArgs st).args).head? = some pa0) (h0 : pa0.arg = "self") (hks : (defScope st).names.lookup ("super" : Str) = some .globalImplicit)
    (hint : ∀ L, interactive (envF (nfS "__init__" q st cc c) fI L) = false)
    (hsw1 : ∀ L, swapsWith (.Call (.Attribute (.Call (.Name "super" p0) [] [] p1) "__init__" p2) [.Name n p3] [] p4) none p5.line (envF (nfS "__init__" q st cc c) fI L) = pure false)
    (hev : ∀ L, ∃ pl : Sem Bool, eval (.Call (.Attribute (.Call (.Name "super" p0) [] [] p1) "__init__" p2) [.Name n p3] [] p4) (envF (nfS "__init__" q st cc c) fI L) = (do
      let ov ← attributeBase (.Call (.Name "super" p0) [] [] p1) "__init__" (envF (nfS "__init__" q st cc c) fI L) (eval (.Call (.Name "super" p0) [] [] p1) (envF (nfS "__init__" q st cc c) fI L))
      standAt p2.atName
      let (ff, first) ← holding [ov] (getMethod ov "__init__" pl)
      callWith p4 ff first (backTo p4 (starEach [.Name n p3] (envF (nfS "__init__" q st cc c) fI L))) []))
    (hsw2 : ∀ L, swapsWith (.Name n q2) (some (.Attribute (.Name "self" q0) n q1)) q3.line (envF (nfS "__init__" q st cc c) fI L) = pure false) (hdb : (n == ("__debug__" : Str)) = false) (hcd : (n == ("__classdict__" : Str)) = false)
    (hb : ∀ us : List Value, us.length = 2 → bindArgs (PySem.W.fnX "__init__" q (defArgs st) (defBody st) (defScope st) [("__class__", cc)] .none kV doc pm an (.ref c) ct) ⟨us, []⟩ = pure ((["self", n] : List Str).zip us)) : ErrT P w K mg base x C [n] := by
  have N1 : ∀ m ∈ [n], PySem.W.findIn K (.ref C) m = some none := fun m hm => by
    rw [List.mem_singleton.mp hm]
    exact no
  have EK := F.errK (ns := [n]) X G A.op A.su N1
  exact ⟨EK.gC, ⟨fI, _, EK, err1_ok (F.sup A.top) EK S eb hp h0 hks hint hsw1 hev hsw2 hdb hcd, .all fun us hl => hb us hl⟩, F.errV A.sp A.tk, N1⟩
/-- a class of two fields -/
theorem err_mk2 {h : Heap} (n m : Str) (X : K.In h) (G : h.Ns mainGlobals mg) (A : ErrAll P K mg) (F : ErrFacts P K x q st C fI c cc nm qn N bs bm sn sub ab col dd k0 k1 k2 k3 k5 oc kV doc pm ct cl ccl od an cld cdd osl csl ccs vs fl tf cd) (no : PySem.W.findIn K (.ref C) n = some none) (no2 : PySem.W.findIn K (.ref C) m = some none)
    (S : NScope ["self", n, m, "__class__"] ["self", n, m] ["__class__"] (defScope st))
    (eb : defBody st = [.Expr (.Call (.Attribute (.Call (.Name "super" p0) [] [] p1) "__init__" p2) [.Name n p3, .Name m p6] [] p4) p5, .Assign [.Attribute (.Name "self" q0) n q1] (.Name n q2) q3, .Assign [.Attribute (.Name "self" r0) m r1] (.Name m r2) r3])
    (hp : ((defArgs st).posonlyargs ++ (defArgs st).args).head? = some pa0) (h0 : pa0.arg = "self") (hks : (defScope st).names.lookup ("super" : Str) = some .globalImplicit)
    (hint : ∀ L, interactive (envF (nfS "__init__" q st cc c) fI L) = false)
    (hsw1 : ∀ L, swapsWith (.Call (.Attribute (.Call (.Name "super" p0) [] [] p1) "__init__" p2) [.Name n p3, .Name m p6] [] p4) none p5.line (envF (nfS "__init__" q st cc c) fI L) = pure false)
    (hev : ∀ L, ∃ pl : Sem Bool, eval (.Call (.Attribute (.Call (.Name "super" p0) [] [] p1) "__init__" p2) [.Name n p3, .Name m p6] [] p4) (envF (nfS "__init__" q st cc c) fI L) = (do
      let ov ← attributeBase (.Call (.Name "super" p0) [] [] p1) "__init__" (envF (nfS "__init__" q st cc c) fI L) (eval (.Call (.Name "super" p0) [] [] p1) (envF (nfS "__init__" q st cc c) fI L))
      standAt p2.atName
      let (ff, first) ← holding [ov] (getMethod ov "__init__" pl)
      callWith p4 ff first (backTo p4 (starEach [.Name n p3, .Name m p6] (envF (nfS "__init__" q st cc c) fI L))) []))
    (hsw2 : ∀ L, swapsWith (.Name n q2) (some (.Attribute (.Name "self" q0) n q1)) q3.line (envF (nfS "__init__" q st cc c) fI L) = pure false) (hsw3 : ∀ L, swapsWith (.Name m r2) (some (.Attribute (.Name "self" r0) m r1)) r3.line (envF (nfS "__init__" q st cc c) fI L) = pure false)
    (hdb : (n == ("__debug__" : Str)) = false) (hcd : (n == ("__classdict__" : Str)) = false) (mdb : (m == ("__debug__" : Str)) = false) (mcd : (m == ("__classdict__" : Str)) = false)
    (hb : ∀ us : List Value, us.length = 3 → bindArgs (PySem.W.fnX "__init__" q (defArgs st) (defBody st) (defScope st) [("__class__", cc)] .none kV doc pm an (.ref c) ct) ⟨us, []⟩ = pure ((["self", n, m] : List Str).zip us)) : ErrT P w K mg base x C [n, m] := by
  have N1 : ∀ y ∈ [n, m], PySem.W.findIn K (.ref C) y = some none := fun y hy => by
    rcases List.mem_cons.mp hy with rfl | hy
    · exact no
    · rw [List.mem_singleton.mp hy]
      exact no2
  have EK := F.errK (ns := [n, m]) X G A.op A.su N1
  exact ⟨EK.gC, ⟨fI, _, EK, err2_ok (F.sup A.top) EK S eb hp h0 hks hint hsw1 hev hsw2 hsw3 hdb hcd mdb mcd, .all fun us hl => hb us hl⟩, F.errV A.sp A.tk, N1⟩
end
end
section
variable {X : Cx} {η : En} {L : Lg} {Q : QV} {El : XL} {CX : CXT} {x : Str} {j k : Nat} {sp : SpL} {e : Expr} {es : List Expr} {kws : List Keyword} {pos p : Pos} {W : XW}
/-- the values of keywords, one behind another -/
def GK (X : Cx) (kws : List Keyword) (η : En) (L : Lg) (Q : List V → Lg → Prop) : Prop := match kws with
  | [] => Q [] L
  | k :: r => GE X k.value η L fun v L1 => GK X r η L1 fun vs L2 => Q (v :: vs) L2
theorem gk_nil {Q : List V → Lg → Prop} (q : Q [] L) : GK X [] η L Q := q
theorem gk_cons {k : Keyword} {Q : List V → Lg → Prop} (h : GE X k.value η L fun v L1 => GK X kws η L1 fun vs L2 => Q (v :: vs) L2) : GK X (k :: kws) η L Q := h
theorem GK.run {Q : List V → Lg → Prop} : ∀ {kws : List Keyword} {L : Lg} {Q : List V → Lg → Prop}, GK X kws η L Q → X.N = names η → ∀ (pos : Pos) (pins : List (Addr × Obj)) (s : Shared) (H : Hp), Has H L → Inv X pins (vals η) H s →
    wpAny (model X.prog X.w) X.A (evalAll ((backToKw pos (keywordEach kws X.env)).map (·.2))) (fun us s' => ∃ vs H', Inv X pins (vals η) H' s' ∧ Vals vs us ∧ ∃ L', Has H' L' ∧ Q vs L') X.xe s
  | [], L, Q, h, hN, pos, pins, s, H, hH, I => wpAny_evalAll_nil ⟨[], H, I, .nil, L, hH, h⟩
  | ⟨nm, e, kp⟩ :: r, L, Q, h, hN, pos, pins, s, H, hH, I => by
    show wpAny _ _ (evalAll ((do let v ← eval e X.env; standAt pos; pure v) :: (backToKw pos (keywordEach r X.env)).map (·.2))) _ _ s
    refine wpAny_evalAll_cons (wpAny_bind (thn (h hN H hH pins s I) fun u s1 ⟨x, H1, I1, r1, L1, h1, q1⟩ => wpAny_bind (wpAny_standAt (wpAny_pure ?_))))
    exact thn (GK.run (Q := Q) q1 hN pos pins s1 H1 h1 I1) fun us s2 ⟨xs, H2, I2, r2, L2, h2, q2⟩ => ⟨x :: xs, H2, I2, .cons r1 r2, L2, h2, q2⟩
/-- what is at f, called with values that keep φ -/
def GF (X : Cx) (η : En) (f : Addr) (args : List Value → Args) (φ : List V → Lg → Prop) (Q : QV) : Prop :=
  ∀ (pins : List (Addr × Obj)) (s : Shared) (H : Hp) (us : List Value) (vs : List V) (L : Lg), Has H L → Inv X pins (vals η) H s → Vals vs us → φ vs L → wpAny (model X.prog X.w) X.A (call (.ref f) (args us).pos (args us).kw) (EP X pins (vals η) (up Q)) X.xe s
theorem gf_of {f : Addr} {args : List Value → Args} (F : RunG X.prog X.w X.K X.mg X.base CX k f args (toSp sp)) (hr : RoomG j X.A) (hx : Passes CX X (upX El)) (hjk : k ≤ j := by decide) : GF X η f args (fun vs L => sp vs L Q El) Q := fun _ _ _ _ _ _ hH I r h => run_G F (hr.mono hjk) hx I r (up_sp hH h)
/-- f(.., k = v, ..) -/
theorem ge_kw {n : Nat} {ks : List Str} {f : Addr} {φ : List V → Lg → Prop} (hm : X.mg x = some (.ref f)) (hk : PySem.W.keepIn X.K (.ref f) = true) (F : X.N = names η → GF X η f (argsK n ks) φ Q) (h : GA X (e :: es) η L fun vs L1 => GK X kws η L1 fun ws L2 => vs.length = n ∧ φ (vs ++ ws) L2)
    (hks : (backToKw pos (keywordEach kws X.env)).filterMap (·.1) = ks := by rfl) (hall : (backToKw pos (keywordEach kws X.env)).all (·.1.isSome) = true := by rfl) (hg : Gl X x := by rfl) (hd : (x == ("__debug__" : Str)) = false := by decide)
    (he : starEach (e :: es) X.env = (false, eval e X.env) :: starEach es X.env := by rfl) (hpl : ((backTo pos (starEach (e :: es) X.env)).any (·.1) || (backToKw pos (keywordEach kws X.env)).any (·.1.isNone)) = false := by rfl) : GE X (.Call (.Name x p) (e :: es) kws pos) η L Q := fun hN H hH pins s I => by
  refine wpAny_Call_Name_kw (ld_glob I hg hm ?_ hd)
  refine PySem.W.callWith_KW (h₀ := X.base) I.ok.mod.kin hk hall (thn (h hN H hH pos pins s I) fun us s1 ⟨vs, H1, I1, r1, L1, h1, q1⟩ => ?_) hpl he
  refine thn (GK.run (Q := fun _ _ => True) q1 hN pos pins s1 H1 h1 I1) fun ws s2 ⟨zs, H2, I2, r2, L2, h2, ln, q2⟩ => ⟨I2.kIn, ?_⟩
  have l1 : us.length = n := r1.length.symm.trans ln
  have z := F hN pins s2 H2 (us ++ ws) (vs ++ zs) L2 h2 I2 (r1.append r2) q2
  have e1 : (us ++ ws).take n = us := by rw [← l1]; exact List.take_left
  have e2 : (us ++ ws).drop n = ws := by rw [← l1]; exact List.drop_left
  rw [hks]
  show wpAny _ _ (call (.ref f) us (ks.zip ws)) _ _ _
  have z' : wpAny (model X.prog X.w) X.A (call (.ref f) ((us ++ ws).take n) (ks.zip ((us ++ ws).drop n))) (EP X pins (vals η) (up Q)) X.xe s2 := z
  rw [e1, e2] at z'
  exact z'
theorem ge_kw0 {ks : List Str} {f : Addr} {φ : List V → Lg → Prop} (hm : X.mg x = some (.ref f)) (hk : PySem.W.keepIn X.K (.ref f) = true) (F : X.N = names η → GF X η f (argsK 0 ks) φ Q) (h : GK X kws η L φ)
    (hks : (backToKw pos (keywordEach kws X.env)).filterMap (·.1) = ks := by rfl) (hall : (backToKw pos (keywordEach kws X.env)).all (·.1.isSome) = true := by rfl) (hg : Gl X x := by rfl) (hd : (x == ("__debug__" : Str)) = false := by decide)
    (hpl : ((backTo pos (starEach [] X.env)).any (·.1) || (backToKw pos (keywordEach kws X.env)).any (·.1.isNone)) = false := by rfl) : GE X (.Call (.Name x p) [] kws pos) η L Q := fun hN H hH pins s I => by
  refine wpAny_Call_Name_kw (ld_glob I hg hm ?_ hd)
  refine PySem.W.callWith_KW0 (h₀ := X.base) I.ok.mod.kin hk hall (thn (GK.run (Q := fun _ _ => True) h hN pos pins s H hH I) fun ws s2 ⟨zs, H2, I2, r2, L2, h2, q2⟩ => ⟨I2.kIn, ?_⟩) hpl
  rw [hks]
  exact F hN pins s2 H2 ws zs L2 h2 I2 r2 q2
/-- a def by its name, as a value -/
theorem gv_def {f : Addr} (hm : X.mg x = some (.ref f)) (q : Q (.ref f) L) (hg : Gl X x := by rfl) (hd : (x == ("__debug__" : Str)) = false := by decide) : GE X (.Name x pos) η L Q := ge_con (pe_glob (v := .ref f) hg hm rfl hd) q
end
section
variable {X : Cx} {η : En} {L : Lg} {Q : QV} {pos : Pos}
theorem gv_ValueError (B : Bi X.mg) (q : Q (.ty "ValueError") L) (hg : Gl X "ValueError" := by rfl) : GE X (.Name "ValueError" pos) η L Q := ge_tyName B.ValueError bt_ValueError q hg (by decide) (by decide)
theorem gv_LookupError (B : Bi X.mg) (q : Q (.ty "LookupError") L) (hg : Gl X "LookupError" := by rfl) : GE X (.Name "LookupError" pos) η L Q := ge_tyName B.LookupError bt_LookupError q hg (by decide) (by decide)
/-- {} -/
theorem ge_dict0 (h : ∀ p, Q (.ref p) ((p, .dK []) :: L)) : GE X (.Dict [] [] pos) η L Q := fun _ H hH => WE.of pe_dnewK fun p hp => ⟨_, hH.new hp, h p⟩
theorem gb_repr {e : Expr} {p : Pos} {k : Nat} (B : Bi X.mg) (hr : RoomG k X.A) (h : GE X e η L fun v L1 => ∃ d, Rd L1 v d ∧ d.showable = true ∧ d.depth ≤ 60 ∧ d.shown.length ≤ sizeLine ∧ Q (.str d.shown) L1) (hg : Gl X "repr" := by rfl) (hs : starEach [e] X.env = (false, eval e X.env) :: starEach [] X.env := by rfl) :
    GE X (.Call (.Name "repr" p) [e] [] pos) η L Q :=
  ge_B B.repr (by decide +kernel) (ga_cons (h.imp fun v L1 ⟨d, r, s, dp, z, q⟩ => ga_nil (gc_repr hr r s dp z q)) hs) hg (by decide) (by decide) hs rfl
end
end G
set_option Elab.async false
set_option linter.all false
set_option maxRecDepth 100000
set_option maxHeartbeats 4000000
namespace G
open PySem PySem.Spec PyProof.Rows L2
section
variable {X : Cx} {η : En} {L : Lg} {Q : QV} {p q : Addr} {xs ys : List V} {i k : Int}
theorem go_cat (m1 : (p, HO.lst xs) ∈ L) (m2 : (q, HO.lst ys) ∈ L) (z : xs.length + ys.length ≤ sizeLine) (h : ∀ r, Q (.ref r) ((r, .lst (xs ++ ys)) :: L)) : GOp X (binaryOp .Add) (.ref p) (.ref q) L Q := GOp.of op_cat fun H hH => ⟨p, q, xs, ys, rfl, rfl, hH.get m1, hH.get m2, z, fun r hr => ⟨_, hH.new hr, h r⟩⟩
/-- lists of ints compared -/
theorem go_eqI {j : Nat} {ns ms : List Int} (hr : RoomG j X.A) (m1 : (p, HO.lst (ns.map V.int)) ∈ L) (m2 : (q, HO.lst (ms.map V.int)) ∈ L) (h : Q (.bl (decide (ns = ms))) L) : GOp X (compareOp .Eq) (.ref p) (.ref q) L Q :=
  go_eqD hr.toRoom (dl_lst m1 dls_ints) (dl_lst m2 dls_ints) (shapedL _) (shapedL _) (by rw [eqvL]; exact h)
end
/-- a datum that repr shows, within n signs and k levels -/
structure Sh (d : PyData) (n k : Nat) : Prop where
  s : d.showable = true
  dp : d.depth ≤ k
  l : d.shown.length ≤ n
theorem sh_bl {b : Bool} : Sh (.bool b) 5 0 := ⟨by rw [PyData.showable], by rw [PyData.depth]; exact Nat.le_refl _, by rw [PyData.shown]; cases b <;> decide⟩
theorem log_lt {i : Int} (h : i.natAbs < 2 ^ 1920) : i.natAbs.log2 < 1920 := by
  by_cases z : i.natAbs = 0
  · rw [z]
    decide
  · exact (Nat.log2_lt z).mpr h
theorem sh_int {i : Int} (h : i.natAbs < 2 ^ 1920) : Sh (.int i) 1921 0 := ⟨by rw [PyData.showable]; exact decide_eq_true (log_lt h), by rw [PyData.depth]; exact Nat.le_refl _, by rw [PyData.shown]; exact int_text_len_1921 (log_lt h)⟩
theorem showAll_of {n k : Nat} : ∀ {xs : List PyData}, (∀ x ∈ xs, Sh x n k) → PyData.showableAll xs = true
  | [], _ => by rw [PyData.showableAll]
  | x :: xs, h => by
    rw [PyData.showableAll, (h x (List.mem_cons_self ..)).s, Bool.true_and]
    exact showAll_of fun y hy => h y (List.mem_cons_of_mem _ hy)
theorem depthAll_of {n k : Nat} : ∀ {xs : List PyData}, (∀ x ∈ xs, Sh x n k) → PyData.depthAll xs ≤ k
  | [], _ => by simp [PyData.depthAll]
  | x :: xs, h => by
    have a := (h x (List.mem_cons_self ..)).dp
    have b := depthAll_of (xs := xs) fun y hy => h y (List.mem_cons_of_mem _ hy)
    simp only [PyData.depthAll]
    omega
theorem lenAll_of {n k : Nat} : ∀ {xs : List PyData}, (∀ x ∈ xs, Sh x n k) → ((PyData.shownAll xs).map (·.length)).sum ≤ n * xs.length ∧ (PyData.shownAll xs).length = xs.length
  | [], _ => by simp [PyData.shownAll]
  | x :: xs, h => by
    have a := (h x (List.mem_cons_self ..)).l
    have b := lenAll_of (xs := xs) fun y hy => h y (List.mem_cons_of_mem _ hy)
    rw [PyData.shownAll]
    simp only [List.map_cons, List.sum_cons, List.length_cons, Nat.mul_succ]
    omega
theorem sh_list {n k m : Nat} {xs : List PyData} (h : ∀ x ∈ xs, Sh x n k) (hm : xs.length ≤ m) : Sh (.list xs) (n * m + 2 * m + 3) (k + 1) := by
  have a := lenAll_of h
  have b := listText_len_le (PyData.shownAll xs)
  have c : n * xs.length ≤ n * m := Nat.mul_le_mul_left _ hm
  refine ⟨by rw [PyData.showable]; exact showAll_of h, by rw [PyData.depth]; exact Nat.succ_le_succ (depthAll_of h), by rw [PyData.shown]; omega⟩
section
variable {X : Cx} {η : En} {L : Lg} {Q : QV} {e : Expr} {p pos : Pos} {k n m : Nat}
/-- repr(e), by the datum's measure -/
theorem gb_reprS (B : Bi X.mg) (hr : RoomG k X.A) (h : GE X e η L fun v L1 => ∃ d n m, Rd L1 v d ∧ Sh d n m ∧ m ≤ 60 ∧ n ≤ sizeLine ∧ Q (.str d.shown) L1) (hg : Gl X "repr" := by rfl) (hs : starEach [e] X.env = (false, eval e X.env) :: starEach [] X.env := by rfl) :
    GE X (.Call (.Name "repr" p) [e] [] pos) η L Q := gb_repr B hr (h.imp fun v L1 ⟨d, n, m, r, s, a, b, q⟩ => ⟨d, r, s.s, Nat.le_trans s.dp a, Nat.le_trans s.l b, q⟩) hg hs
theorem szL (h : n ≤ 16777216) : n ≤ sizeLine := by
  rw [sizeLine_eq]
  exact h
end
theorem range_more {p : Nat → Bool} {g : Nat → V} {i : Nat} : ((List.range (i + 1)).filter p).map g = ((List.range i).filter p).map g ++ (if p i = true then [g i] else []) := by
  rw [List.range_succ, List.filter_append, List.map_append]
  congr 1
  by_cases h : p i = true
  · rw [if_pos h, List.filter_cons_of_pos h]
    rfl
  · rw [if_neg h, List.filter_cons_of_neg h]
    rfl
theorem GTs.sub {X : Cx} {ifs : List Expr} {η : En} {L M : Lg} {Q : Bool → Lg → Prop} (s : Sub M L) (h : GTs X ifs η M fun b M1 => ∀ M2, Sub M1 M2 → Q b M2) : GTs X ifs η L Q := by
  match ifs, h with
  | [], h => exact h _ s
  | [c], h => exact GT.sub s (h.imp fun b M1 q => q _ .refl)
section
variable {X : Cx} {η : En} {L : Lg} {elt iter tg : Expr} {ifs : List Expr} {scope : Scope} {pos p1 p2 p3 : Pos} {x y : Str} {f : V → En} {Q : QV}
/-- what such a comprehension is shown of; st: how an item is stored -/
structure PureC (X : Cx) (scope : Scope) (ifs : List Expr) (elt : Expr) (S : Src) (L : Lg) (st : V → Lg → (En → Lg → Prop) → Prop) (p : Nat → Bool) (g : Nat → V) : Prop where
  n : S.n ≤ 1000000
  kp : ∀ M, (∀ e ∈ L, e ∈ M) → S.keep M
  tn : ∀ i x E D acc M, i < S.n → S.item i x E → ((E ++ M).map (·.1)).Nodup → Sub ((D, .lst acc) :: L) M → st x (E ++ M) fun θ M' => AllBlk X scope fun B => GTs B ifs θ M' fun b M1 => b = p i ∧ Sub ((D, .lst acc) :: L) M1 ∧ (b = true → AllBlk X scope fun B => GE B elt θ M1 fun z M2 => z = g i ∧ Sub ((D, .lst acc) :: L) M2)
theorem GE.undrp {e : Expr} (h : GE X e η L (drp Q)) : GE X e η L Q := fun hN H hH => (h hN H hH).mono fun v H' ⟨M, hM, N, s, q⟩ => ⟨N, s H' hM, q⟩
theorem GS.undrp {st : Stmt} {D : GD} (h : GS X st { D with nx := fun θ M => ∃ N, Sub N M ∧ D.nx θ N } η L) : GS X st D η L := fun hN H hH =>
  (h hN H hH).mono (fun σ H' ⟨θ, M, n1, es, hM, N, s, q⟩ => ⟨θ, N, n1, es, s H' hM, q⟩) (fun _ _ z => z) (fun _ _ z => z) fun _ _ z => z
theorem filter_le {p : Nat → Bool} {g : Nat → V} {i : Nat} : (((List.range i).filter p).map g).length ≤ i := by
  rw [List.length_map]
  exact Nat.le_trans (List.length_filter_le _ _) (by rw [List.length_range]; exact Nat.le_refl _)
theorem PureC.lc {S : Src} {st : V → Lg → (En → Lg → Prop) → Prop} {p : Nat → Bool} {g : Nat → V} (h : PureC X scope ifs elt S L st p g) (mono : ∀ v M (k k' : En → Lg → Prop), (∀ θ M', k θ M' → k' θ M') → st v M k → st v M k') (D : Addr)
    (q : Q (.ref D) ((D, .lst (((List.range S.n).filter p).map g)) :: L)) : ∃ Pv, LcS X scope ifs elt S D L st Pv (drp Q) := by
  refine ⟨fun i M => Sub ((D, .lst (((List.range i).filter p).map g)) :: L) M, Sub.refl, fun i M _ nd s => h.kp M fun e m => (s.to nd).2 e (List.mem_cons_of_mem _ m), fun i x E M hi it nd s => ?_, fun M s => ⟨_, s, q⟩⟩
  refine mono x (E ++ M) _ _ (fun θ M' k => ?_) (h.tn i x E D _ M hi it nd s)
  intro s1 H1 C1 cl1 fp1
  have k1 := k s1 H1 C1 cl1 fp1
  have more := range_more (p := p) (g := g) (i := i)
  have key : ∀ b M1, (b = p i ∧ Sub ((D, .lst (((List.range i).filter p).map g)) :: L) M1 ∧ (b = true → AllBlk X scope fun B => GE B elt θ M1 fun z M2 => z = g i ∧ Sub ((D, .lst (((List.range i).filter p).map g)) :: L) M2)) →
      if b = true then AllBlk X scope fun B => GE B elt θ M1 fun y M2 => ∃ acc M3, (D, HO.lst acc) ∈ M2 ∧ acc.length < sizeLine ∧ Swap D (.lst (acc ++ [y])) M2 M3 ∧ Sub ((D, .lst (((List.range (i + 1)).filter p).map g)) :: L) M3 else Sub ((D, .lst (((List.range (i + 1)).filter p).map g)) :: L) M1 := fun b M1 ⟨eb, sb, hb⟩ => by
    cases b with
    | true =>
      rw [if_pos rfl]
      intro s2 H2 C2 cl2 fp2
      refine GE.nd ((hb rfl s2 H2 C2 cl2 fp2).imp fun y M2 ⟨ey, s3⟩ nd => ?_)
      have m2 := (s3.to nd).2 _ List.mem_cons_self
      obtain ⟨M3, sw⟩ := Swap.ex (o := .lst (((List.range i).filter p).map g ++ [y])) (u := .lst (((List.range i).filter p).map g)) rfl m2
      refine ⟨_, M3, m2, ?_, sw, ?_⟩
      · have := filter_le (p := p) (g := g) (i := i)
        have := h.n
        rw [sizeLine_eq]
        omega
      · rw [more, if_pos eb.symm, ← ey]
        exact s3.swap sw
    | false =>
      rw [if_neg Bool.false_ne_true, more, if_neg (by rw [← eb]; exact Bool.false_ne_true), List.append_nil]
      exact sb
  match ifs, k1 with
  | [], k1 => exact key _ _ k1
  | [c], k1 => exact k1.imp fun b M1 z => key b M1 z
theorem GI.imp {Q Q' : Src → Lg → Prop} (h : GI X tg iter η L Q) (m : ∀ S L1, Q S L1 → Q' S L1) : GI X tg iter η L Q' := fun hN H hH pins s I =>
  wpAny_mono (h hN H hH pins s I) (fun v s1 z => wpAny_mono z (fun itv s2 ⟨it, fp, tn, J, H1, ev, I2, T, t0, f2, L1, S, k1, ok, q⟩ => ⟨it, fp, tn, J, H1, ev, I2, T, t0, f2, L1, S, k1, ok, m S L1 q⟩) fun _ _ z => z) fun _ _ z => z
/-- what is shown of a pure comprehension: R what holds of the new list -/
def PureL (X : Cx) (scope : Scope) (ifs : List Expr) (elt : Expr) (st : V → Lg → (En → Lg → Prop) → Prop) (R : V → Lg → Prop) (S : Src) (L1 : Lg) : Prop := ∃ p g, PureC X scope ifs elt S L1 st p g ∧ ∀ D, R (.ref D) ((D, .lst (((List.range S.n).filter p).map g)) :: L1)
abbrev stOne (f : V → En) : V → Lg → (En → Lg → Prop) → Prop := fun v M k => k (f v) M
abbrev stTwo (g : V → V → En) : V → Lg → (En → Lg → Prop) → Prop := fun v M k => ∃ p a b, v = .ref p ∧ (p, HO.tup [a, b]) ∈ M ∧ k (g a b) M
theorem monoOne {f : V → En} : ∀ v M (k k' : En → Lg → Prop), (∀ θ M', k θ M' → k' θ M') → stOne f v M k → stOne f v M k' := fun _ _ _ _ m z => m _ _ z
theorem monoTwo {g : V → V → En} : ∀ v M (k k' : En → Lg → Prop), (∀ θ M', k θ M' → k' θ M') → stTwo g v M k → stTwo g v M k' := fun _ _ _ _ m ⟨p, a, b, e, h, z⟩ => ⟨p, a, b, e, h, m _ _ z⟩
/-- [elt for x in iter if ..], all parts pure -/
theorem ge_lcP (P : PutF x η f) (h : GI X (.Name x p1) iter η L (PureL X scope ifs elt (stOne f) Q)) (hb : blkC X.N X.env.scope scope [(x, X.N.idxOf x)] = true) (hlx : LocB X scope x := by exact fun _ _ _ _ _ => ⟨.inl rfl, .inr rfl⟩)
    (hN : X.N.Nodup := by assumption) (hc : X.calm = true := by rfl) (hs : ∀ z, foldedSetIterable iter X.env z = pure z := by intro _; rfl) : GE X (.ListComp elt [⟨.Name x p1, iter, ifs, 0⟩] scope pos) η L Q :=
  GE.undrp (ge_lc1 P (h.imp fun S L1 ⟨p, g, pc, q⟩ D => pc.lc monoOne D (q D)) hb hlx hN hc hs)
theorem ge_lcP2 {g : V → V → En} {kt : Nat} {pt : Pos} (P : PutF x η f) (R : ∀ v, PutF y (f v) (g v)) (h : GI X (.Tuple [.Name x p1, .Name y p2] kt pt) iter η L (PureL X scope ifs elt (stTwo g) Q)) (hxy : x ≠ y) (hb : blkC X.N X.env.scope scope [(x, X.N.idxOf x), (y, X.N.idxOf y)] = true) (hlx : LocB X scope x := by exact fun _ _ _ _ _ => ⟨.inl rfl, .inr rfl⟩) (hly : LocB X scope y := by exact fun _ _ _ _ _ => ⟨.inl rfl, .inr rfl⟩)
    (hN : X.N.Nodup := by assumption) (hc : X.calm = true := by rfl) (hs : ∀ z, foldedSetIterable iter X.env z = pure z := by intro _; rfl) : GE X (.ListComp elt [⟨.Tuple [.Name x p1, .Name y p2] kt pt, iter, ifs, 0⟩] scope pos) η L Q :=
  GE.undrp (ge_lc2 P R (h.imp fun S L1 ⟨p, g, pc, q⟩ D => pc.lc monoTwo D (q D)) hxy hb hlx hly hN hc hs)
theorem gs_lcP2 {D : GD} {fy : V → En} {z : Str} {pz : Pos} {g : V → V → En} {kt : Nat} {pt : Pos} (Pz : PutF z η fy) (P : PutF x η f) (R : ∀ v, PutF y (f v) (g v)) (h : GI X (.Tuple [.Name x p1, .Name y p2] kt pt) iter η L (PureL X scope ifs elt (stTwo g) fun v M => D.nx (fy v) M)) (hxy : x ≠ y) (hb : blkC X.N X.env.scope scope [(x, X.N.idxOf x), (y, X.N.idxOf y)] = true) (hlx : LocB X scope x := by exact fun _ _ _ _ _ => ⟨.inl rfl, .inr rfl⟩) (hly : LocB X scope y := by exact fun _ _ _ _ _ => ⟨.inl rfl, .inr rfl⟩)
    (hzl : X.env.scope.names.lookup z = some .local := by rfl) (hsw : swapsWith (.ListComp elt [⟨.Tuple [.Name x p1, .Name y p2] kt pt, iter, ifs, 0⟩] scope pos) (some (.Name z pz)) p3.line X.env = pure true := by rfl)
    (hN : X.N.Nodup := by assumption) (hc : X.calm = true := by rfl) (hs : ∀ z, foldedSetIterable iter X.env z = pure z := by intro _; rfl) : GS X (.Assign [.Name z pz] (.ListComp elt [⟨.Tuple [.Name x p1, .Name y p2] kt pt, iter, ifs, 0⟩] scope pos) p3) D η L :=
  GS.undrp (gs_lc2 Pz P R (h.imp fun S L1 ⟨p, g, pc, q⟩ d => pc.lc (Q := fun v M => D.nx (fy v) M) monoTwo d (q d)) hxy hb hlx hly hzl hsw hN hc hs)
end
section
variable {X : Cx} {L : Lg} {elt : Expr} {ifs : List Expr} {scope : Scope} {f : V → En} {R : V → Lg → Prop} {q : Addr} {xs : List V} {t : V → Bool} {g : V → V}
/-- a pure comprehension's turn: the test, then the element -/
abbrev TurnP (X : Cx) (scope : Scope) (ifs : List Expr) (elt : Expr) (L : Lg) (θ : En) (b0 : Bool) (z0 : V) : Prop := ∀ D acc, AllBlk X scope fun B => GTs B ifs θ ((D, .lst acc) :: L) fun b M1 => b = b0 ∧ Sub ((D, .lst acc) :: L) M1 ∧ (b = true → AllBlk X scope fun B => GE B elt θ M1 fun z M2 => z = z0 ∧ Sub ((D, .lst acc) :: L) M2)
theorem turnP_use {st : V → Lg → (En → Lg → Prop) → Prop} {θ : En} {b0 : Bool} {z0 : V} (h : TurnP X scope ifs elt L θ b0 z0) {D : Addr} {acc : List V} {M : Lg} (s : Sub ((D, .lst acc) :: L) M) :
    AllBlk X scope fun B => GTs B ifs θ M fun b M1 => b = b0 ∧ Sub ((D, .lst acc) :: L) M1 ∧ (b = true → AllBlk X scope fun B => GE B elt θ M1 fun z M2 => z = z0 ∧ Sub ((D, .lst acc) :: L) M2) := fun s1 H1 C1 cl1 fp1 => by
  refine GTs.sub s ?_
  have k := h D acc s1 H1 C1 cl1 fp1
  have key : ∀ b M1, (b = b0 ∧ Sub ((D, .lst acc) :: L) M1 ∧ (b = true → AllBlk X scope fun B => GE B elt θ M1 fun z M2 => z = z0 ∧ Sub ((D, .lst acc) :: L) M2)) → ∀ M2, Sub M1 M2 → b = b0 ∧ Sub ((D, .lst acc) :: L) M2 ∧ (b = true → AllBlk X scope fun B => GE B elt θ M2 fun z M2 => z = z0 ∧ Sub ((D, .lst acc) :: L) M2) :=
    fun b M1 ⟨e, s1, k⟩ M2 s2 => ⟨e, s1.trans s2, fun hb s3 H3 C3 cl3 fp3 => GE.sub s2 (k hb s3 H3 C3 cl3 fp3)⟩
  match ifs, k with
  | [], k => exact key _ _ k
  | [c], k => exact k.imp key
end
end G
set_option Elab.async false
set_option linter.all false
set_option maxRecDepth 100000
set_option maxHeartbeats 4000000
namespace G
open PySem PySem.Spec PyProof.Rows L2
abbrev penO (c : Addr) (n m : Int) : HO := .lst [.ref c, .int n, .int m]
abbrev celO (ns : List Int) : HO := .lst (ns.map V.int)
def spDraw : SpL := fun vs L Q _ => ∃ (p c : Addr) (ns : List Int) (n m many : Int) (R : Lg), vs = [.ref p, .int many] ∧ Sub ((p, penO c n m) :: (c, celO ns) :: R) L ∧ ns.length ≤ 63 ∧ 0 < many ∧ many < 2 ^ 64 ∧ 0 ≤ n ∧ n ≤ 100000 ∧ 0 ≤ m ∧
  ∀ d n' m', 0 ≤ d → d < many → 0 ≤ n' → n' ≤ n + 1 → 0 ≤ m' → Q (.int d) ((p, penO c n' m') :: (c, celO ns) :: R)
theorem cut63 {ns : List Int} : ∃ ms : List Int, ms.length ≤ 63 ∧ cutV (ns.map V.int) none (some 63) = ms.map V.int := by
  refine ⟨ns.take 63, by rw [List.length_take]; omega, ?_⟩
  unfold cutV
  have e1 : HT.sIx (ns.map V.int).length 0 none = 0 := rfl
  have e2 : HT.sIx (ns.map V.int).length (ns.map V.int).length (some 63) = min 63 (ns.map V.int).length := HT.sIx_nat _ _ 63
  rw [e1, e2, List.drop_zero, Nat.sub_zero, List.map_take, ← List.take_take, List.take_length]
/-- a list, one of which is drawn -/
def spPick : SpL := fun vs L Q _ => ∃ (p c q : Addr) (ns : List Int) (xs : List V) (n m : Int) (R : Lg), vs = [.ref p, .ref q] ∧ Sub ((p, penO c n m) :: (c, celO ns) :: R) L ∧ (q, HO.lst xs) ∈ R ∧ ns.length ≤ 63 ∧ 0 < xs.length ∧ xs.length < 1000 ∧ 0 ≤ n ∧ n ≤ 100000 ∧ 0 ≤ m ∧
  ∀ (k : Nat) (x : V) n' m', xs[k]? = some x → 0 ≤ n' → n' ≤ n + 1 → 0 ≤ m' → Q x ((p, penO c n' m') :: (c, celO ns) :: R)
/-- a part of a law: it draws at most k times and tells True -/
def spRight (k : Int) : SpL := fun vs L Q _ => ∃ (p c : Addr) (ns : List Int) (n m : Int) (R : Lg), vs = [.ref p] ∧ Sub ((p, penO c n m) :: (c, celO ns) :: R) L ∧ ns.length ≤ 63 ∧ 0 ≤ n ∧ n + k ≤ 100000 ∧ 0 ≤ m ∧
  ∀ n' m', 0 ≤ n' → n' ≤ n + k → 0 ≤ m' → Q (.bl true) ((p, penO c n' m') :: (c, celO ns) :: R)
theorem gts_nil {X : Cx} {η : En} {L : Lg} {Q : Bool → Lg → Prop} (q : Q true L) : GTs X [] η L Q := q
theorem tk0 {X : Cx} : Tk X (fun _ _ _ _ => False) := (L2.takes0 (X := X)).imp fun _ _ _ _ ⟨_, _, _, _, _, z⟩ => z.elim
theorem rdSub {L M : Lg} {v : V} {d : PyData} (s : Sub M L) (h : Rd M v d) : Rd L v d := fun X pins σ H s' u hH I r => h X pins σ H s' u (s H hH) I r
section
variable {X : Cx} {L : Lg} {Q : QV} {a b : Str} {i j : Int}
/-- texts that are the same -/
theorem go_eqS (e : a = b) (h : Q (.bl true) L) : GOp X (compareOp .Eq) (.str a) (.str b) L Q := go_eqV rfl (by rw [e, decide_eq_true rfl]; exact h)
theorem go_neS (e : a = b) (h : Q (.bl false) L) : GOp X (compareOp .NotEq) (.str a) (.str b) L Q := go_neV rfl (by rw [e, decide_eq_true rfl]; exact h)
end
end G
set_option Elab.async false
set_option linter.all false
set_option maxRecDepth 100000
set_option maxHeartbeats 4000000
namespace G
open PySem PySem.Spec PyProof.Rows L2
/-- two entries behind others -/
theorem rotL {a b : Addr × HO} {R : Lg} (l : Lg) : Sub (a :: b :: (l ++ R)) (l ++ (a :: b :: R)) := Sub.perm (by
  refine List.Perm.trans (l₂ := a :: (l ++ (b :: R))) (.cons a ?_) ?_
  · exact List.perm_middle.symm
  · exact List.perm_middle.symm)
theorem rot12 {a b c : Addr × HO} {R : Lg} : Sub (a :: b :: c :: R) (c :: a :: b :: R) := rotL [_]
section
variable {X : Cx} {L : Lg} {Q : QV} {p q : Addr}
theorem dls_strs : ∀ {ss : List Str}, Dls L (ss.map V.str) (ss.map PyData.str)
  | [] => dls_nil
  | _ :: _ => dls_cons dl_str dls_strs
theorem depthStrs : ∀ ns : List Str, PyData.depthAll (ns.map PyData.str) = 0
  | [] => by simp [PyData.depthAll]
  | n :: r => by
    have e := depthStrs r
    simp [PyData.depthAll, PyData.depth, e]
theorem layStrs : ∀ ns : List Str, (∀ s ∈ ns, PyData.strOk s = true) → PyData.canLayAll0 (ns.map PyData.str) = true
  | [], _ => by simp [PyData.canLayAll0]
  | n :: r, h => by
    have e := layStrs r fun s hs => h s (List.mem_cons_of_mem _ hs)
    have k := h n (List.mem_cons_self ..)
    simp [PyData.canLayAll0, PyData.canLay0, e, k]
theorem shapedS {ns : List Str} (h : ∀ s ∈ ns, PyData.strOk s = true) : SeqAt.shaped (.list (ns.map PyData.str)) = true := by
  have a := depthStrs ns
  have b := layStrs ns h
  simp [SeqAt.shaped, PyData.canLay0, PyData.depth, a, b]
theorem eqvStrs : ∀ ns ms : List Str, PyData.eqvAll (ns.map PyData.str) (ms.map PyData.str) = decide (ns = ms)
  | [], [] => by simp [PyData.eqvAll]
  | [], m :: r => by simp [PyData.eqvAll]
  | n :: r, [] => by simp [PyData.eqvAll]
  | n :: r, m :: q => by
    have e := eqvStrs r q
    simp [PyData.eqvAll, PyData.eqv, e]
    by_cases h : n = m <;> by_cases k : r = q <;> simp [h, k]
theorem eqvLS (ns ms : List Str) : PyData.eqv (.list (ns.map PyData.str)) (.list (ms.map PyData.str)) = decide (ns = ms) := by
  rw [← eqvStrs]
  simp [PyData.eqv]
theorem go_neLS {j : Nat} {xs ys : List V} {ns ms : List Str} (hr : RoomG j X.A) (m1 : (p, HO.lst xs) ∈ L) (m2 : (q, HO.lst ys) ∈ L) (e1 : xs = ns.map V.str) (e2 : ys = ms.map V.str) (s1 : ∀ s ∈ ns, PyData.strOk s = true) (s2 : ∀ s ∈ ms, PyData.strOk s = true) (h : Q (.bl (!decide (ns = ms))) L) : GOp X (compareOp .NotEq) (.ref p) (.ref q) L Q := by
  subst e1
  subst e2
  exact go_neD hr.toRoom (dl_lst m1 dls_strs) (dl_lst m2 dls_strs) (shapedS s1) (shapedS s2) (by rw [eqvLS]; exact h)
theorem go_eqLI {j : Nat} {xs ys : List V} {ns ms : List Int} (hr : RoomG j X.A) (m1 : (p, HO.lst xs) ∈ L) (m2 : (q, HO.lst ys) ∈ L) (e1 : xs = ns.map V.int) (e2 : ys = ms.map V.int) (h : Q (.bl (decide (ns = ms))) L) : GOp X (compareOp .Eq) (.ref p) (.ref q) L Q := by
  subst e1
  subst e2
  exact go_eqI hr m1 m2 h
end
/-- a value that is shown, and of which the kind is known -/
structure Odd (L : Lg) (v : V) (d : PyData) : Prop where
  kd : ∃ T, Knd L v T
  rd : Rd L v d
  s : d.showable = true
  dp : d.depth ≤ 60
  sz : d.shown.length ≤ 100000
  ok : PyData.strOk d.shown = true
theorem Odd.drop {L : Lg} {v : V} {d : PyData} {a : Addr × HO} (h : Odd L v d) : Odd (a :: L) v d := by
  obtain ⟨T, k⟩ := h.kd
  exact ⟨⟨T, k.sub fun e m => memS m⟩, rdSub Sub.drop h.rd, h.s, h.dp, h.sz, h.ok⟩
theorem GG.sub {X : Cx} {tg : Expr} {v : V} {η : En} {L M : Lg} {Q : En → Lg → Prop} (s : Sub M L) (h : GG X tg v η M Q) : GG X tg v η L Q := fun hN H hH => h hN H (s H hH)
end G
set_option Elab.async false
set_option linter.all false
set_option maxRecDepth 100000
set_option maxHeartbeats 4000000
namespace G
open PySem PySem.Spec PyProof.Rows L2
theorem RoomG.make {k : Nat} {A : Around} (r : RoomG (k + 1) A) (C : Addr) (us : List Value) (kw : List (Str × Value)) : RoomG k (A.under (.builtin "type.__call__" ⟨.ref C :: us, kw⟩)) := ⟨r.toRoom.make C us kw, r.gd⟩
section
variable {X : Cx} {CX : CXT} {k : Nat} {C f : Addr} {sp : Sp} {E : XK} {args : List Value → Args}
/-- C(..): a new instance and its dict, then __init__ -/
theorem run_makeG {pins : List (Addr × Obj)} {σ : L2.St} {H : Hp} {s : Shared} {Q : VK} {us : List Value} {vs : List V} {ps : List Value} {kw : List (Str × Value)} (M : Mk X.K C f) (F : RunG X.prog X.w X.K X.mg X.base CX k f args sp) (hr : RoomG (k + 1) X.A) (hx : PassesAt CX X σ E) (I : Inv X pins σ H s) (r : Vals vs us)
    (ha : ∀ y : Value, args (y :: us) = ⟨y :: ps, kw⟩)
    (h : ∀ x dx, H x = none → H dx = none → dx ≠ x → sp (.ref x :: vs) (upd (upd H dx (.own x)) x (.ins C dx [])) (fun v H2 => v = .non ∧ Q (.ref x) H2) E) : wpAny (model X.prog X.w) X.A (call (.ref C) ps kw) (EP X pins σ Q) X.xe s := by
  have hq := h (s.heap.objs.size + 1) s.heap.objs.size (I.hok.fresh (Nat.le_succ _)) (I.hok.fresh (Nat.le_refl _)) (Nat.ne_of_lt (Nat.lt_succ_self _))
  have I2 := Inv.made (C := C) I
  have z := F _ X.stack _ _ (.ref (s.heap.objs.size + 1) :: us) (.ref (s.heap.objs.size + 1) :: vs) _ E (hr.make C ps kw) (I2.env0.make C ps kw) (.cons rfl r) hq
  rw [ha] at z
  refine wpAny_call (make_map (f := f) I.kIn M.makes M.init (beq_iff_eq.mp M.fn) (codeAny_mono z fun r s' hq' => ?_))
  cases r with
  | error e => exact hx pins _ _ e s' I2 hq'
  | ok fl =>
    cases fl with
    | ret u =>
      obtain ⟨v, H', I3, rv, ev, q3⟩ := I2.after hq'
      subst ev
      exact ⟨rv, ⟨V.ref (s.heap.objs.size + 1), H', I3, rfl, q3⟩⟩
    | next => exact False.elim hq'
    | brk => exact False.elim hq'
    | cont => exact False.elim hq'
end
section
variable {X : Cx} {CX : CXT} {j k : Nat} {C f g p : Addr} {sp : SpL} {El : XL} {args argsI : List Value → Args} {η : En} {L : Lg} {Q : QV} {W : XW} {x n m : Str} {e o value : Expr} {es : List Expr} {D : GD} {pos pos' p1 : Pos} {a dx : Addr} {fs : List (Str × V)} {v y : V} {u : Value}
/-- what __init__ is shown at the new instance -/
abbrev InitSp (C : Addr) (sp : SpL) (Q : QV) (El : XL) : List V → Lg → Prop := fun vs L => ∀ x dx, sp (.ref x :: vs) ((x, .ins C dx []) :: (dx, .own x) :: L) (fun v L' => v = .non ∧ Q (.ref x) L') El
theorem init_sp {H : Hp} {vs : List V} {E : XK} (hH : Has H L) (h : InitSp C sp Q El vs L) (he : ∀ c d L' H', Has H' L' → El c d L' → E c d H') : ∀ x dx, H x = none → H dx = none → dx ≠ x → toSp sp (.ref x :: vs) (upd (upd H dx (.own x)) x (.ins C dx [])) (fun v H2 => v = .non ∧ up Q (.ref x) H2) E := fun x dx hx hdx ne =>
  ⟨_, _, El, (hH.new hdx).new (by rw [upd_ne (Ne.symm ne)]; exact hx), h x dx, fun v L' H' h' q => ⟨q.1, L', h', q.2⟩, he⟩
theorem gf_make (M : Mk X.K C f) (F : RunG X.prog X.w X.K X.mg X.base CX k f argsI (toSp sp)) (ha : ∀ y us, argsI (y :: us) = ⟨y :: (args us).pos, (args us).kw⟩) (hr : RoomG j X.A) (hx : Passes CX X (upX El)) (hjk : k + 1 ≤ j := by decide) : GF X η C args (InitSp C sp Q El) Q := fun pins s H us vs L hH I r h =>
  run_makeG M F (hr.mono hjk) (fun pins => hx pins _) I r (fun y => ha y us) (init_sp hH h fun c d L' H' h' q => ⟨L', h', q⟩)
/-- x(..), x a global that holds a thing of which GF tells -/
theorem ge_callF {φ : List V → Lg → Prop} (hm : X.mg x = some (.ref f)) (hk : PySem.W.keepIn X.K (.ref f) = true) (F : X.N = names η → GF X η f argsP φ Q) (h : GA X (e :: es) η L φ) (hg : Gl X x := by rfl) (hd : (x == ("__debug__" : Str)) = false := by decide)
    (he : starEach (e :: es) X.env = (false, eval e X.env) :: starEach es X.env := by rfl) (hpl : (backTo pos (starEach es X.env)).any (·.1) = false := by rfl) : GE X (.Call (.Name x p1) (e :: es) [] pos) η L Q := fun hN H hH pins s I => by
  refine wpAny_Call_Name_kw (ld_glob I hg hm ?_ hd)
  refine PySem.W.callWith_K (h₀ := X.base) I.ok.mod.kin hk ?_ he hpl
  exact thn (h hN H hH pos pins s I) fun us s1 ⟨vs, H1, J, r, L1, h1, q⟩ => ⟨J.kIn, F hN pins s1 H1 us vs L1 h1 J r q⟩
theorem gat_fld (c : Cls X.K C) (no : NoAttr X.K C n) (mm : (a, HO.ins C dx fs) ∈ L) (l : fs.lookup n = some v) (q : Q v L) : GAt X n (.ref a) L Q := fun pins s σ H u ex hH I r => by
  obtain rfl : u = Value.ref a := r
  exact getattr_ok I (hH.get mm) c no l fun u' s' I' ru => ⟨v, H, I', ru, L, hH, q⟩
theorem gs_fld (h : GE X value η L fun y L1 => GE X o η L1 fun x L2 => ∃ a C dx fs M, x = .ref a ∧ (a, HO.ins C dx fs) ∈ L2 ∧ Cls X.K C ∧ NoAttr X.K C n ∧ fs.length < 1000 ∧ Swap a (.ins C dx (putF n y fs)) L2 M ∧ D.nx η M)
    (hs : swapsWith value (some (.Attribute o n pos')) pos.line X.env = pure false := by rfl) : GS X (.Assign [.Attribute o n pos'] value pos) D η L := fun hN H hH =>
  WS.of (ps_fld pe_W pe_W hs) (h.then hN hH fun y L1 H1 h1 q => q.then hN h1 fun x L2 H2 h2 ⟨a, C, dx, fs, M, ex, mm, c, no, l, sw, q2⟩ => ⟨a, C, dx, fs, ex, h2.get mm, c, no, l, η, M, hN, rfl, h2.swap sw, q2⟩)
/-- o.m(..) -/
theorem ge_meth {pl : Sem Bool} (F : RunG X.prog X.w X.K X.mg X.base CX k g argsP (toSp sp)) (hm : Meth X.K C m g) (c : Cls X.K C) (hr : RoomG j X.A) (hx : Passes CX X (upX El)) (h : GE X o η L fun x L1 => ∃ a dx fs, x = .ref a ∧ (a, HO.ins C dx fs) ∈ L1 ∧ fs.lookup m = none ∧ GA X (e :: es) η L1 fun vs L2 => sp (.ref a :: vs) L2 Q El) (hjk : k ≤ j := by decide)
    (hst : starEach (e :: es) X.env = (false, eval e X.env) :: starEach es X.env := by rfl) (hpl : (backTo pos (starEach es X.env)).any (·.1) = false := by rfl)
    (ht : eval (.Call (.Attribute o m pos') (e :: es) [] pos) X.env = (do
      let ov ← eval o X.env
      standAt pos'.atName
      let (f, first) ← holding [ov] (getMethod ov m pl)
      callWith pos f first (backTo pos (starEach (e :: es) X.env)) (backToKw pos (keywordEach [] X.env))) := by rfl) : GE X (.Call (.Attribute o m pos') (e :: es) [] pos) η L Q := fun hN H hH pins s I => by
  refine PySem.W.methodCall_KW (pl := pl) (thn (h hN H hH pins s I) fun u s1 ⟨x, H1, I1, rx, L1, h1, a, dx, fs, ex, ea, l, q⟩ => ?_) ht
  subst ex
  obtain rfl : u = Value.ref a := rx
  refine getmeth_ok I1 (h1.get ea) c hm l ?_
  refine PySem.W.callWith_K (first := [.ref a]) (h₀ := X.base) I.ok.mod.kin hm.kp (thn (q hN H1 h1 pos pins s1 I1) fun us s2 ⟨vs, H2, I2, r, L2, h2, q2⟩ => ⟨I2.kIn, ?_⟩) hst hpl
  exact run_G (args := argsP) (us := .ref a :: us) (vs := .ref a :: vs) F (hr.mono hjk) hx I2 (.cons rfl r) (up_sp h2 q2)
end
end G
set_option Elab.async false
set_option linter.all false
set_option maxRecDepth 100000
set_option maxHeartbeats 4000000
namespace G
open PySem PySem.Spec PyProof.Rows L2 NdefX
end G
set_option Elab.async false
set_option linter.all false
set_option maxRecDepth 100000
set_option maxHeartbeats 4000000
namespace PySem.W
open PySem PySem.Calls PyProof.Rows
section
variable {prog : Program} {w : World} {A : Around} {E : Value → Shared → Prop} {s : Shared} {K : Frag} {x C L f : Addr} {h₀ : Heap} {m : Str → Option Value} {ox : Obj} {od : Option Obj} {b tb : Value}
theorem g_ifBound {M : Model} {args : List Value} {Q : Option Value → Shared → Prop} (X : K.In s.heap) (I : InstAt s.heap x ox C od) (hs : findIn K (.ref C) "__ne__" = some (some (.builtin "object.__ne__")))
    (h : wpAny M A (call (.builtin "object.__ne__") (.ref x :: args)) (fun v => Q (some v)) E s) : wpAny M A (callSpecialIfBound? (.ref x) "__ne__" args) Q E s := by
  simp only [callSpecialIfBound?, bindSpecialIfBound?]
  refine wpAny_holding (wpAny_bind (wpAny_bind (wpAny_bind (I.type.here ((looks_findIn X hs).here ?_)))))
  simp only [F.cmp_object.ne.bind]
  refine wpAny_bind (wpAny_askSetting (wpAny_ite ?_))
  have fin : wpAny M A (call (.builtin "object.__ne__") ([.ref x] ++ args) >>= fun v => pure (some v)) Q E s := wpAny_bind (wpAny_mono h (fun v s' h' => wpAny_pure h') fun _ _ h' => h')
  split
  · exact wpAny_bind (wpAny_pure (wpAny_pure (by exact fin)))
  · exact wpAny_tryCatch (wpAny_bind (wpAny_pure (wpAny_pure (by exact fin))))
theorem g_ne {Q : Value → Shared → Prop} (hu : A.units + 1 < cLine) (X : K.In s.heap) (I : InstAt s.heap x ox C od) (hb : Looks (model prog w) s.heap (typeOf b) tb) (hn : notFirst K C tb = true)
    (hne : findIn K (.ref C) "__ne__" = some (some (.builtin "object.__ne__"))) (heq : findIn K (.ref C) "__eq__" = some (some (.ref f))) (hf : isFn K (.ref f) = true) (ho : mroIn K C (.type "object") = some true)
    (h : wpAny (model prog w) A.in1 (call (.ref f) [.ref x, b]) (fun v s' => ∃ r, v = .bool r ∧ Q (.bool (!r)) s') E s) : wpAny (model prog w) A (richCompare .NotEq (.ref x) b) Q E s := by
  have hu0 : A.units < cLine := Nat.lt_of_succ_lt hu
  have hu1 : A.in1.units < cLine := hu
  have entry : wpAny (model prog w) A.in1 (Builtin.«object.__ne__» ⟨[.ref x, b], []⟩) (fun fin s' => ∃ r, fin = .done (.ret (.bool r)) ∧ Q (.bool r) s') E s := by
    unfold Builtin.«object.__ne__»
    refine wpAny_bind (wpAny_of_eq (a := (.ref x, [b])) (by first | rfl | kernel_rfl) ?_)
    show wpAny _ _ (cRoomFor "comparison" [.ref x, b] >>= _) _ _ _
    refine wpAny_bind (wpAny_cRoomFor hu1 ?_)
    refine wpAny_bind (ifBound_K X I heq hf (wpAny_mono h (fun v s' hv => ?_) fun _ _ e => e))
    obtain ⟨r, rfl, q⟩ := hv
    show wpAny _ _ (truthy (.bool r) >>= _) _ _ _
    exact wpAny_bind (wpAny_pure (wpAny_pure ⟨_, rfl, q⟩))
  have one : wpAny (model prog w) A (tryCompare (.ref x) "__ne__" b) (fun r s' => ∃ v, r = some v ∧ Q v s') E s := by
    unfold tryCompare
    refine wpAny_bind (g_ifBound X I hne (wpAny_call (codeAny_call_builtin F.cmp_object.ne.plain F.cmpEntry_ne (@check_slot (model prog w) _ _ s "object.__ne__" "object" "__ne__" (.ref x) [b] [] _ F.cmpKind_ne F.cmpSplit_ne
      (I.type.andThen (looks_mroIn X ho)) (F.cmpArgs_ne _ _) ?_))))
    refine wpAny_mono entry (fun fin s' z => ?_) fun _ _ e => e
    obtain ⟨r, rfl, q⟩ := z
    exact wpAny_pure ⟨_, rfl, q⟩
  unfold richCompare
  simp only [oneThing_ref]
  refine wpAny_holding (wpAny_bind (wpAny_cRoomFor hu0 ?_))
  refine wpAny_bind (I.type.here (wpAny_bind (hb.here ?_)))
  split
  · rename_i q
    have e : subIn K tb (.ref C) = some false := by
      rcases Bool.or_eq_true_iff.mp hn with e | e
      · rw [beq_iff_eq.mp e] at q; simp at q
      · exact beq_iff_eq.mp e
    refine wpAny_bind ((looks_subIn X e).here ?_)
    simp only [Bool.false_eq_true, if_false]
    refine wpAny_bind (wpAny_mono one (fun r s' z => ?_) fun _ _ e => e)
    obtain ⟨v, rfl, hq⟩ := z
    exact wpAny_pure hq
  · refine wpAny_bind (wpAny_pure ?_)
    simp only [Bool.false_eq_true, if_false]
    refine wpAny_bind (wpAny_mono one (fun r s' z => ?_) fun _ _ e => e)
    obtain ⟨v, rfl, hq⟩ := z
    exact wpAny_pure hq
end
end PySem.W
namespace G
open PySem PySem.Spec PyProof.Rows L2
/-- a class with its own __eq__ -/
structure OwnEq (K : PySem.W.Frag) (C g : Addr) : Prop where
  at_ : PySem.W.findIn K (.ref C) "__eq__" = some (some (.ref g))
  fn : PySem.W.isFn K (.ref g) = true
  ne : PySem.W.findIn K (.ref C) "__ne__" = some (some (.builtin "object.__ne__"))
  ob : PySem.W.mroIn K C (.type "object") = some true
section
variable {X : Cx} {CX : CXT} {j k : Nat} {C C' g a b dx dy : Addr} {fs gs : List (Str × V)} {sp : SpL} {El : XL} {L : Lg} {Q : QV}
theorem ins_inst {pins : List (Addr × Obj)} {σ : L2.St} {H : Hp} {s : Shared} (I : Inv X pins σ H s) (hH : Has H L) (m : (a, HO.ins C dx fs) ∈ L) : ∃ o od, PySem.W.InstAt s.heap a o C (some od) := by
  obtain ⟨mA, O, _⟩ := ins_get I.hok (hH.get m)
  obtain ⟨od, J, _⟩ := O.look
  exact ⟨_, od, J⟩
theorem RoomG.in1 {k : Nat} {A : Around} (r : RoomG (k + 1) A) : RoomG k A.in1 := ⟨r.toRoom.in1, r.gd⟩
theorem go_eqM (T : OwnEq X.K C g) (F : RunG X.prog X.w X.K X.mg X.base CX k g argsP (toSp sp)) (hr : RoomG j X.A) (hx : Passes CX X (upX El)) (ma : (a, HO.ins C dx fs) ∈ L) (mb : (b, HO.ins C' dy gs) ∈ L) (hn : PySem.W.notFirst X.K C (.ref C') = true)
    (h : sp [.ref a, .ref b] L (fun v L' => ∃ r, v = .bl r ∧ Q (.bl r) L') El) (hjk : k ≤ j := by decide) : GOp X (compareOp .Eq) (.ref a) (.ref b) L Q := fun pins s σ H v u hH I rx ry => by
  obtain rfl : v = Value.ref a := rx
  obtain rfl : u = Value.ref b := ry
  obtain ⟨oa, da, J⟩ := ins_inst I hH ma
  obtain ⟨ob, db, J'⟩ := ins_inst I hH mb
  obtain ⟨m, hF⟩ := I.fr
  show wpAny (model X.prog X.w) X.A (richCompare .Eq (.ref a) (.ref b)) _ _ _
  refine PySem.W.cmp_K (op := .Eq) (tb := .ref C') hr.toRoom.units0 hF I.ok.mod.kin J J'.type hn T.at_ T.fn ?_
  refine wpAny_mono (run_G (args := argsP) (us := [.ref a, .ref b]) (vs := [.ref a, .ref b]) F (hr.mono hjk) hx I (.cons rfl (.cons rfl .nil)) (up_sp hH h)) (fun r s' z => ?_) fun _ _ z => z
  obtain ⟨v, H', I', rv, L', h', r0, ev, q⟩ := z
  subst ev
  obtain rfl : r = Value.bool r0 := rv
  exact ⟨.bl r0, H', I', rfl, L', h', q⟩
theorem go_neM (T : OwnEq X.K C g) (F : RunG X.prog X.w X.K X.mg X.base CX k g argsP (toSp sp)) (hr : RoomG j X.A) (hx : Passes CX X (upX El)) (ma : (a, HO.ins C dx fs) ∈ L) (mb : (b, HO.ins C' dy gs) ∈ L) (hn : PySem.W.notFirst X.K C (.ref C') = true)
    (h : sp [.ref a, .ref b] L (fun v L' => ∃ r, v = .bl r ∧ Q (.bl (!r)) L') El) (hjk : k + 1 ≤ j := by decide) : GOp X (compareOp .NotEq) (.ref a) (.ref b) L Q := fun pins s σ H v u hH I rx ry => by
  obtain rfl : v = Value.ref a := rx
  obtain rfl : u = Value.ref b := ry
  obtain ⟨oa, da, J⟩ := ins_inst I hH ma
  obtain ⟨ob, db, J'⟩ := ins_inst I hH mb
  show wpAny (model X.prog X.w) X.A (richCompare .NotEq (.ref a) (.ref b)) _ _ _
  have hu : X.A.units + 1 < cLine := by
    have := hr.toRoom.units
    omega
  refine PySem.W.g_ne (tb := .ref C') hu I.kIn J J'.type hn T.ne T.at_ T.fn T.ob ?_
  refine wpAny_call (codeAny_mono (F X.A.in1 X.stack s H [.ref a, .ref b] [.ref a, .ref b] _ _ (hr.mono hjk).in1 I.env0.in1 (.cons rfl (.cons rfl .nil)) (up_sp hH h)) fun r s' hq => ?_)
  cases r with
  | error e => exact hx pins σ H s e s' I hq
  | ok fl =>
    cases fl with
    | ret w =>
      obtain ⟨z, H', I', rz, L', h', r0, ez, q⟩ := I.after hq
      subst ez
      obtain rfl : w = Value.bool r0 := rz
      exact ⟨r0, rfl, .bl (!r0), H', I', rfl, L', h', q⟩
    | next => exact hq.elim
    | brk => exact hq.elim
    | cont => exact hq.elim
/-- isinstance of an instance -/
structure OwnT (K : PySem.W.Frag) (C : Addr) : Prop where
  g : PySem.W.plainGet K C "__class__" = true
  d : PySem.W.hasDictIn K C = true
  a : PySem.W.findIn K (.ref C) "__class__" = some (some (.builtin "object.__class__"))
  n : PySem.W.specialIn K (.builtin "object.__class__") "__get__" = some (some (.builtin "getset_descriptor.__get__"))
  t : PySem.W.takesIn K (.builtin "object.__class__") = some true
  m : PySem.W.mroIn K C (.type "object") = some true
theorem gc_isI {c : V} {cv : Value} {r : Bool} (T : OwnT X.K C) (ma : (a, HO.ins C dx fs) ∈ L) (kc : ClsV c cv) (k : PySem.W.kitOne X.K (.ref C) cv = some r) (q : Q (.bl r) L) : GC X (.builtin "isinstance") [.ref a, c] L Q := fun pins s σ H us hH I rr => by
  cases rr with
  | cons rx rr =>
    cases rr with
    | cons rt rr =>
      cases rr
      obtain rfl : _ = Value.ref a := rx
      have ec := kc.eq rt
      subst ec
      obtain ⟨oe, od, J⟩ := ins_inst I hH ma
      exact PySem.W.kia_one (PySem.W.kitx_own T.g T.d T.a T.n T.t T.m) I.kIn J k (fun z => nomatch z) fun tk => ⟨.bl r, H, I.kept (t' := tk) fun _ _ z => z, rfl, L, hH, q⟩
end
end G
set_option Elab.async false
set_option linter.all false
set_option maxRecDepth 100000
set_option maxHeartbeats 4000000
namespace G
open PySem PySem.Spec PyProof.Rows L2
section
variable {X : Cx} {η : En} {L : Lg} {Q : QV} {a b c e : Expr} {es : List Expr} {op op' : CmpOp} {pos p p2 : Pos} {x : V} {q : Addr}
theorem ge_chain (h : GE X a η L fun x L1 => GE X b η L1 fun y L2 => GOp X (compareOp op) x y L2 fun z L3 => ∃ k, z = .bl k ∧ if k = true then GE X c η L3 fun w L4 => GOp X (compareOp op') y w L4 Q else Q (.bl false) L3)
    (hm : lastMarks [op, op'] [b, c] = false := by with_unfolding_all rfl) : GE X (.Compare a [op, op'] [b, c] pos) η L Q := fun hN H hH =>
  WE.of (pe_chain (r := fun x y H' Q' => ∀ pins s σ v u, Inv X pins σ H' s → RelV x v → RelV y u → wpAny (model X.prog X.w) X.A (compareOp op v u) (EP X pins σ Q') X.xe s)
    (r' := fun x y H' Q' => ∀ pins s σ v u, Inv X pins σ H' s → RelV x v → RelV y u → wpAny (model X.prog X.w) X.A (compareOp op' v u) (EP X pins σ Q') X.xe s)
    (fun pins s σ H' x y v u Q' I r1 r2 q => q pins s σ v u I r1 r2) (fun pins s σ H' x y v u Q' I r1 r2 q => q pins s σ v u I r1 r2) pe_W pe_W pe_W hm)
    (h.then hN hH fun x _ _ h1 q1 => q1.then hN h1 fun y _ _ h2 q2 => fun pins s σ v u I r1 r2 => by
      refine wpAny_mono (q2 pins s σ _ v u h2 I r1 r2) (fun z s' zz => ?_) fun _ _ z => z
      obtain ⟨zv, H3, I3, r3, L3, h3, k, ek, q3⟩ := zz
      refine ⟨zv, H3, I3, r3, k, ek, ?_⟩
      cases k with
      | true =>
        rw [if_pos rfl] at q3
        rw [if_pos rfl]
        exact q3.then hN h3 fun w L4 H4 h4 q4 => fun pins s σ v u I r1 r2 => q4 pins s σ _ v u h4 I r1 r2
      | false =>
        rw [if_neg Bool.false_ne_true] at q3
        rw [if_neg Bool.false_ne_true]
        exact ⟨L3, h3, q3⟩)
/-- *e among the values -/
theorem ga_star {Q : List V → Lg → Prop} (h : GE X e η L fun x L1 => ∃ p xs, x = .ref p ∧ ((p, HO.tup xs) ∈ L1 ∨ (p, HO.lst xs) ∈ L1) ∧ GA X es η L1 fun ys L2 => Q (xs ++ ys) L2) (hs : starEach (.Starred e p :: es) X.env = (true, eval e X.env) :: starEach es X.env := by rfl) : GA X (.Starred e p :: es) η L Q := fun hN H hH =>
  WA.of (StX.pa_star pe_W pa_W hs) (h.then hN hH fun x L1 H1 h1 ⟨p, xs, ex, m, q⟩ => ⟨p, xs, ex, m.imp (fun z => sqt h1 z) fun z => sql h1 z, q.then hN h1 fun _ L2 _ h2 q2 => ⟨L2, h2, q2⟩⟩)
end
theorem bt_sorted : bootBuiltins "sorted" = some (.builtin "sorted") := by decide +kernel
section
variable {X : Cx} {η : En} {L : Lg} {Q : QV} {e : Expr} {es : List Expr} {pos p : Pos} {x : V} {q : Addr} {T : String} {cs : List String} {b : Bool} {y : Str} {v : V} {u : Value}
theorem gb_sorted (B : Bi X.mg) (h : GA X (e :: es) η L fun xs L1 => GC X (.builtin "sorted") xs L1 Q) (hg : Gl X "sorted" := by rfl) (he : starEach (e :: es) X.env = (false, eval e X.env) :: starEach es X.env := by rfl) (hpl : (backTo pos (starEach es X.env)).any (·.1) = false := by rfl) :
    GE X (.Call (.Name "sorted" p) (e :: es) [] pos) η L Q := ge_B B.sorted bt_sorted h hg (by decide) (by decide) he hpl
/-- a global that holds a plain value -/
theorem gv_con (hm : X.mg y = some u) (r : RelV v u) (q : Q v L) (hg : Gl X y := by rfl) (hd : (y == ("__debug__" : Str)) = false := by decide) : GE X (.Name y pos) η L Q := ge_con (pe_glob hg hm r hd) q
end
end G
set_option Elab.async false
set_option linter.all false
set_option maxRecDepth 100000
set_option maxHeartbeats 4000000
namespace PySem
open Sem (wp)
open AutoSeq1 (wpAny_loadPart')
theorem g_enum_newT (l : Addr) (items : Array Value) (n : Nat) (dct : Option Addr) (sl : Array (Option Value)) :
    Meets (Builtin.«enumerate.__new__» ⟨[.type "enumerate", .ref l], []⟩) (fun _ R s => s.heap.get? l = some { cls := .type "tuple", dict := dct, data := .seq items n, slots := sl } ∧
      R (.ok (.ret (.ref (s.heap.push { cls := .type "tuple_iterator", data := .fields #[.ref l, .int 0 0] }).objs.size)))
        { s with heap := (s.heap.push { cls := .type "tuple_iterator", data := .fields #[.ref l, .int 0 0] }).push { cls := .type "enumerate", data := .fields #[.none, .bool false, .ref s.heap.objs.size, rawInt 0, .none, .none] } }) :=
  .of_wp fun prog w A R s h => by
    obtain ⟨hp, g, d, tk, os⟩ := s; obtain ⟨hl, h⟩ := h
    have hsub := sub_enumerate
    have hL : Heap.IsTuple (Shared.heap ⟨hp, g, d, tk, os⟩) l items := ⟨_, hl, rfl, n, rfl⟩
    wp_walk using wpAny_loadPart' hl
    refine wpAny_stack_any fun st => wpAny_pure ?_
    split
    · rename_i c _ _ _ _ _
      cases (c == Value.type "enumerate")
      · wp_walk using wpAny_loadPart' hl, wpAny_pyIter_tuple hL
        exact ⟨_, rfl, h⟩
      · wp_walk using wpAny_loadPart' hl, wpAny_pyIter_tuple hL
        exact ⟨_, rfl, h⟩
    · wp_walk using wpAny_loadPart' hl, wpAny_pyIter_tuple hL
      exact ⟨_, rfl, h⟩
theorem g_call_enumT {prog : Program} {w : World} {A : Around} {E : Value → Shared → Prop} {s : Shared} {l : Addr} {items : Array Value} {Q : Value → Shared → Prop} (hL : s.heap.IsTuple l items)
    (h : ∀ h', IsEnum h' (s.heap.objs.size + 1) s.heap.objs.size 0 .none → h'.IsTupleIter s.heap.objs.size l 0 → h'.objs.size = s.heap.objs.size + 2 →
      (∀ b o, s.heap.get? b = some o → h'.get? b = some o) → Q (.ref (s.heap.objs.size + 1)) { s with heap := h' }) :
    wpAny (model prog w) A (call (.type "enumerate") [.ref l]) Q E s := by
  obtain ⟨⟨c, dct, dt, sl⟩, hl, hc, n, hd⟩ := hL
  replace hc : c = .type "tuple" := hc
  replace hd : dt = .seq items n := hd
  subst hc hd
  refine callType_new F.called_enumerate (by decide) (F.typeCall_enumerate_1 _) (F.newCall_enumerate_1 _) (fun obj => F.args_object_init_2 obj _) F.entry_enumerate_new
    (g_enum_newT l items n dct sl) ⟨hl, ?_⟩
  have hz : (s.heap.push { cls := .type "tuple_iterator", data := .fields #[.ref l, .int 0 0] }).objs.size = s.heap.objs.size + 1 := Heap.size_push ..
  show _ ∧ _
  rw [hz]
  have he : IsEnum ((s.heap.push { cls := .type "tuple_iterator", data := .fields #[.ref l, .int 0 0] }).push
      { cls := .type "enumerate", data := .fields #[.none, .bool false, .ref s.heap.objs.size, rawInt 0, .none, .none] }) (s.heap.objs.size + 1) s.heap.objs.size 0 .none := by
    have := Heap.get?_push_size (s.heap.push { cls := .type "tuple_iterator", data := .fields #[.ref l, .int 0 0] })
      (o := { cls := .type "enumerate", data := .fields #[.none, .bool false, .ref s.heap.objs.size, rawInt 0, .none, .none] }) rfl
    rw [hz] at this; exact this
  refine ⟨⟨_, he, rfl⟩, h _ he ⟨_, Heap.get?_push_of_some _ (Heap.get?_push_size _ rfl), rfl, rfl⟩ (by rw [Heap.size_push, hz]) fun b o x => Heap.get?_push_of_some _ (Heap.get?_push_of_some _ x)⟩
theorem g_enum_endT {prog : Program} {w : World} {A : Around} {E : Value → Shared → Prop} {s : Shared} {e it t : Addr} {i : Nat} {k : Int} {items : Array Value} {old : Value} {Q : Option Value → Shared → Prop} (hh : A.handled = none)
    (he : IsEnum s.heap e it k old) (hit : s.heap.IsTupleIter it t i) (ht : s.heap.IsTuple t items) (hx : items[i]? = none) (hQ : ∀ h', Heap.ExtBut it s.heap h' → Q none { s with heap := h' }) : wpAny (model prog w) A (pyNext (.ref e)) Q E s := by
  have hT : s.TypeIs (.ref e) "enumerate" := ⟨_, he, rfl⟩
  unfold pyNext
  refine wpAny_bind (wpAny_attempt (wpAny_callSpecial?_slot (name := Str.ofString "__next__") hT F.slot_enumerate_next
    (wpAny_call_entry F.slot_enumerate_next hT F.entry_enumerate_next ?_ (F.args_enumerate_next_1 _))))
  show wpAny _ _ (field (.ref e) 2 >>= _) _ _ _
  refine wpAny_bind (wpAny_field he rfl (x := .ref it) rfl ?_)
  refine wpAny_bind (wpAny_nextOf_tuple_end (A := A.in1) hh hit ht hx fun h' x he' hx' => ?_)
  obtain ⟨o, ho, hc⟩ := hx'
  refine wpAny_bind (wpAny_isInstance (T := "StopIteration") (b := true) ⟨o, ho, hc⟩ isSubtype_stop ?_)
  exact wpAny_pure (hQ _ he')
end PySem
namespace G
open PySem PySem.Spec PyProof.Rows L2
def IteT (K : PySem.W.Frag) (a : Addr) : It :=
  ⟨fun i H => ∃ (xs : List V) (x : V), SqT K H a xs ∧ xs[i]? = some x, fun i H v H' => ∃ T x, v = .ref T ∧ H T = none ∧ H' = upd H T (.tup [.int (i : Nat), x]) ∧ ∀ xs, SqT K H a xs → xs[i]? = some x, fun i H => ∃ xs : List V, SqT K H a xs ∧ xs.length ≤ i⟩
theorem cls_ne {h : Heap} {a b : Addr} {S T : String} (x : ∃ o, h.get? a = some o ∧ o.cls = .type S) (y : ∃ o, h.get? b = some o ∧ o.cls = .type T) (n : S ≠ T) : a ≠ b := fun e => by
  obtain ⟨o, h1, c1⟩ := x
  obtain ⟨o', h2, c2⟩ := y
  rw [e, h2] at h1
  cases h1
  rw [c1] at c2
  cases c2
  exact n rfl
theorem turn_enumT {P : Program} {w : World} {K : PySem.W.Frag} {elts : List Expr} {kk : Nat} {tpos : Pos} (a e it : Addr) :
    Turn P w K (.Tuple elts kk tpos) (IteT K a) [e, it] e (fun i h => (∃ old, IsEnum h e it ((i : Nat) : Int) old) ∧ h.IsTupleIter it a i ∧ e ≠ it) where
  mem := by simp
  obj := fun i h st b hb => by
    obtain ⟨⟨old, he⟩, ⟨o, ho, hc, hd⟩, _⟩ := st
    have e' : b = e ∨ b = it := by simpa using hb
    rcases e' with z | z
    · rw [z]; exact ⟨_, he, fun v q => nomatch q⟩
    · rw [z]; exact ⟨o, ho, fun v q => by rw [hd] at q; cases q⟩
  keep := fun i h h' st k => let ⟨⟨old, he⟩, hi, hne⟩ := st; ⟨⟨old, k e (by simp) _ he⟩, hi.at fun o q => k it (by simp) o q, hne⟩
  item := by
    intro X hP hw hK hc i pins s σ H E I hf st hg
    subst hP hw hK
    obtain ⟨⟨old, he⟩, hit, hne⟩ := st
    obtain ⟨xs, x, hq, hx⟩ := hg
    obtain ⟨its, rv, p, hz⟩ := I.tuple hq
    obtain ⟨u, hu, ru⟩ := rv.get hx
    have hel : e < s.heap.objs.size := Heap.lt_size he
    have hil : it < s.heap.objs.size := by obtain ⟨_, q, _⟩ := hit; exact Heap.lt_size q
    have pT : ∃ o, s.heap.get? a = some o ∧ o.cls = .type "tuple" := by
      obtain ⟨o, h1, h2, _⟩ := p
      exact ⟨o, h1, h2⟩
    have iT : ∃ o, s.heap.get? it = some o ∧ o.cls = .type "tuple_iterator" := by
      obtain ⟨o, h1, h2, _⟩ := hit
      exact ⟨o, h1, h2⟩
    have ai : a ≠ it := cls_ne pT iT (by decide)
    have ea : e ≠ a := cls_ne ⟨_, he, rfl⟩ pT (by decide)
    have hlt : i < its.toArray.size := by
      have := (List.getElem?_eq_some_iff.mp hu).1
      simpa using this
    refine wpAny_pyNext_enum_itemD (Draws.tuple (A := X.A.in1) (I.ok.hd hc) it a ai its.toArray) he ⟨hit, p⟩ hlt hne (by simp [hne, ea]) fun u' h' tk hu' ho hst hT hsz hk => ?_
    obtain rfl : u' = u := by
      have : its.toArray[i]? = some u := by simpa using hu
      exact Option.some.inj (hu'.symm.trans this)
    refine ⟨_, rfl, wpAny_letOwnedTupleGo_enum (s := { s with heap := h', toks := tk + 1 }) ho fun h'' he' sb => ?_⟩
    have hT2 : h''.get? s.heap.objs.size = some { cls := .type "tuple", data := .seq #[.int i tk, u'] } := (sb.2 _ (Nat.ne_of_gt hel)).trans hT
    have new : ObjOk X.prog X.w (upd H s.heap.objs.size (.tup [.int (i : Nat), x])) h'' s.heap.objs.size (.tup [.int (i : Nat), x]) :=
      ⟨by show 2 ≤ sizeLine; decide, [.int i tk, u'], .cons ⟨_, rfl⟩ (.cons ru .nil), ⟨_, hT2, rfl, _, rfl⟩⟩
    have I1 : Inv X pins σ (upd H s.heap.objs.size (.tup [.int (i : Nat), x])) { s with heap := h'', toks := tk + 1 } :=
      I.turnedNew (ch := [e, it]) (fun b ob hb q => (sb.2 b (fun z => hb (by simp [z]))).trans (hk b ob (fun z => hb (by simp [z])) (fun z => hb (by simp [z])) q)) hf (Nat.le_refl _) new
    refine ⟨.ref s.heap.objs.size, _, I1, rfl, ⟨_, x, rfl, I.hok.fresh (Nat.le_refl _), rfl, fun ys hy => by rw [I.tuple_inj hy hq]; exact hx⟩, ⟨⟨u', ?_⟩, hst.1.at fun o q => (sb.2 it (Ne.symm hne)).trans q, hne⟩, fun b hb => ?_⟩
    · have e1 : ((i + 1 : Nat) : Int) = (i : Int) + 1 := by omega
      rw [e1]; exact he'
    · have hb' : b < s.heap.objs.size := by
        have e' : b = e ∨ b = it := by simpa using hb
        rcases e' with z | z
        · rw [z]; exact hel
        · rw [z]; exact hil
      rw [upd_ne (Nat.ne_of_lt hb')]
      exact (hf b hb).1
  done := by
    intro X hP hw hK hc i pins s σ H E I hf st hg
    subst hP hw hK
    obtain ⟨⟨old, he⟩, hit, hne⟩ := st
    obtain ⟨xs, hq, hx⟩ := hg
    obtain ⟨its, rv, p, hz⟩ := I.tuple hq
    obtain ⟨f0, f1, f2, f3, f4, f5⟩ := hf it (by simp)
    have hl := rv.length
    exact g_enum_endT (I.ok.hd hc) he hit p (by simp; omega) fun h' eb => ⟨rfl, I.turned (t' := s.toks) (fun b o hb q => eb b o hb q) f0 f1 f3 f4 f5⟩
  self := fun A i s Q E st h => let ⟨⟨_, he⟩, _⟩ := st; wpAny_pyIter_enum he h
def iEnumT (K : PySem.W.Frag) (ta : TA) : TI := fun σ H R => ta σ H fun vs H1 => ∃ a xs, vs = [.ref a] ∧ SqT K H1 a xs ∧ R (IteT K a) H1
theorem pi_enumT {X : Cx} {e : Expr} {ta : TA} {p pos tpos : Pos} {elts : List Expr} {kk : Nat} (hg : Gl X "enumerate") (hm : X.mg "enumerate" = none) (ha : PA X [e] ta) (hs : starEach [e] X.env = [(false, eval e X.env)] := by rfl) :
    PI X (.Tuple elts kk tpos) (.Call (.Name "enumerate" p) [e] [] pos) (iEnumT X.K ta) := by
  refine ⟨fun pins s σ H R I h => ?_⟩
  refine Call_ (ld_blt I hg hm boot_enumerate (PyProof.Rows.callWith_type1 (thn (ha.run pos pins s σ H _ I h) fun us s1 ⟨vs, H1, I1, r1, q1⟩ => ?_) hs rfl))
  obtain ⟨a, xs, ex, hq, q⟩ := q1
  subst ex
  cases r1 with
  | cons r rr =>
    cases rr
    cases r
    obtain ⟨its, rv, p', hz⟩ := I1.tuple hq
    refine g_call_enumT p' fun h' he hit hsz hk => wpAny_pyIter_enum he ?_
    have I2 : Inv X pins σ H1 { s1 with heap := h' } := I1.kept (t' := s1.toks) hk
    refine ⟨s1.heap.objs.size + 1, [s1.heap.objs.size + 1, s1.heap.objs.size], _, _, H1, rfl, I2, turn_enumT a (s1.heap.objs.size + 1) s1.heap.objs.size, ⟨⟨.none, he⟩, hit, Nat.succ_ne_self _⟩, fun b hb => ?_, q⟩
    have e' : b = s1.heap.objs.size + 1 ∨ b = s1.heap.objs.size := by simpa using hb
    have hle : s1.heap.objs.size ≤ b := by
      rcases e' with z | z
      · rw [z]; exact Nat.le_add_right _ _
      · rw [z]; exact Nat.le_refl _
    exact I1.fpOk hle (I1.hok.fresh hle)
theorem walk_enumT {K : PySem.W.Frag} {a : Addr} {xs : List V} : Walk (IteT K a) xs.length (fun H => SqT K H a xs) (YPair (fun i => some (.int (i : Nat))) (fun i => xs[i]?)) := by
  refine ⟨fun i _ hi q => ⟨xs, xs[i], q, by simp [hi]⟩, fun _ q => ⟨xs, q, Nat.le_refl _⟩, fun i H v H' _ q y => ?_⟩
  obtain ⟨T, x, h1, h2, h3, h4⟩ := y
  exact ⟨T, .int (i : Nat), x, h1, h2, h3, rfl, h4 xs q⟩
section
variable {X : Cx} {η : En} {L : Lg} {e : Expr} {elts : List Expr} {kk : Nat} {tpos p pos : Pos} {Q : Src → Lg → Prop}
theorem gi_enumT (h : GA X [e] η L fun vs L1 => ∃ q xs, vs = [.ref q] ∧ (q, HO.tup xs) ∈ L1 ∧ Q ⟨xs.length, KeepT q xs, itemPr (fun i => some (.int (i : Nat))) (fun i => xs[i]?)⟩ L1) (hm : X.mg "enumerate" = none) (hg : Gl X "enumerate" := by rfl)
    (hs' : starEach [e] X.env = [(false, eval e X.env)] := by rfl) : GI X (.Tuple elts kk tpos) (.Call (.Name "enumerate" p) [e] [] pos) η L Q := fun hN H hH =>
  WI.of (pi_enumT hg hm pa_W hs') (h.then hN hH fun vs L1 H1 k1 ⟨q, xs, e1, m, z⟩ => ⟨q, xs, e1, sqt k1 m, L1, _, k1, SrcOk.of walk_enumT (fun H M hM k => sqt hM k) (fun i H x H' M _ hM _ y => y_pr hM y), z⟩)
end
end G
set_option Elab.async false
set_option linter.all false
set_option maxRecDepth 100000
set_option maxHeartbeats 4000000
namespace G
open PySem PySem.Spec PyProof.Rows L2
abbrev P2 (p : Int × Int) : PyData := .tuple [.int p.1, .int p.2]
theorem depth2 : ∀ ps : List (Int × Int), PyData.depthAll (ps.map P2) ≤ 1
  | [] => by simp [PyData.depthAll]
  | p :: r => by
    have e := depth2 r
    simp only [List.map_cons, PyData.depthAll, PyData.depth]
    omega
/-- pairs in the ledger -/
abbrev Pr2 := Addr × Int × Int
section
variable {X : Cx} {L : Lg} {Q : QV} {q : Addr} {j : Nat}
theorem dls_prs : ∀ {ps : List Pr2}, (∀ e ∈ ps, (e.1, HO.tup [.int e.2.1, .int e.2.2]) ∈ L) → Dls L (ps.map fun e => V.ref e.1) ((ps.map fun e => e.2).map P2)
  | [], _ => dls_nil
  | e :: r, h => dls_cons (dl_tup (h e (List.mem_cons_self ..)) (dls_cons dl_int (dls_cons dl_int dls_nil))) (dls_prs fun x hx => h x (List.mem_cons_of_mem _ hx))
end
end G
set_option Elab.async false
set_option linter.all false
set_option maxRecDepth 100000
set_option maxHeartbeats 4000000
namespace PySem.W
open PySem PySem.Calls PySem.Spec PyProof.Rows
end PySem.W
namespace G
open PySem PySem.Spec PyProof.Rows L2
section
variable {X : Cx} {CX : CXT} {j k : Nat} {C g a dx p : Addr} {fs : List (Str × V)} {sp : SpL} {El : XL} {L : Lg} {Q : QV} {n : Str}
/-- a property -/
theorem gat_prop (c : Cls X.K C) (hp : PropOf X.K C n p g) (F : RunG X.prog X.w X.K X.mg X.base CX k g argsP (toSp sp)) (hr : RoomG j X.A) (hx : Passes CX X.nox (upX El)) (ma : (a, HO.ins C dx fs) ∈ L) (h : sp [.ref a] L Q El) (hjk : k + 1 ≤ j := by decide) : GAt X n (.ref a) L Q := fun pins s σ H u ex hH I r => by
  obtain rfl : u = Value.ref a := r
  obtain ⟨mA, O, _⟩ := ins_get I.hok (hH.get ma)
  obtain ⟨od, J, _⟩ := O.look
  obtain ⟨rest, hrec⟩ := hp.rec_
  have I1 := I.tok (s.toks + 1)
  have hc : (PySem.W.clsIn X.K C).isSome = true := by
    obtain ⟨cd, hc, _⟩ := PySem.W.any_some c.hd
    rw [hc]
    rfl
  refine PySem.W.get_bind I.kIn J (PySem.W.plainGet_of (c.get n)).1 (PySem.W.findObj_data hc hp.at_ hp.get hp.tak) (PySem.W.plainGet_of (c.get n)).2 (wpAny_call (PySem.W.prop_get (s := { s with toks := s.toks + 1 }) I.kIn hrec ?_))
  refine codeAny_mono (F X.A.in1 X.stack { s with toks := s.toks + 1 } H [.ref a] [.ref a] _ _ (hr.mono hjk).in1 I1.env0.in1 (.cons rfl .nil) (up_sp hH h)) fun r s' hq => ?_
  cases r with
  | error er => exact False.elim (hx pins σ H { s with toks := s.toks + 1 } er s' (I1.wish _) hq)
  | ok fl =>
    cases fl with
    | ret u =>
      obtain ⟨v, H', I3, rv, q3⟩ := I1.after hq
      show wpAny _ _ (handedOut u) _ _ _
      rw [PySem.W.handedOut_of (handed_of rv)]
      exact wpAny_pure ⟨v, H', I3, rv, q3⟩
    | next => exact False.elim hq
    | brk => exact False.elim hq
    | cont => exact False.elim hq
end
end G
set_option Elab.async false
set_option linter.all false
set_option maxRecDepth 100000
set_option maxHeartbeats 4000000
namespace G
open PySem PySem.Spec PyProof.Rows L2
def RowO (o : HO) (xs : List V) : Prop := o = .lst xs ∨ o = .tup xs
section
variable {X : Cx} {η : En} {L : Lg} {e tg : Expr} {elts : List Expr} {kk : Nat} {tpos p pos : Pos} {Q : Src → Lg → Prop} {o : HO} {xs : List V}
theorem gi_rowO (ro : RowO o xs) (h : GE X e η L fun v L1 => ∃ q, v = .ref q ∧ (q, o) ∈ L1 ∧ Q ⟨xs.length, fun M => (q, o) ∈ M, itemAt xs⟩ L1) : GI X tg e η L Q := by
  rcases ro with rfl | rfl
  · exact gi_list (h.imp fun v L1 ⟨q, ev, m, z⟩ => ⟨q, xs, ev, m, z⟩)
  · exact gi_tuple (h.imp fun v L1 ⟨q, ev, m, z⟩ => ⟨q, xs, ev, m, z⟩)
theorem gi_enumO (ro : RowO o xs) (h : GA X [e] η L fun vs L1 => ∃ q, vs = [.ref q] ∧ (q, o) ∈ L1 ∧ Q ⟨xs.length, fun M => (q, o) ∈ M, itemPr (fun i => some (.int (i : Nat))) (fun i => xs[i]?)⟩ L1) (hm : X.mg "enumerate" = none) (hg : Gl X "enumerate" := by rfl)
    (hs' : starEach [e] X.env = [(false, eval e X.env)] := by rfl) : GI X (.Tuple elts kk tpos) (.Call (.Name "enumerate" p) [e] [] pos) η L Q := by
  rcases ro with rfl | rfl
  · exact gi_enum (h.imp fun v L1 ⟨q, ev, m, z⟩ => ⟨q, xs, ev, m, z⟩) hm hg hs'
  · exact gi_enumT (h.imp fun v L1 ⟨q, ev, m, z⟩ => ⟨q, xs, ev, m, z⟩) hm hg hs'
end
end G
namespace G
open PySem PySem.Spec PyProof.Rows L2
end G
set_option Elab.async false
set_option linter.all false
set_option maxRecDepth 100000
set_option maxHeartbeats 4000000
namespace G
open PySem PySem.Spec PyProof.Rows L2
theorem memR {α : Type} {a : α} {l r : List α} (h : a ∈ r) : a ∈ l ++ r := List.mem_append_right _ h
theorem Swap.right {p : Addr} {o : HO} {L M : Lg} (s : Swap p o L M) : ∀ {E : Lg}, Swap p o (E ++ L) (E ++ M)
  | [] => s
  | _ :: E => .there (Swap.right s (E := E))
theorem subl_app {α : Type} {l e r : List α} (h : List.Sublist l r) : List.Sublist l (e ++ r) := h.trans (List.sublist_append_right e r)
section
variable {a b x : Addr × HO} {R L es : Lg}
theorem rotStep (s : Sub (a :: b :: R) L) : Sub (a :: b :: x :: R) (x :: L) := rot12.trans (Sub.cons s)
theorem rotApp (s : Sub (a :: b :: R) L) : Sub (a :: b :: (es ++ R)) (es ++ L) := (rotL es).trans (Sub.append s)
end
/-- the references of entries -/
abbrev refs (es : Lg) : List V := es.map fun e => V.ref e.1
section
variable {X : Cx} {η : En} {L : Lg} {elt iter tg : Expr} {ifs : List Expr} {scope : Scope} {pos p1 p2 p3 : Pos} {x y : Str} {f : V → En} {g : V → V → En} {Q : QV}
/-- what such a comprehension is shown of -/
structure FreshC (X : Cx) (scope : Scope) (ifs : List Expr) (elt : Expr) (S : Src) (L : Lg) (st : V → Lg → (En → Lg → Prop) → Prop) (p : Nat → Bool) (pl : Nat → HO) : Prop where
  n : S.n ≤ 1000000
  kp : ∀ M, (∀ e ∈ L, e ∈ M) → S.keep M
  tn : ∀ i x E R M, i < S.n → S.item i x E → ((E ++ M).map (·.1)).Nodup → (∀ e ∈ L, e ∈ R) → Sub R M → st x (E ++ M) fun θ M' => AllBlk X scope fun B => GTs B ifs θ M' fun b M1 => b = p i ∧ Sub R M1 ∧ (b = true → AllBlk X scope fun B => GE B elt θ M1 fun z M2 => ∃ a, z = .ref a ∧ Sub ((a, pl i) :: R) M2)
theorem range_moreO {p : Nat → Bool} {g : Nat → HO} {i : Nat} : ((List.range (i + 1)).filter p).map g = ((List.range i).filter p).map g ++ (if p i = true then [g i] else []) := by
  rw [List.range_succ, List.filter_append, List.map_append]
  congr 1
  by_cases h : p i = true
  · rw [if_pos h, List.filter_cons_of_pos h]
    rfl
  · rw [if_neg h, List.filter_cons_of_neg h]
    rfl
theorem rotE {a b : Addr × HO} {es L : Lg} : Sub (b :: ((es ++ [a]) ++ L)) (b :: a :: (es ++ L)) := Sub.perm (by
  refine .cons b ?_
  rw [List.append_assoc]
  exact List.perm_middle)
theorem rotE2 {a b : Addr × HO} {R : Lg} : Sub (b :: a :: R) (a :: b :: R) := Sub.perm (.swap _ _ _)
theorem FreshC.lc {S : Src} {st : V → Lg → (En → Lg → Prop) → Prop} {p : Nat → Bool} {pl : Nat → HO} (h : FreshC X scope ifs elt S L st p pl) (mono : ∀ v M (k k' : En → Lg → Prop), (∀ θ M', k θ M' → k' θ M') → st v M k → st v M k') (D : Addr)
    (q : ∀ es : Lg, es.map (·.2) = ((List.range S.n).filter p).map pl → Q (.ref D) ((D, .lst (refs es)) :: (es ++ L))) : ∃ Pv, LcS X scope ifs elt S D L st Pv (drp Q) := by
  refine ⟨fun i M => ∃ es : Lg, es.map (·.2) = ((List.range i).filter p).map pl ∧ Sub ((D, .lst (refs es)) :: (es ++ L)) M, ⟨[], rfl, Sub.refl⟩, fun i M _ nd ⟨es, _, s⟩ => h.kp M fun e m => (s.to nd).2 e (List.mem_cons_of_mem _ (memR m)), fun i x E M hi it nd ⟨es, e0, s⟩ => ?_, fun M ⟨es, e0, s⟩ => ⟨_, s, q es e0⟩⟩
  refine mono x (E ++ M) _ _ (fun θ M' k => ?_) (h.tn i x E _ M hi it nd (fun e m => List.mem_cons_of_mem _ (memR m)) s)
  intro s1 H1 C1 cl1 fp1
  have k1 := k s1 H1 C1 cl1 fp1
  have more := range_moreO (p := p) (g := pl) (i := i)
  have key : ∀ b M1, (b = p i ∧ Sub ((D, .lst (refs es)) :: (es ++ L)) M1 ∧ (b = true → AllBlk X scope fun B => GE B elt θ M1 fun z M2 => ∃ a, z = .ref a ∧ Sub ((a, pl i) :: (D, .lst (refs es)) :: (es ++ L)) M2)) →
      if b = true then AllBlk X scope fun B => GE B elt θ M1 fun y M2 => ∃ acc M3, (D, HO.lst acc) ∈ M2 ∧ acc.length < sizeLine ∧ Swap D (.lst (acc ++ [y])) M2 M3 ∧ ∃ es : Lg, es.map (·.2) = ((List.range (i + 1)).filter p).map pl ∧ Sub ((D, .lst (refs es)) :: (es ++ L)) M3
      else ∃ es : Lg, es.map (·.2) = ((List.range (i + 1)).filter p).map pl ∧ Sub ((D, .lst (refs es)) :: (es ++ L)) M1 := fun b M1 ⟨eb, sb, hb⟩ => by
    cases b with
    | true =>
      rw [if_pos rfl]
      intro s2 H2 C2 cl2 fp2
      refine GE.nd ((hb rfl s2 H2 C2 cl2 fp2).imp fun y M2 ⟨a, ey, s3⟩ nd => ?_)
      have s4 : Sub ((D, .lst (refs es)) :: (a, pl i) :: (es ++ L)) M2 := rotE2.trans s3
      have m2 := (s4.to nd).2 _ List.mem_cons_self
      obtain ⟨M3, sw⟩ := Swap.ex (o := .lst (refs es ++ [y])) (u := .lst (refs es)) rfl m2
      have len : es.length ≤ i := by
        have e1 := congrArg List.length e0
        rw [List.length_map, List.length_map] at e1
        have := List.length_filter_le p (List.range i)
        rw [List.length_range] at this
        omega
      refine ⟨_, M3, m2, ?_, sw, es ++ [(a, pl i)], ?_, ?_⟩
      · rw [List.length_map, sizeLine_eq]
        have := h.n
        omega
      · rw [more, if_pos eb.symm, List.map_append, e0]
        rfl
      · subst ey
        have z : Sub ((D, .lst (refs es ++ [V.ref a])) :: (a, pl i) :: (es ++ L)) M3 := s4.swap sw
        have e2 : refs (es ++ [(a, pl i)]) = refs es ++ [V.ref a] := by
          show List.map _ _ = _
          rw [List.map_append]
          rfl
        rw [e2]
        exact rotE.trans z
    | false =>
      rw [if_neg Bool.false_ne_true]
      refine ⟨es, ?_, sb⟩
      rw [more, if_neg (by rw [← eb]; exact Bool.false_ne_true), List.append_nil]
      exact e0
  match ifs, k1 with
  | [], k1 => exact key _ _ k1
  | [c], k1 => exact k1.imp fun b M1 z => key b M1 z
variable {R : V → Lg → Prop} {q : Addr} {o : HO} {xs : List V} {p : Nat → Bool} {pl : Nat → HO}
/-- a pure comprehension over pairs that stand in the ledger -/
theorem pure_row2 {pg : Nat → V} {pt : Nat → Bool} (mq : (q, o) ∈ L) (hl : xs.length ≤ 1000000) (ht : ∀ i v, xs[i]? = some v → ∃ t a b, v = .ref t ∧ (t, HO.tup [a, b]) ∈ L ∧ TurnP X scope ifs elt L (g a b) (pt i) (pg i)) (r : ∀ D, R (.ref D) ((D, .lst (((List.range xs.length).filter pt).map pg)) :: L)) : PureL X scope ifs elt (stTwo g) R ⟨xs.length, fun M => (q, o) ∈ M, itemAt xs⟩ L := by
  refine ⟨pt, pg, ⟨hl, fun M h => h _ mq, fun i x E D acc M hi ⟨hx, hE⟩ nd s => ?_⟩, r⟩
  subst hE
  obtain ⟨t, a, b, ev, m, k⟩ := ht i x hx
  exact ⟨t, a, b, ev, (s.to nd).2 _ (memS m), turnP_use (st := stTwo g) k s⟩
theorem pure_list2 {pg : Nat → V} {pt : Nat → Bool} (mq : (q, HO.lst xs) ∈ L) (hl : xs.length ≤ 1000000) (ht : ∀ i v, xs[i]? = some v → ∃ t a b, v = .ref t ∧ (t, HO.tup [a, b]) ∈ L ∧ TurnP X scope ifs elt L (g a b) (pt i) (pg i)) (r : ∀ D, R (.ref D) ((D, .lst (((List.range xs.length).filter pt).map pg)) :: L)) : PureL X scope ifs elt (stTwo g) R ⟨xs.length, KeepL q xs, itemAt xs⟩ L := pure_row2 mq hl ht r
end
theorem range_get {α β : Type} {l : List α} {f : Nat → β} {g : α → β} (h : ∀ i a, l[i]? = some a → f i = g a) : ((List.range l.length).filter fun _ => true).map f = l.map g := by
  rw [List.filter_eq_self.mpr fun _ _ => rfl]
  refine List.ext_getElem? fun i => ?_
  rw [List.getElem?_map, List.getElem?_map]
  by_cases z : i < l.length
  · rw [List.getElem?_range z, List.getElem?_eq_getElem z]
    exact congrArg some (h i _ (List.getElem?_eq_getElem z))
  · rw [List.getElem?_eq_none (by rw [List.length_range]; omega), List.getElem?_eq_none (by omega)]
    rfl
section
variable {X : Cx} {η : En} {L : Lg} {a b c : Expr} {op op' : CmpOp} {pos : Pos} {Q : Bool → Lg → Prop}
/-- a < b < c as a test -/
theorem gt_chain (h : GE X a η L fun x L1 => GE X b η L1 fun y L2 => GOp X (compareOp op) x y L2 fun z L3 => ∃ k, z = .bl k ∧ if k = true then GE X c η L3 fun w L4 => GOp X (compareOp op') y w L4 fun z L5 => ∃ k, z = .bl k ∧ Q k L5 else Q false L3)
    (hm : lastMarks [op, op'] [b, c] = false := by with_unfolding_all rfl) : GT X (.Compare a [op, op'] [b, c] pos) η L Q := fun hN H hH =>
  WT.of (pt_chain (r := fun x y H' Q' => ∀ pins s σ v u, Inv X pins σ H' s → RelV x v → RelV y u → wpAny (model X.prog X.w) X.A (compareOp op v u) (EP X pins σ Q') X.xe s)
    (r' := fun x y H' Q' => ∀ pins s σ v u, Inv X pins σ H' s → RelV x v → RelV y u → wpAny (model X.prog X.w) X.A (compareOp op' v u) (EP X pins σ Q') X.xe s)
    (fun pins s σ H' x y v u Q' I r1 r2 q => q pins s σ v u I r1 r2) (fun pins s σ H' x y v u Q' I r1 r2 q => q pins s σ v u I r1 r2) pe_W pe_W pe_W hm)
    (h.then hN hH fun x _ _ h1 q1 => q1.then hN h1 fun y _ _ h2 q2 => fun pins s σ v u I r1 r2 => by
      refine wpAny_mono (q2 pins s σ _ v u h2 I r1 r2) (fun z s' zz => ?_) fun _ _ z => z
      obtain ⟨zv, H3, I3, r3, L3, h3, k, ek, q3⟩ := zz
      refine ⟨zv, H3, I3, r3, k, ek, ?_⟩
      cases k with
      | true =>
        rw [if_pos rfl] at q3
        rw [if_pos rfl]
        exact q3.then hN h3 fun w L4 H4 h4 q4 => fun pins s σ v u I r1 r2 => thn (q4 pins s σ _ v u h4 I r1 r2) fun _ _ ⟨z, H5, J, r5, L5, h5, k5, ek5, q5⟩ => ⟨z, H5, J, r5, k5, ek5, L5, h5, q5⟩
      | false =>
        rw [if_neg Bool.false_ne_true] at q3
        rw [if_neg Bool.false_ne_true]
        exact ⟨false, rfl, L3, h3, q3⟩)
end
theorem sh_tuple {n k m : Nat} {xs : List PyData} (h : ∀ x ∈ xs, Sh x n k) (hm : xs.length ≤ m) : Sh (.tuple xs) (n * m + 2 * m + 3) (k + 1) := by
  have a := lenAll_of h
  have b := tupleText_len_le (PyData.shownAll xs)
  have c : n * xs.length ≤ n * m := Nat.mul_le_mul_left _ hm
  refine ⟨by rw [PyData.showable]; exact showAll_of h, by rw [PyData.depth]; exact Nat.succ_le_succ (depthAll_of h), by rw [PyData.shown]; omega⟩
theorem gat_fldA {X : Cx} {L : Lg} {Q : QV} {a C dx : Addr} {fs : List (Str × V)} {n : Str} {v : V} (mm : (a, HO.ins C dx fs) ∈ L) (c : L2.Cls X.K C) (no : NoAttr X.K C n) (l : fs.lookup n = some v) (q : Q v L) : GAt X n (.ref a) L Q := gat_fld c no mm l q
section
variable {X : Cx} {L : Lg} {Q : QV} {p : Addr} {xs : List V}
theorem gc_tupL (m : (p, HO.lst xs) ∈ L) (h : ∀ q, Q (.ref q) ((q, .tup xs) :: L)) : GC X (.type "tuple") [.ref p] L Q := GC.of call_tuple_of fun H hH => ⟨p, xs, rfl, .inl ⟨sql hH m, fun l hl => ⟨_, hH.new hl, h l⟩⟩⟩
end
end G
set_option Elab.async false
set_option linter.all false
set_option maxRecDepth 100000
set_option maxHeartbeats 4000000
namespace G
open PySem PySem.Spec PyProof.Rows L2 NdefX ClX
section
variable {X : Cx} {CX : CXT} {j k : Nat} {C g a b dx dy : Addr} {fs gs : List (Str × V)} {sp : SpL} {El : XL} {L : Lg} {Q : QV} {y : V} {T : String} {r : Bool}
theorem gc_isKO (ky : Knd L y T) (e : PySem.W.kitOne X.K (.type T) (.ref C) = some r) (h : Q (.bl r) L) : GC X (.builtin "isinstance") [y, .ref C] L Q := GC.of call_isi fun H hH => ⟨y, .ref C, .type T, .ref C, r, rfl, .own C, ky.ty H hH, e, L, hH, h⟩
theorem go_eqK (T' : OwnEq X.K C g) (F : RunG X.prog X.w X.K X.mg X.base CX k g argsP (toSp sp)) (hr : RoomG j X.A) (hx : Passes CX X (upX El)) (ma : (a, HO.ins C dx fs) ∈ L) (ky : Knd L y T) (hn : PySem.W.notFirst X.K C (.type T) = true)
    (h : sp [.ref a, y] L (fun v L' => ∃ r, v = .bl r ∧ Q (.bl r) L') El) (hjk : k ≤ j := by decide) : GOp X (compareOp .Eq) (.ref a) y L Q := fun pins s σ H v u hH I rx ry => by
  obtain rfl : v = Value.ref a := rx
  obtain ⟨oa, da, J⟩ := ins_inst I hH ma
  obtain ⟨P, kx, hp, _⟩ := kit_of I ry (ky.ty H hH)
  obtain ⟨m, hF⟩ := I.fr
  show wpAny (model X.prog X.w) X.A (richCompare .Eq (.ref a) u) _ _ _
  refine PySem.W.cmp_K (op := .Eq) (tb := .type T) hr.toRoom.units0 hF I.ok.mod.kin J (kx.ty _ _ I.kIn hp) hn T'.at_ T'.fn ?_
  refine wpAny_mono (run_G (args := argsP) (us := [.ref a, u]) (vs := [.ref a, y]) F (hr.mono hjk) hx I (.cons rfl (.cons ry .nil)) (up_sp hH h)) (fun r s' z => ?_) fun _ _ z => z
  obtain ⟨v, H', I', rv, L', h', r0, ev, q⟩ := z
  subst ev
  obtain rfl : r = Value.bool r0 := rv
  exact ⟨.bl r0, H', I', rfl, L', h', q⟩
/-- str(x) by an own __str__ -/
theorem gc_strM (hs : PySem.W.findIn X.K (.ref C) "__str__" = some (some (.ref g))) (hf : PySem.W.isFn X.K (.ref g) = true) (F : RunG X.prog X.w X.K X.mg X.base CX k g argsP (toSp sp)) (hr : RoomG j X.A) (hx : Passes CX X (upX El)) (ma : (a, HO.ins C dx fs) ∈ L)
    (h : sp [.ref a] L (fun v L' => ∃ z, v = .str z ∧ Q (.str z) L') El) (hjk : k + 2 ≤ j := by decide) : GC X (.type "str") [.ref a] L Q := fun pins s σ H us hH I rr => by
  rw [Vals.ref1 rr]
  obtain ⟨oe, od, J⟩ := ins_inst I hH ma
  have hu : X.A.in1.in1.units < cLine := ((hr.mono hjk).in1).in1.toRoom.units0
  refine PySem.W.kso_call hu I.kIn J hs hf (wpAny_call (codeAny_mono (F X.A.in1.in1 X.stack s H [.ref a] [.ref a] _ _ ((hr.mono hjk).in1).in1 I.env0.in1.in1 (.cons rfl .nil) (up_sp hH h)) fun r s' hq => ?_))
  cases r with
  | error e => exact hx pins σ H s e s' I hq
  | ok fl =>
    cases fl with
    | ret w =>
      obtain ⟨z, H', I', rz, L', h', y, ez, q⟩ := I.after hq
      subst ez
      obtain ⟨t, rfl⟩ : ∃ t, w = Value.str y t := rz
      exact ⟨.str y, H', I', ⟨t, rfl⟩, L', h', q⟩
    | next => exact hq.elim
    | brk => exact hq.elim
    | cont => exact hq.elim
end
def GJs (X : Cx) (es : List Expr) (η : En) (acc : Str) (L : Lg) (Q : Str → Lg → Prop) : Prop := match es with
  | [] => Q acc L
  | e :: r => GE X e η L fun x L1 => ∃ y : Str, x = .str y ∧ (acc ++ y).length ≤ sizeLine ∧ GJs X r η (acc ++ y) L1 Q
section
variable {X : Cx} {η : En} {L : Lg} {Q : QV} {e : Expr} {pos : Pos}
theorem pj_W : ∀ {es : List Expr}, PJ X es (es.map (WE X))
  | [] => .nil
  | _ :: _ => .cons pe_W pj_W
theorem GJs.to : ∀ {es : List Expr} {acc : Str} {L : Lg} {Q : Str → Lg → Prop} {Q' : Str → Hp → Prop}, GJs X es η acc L Q → X.N = names η → ∀ {H : Hp}, Has H L → (∀ v L1 H1, Has H1 L1 → Q v L1 → Q' v H1) → tJs (es.map (WE X)) acc (vals η) H Q'
  | [], acc, L, Q, Q', h, hN, H, hH, m => m _ _ _ hH h
  | e :: r, acc, L, Q, Q', h, hN, H, hH, m => GE.then h hN hH fun x L1 H1 h1 ⟨y, ey, z, q⟩ => ⟨y, ey, z, GJs.to q hN h1 m⟩
theorem ge_joined {v1 v2 : Expr} {rest : List Expr} (h : GJs X (v1 :: v2 :: rest) η Str.empty L fun out L1 => Q (.str out) L1) : GE X (.JoinedStr (v1 :: v2 :: rest) pos) η L Q := fun hN H hH =>
  WE.of (pe_joined pj_W) (GJs.to h hN hH fun v L1 H1 h1 q => ⟨L1, h1, q⟩)
theorem ge_fmtI (h : GE X e η L fun x L1 => ∃ i : Int, x = .int i ∧ i.natAbs.log2 < 1920 ∧ Q (.str (toString i)) L1) : GE X (.FormattedValue e (-1) none pos) η L Q := fun hN H hH =>
  WE.of (pe_fmt pe_W) (h.then hN hH fun x L1 H1 h1 ⟨i, ex, z, q⟩ => .inr ⟨i, ex, z, L1, h1, q⟩)
theorem ge_fmtS (h : GE X e η L fun x L1 => ∃ y : Str, x = .str y ∧ y.length ≤ sizeLine ∧ Q (.str y) L1) : GE X (.FormattedValue e (-1) none pos) η L Q := fun hN H hH =>
  WE.of (pe_fmt pe_W) (h.then hN hH fun x L1 H1 h1 ⟨y, ex, z, q⟩ => .inl ⟨y, ex, z, L1, h1, q⟩)
/-- parts, with the length so far -/
theorem gjs_int {acc : Str} {n : Nat} {r : List Expr} {Q : Str → Lg → Prop} (ha : acc.length ≤ n) (hn : n ≤ 1000000) (h : GE X e η L fun x L1 => ∃ i : Int, x = .int i ∧ i.natAbs < 2 ^ 1920 ∧ ((acc ++ toString i).length ≤ n + 1921 → GJs X r η (acc ++ toString i) L1 Q)) : GJs X (.FormattedValue e (-1) none pos :: r) η acc L Q :=
  ge_fmtI (h.imp fun x L1 ⟨i, ex, hi, q⟩ => by
    have l := int_text_len_1921 (log_lt hi)
    have l2 : (acc ++ toString i).length ≤ n + 1921 := by
      rw [Str.length_append]
      omega
    exact ⟨i, ex, log_lt hi, _, rfl, by rw [sizeLine_eq]; omega, q l2⟩)
theorem gjs_lit {acc z : Str} {n : Nat} {r : List Expr} {j} {Q : Str → Lg → Prop} (ha : acc.length ≤ n) (hn : n ≤ 1000000) (h : (acc ++ z).length ≤ n + 100 → GJs X r η (acc ++ z) L Q) (hz : z.length ≤ 100 := by decide) : GJs X (.Constant (.str z) j pos :: r) η acc L Q := by
  have l2 : (acc ++ z).length ≤ n + 100 := by
    rw [Str.length_append]
    omega
  exact ge_str ⟨z, rfl, by rw [sizeLine_eq]; omega, h l2⟩
theorem gjs_nil {acc : Str} {Q : Str → Lg → Prop} (q : Q acc L) : GJs X [] η acc L Q := q
end
end G
set_option Elab.async false
set_option linter.all false
set_option maxRecDepth 100000
set_option maxHeartbeats 4000000
namespace PySem.W
open PySem PySem.Calls PyProof.Rows
end PySem.W
namespace G
open PySem PySem.Spec PyProof.Rows L2
end G
set_option Elab.async false
set_option linter.all false
set_option maxRecDepth 100000
set_option maxHeartbeats 4000000
namespace PySem.HandSPX
open Builtin Builtin.ObjectAttr
end PySem.HandSPX
set_option Elab.async false
set_option linter.all false
set_option maxRecDepth 100000
set_option maxHeartbeats 4000000
namespace G
open PySem PySem.Spec PyProof.Rows L2 NdefX
section
variable {X : Cx} {η : En} {L : Lg} {Q : QV} {a C D dd : Addr} {fs : List (Str × V)} {c v : V} {cv : Value} {b : Bool} {n : Str}
/-- an error object in the ledger, of one class -/
inductive ErO (C : Addr) (a : Addr) (L : Lg) : Prop
  | own {dd : Addr} {fs : List (Str × V)} (m : (a, exo a C (some dd)) ∈ L) (md : (dd, exd dd fs) ∈ L) : ErO C a L
  | bare (m : (a, ExO (.ref C) a) ∈ L) : ErO C a L
theorem ErO.mono {L M : Lg} (h : ErO C a L) (s : ∀ e ∈ L, e ∈ M) : ErO C a M := by
  cases h with
  | own m md => exact .own (s _ m) (s _ md)
  | bare m => exact .bare (s _ m)
end
end G
set_option Elab.async false
set_option linter.all false
set_option maxRecDepth 100000
set_option maxHeartbeats 4000000
namespace G
open PySem PySem.Spec PyProof.Rows L2
/-- v is the value d, read without sys.modules -/
def RdS (L : Lg) (v : V) (d : PyData) : Prop := ∀ (X : Cx) (pins : List (Addr × Obj)) (σ : L2.St) (H : Hp) (s : Shared) (u : Value), Has H L → Inv X pins σ H s → RelV v u → ∃ as, Reads s.heap u d as ∧ sysModules ∉ as
section
variable {L : Lg} {v : V} {d : PyData} {p : Addr} {x : Str} {i : Int} {vs : List V} {ds : List PyData}
theorem RdS.rd (h : RdS L v d) : Rd L v d := fun X pins σ H s u hH I r => by
  obtain ⟨as, q, n⟩ := h X pins σ H s u hH I r
  exact ⟨as, q, fun _ => n⟩
theorem RdS.sub {M : Lg} (s : Sub L M) (h : RdS L v d) : RdS M v d := fun X pins σ H s' u hH I r => h X pins σ H s' u (s H hH) I r
/-- values in a row -/
inductive RdA (L : Lg) : List V → List PyData → Prop
  | nil : RdA L [] []
  | cons {v : V} {d : PyData} {vs : List V} {ds : List PyData} (h : RdS L v d) (r : RdA L vs ds) : RdA L (v :: vs) (d :: ds)
theorem RdA.run {X : Cx} {pins : List (Addr × Obj)} {σ : L2.St} {H : Hp} {s : Shared} (hH : Has H L) (I : Inv X pins σ H s) : ∀ {vs : List V} {ds : List PyData} {us : List Value}, RdA L vs ds → Vals vs us → ∃ as, ReadsAll s.heap us ds as ∧ sysModules ∉ as
  | _, _, _, .nil, .nil => ⟨[], .nil, by simp⟩
  | _, _, _, .cons h r, .cons q t => by
    obtain ⟨as, a1, a2⟩ := h X pins σ H s _ hH I q
    obtain ⟨bs, b1, b2⟩ := r.run hH I t
    exact ⟨as ++ bs, .cons a1 b1, by simp [a2, b2]⟩
end
/-- a value that is shown, alone or in a list -/
structure OddS (L : Lg) (v : V) (d : PyData) : Prop where
  o : Odd L v d
  r : RdS L v d
  dp : d.depth ≤ 10
theorem OddS.drop {L : Lg} {v : V} {d : PyData} {a : Addr × HO} (h : OddS L v d) : OddS (a :: L) v d := ⟨h.o.drop, h.r.sub Sub.drop, h.dp⟩
end G
set_option Elab.async false
set_option linter.all false
set_option maxRecDepth 100000
set_option maxHeartbeats 4000000
namespace G
open PySem PySem.Spec PyProof.Rows L2
section
variable {X : Cx} {L : Lg} {Q : QV} {q : Addr}
theorem gc_allB {bs : List Bool} (hc : X.calm = true) (m : (q, HO.lst (bs.map V.bl)) ∈ L) (h : Q (.bl (bs.all id)) L) : GC X (.builtin "all") [.ref q] L Q := GC.of (cr_all hc) fun H hH => ⟨q, bs, rfl, sql hH m, L, hH, h⟩
theorem gc_max2 {i j : Int} (hc : X.calm = true) (h : Q (.int (if j > i then j else i)) L) : GC X (.builtin "max") [.int i, .int j] L Q := GC.of (call_max2 hc) fun H hH => ⟨i, j, rfl, L, hH, h⟩
end
theorem bt_any : bootBuiltins "any" = some (.builtin "any") := by decide +kernel
theorem bt_all : bootBuiltins "all" = some (.builtin "all") := by decide +kernel
theorem bt_sum : bootBuiltins "sum" = some (.builtin "sum") := by decide +kernel
theorem bt_max : bootBuiltins "max" = some (.builtin "max") := by decide +kernel
section
variable {X : Cx} {η : En} {L : Lg} {Q : QV} {e : Expr} {es : List Expr} {pos p : Pos}
theorem gb_any (B : Bi X.mg) (h : GA X (e :: es) η L fun xs L1 => GC X (.builtin "any") xs L1 Q) (hg : Gl X "any" := by rfl) (he : starEach (e :: es) X.env = (false, eval e X.env) :: starEach es X.env := by rfl) (hpl : (backTo pos (starEach es X.env)).any (·.1) = false := by rfl) :
    GE X (.Call (.Name "any" p) (e :: es) [] pos) η L Q := ge_B B.any bt_any h hg (by decide) (by decide) he hpl
theorem gb_all (B : Bi X.mg) (h : GA X (e :: es) η L fun xs L1 => GC X (.builtin "all") xs L1 Q) (hg : Gl X "all" := by rfl) (he : starEach (e :: es) X.env = (false, eval e X.env) :: starEach es X.env := by rfl) (hpl : (backTo pos (starEach es X.env)).any (·.1) = false := by rfl) :
    GE X (.Call (.Name "all" p) (e :: es) [] pos) η L Q := ge_B B.all bt_all h hg (by decide) (by decide) he hpl
theorem gb_sum (B : Bi X.mg) (h : GA X (e :: es) η L fun xs L1 => GC X (.builtin "sum") xs L1 Q) (hg : Gl X "sum" := by rfl) (he : starEach (e :: es) X.env = (false, eval e X.env) :: starEach es X.env := by rfl) (hpl : (backTo pos (starEach es X.env)).any (·.1) = false := by rfl) :
    GE X (.Call (.Name "sum" p) (e :: es) [] pos) η L Q := ge_B B.sum bt_sum h hg (by decide) (by decide) he hpl
theorem gb_max (B : Bi X.mg) (h : GA X (e :: es) η L fun xs L1 => GC X (.builtin "max") xs L1 Q) (hg : Gl X "max" := by rfl) (he : starEach (e :: es) X.env = (false, eval e X.env) :: starEach es X.env := by rfl) (hpl : (backTo pos (starEach es X.env)).any (·.1) = false := by rfl) :
    GE X (.Call (.Name "max" p) (e :: es) [] pos) η L Q := ge_B B.max bt_max h hg (by decide) (by decide) he hpl
end
theorem cut_front {ms : List V} {l : V} : cutV (ms ++ [l]) none (some (-1)) = ms := by
  unfold cutV
  have e1 : HT.sIx (ms ++ [l]).length 0 none = 0 := rfl
  have e2 : HT.sIx (ms ++ [l]).length (ms ++ [l]).length (some (-1)) = ms.length := by
    show (if (-1 : Int) < 0 then ((-1 : Int) + ((ms ++ [l]).length : Int)).toNat else min (-1 : Int).toNat (ms ++ [l]).length) = _
    rw [if_pos (by decide), List.length_append, List.length_singleton]
    omega
  rw [e1, e2, List.drop_zero, Nat.sub_zero, List.take_left]
theorem cut_from {xs : List V} {k : Nat} (h : k ≤ xs.length) : cutV xs (some (k : Int)) none = xs.drop k := by
  unfold cutV
  rw [HT.sIx_nat, HT.sIx_none, Nat.min_eq_left h]
  exact List.take_of_length_le (by rw [List.length_drop]; exact Nat.le_refl _)
theorem eqvP2 (p q : Int × Int) : PyData.eqv (P2 p) (P2 q) = decide (p = q) := by
  have e : PyData.eqv (P2 p) (P2 q) = (decide (p.1 = q.1) && decide (p.2 = q.2)) := by
    simp only [PyData.eqv, PyData.eqvAll, Bool.and_true]
    rfl
  rw [e]
  obtain ⟨a, b⟩ := p
  obtain ⟨c, d⟩ := q
  by_cases h : a = c <;> by_cases k : b = d <;> simp [h, k]
theorem eqvPs : ∀ ns ms : List (Int × Int), PyData.eqvAll (ns.map P2) (ms.map P2) = decide (ns = ms)
  | [], [] => by simp [PyData.eqvAll]
  | [], m :: r => by simp [PyData.eqvAll]
  | n :: r, [] => by simp [PyData.eqvAll]
  | n :: r, m :: q => by
    have e := eqvPs r q
    rw [List.map_cons, List.map_cons, PyData.eqvAll, eqvP2, e]
    by_cases h : n = m <;> by_cases k : r = q <;> simp [h, k]
theorem layPs : ∀ ns : List (Int × Int), PyData.canLayAll0 (ns.map P2) = true
  | [] => by simp [PyData.canLayAll0]
  | n :: r => by
    have e := layPs r
    simp [PyData.canLayAll0, PyData.canLay0, e]
theorem depthPs (ns : List (Int × Int)) : PyData.depthAll (ns.map P2) ≤ 1 := depth2 ns
theorem shapedPT (ns : List (Int × Int)) : SeqAt.shaped (.tuple (ns.map P2)) = true := by
  have a := depthPs ns
  have b := layPs ns
  simp [SeqAt.shaped, PyData.canLay0, PyData.depth, b]
  omega
section
variable {X : Cx} {L : Lg} {Q : QV} {j : Nat} {p q : Addr} {xs ys : List V} {ps qs : List Pr2}
abbrev PrL (ps : List Pr2) (L : Lg) : Prop := ∀ e ∈ ps, (e.1, HO.tup [.int e.2.1, .int e.2.2]) ∈ L
theorem dl_prT (m : (p, HO.tup xs) ∈ L) (e : xs = ps.map fun e => V.ref e.1) (h : PrL ps L) : Dl L (.ref p) (.tuple ((ps.map (·.2)).map P2)) := dl_tup m (e ▸ dls_prs h)
theorem go_eqPT (hr : RoomG j X.A) (m1 : (p, HO.tup xs) ∈ L) (m2 : (q, HO.tup ys) ∈ L) (e1 : xs = ps.map fun e => V.ref e.1) (e2 : ys = qs.map fun e => V.ref e.1) (h1 : PrL ps L) (h2 : PrL qs L) (h : Q (.bl (decide (ps.map (·.2) = qs.map (·.2)))) L) : GOp X (compareOp .Eq) (.ref p) (.ref q) L Q :=
  go_eqD hr.toRoom (dl_prT m1 e1 h1) (dl_prT m2 e2 h2) (shapedPT _) (shapedPT _) (by
    have e : PyData.eqv (.tuple ((ps.map (·.2)).map P2)) (.tuple ((qs.map (·.2)).map P2)) = PyData.eqvAll ((ps.map (·.2)).map P2) ((qs.map (·.2)).map P2) := by simp [PyData.eqv]
    rw [e, eqvPs]
    exact h)
end
def Prs2 (ps : List Pr2) (L : Lg) : Prop := ∀ e ∈ ps, (e.1, HO.tup [.int e.2.1, .int e.2.2]) ∈ L
theorem Prs2.mono {ps : List Pr2} {L M : Lg} (h : Prs2 ps L) (s : ∀ e ∈ L, e ∈ M) : Prs2 ps M := fun e he => s _ (h e he)
theorem Prs2.snoc {ps : List Pr2} {e : Pr2} {L : Lg} (h : Prs2 ps L) (k : (e.1, HO.tup [.int e.2.1, .int e.2.2]) ∈ L) : Prs2 (ps ++ [e]) L := fun x hx => by
  rcases List.mem_append.mp hx with hx | hx
  · exact h x hx
  · rw [List.mem_singleton.mp hx]
    exact k
theorem GG.nd {X : Cx} {tg : Expr} {v : V} {η : En} {L : Lg} {Q : En → Lg → Prop} (h : (L.map (·.1)).Nodup → GG X tg v η L Q) : GG X tg v η L Q := fun hN H hH => h hH.1 hN H hH
theorem filter_listA {α : Type} {xs : List α} {t : α → Bool} {β : Type} {g : α → β} {p : Nat → Bool} {h : Nat → β} (hp : ∀ i v, xs[i]? = some v → p i = t v ∧ h i = g v) : ((List.range xs.length).filter p).map h = (xs.filter t).map g := by
  have key : ∀ k, k ≤ xs.length → ((List.range k).filter p).map h = ((xs.take k).filter t).map g := fun k => by
    induction k with
    | zero => intro _; rfl
    | succ k ih =>
      intro hk
      have e : xs[k]? = some xs[k] := List.getElem?_eq_getElem (by omega)
      obtain ⟨a, b⟩ := hp k _ e
      rw [List.range_succ, List.filter_append, List.map_append, ih (by omega), List.take_succ, e, List.filter_append, List.map_append]
      congr 1
      show (List.filter p [k]).map h = (List.filter t [xs[k]]).map g
      by_cases z : t xs[k] = true
      · rw [List.filter_cons_of_pos (by rw [a]; exact z), List.filter_cons_of_pos z]
        show [h k] = [g xs[k]]
        rw [b]
      · rw [List.filter_cons_of_neg (by rw [a]; exact z), List.filter_cons_of_neg z]
        rfl
  have z := key xs.length (Nat.le_refl _)
  rw [List.take_length] at z
  exact z
end G
set_option Elab.async false
set_option linter.all false
set_option maxRecDepth 100000
set_option maxHeartbeats 4000000
namespace G
open PySem PySem.Spec PyProof.Rows L2 ClX
/-- C.m is a staticmethod: its record at p, its def at g -/
structure CSta (K : PySem.W.Frag) (C : Addr) (mc : Value) (m : Str) (p g : Addr) : Prop where
  r : CRead K C mc
  at_ : PySem.W.findCls K (.ref C) mc m = some (.get (.builtin "staticmethod.__get__") (.ref p) .none (.ref C))
  rc : ∃ rest, PySem.W.recIn K p "staticmethod" = some (.ref g :: rest)
  kp : PySem.W.keepIn K (.ref g) = true
section
variable {X : Cx} {η : En} {L : Lg} {Q : QV} {o e : Expr} {es : List Expr} {kws : List Keyword} {pos pos' : Pos} {C p g : Addr} {mc : Value} {m : Str} {pl : Sem Bool} {φ : List V → Lg → Prop}
theorem getsta_ok {pins : List (Addr × Obj)} {σ : L2.St} {H : Hp} {s : Shared} {A : Around} {E : Value → Shared → Prop} {Q : Value × List Value → Shared → Prop} (I : Inv X pins σ H s) (k : CSta X.K C mc m p g)
    (h : ∀ s', Inv X pins σ H s' → Q (.ref g, []) s') : wpAny (model X.prog X.w) A (getMethod (.ref C) m pl) Q E s := by
  refine PySem.W.method_cls I.kIn k.r.ga ?_
  obtain ⟨rest, hp⟩ := k.rc
  refine PySem.W.cls_bind I.kIn k.r.rd k.at_ ?_
  refine wpAny_call (PySem.W.sm_get (s := { s with toks := s.toks + 1 }) I.kIn hp (PySem.W.handed_on rfl ?_))
  exact h _ (I.tok _)
/-- C.m(e, ..) -/
theorem ge_sta (k : CSta X.K C mc m p g) (F : X.N = names η → GF X η g argsP φ Q) (h : GE X o η L fun x L1 => x = .ref C ∧ GA X (e :: es) η L1 φ)
    (hst : starEach (e :: es) X.env = (false, eval e X.env) :: starEach es X.env := by rfl) (hpl : (backTo pos (starEach es X.env)).any (·.1) = false := by rfl)
    (ht : eval (.Call (.Attribute o m pos') (e :: es) [] pos) X.env = (do
      let ov ← eval o X.env
      standAt pos'.atName
      let (f, first) ← holding [ov] (getMethod ov m pl)
      callWith pos f first (backTo pos (starEach (e :: es) X.env)) (backToKw pos (keywordEach [] X.env))) := by rfl) : GE X (.Call (.Attribute o m pos') (e :: es) [] pos) η L Q := fun hN H hH pins s I => by
  refine PySem.W.methodCall_KW (pl := pl) (thn (h hN H hH pins s I) fun u s1 ⟨x, H1, I1, rx, L1, h1, ex, q⟩ => ?_) ht
  subst ex
  obtain rfl : u = Value.ref C := rx
  refine getsta_ok I1 k fun s2 I2 => ?_
  refine PySem.W.callWith_K (first := []) (h₀ := X.base) I.ok.mod.kin k.kp (thn (q hN H1 h1 pos pins s2 I2) fun us s3 ⟨vs, H2, I3, r, L2, h2, q2⟩ => ⟨I3.kIn, ?_⟩) hst hpl
  exact F hN pins s3 H2 us vs L2 h2 I3 r q2
/-- C.m(k = ..) -/
theorem ge_staK {ks : List Str} (k : CSta X.K C mc m p g) (F : X.N = names η → GF X η g (argsK 0 ks) φ Q) (h : GE X o η L fun x L1 => x = .ref C ∧ GK X kws η L1 φ)
    (hks : (backToKw pos (keywordEach kws X.env)).filterMap (·.1) = ks := by rfl) (hall : (backToKw pos (keywordEach kws X.env)).all (·.1.isSome) = true := by rfl) (hpl : ((backTo pos (starEach [] X.env)).any (·.1) || (backToKw pos (keywordEach kws X.env)).any (·.1.isNone)) = false := by rfl)
    (ht : eval (.Call (.Attribute o m pos') [] kws pos) X.env = (do
      let ov ← eval o X.env
      standAt pos'.atName
      let (f, first) ← holding [ov] (getMethod ov m pl)
      callWith pos f first (backTo pos (starEach [] X.env)) (backToKw pos (keywordEach kws X.env))) := by rfl) : GE X (.Call (.Attribute o m pos') [] kws pos) η L Q := fun hN H hH pins s I => by
  refine PySem.W.methodCall_KW (pl := pl) (thn (h hN H hH pins s I) fun u s1 ⟨x, H1, I1, rx, L1, h1, ex, q⟩ => ?_) ht
  subst ex
  obtain rfl : u = Value.ref C := rx
  refine getsta_ok I1 k fun s2 I2 => ?_
  refine PySem.W.callWith_KW0 (h₀ := X.base) I.ok.mod.kin k.kp hall (thn (GK.run (Q := φ) q hN pos pins s2 H1 h1 I2) fun ws s3 ⟨zs, H2, I3, r2, L2, h2, q2⟩ => ⟨I3.kIn, ?_⟩) hpl
  rw [hks]
  exact F hN pins s3 H2 ws zs L2 h2 I3 r2 q2
end
end G
set_option Elab.async false
set_option linter.all false
set_option maxRecDepth 100000
set_option maxHeartbeats 4000000
namespace PySem.W
open PySem PySem.Calls PySem.Spec PyProof.Rows Builtin
section
variable {prog : Program} {w : World} {M : Model} {A : Around} {E : Value → Shared → Prop} {s : Shared} {K : Frag} {x C f : Addr} {ox : Obj} {odd : Option Obj} {v : Value}
theorem g_len_own {Q : Value → Shared → Prop} (X : K.In s.heap) (I : InstAt s.heap x ox C odd) (hs : findIn K (.ref C) "__len__" = some (some (.ref f))) (hf : isFn K (.ref f) = true)
    (h : wpAny (model prog w) A.in1 (call (.ref f) [.ref x]) (fun r s₁ => ∃ (n : Int) (t : Tok), r = Value.int n t ∧ 0 ≤ n ∧ n < 2 ^ 62 ∧ ∀ tk t', Q (.int n t') { s₁ with toks := tk }) E s) : wpAny (model prog w) A (call (.builtin "len") [.ref x]) Q E s := by
  refine Calls.call_function_entry (by decide +kernel) (by decide +kernel) PySem.entry_len (PySem.args_len1 _) ?_
  unfold Builtin.«len»
  refine wpAny_bind (wpAny_of_eq (a := Value.ref x) (by first | rfl | kernel_rfl) ?_)
  refine wpAny_bind (special_fn X I hs (beq_iff_eq.mp hf) (wpAny_mono h (fun r s₁ hr => ?_) fun _ _ y => y))
  obtain ⟨n, t, rfl, n0, n1, q⟩ := hr
  have ix : asIndex (Value.int n t) = pure n := by first | rfl | kernel_rfl
  dsimp only
  refine wpAny_bind (wpAny_holding (wpAny_of_eq (a := n) ix ?_))
  have c1 : ¬ (n < 0) := by omega
  have c2 : ¬ (n ≥ 2 ^ 63) := by omega
  simp only [c1, c2, if_false]
  repeat lk
  exact ⟨_, rfl, q _ _⟩
theorem g_iter {Q : Value → Shared → Prop} (X : K.In s.heap) (I : InstAt s.heap x ox C odd) (hs : findIn K (.ref C) "__iter__" = some (some (.ref f))) (hf : isFn K (.ref f) = true)
    (h : wpAny M A (call (.ref f) [.ref x]) (OwitIt M A Q E) E s) : wpAny M A (pyIter (.ref x)) Q E s := by
  have fin : wpAny M A (call (.ref f) [.ref x] >>= fun v => pure (some v)) (fun r s' => ∃ v, r = some v ∧ OwitIt M A Q E v s') E s :=
    wpAny_bind (wpAny_mono h (fun v s' h' => wpAny_pure ⟨v, rfl, h'⟩) fun _ _ z => z)
  have one : ∀ refuse : Sem Value, wpAny M A (callSpecialIfBoundUnlessNone? (.ref x) "__iter__" refuse) (fun r s' => ∃ v, r = some v ∧ OwitIt M A Q E v s') E s := by
    intro refuse
    simp only [callSpecialIfBoundUnlessNone?, bindSpecialIfBound?]
    refine wpAny_holding (wpAny_bind (wpAny_bind (wpAny_bind (I.type.here ((looks_findIn X hs).here ?_)))))
    refine wpAny_bind (wpAny_askSetting (wpAny_ite ?_))
    have fin2 : wpAny M A (if (Value.ref f == Value.none) = true then (refuse >>= fun v => pure (some v)) else (call (.ref f) [.ref x] >>= fun v => pure (some v))) (fun r s' => ∃ v, r = some v ∧ OwitIt M A Q E v s') E s := by
      rw [if_neg (show ¬ ((Value.ref f == Value.none) = true) from Bool.false_ne_true)]
      exact fin
    split
    · exact wpAny_bind ((bind_fn X _ (beq_iff_eq.mp hf)).here (wpAny_pure (by exact fin2)))
    · exact wpAny_tryCatch (wpAny_bind ((bind_fn X _ (beq_iff_eq.mp hf)).here (wpAny_pure (by exact fin2))))
  unfold pyIter
  refine wpAny_bind (wpAny_bind (I.type.here ((looks_findIn X hs).here ?_)))
  show wpAny M A (callSpecialIfBoundUnlessNone? (.ref x) "__iter__" _ >>= _) Q E s
  refine wpAny_bind (wpAny_mono (one _) (fun r s' hr => ?_) fun _ _ z => z)
  obtain ⟨v, rfl, hv⟩ := hr
  refine wpAny_bind (wpAny_mono hv (fun r s₂ hr => ?_) fun _ _ z => z)
  cases r with
  | none => exact hr.elim
  | some g => exact wpAny_pure hr
/-- iter(t), t a tuple -/
theorem g_call_iterT {Q : Value → Shared → Prop} {l : Addr} {items : Array Value} (hl : s.heap.IsTuple l items) (h : Q (.ref s.heap.objs.size) { s with heap := s.heap.push { cls := .type "tuple_iterator", data := .fields #[.ref l, .int 0 0] } }) : wpAny (model prog w) A (call (.builtin "iter") [.ref l]) Q E s := by
  refine Calls.call_function_entry (by decide +kernel) (by decide +kernel) PySem.W.kdk_entry_iter (PySem.W.kdk_args_iter _) ?_
  unfold Builtin.«iter»
  refine wpAny_bind (m := someArgs "iter" 1 2 _) (wpAny_of_eq (a := [Value.ref l]) (by first | rfl | kernel_rfl!) ?_)
  show wpAny _ _ (pyIter (.ref l) >>= _) _ _ _
  refine wpAny_bind (wpAny_pyIter_tuple hl ?_)
  exact wpAny_pure ⟨_, rfl, h⟩
end
end PySem.W
namespace G
open PySem PySem.Spec PyProof.Rows L2 ItX
section
variable {X : Cx} {CX : CXT} {j k : Nat} {C g a dx : Addr} {fs : List (Str × V)} {sp : SpL} {El : XL} {L : Lg} {Q : QV} {y : V}
/-- len(o) by an own __len__ -/
theorem gc_lenM (hs : PySem.W.findIn X.K (.ref C) "__len__" = some (some (.ref g))) (hf : PySem.W.isFn X.K (.ref g) = true) (F : RunG X.prog X.w X.K X.mg X.base CX k g argsP (toSp sp)) (hr : RoomG j X.A) (hx : Passes CX X (upX El)) (ma : (a, HO.ins C dx fs) ∈ L)
    (h : sp [.ref a] L (fun v L' => ∃ n : Int, v = .int n ∧ 0 ≤ n ∧ n < 2 ^ 62 ∧ Q (.int n) L') El) (hjk : k + 1 ≤ j := by decide) : GC X (.builtin "len") [.ref a] L Q := fun pins s σ H us hH I rr => by
  rw [Vals.ref1 rr]
  obtain ⟨oe, od, J⟩ := ins_inst I hH ma
  refine PySem.W.g_len_own I.kIn J hs hf (wpAny_call (codeAny_mono (F X.A.in1 X.stack s H [.ref a] [.ref a] _ _ (hr.mono hjk).in1 I.env0.in1 (.cons rfl .nil) (up_sp hH h)) fun r s' hq => ?_))
  cases r with
  | error e => exact hx pins σ H s e s' I hq
  | ok fl =>
    cases fl with
    | ret w =>
      obtain ⟨z, H', I', rz, L', h', n, ez, n0, n1, q⟩ := I.after hq
      subst ez
      obtain ⟨t, rfl⟩ : ∃ t, w = Value.int n t := rz
      exact ⟨n, t, rfl, n0, n1, fun tk t' => ⟨.int n, H', I'.kept (t' := tk) fun _ _ z => z, ⟨t', rfl⟩, L', h', q⟩⟩
    | next => exact hq.elim
    | brk => exact hq.elim
    | cont => exact hq.elim
end
/-- at it a tuple's iterator that was just made -/
def itT (t it : Addr) : HO := .ext fun h => h.IsTupleIter it t 0
theorem itT_ok {P : Program} {w : World} {H : Hp} {h : Heap} {t it : Addr} (e : h.IsTupleIter it t 0) : ObjOk P w H h it (itT t it) := ⟨e, (by obtain ⟨o, ho, _⟩ := e; exact ⟨o, ho⟩), fun h1 h2 q k => by
  obtain ⟨o, ho, r⟩ := q
  exact ⟨o, k o ho, r⟩⟩
/-- a promise at any state of at least n objects -/
def RunN (n : Nat) (P : Program) (w : World) (K : PySem.W.Frag) (mg : Str → Option Value) (base : Heap) (CX : CXT) (k : Nat) (f : Addr) (args : List Value → Args) (sp : Sp) : Prop :=
  ∀ (A : Around) (outer : List Env) (s : Shared) (H : Hp) (us : List Value) (vs : List V) (Q : VK) (E : XK), n ≤ s.heap.objs.size → RoomG k A → Env0 P w K mg base A outer s H → Vals vs us → sp vs H Q E → codeAny (model P w) A (.call (.ref f) (args us)) (CR CX outer P w H s Q E) s
section
variable {P : Program} {w : World} {K : PySem.W.Frag} {mg : Str → Option Value} {base : Heap}
theorem run_plainN {n : Nat} {x q : Str} {st : Stmt} {f : Addr} {fd : FuncData} {N ps : List Str} {k : Nat} {sp : SpL} (F : Fun K x q st f fd) (S : FnScope N ps (defScope st))
    (hb : ∀ (kV doc pm : Value) (an : Option Addr) (cdv ct : Value) (us : List Value), us.length = ps.length → bindArgs (PySem.W.fnOf x q (defArgs st) (defBody st) (defScope st) .none kV doc pm an cdv ct) (argsP us) = pure (ps.zip us))
    (hl : ps.length ≤ N.length) (len : ∀ vs L Q E, sp vs L Q E → vs.length = ps.length)
    (body : ∀ (X : Cx) (f : Addr) (cdv : Value) (A : Around) (outer : List Env) (s : Shared) (H : Hp) (E0 : XK) (L : Lg) (vs : List V) (Q : QV) (E : XL), X = cx0 P w K mg base N q (defScope st) f cdv A outer s H E0 → n ≤ X.s_0.heap.objs.size → X.N.Nodup → RoomG k X.A → sp vs L Q E → GSs X (defBody st) (bodyD Q) (begun N vs) L) :
    RunN n P w K mg base CX0 (k + 1) f argsP (toSp sp) := by
  obtain ⟨oc, od, kV, doc, pm, an, cdv, ct, osl, rfl, lk, hcd⟩ := F.ex
  intro A outer s H us vs Q E hn0 hr e0 r hsp
  obtain ⟨L, Ql, El, hH, h, hq, _⟩ := hsp
  have hn : vs.length = ps.length := len _ L Ql El h
  have hlv : vs.length ≤ N.length := by
    rw [hn]
    exact hl
  exact LamX.run_ofS (CX := CX0) lk hcd S hr.toRoom e0 (.of_eq (hb kV doc pm an cdv ct us (by rw [← r.length]; exact hn))) r hn fun hr2 =>
    ⟨WSs _ (defBody st), PSs.nox pss_W, body_end (X := cx0 P w K mg base N q (defScope st) f cdv A outer s H E) hlv hq hH (body _ f cdv A outer s H E L vs Ql El rfl hn0 S.nd ⟨hr2, guard_deeper hr.gd⟩ h)⟩
end
section
variable {X : Cx} {η : En} {L : Lg} {Q : QV} {e : Expr} {t : Addr} {xs : List V}
theorem bt_iter : bootBuiltins "iter" = some (.builtin "iter") := by decide +kernel
theorem gc_iterT (m : (t, HO.tup xs) ∈ L) (h : ∀ it, X.s_0.heap.objs.size ≤ it → Q (.ref it) ((it, itT t it) :: L)) : GC X (.builtin "iter") [.ref t] L Q := fun pins s σ H us hH I rr => by
  rw [Vals.ref1 rr]
  obtain ⟨its, rv, p, hz⟩ := I.tuple (sqt hH m)
  refine PySem.W.g_call_iterT (show s.heap.IsTuple t its.toArray from p) ?_
  have hn : H s.heap.objs.size = none := I.hok.fresh (Nat.le_refl _)
  exact ⟨.ref s.heap.objs.size, _, I.laid (t' := s.toks) (fun b u e => Heap.get?_push_of_some _ e) (Nat.le_refl _) (itT_ok ⟨_, Heap.get?_push_size _ rfl, rfl, rfl⟩), rfl, _, hH.newB hn (updGrow hn) (holds_of (by rfl) upd_same), h _ I.sz⟩
end
/-- o.__iter__() gives an iterator over the tuple at t, young -/
def spIterT (n : Nat) (φ : Addr → Addr → List V → Lg → Prop) : SpL := fun vs L Q _ => ∃ (a t : Addr) (xs : List V), vs = [.ref a] ∧ φ a t xs L ∧ (t, HO.tup xs) ∈ L ∧ ∀ it, n ≤ it → Q (.ref it) ((it, itT t it) :: L)
theorem holds_drop {H : Hp} {a p : Addr} {o : HO} (nc : ∀ c q, H c = some (LamX.CodeO c q) → c ≠ p) (ne : a ≠ p) (h : holds H a o) : holds (dropH H p) a o := by
  cases o with
  | tbl m =>
    obtain ⟨q, em, ps, e1, t2, t3⟩ := h
    refine ⟨q, em, ps, by rw [dropH_ne ne]; exact e1, t2, fun pos cv hc => ?_⟩
    obtain ⟨c, e2, e3⟩ := t3 pos cv hc
    exact ⟨c, e2, by rw [dropH_ne (nc c q e3)]; exact e3⟩
  | _ => exact (dropH_ne ne).trans h
section
variable {X : Cx} {η : En} {L : Lg} {Q : Src → Lg → Prop} {tg e : Expr} {g C : Addr} {φ : Addr → Addr → List V → Lg → Prop} {k j : Nat}
theorem gi_own (F : ∀ n, RunN n X.prog X.w X.K X.mg X.base CX0 k g argsP (toSp (spIterT n φ))) (hr : RoomG j X.A) (hs : PySem.W.findIn X.K (.ref C) "__iter__" = some (some (.ref g))) (hf : PySem.W.isFn X.K (.ref g) = true)
    (h : GE X e η L fun v L1 => ∃ (a t dx : Addr) (fs : List (Str × V)) (xs : List V), v = .ref a ∧ (a, HO.ins C dx fs) ∈ L1 ∧ (t, HO.tup xs) ∈ L1 ∧ φ a t xs L1 ∧ Q ⟨xs.length, KeepT t xs, itemAt xs⟩ L1) (hjk : k ≤ j := by decide) : GI X tg e η L Q := fun hN H hH pins s I => by
  refine thn (h hN H hH pins s I) fun v s1 ⟨x, H1, I1, rx, L1, h1, a, t, dx, fs, xs, ex, ma, mt, hφ, q⟩ => ?_
  subst ex
  obtain rfl : v = Value.ref a := rx
  obtain ⟨oe, od, J⟩ := ins_inst I1 h1 ma
  refine PySem.W.g_iter I1.kIn J hs hf (wpAny_call (codeAny_mono (F X.s_0.heap.objs.size X.A X.stack s1 H1 [.ref a] [.ref a] (up fun v L' => ∃ it, v = .ref it ∧ X.s_0.heap.objs.size ≤ it ∧ L' = (it, itT t it) :: L1) (upX NoX) I1.sz (hr.mono hjk) I1.env0 (.cons rfl .nil) (up_sp h1 ⟨a, t, xs, rfl, hφ, mt, fun it hit => ⟨it, rfl, hit, rfl⟩⟩)) fun r s' hq => ?_))
  cases r with
  | error e => exact hq.elim
  | ok fl =>
    cases fl with
    | ret w =>
      obtain ⟨z, H', I', rz, L', h', it, ez, hit, eL⟩ := I1.after hq
      subst ez eL
      obtain rfl : w = Value.ref it := rz
      have ho : H' it = some (itT t it) := h'.2 _ List.mem_cons_self
      have st : s'.heap.IsTupleIter it t 0 := (I'.hok it _ ho).1
      have ha : Has (dropH H' it) L1 := by
        refine ⟨(List.nodup_cons.mp h'.1).2, fun e he => ?_⟩
        have ne : e.1 ≠ it := fun z => (List.nodup_cons.mp h'.1).1 (List.mem_map.mpr ⟨e, he, z⟩)
        refine holds_drop (fun c q' e3 => ?_) ne (h'.2 e (List.mem_cons_of_mem _ he))
        rintro rfl
        obtain ⟨oc, vs, tk, g1, g2, g3⟩ := (show ∃ (oc : Obj) (vs : Array Value) (t : Tok), s'.heap.get? c = some oc ∧ oc.data = .fields vs ∧ vs[1]? = some (.str q' t) from (I'.hok c _ e3).1)
        obtain ⟨o2, g4, g5, g6⟩ := st
        cases g1.symm.trans g4
        cases g2.symm.trans g6
        simp at g3
      have ho' := ho
      unfold itT at ho'
      show PySem.W.OwitIt _ _ _ _ (Value.ref it) s'
      unfold PySem.W.OwitIt
      refine wpAny_specialOf st.typeIs PySem.F.slot_tuple_iterator_next.lookup ?_
      dsimp only
      refine ⟨it, [it], _, _, dropH H' it, rfl, inv_drop I' ho', turn_tuple t it, st, fun b hb => ?_, L1, _, ha, SrcOk.of walk_tup (fun H M hM k => sqt hM k) (fun i H x H' M _ hM _ y => y_at hM y), q⟩
      have e : b = it := by simpa using hb
      rw [e]
      exact inv_fp I' ho hit
    | next => exact hq.elim
    | brk => exact hq.elim
    | cont => exact hq.elim
end
end G
namespace G
open PySem PySem.Spec PyProof.Rows L2
section
variable {X : Cx} {η : En} {L : Lg} {Q : QV} {o e : Expr} {pos apos : Pos}
theorem ge_join (h : GE X o η L fun v L1 => ∃ a : Str, v = .str a ∧ GE X e η L1 fun y L2 => ∃ (p : Addr) (ys : List Str), y = .ref p ∧ (p, HO.lst (ys.map V.str)) ∈ L2 ∧ (ys.map (·.length)).sum + ys.length * a.length ≤ 16777216 ∧ Q (.str (Txt.join a ys)) L2)
    (hs : starEach [e] X.env = [(false, eval e X.env)] := by rfl) (hbase : attributeBase o "join" X.env (eval o X.env) = eval o X.env := by rfl) (hline : (apos.endLine == pos.line) = true := by rfl) : GE X (.Call (.Attribute o "join" apos) [e] [] pos) η L Q := fun hN H hH =>
  WE.of (pe_join pe_W pe_W hs hbase hline) (h.then hN hH fun v L1 H1 k1 ⟨a, ev, q⟩ => by
    subst ev
    exact ⟨⟨_, rfl⟩, q.then hN k1 fun y L2 H2 k2 ⟨p, ys, ey, m, z, q2⟩ => ⟨a, p, ys, rfl, by rw [ey], .inl (sql k2 m), z, L2, k2, q2⟩⟩)
end
end G
set_option Elab.async false
set_option linter.all false
set_option maxRecDepth 100000
set_option maxHeartbeats 4000000
namespace PySem.W
open PySem PySem.Calls PySem.Spec PyProof.Rows Builtin
end PySem.W
namespace G
open PySem PySem.Spec PyProof.Rows L2
end G
set_option Elab.async false
set_option linter.all false
set_option maxRecDepth 100000
set_option maxHeartbeats 4000000
namespace PySem.W
open PySem PySem.Calls PySem.Spec PyProof.Rows Builtin
section
variable {prog : Program} {w : World} {A : Around} {E : Value → Shared → Prop} {s : Shared} {K : Frag} {x C f : Addr} {ox : Obj} {od : Option Obj} {nm T : String}
theorem g_binOf {op : Operator} {a b : Value} {Q : Value → Shared → Prop} (h : wpAny (model prog w) A (binaryOp1 op.info.2 a b) (fun r s' => ∃ v, r = some v ∧ Q v s') E s) : wpAny (model prog w) A (binaryOp op a b) Q E s := by
  unfold binaryOp
  refine wpAny_holding (wpAny_bind (wpAny_mono h (fun r s' hr => ?_) fun _ _ e => e))
  obtain ⟨v, rfl, hq⟩ := hr
  exact wpAny_pure hq
end
end PySem.W
namespace G
open PySem PySem.Spec PyProof.Rows L2
/-- the class C has an operator of its own -/
structure OwnBin (K : PySem.W.Frag) (C : Addr) (nm : String) (g : Addr) : Prop where
  sf : PySem.W.selfFirst K C = true
  at_ : PySem.W.findIn K (.ref C) (PySem.dunder nm) = some (some (.ref g))
  fn : PySem.W.isFn K (.ref g) = true
/-- against a built-in class -/
structure BinT (K : PySem.W.Frag) (C : Addr) (nm : String) (T : String) : Prop where
  r : PySem.W.findIn K (.ref C) (dunderR nm) = some none
  h1 : ∃ fo, PySem.W.findIn K (.type T) (PySem.dunder nm) = some fo
  h2 : ∃ ro, PySem.W.findIn K (.type T) (dunderR nm) = some ro
  sub : PySem.W.subIn K (.type T) (.ref C) = some false
section
variable {X : Cx} {CX : CXT} {j k : Nat} {C g a b dx dy : Addr} {fs gs : List (Str × V)} {sp : SpL} {El : XL} {L : Lg} {Q : QV} {op : Operator} {i : Int}
theorem no_ni {v : V} {u : Value} (r : RelV v u) : u ≠ .notImplemented := by
  intro e
  subst e
  cases v <;> first | exact nomatch (show Value.notImplemented = Value.none from r) | exact nomatch (show Value.notImplemented = Value.bool _ from r) | exact nomatch (show Value.notImplemented = Value.ref _ from r) | exact nomatch (show Value.notImplemented = Value.type _ from r) | (obtain ⟨t, h⟩ := id r; exact nomatch h)
theorem back_of {Q : Value → Shared → Prop} {u : Value} {s : Shared} (n : u ≠ .notImplemented) (h : Q u s) : PySem.W.CmpBack Q u s := by
  cases u <;> first | exact absurd rfl n | exact h
/-- the call of the operator's method -/
theorem own_call {pins : List (Addr × Obj)} {σ : L2.St} {H : Hp} {s : Shared} {us : List Value} {vs : List V} {Qv : Value → Shared → Prop} (F : RunG X.prog X.w X.K X.mg X.base CX k g argsP (toSp sp)) (hr : RoomG j X.A) (hx : Passes CX X (upX El)) (I : Inv X pins σ H s) (hH : Has H L) (rr : Vals vs us)
    (h : sp vs L Q El) (hq : ∀ u s', EP X pins σ (up Q) u s' → Qv u s') (hjk : k ≤ j) : wpAny (model X.prog X.w) X.A (call (.ref g) us) (PySem.W.CmpBack Qv) X.xe s :=
  thn (run_G (args := argsP) F (hr.mono hjk) hx I rr (up_sp hH h)) fun u s' hu => by
    obtain ⟨v, H', J, r, q⟩ := id hu
    exact back_of (no_ni r) (hq u s' hu)
end
end G
set_option Elab.async false
set_option linter.all false
set_option maxRecDepth 100000
set_option maxHeartbeats 4000000
namespace G
open PySem PySem.Spec PyProof.Rows L2
theorem GI.nd {X : Cx} {tg iter : Expr} {η : En} {L : Lg} {Q : Src → Lg → Prop} (h : GI X tg iter η L fun S L1 => (L1.map (·.1)).Nodup → Q S L1) : GI X tg iter η L Q := fun hN H hH pins s I =>
  wpAny_mono (h hN H hH pins s I) (fun v s1 z => wpAny_mono z (fun itv s2 ⟨it, fp, tn, J, H1, ev, I2, T, t0, f2, L1, S, k1, ok, q⟩ => ⟨it, fp, tn, J, H1, ev, I2, T, t0, f2, L1, S, k1, ok, q k1.1⟩) fun _ _ z => z) fun _ _ z => z
theorem GI.sub {X : Cx} {tg iter : Expr} {η : En} {L M : Lg} {Q : Src → Lg → Prop} (s : Sub M L) (h : GI X tg iter η M Q) : GI X tg iter η L Q := fun hN H hH => h hN H (s.has H hH)
/-- everything but one entry -/
theorem out1 {D : Addr} {o : HO} {R M : Lg} (nd : (M.map (·.1)).Nodup) (s : Sub ((D, o) :: R) M) : ∃ R', M.Perm ((D, o) :: R') ∧ (∀ e ∈ R, e ∈ R') ∧ ∀ e ∈ M, e = (D, o) ∨ e ∈ R' := by
  obtain ⟨n1, n2⟩ := s.to nd
  obtain ⟨a, b, rfl⟩ := List.append_of_mem (n2 _ List.mem_cons_self)
  refine ⟨a ++ b, List.perm_middle, fun e he => ?_, fun e he => ?_⟩
  · have h := n2 e (List.mem_cons_of_mem _ he)
    rcases List.mem_append.mp h with h | h
    · exact List.mem_append_left _ h
    · rcases List.mem_cons.mp h with h | h
      · exact absurd (List.mem_map.mpr ⟨e, he, by rw [h]⟩) (List.nodup_cons.mp n1).1
      · exact List.mem_append_right _ h
  · rcases List.mem_append.mp he with h | h
    · exact .inr (List.mem_append_left _ h)
    · rcases List.mem_cons.mp h with h | h
      · exact .inl h
      · exact .inr (List.mem_append_right _ h)
/-- what a store asks may be asked of less -/
def StLift (st : V → Lg → (En → Lg → Prop) → Prop) : Prop := ∀ v N M (k k' : En → Lg → Prop), (M.map (·.1)).Nodup → Sub N M → (∀ θ, k' θ N → k θ M) → st v N k' → st v M k
theorem lift_one {f : V → En} : StLift (stOne f) := fun _ _ _ _ _ _ _ h z => h _ z
theorem lift_two {g : V → V → En} : StLift (stTwo g) := fun _ _ _ _ _ nd s h ⟨p, a, b, e, m, z⟩ => ⟨p, a, b, e, (s.to nd).2 _ m, h _ z⟩
theorem gts_out {X : Cx} {η : En} {L : Lg} {Q : Bool → Lg → Prop} (h : GTs X [] η L Q) : Q true L := h
theorem ite_out {A B : Prop} (h : if true = true then A else B) : A := h
section
variable {X : Cx} {η : En} {L : Lg} {elt iter tg tg1 iter1 : Expr} {scope : Scope} {pos p1 p2 p3 p4 : Pos} {x y z w : Str} {f : V → En} {Q : QV}
/-- each row's values stand for data -/
inductive Reps {α : Type} (R : V → α → Prop) : List V → List α → Prop
  | nil : Reps R [] []
  | cons {v : V} {a : α} {vs : List V} {as : List α} : R v a → Reps R vs as → Reps R (v :: vs) (a :: as)
theorem Reps.snoc {α : Type} {R : V → α → Prop} : ∀ {vs : List V} {as : List α} {v : V} {a : α}, Reps R vs as → R v a → Reps R (vs ++ [v]) (as ++ [a])
  | _, _, _, _, .nil, h => .cons h .nil
  | _, _, _, _, .cons k t, h => .cons k (t.snoc h)
theorem Reps.imp {α : Type} {R R' : V → α → Prop} (m : ∀ v a, R v a → R' v a) : ∀ {vs : List V} {as : List α}, Reps R vs as → Reps R' vs as
  | _, _, .nil => .nil
  | _, _, .cons k t => .cons (m _ _ k) (t.imp m)
theorem Reps.len {α : Type} {R : V → α → Prop} : ∀ {vs : List V} {as : List α}, Reps R vs as → vs.length = as.length
  | _, _, .nil => rfl
  | _, _, .cons _ t => by rw [List.length_cons, List.length_cons, t.len]
theorem Reps.get {α : Type} {R : V → α → Prop} : ∀ {vs : List V} {as : List α} {i : Nat} {v : V}, Reps R vs as → vs[i]? = some v → ∃ a, as[i]? = some a ∧ R v a
  | _, _, _, _, .nil, e => by simp at e
  | _, _, 0, _, .cons r _, e => by simp at e; subst e; exact ⟨_, rfl, r⟩
  | _, _, i + 1, x, .cons _ t, e => by
    obtain ⟨u, h1, h2⟩ := t.get (i := i) (v := x) (by simpa using e)
    exact ⟨u, by simpa using h1, h2⟩
/-- what a kind of standing for must keep -/
def RepMono {α : Type} (Rep : Lg → V → α → Prop) : Prop := ∀ M N v a, (∀ e ∈ M, e ∈ N) → Rep M v a → Rep N v a
/-- what a turn's element is shown of -/
abbrev EltR {α : Type} (X : Cx) (scope : Scope) (elt : Expr) (Rep : Lg → V → α → Prop) (D : Addr) (zs : List V) (R : Lg) (a : α) (θ : En) (M : Lg) : Prop :=
  AllBlk X scope fun B => GE B elt θ M fun z M2 => ∃ R', Sub ((D, .lst zs) :: R') M2 ∧ (∀ e ∈ R, e ∈ R') ∧ Rep R' z a
theorem elt_turn {α : Type} {Rep : Lg → V → α → Prop} (mono : RepMono Rep) {D : Addr} {zs : List V} {R N M : Lg} {a : α} {as : List α} {θ : En} (hz : zs.length < 10000000) (rp : Reps (Rep R) zs as) (h : EltR X scope elt Rep D zs R a θ N) (s : Sub N M) :
    LcTurn X scope [] elt D (fun M => ∃ zs R', Sub ((D, .lst zs) :: R') M ∧ (∀ e ∈ R, e ∈ R') ∧ Reps (Rep R') zs (as ++ [a])) θ M := by
  intro s1 H1 C1 cl1 fp1
  refine gts_nil (ite_t ?_)
  intro s2 H2 C2 cl2 fp2
  refine GE.sub s (GE.nd ((h s2 H2 C2 cl2 fp2).imp fun y M2 ⟨R', sb, up, rq⟩ => fun nd => ?_))
  have m2 := (sb.to nd).2 _ List.mem_cons_self
  obtain ⟨M3, sw⟩ := Swap.ex (o := .lst (zs ++ [y])) rfl m2
  exact ⟨zs, M3, m2, Nat.lt_of_lt_of_le hz (szL (by decide)), sw, zs ++ [y], R', sb.swap sw, up, (rp.imp fun v b k => mono _ _ _ _ up k).snoc rq⟩
theorem lc_rep {α : Type} {Rep : Lg → V → α → Prop} (mono : RepMono Rep) {S : Src} {ds : Nat → α} {st : V → Lg → (En → Lg → Prop) → Prop} (lift : StLift st) (hn : S.n ≤ 1000000) (kp : ∀ M, (∀ e ∈ L, e ∈ M) → S.keep M) (D : Addr)
    (turn : ∀ i x E zs R, i < S.n → S.item i x E → (∀ e ∈ L, e ∈ R) → ((E ++ ((D, HO.lst zs) :: R)).map (·.1)).Nodup → st x (E ++ ((D, .lst zs) :: R)) fun θ M' => EltR X scope elt Rep D zs R (ds i) θ M')
    (q : ∀ zs R, (∀ e ∈ L, e ∈ R) → Reps (Rep R) zs ((List.range S.n).map ds) → Q (.ref D) ((D, .lst zs) :: R)) : ∃ Pv, LcS X scope [] elt S D L st Pv (drp Q) := by
  refine ⟨fun i M => ∃ zs R, Sub ((D, .lst zs) :: R) M ∧ (∀ e ∈ L, e ∈ R) ∧ Reps (Rep R) zs ((List.range i).map ds), ⟨[], L, Sub.refl, fun _ h => h, .nil⟩, ?_, ?_, ?_⟩
  · rintro i M _ nd ⟨zs, R, sb, up, -⟩
    exact kp M fun e he => (sb.to nd).2 _ (List.mem_cons_of_mem _ (up e he))
  · rintro i x E M hi it nd ⟨zs, R, sb, up, rp⟩
    have sE := Sub.append sb (E := E)
    refine lift _ _ _ _ _ nd sE (fun θ h => ?_) (turn i x E zs R hi it up (sE.to nd).1)
    have hl := rp.len
    rw [List.length_map, List.length_range] at hl
    have z := elt_turn mono (by omega) rp h sE
    have e : (List.range i).map ds ++ [ds i] = (List.range (i + 1)).map ds := by rw [List.range_succ, List.map_append]; rfl
    rw [e] at z
    intro s1 H1 C1 cl1 fp1
    refine gts_nil (ite_t ?_)
    intro s2 H2 C2 cl2 fp2
    exact (ite_out (gts_out (z s1 H1 C1 cl1 fp1)) s2 H2 C2 cl2 fp2).imp fun y M2 ⟨acc, M3, a1, a2, a3, zs', R', b1, b2, b3⟩ => ⟨acc, M3, a1, a2, a3, zs', R', b1, fun e he => b2 _ (up e he), b3⟩
  · rintro M ⟨zs, R, sb, up, rp⟩
    exact ⟨_, sb, q zs R up rp⟩
/-- what such a comprehension is shown of -/
def RepL (X : Cx) (scope : Scope) (elt : Expr) (st : V → Lg → (En → Lg → Prop) → Prop) (Q : V → Lg → Prop) (S : Src) (L1 : Lg) : Prop :=
  ∃ (α : Type) (Rep : Lg → V → α → Prop) (ds : Nat → α), RepMono Rep ∧ S.n ≤ 1000000 ∧ (∀ M, (∀ e ∈ L1, e ∈ M) → S.keep M) ∧
    (∀ D i x E zs R, i < S.n → S.item i x E → (∀ e ∈ L1, e ∈ R) → ((E ++ ((D, HO.lst zs) :: R)).map (·.1)).Nodup → st x (E ++ ((D, .lst zs) :: R)) fun θ M' => EltR X scope elt Rep D zs R (ds i) θ M') ∧
    ∀ D zs R, (∀ e ∈ L1, e ∈ R) → Reps (Rep R) zs ((List.range S.n).map ds) → Q (.ref D) ((D, .lst zs) :: R)
theorem ge_lcR (P : PutF x η f) (h : GI X (.Name x p1) iter η L (RepL X scope elt (stOne f) Q)) (hb : blkC X.N X.env.scope scope [(x, X.N.idxOf x)] = true) (hlx : LocB X scope x := by exact fun _ _ _ _ _ => ⟨.inl rfl, .inr rfl⟩)
    (hN : X.N.Nodup := by assumption) (hc : X.calm = true := by rfl) (hs : ∀ z, foldedSetIterable iter X.env z = pure z := by intro _; rfl) : GE X (.ListComp elt [⟨.Name x p1, iter, [], 0⟩] scope pos) η L Q :=
  GE.undrp (ge_lc1 P (h.imp fun S L1 ⟨α, Rep, ds, mono, hn, kp, tn, q⟩ D => lc_rep mono lift_one hn kp D (tn D) (q D)) hb hlx hN hc hs)
theorem ge_lcR2 {g : V → V → En} {kt : Nat} {pt : Pos} (P : PutF x η f) (R : ∀ v, PutF y (f v) (g v)) (h : GI X (.Tuple [.Name x p1, .Name y p2] kt pt) iter η L (RepL X scope elt (stTwo g) Q)) (hxy : x ≠ y) (hb : blkC X.N X.env.scope scope [(x, X.N.idxOf x), (y, X.N.idxOf y)] = true) (hlx : LocB X scope x := by exact fun _ _ _ _ _ => ⟨.inl rfl, .inr rfl⟩) (hly : LocB X scope y := by exact fun _ _ _ _ _ => ⟨.inl rfl, .inr rfl⟩)
    (hN : X.N.Nodup := by assumption) (hc : X.calm = true := by rfl) (hs : ∀ z, foldedSetIterable iter X.env z = pure z := by intro _; rfl) : GE X (.ListComp elt [⟨.Tuple [.Name x p1, .Name y p2] kt pt, iter, [], 0⟩] scope pos) η L Q :=
  GE.undrp (ge_lc2 P R (h.imp fun S L1 ⟨α, Rep, ds, mono, hn, kp, tn, q⟩ D => lc_rep mono lift_two hn kp D (tn D) (q D)) hxy hb hlx hly hN hc hs)
end
end G
set_option Elab.async false
set_option linter.all false
set_option maxRecDepth 100000
set_option maxHeartbeats 4000000
namespace G
open PySem PySem.Spec PyProof.Rows L2
end G
set_option Elab.async false
set_option linter.all false
set_option maxRecDepth 100000
set_option maxHeartbeats 4000000
namespace G
open PySem PySem.Spec PyProof.Rows L2
/-- the tuple at a and the list at b as they stand at each turn, the items in new pairs -/
def ItzM (K : PySem.W.Frag) (a b : Addr) : It :=
  ⟨fun i H => ∃ (xs ys : List V) (x y : V), SqT K H a xs ∧ SqL K H b ys ∧ xs[i]? = some x ∧ ys[i]? = some y,
    fun i H v H' => ∃ T x y, v = .ref T ∧ H T = none ∧ H' = upd H T (.tup [x, y]) ∧ (∀ xs, SqT K H a xs → xs[i]? = some x) ∧ ∀ ys, SqL K H b ys → ys[i]? = some y,
    fun i H => ∃ xs ys : List V, SqT K H a xs ∧ SqL K H b ys ∧ i ≤ xs.length ∧ i ≤ ys.length ∧ (i = xs.length ∨ i = ys.length)⟩
theorem turn_zipM {P : Program} {w : World} {K : PySem.W.Frag} {elts : List Expr} {kk : Nat} {tpos : Pos} {a b z TI TO i1 i2 : Addr} (S : ZipSep2 z TI TO i1 i2 [i1, a] [i2, b]) (na : a ≠ i1) (nb : b ≠ i2) :
    Turn P w K (.Tuple elts kk tpos) (ItzM K a b) [z, TI, TO, i1, i2] z (fun i h => IsZip h z TI TO .none ∧ IsTupOf2 h TI (.ref i1) (.ref i2) ∧ (∃ x y, IsTupOf2 h TO x y) ∧ h.IsTupleIter i1 a i ∧ h.IsListIter i2 b i) where
  mem := by simp
  obj := fun i h st c hc => by
    obtain ⟨hz, hTI, ⟨x, y, hTO⟩, ⟨o1, e1, _, d1⟩, ⟨o2, e2, _, d2⟩⟩ := st
    have e' : c = z ∨ c = TI ∨ c = TO ∨ c = i1 ∨ c = i2 := by simpa using hc
    rcases e' with q | q | q | q | q
    · rw [q]; exact ⟨_, hz, fun v q => nomatch q⟩
    · rw [q]; exact ⟨_, hTI, fun v q => nomatch q⟩
    · rw [q]; exact ⟨_, hTO, fun v q => nomatch q⟩
    · rw [q]; exact ⟨o1, e1, fun v q => by rw [d1] at q; cases q⟩
    · rw [q]; exact ⟨o2, e2, fun v q => by rw [d2] at q; cases q⟩
  keep := fun i h h' st k => by
    obtain ⟨hz, hTI, ⟨x, y, hTO⟩, h1, h2⟩ := st
    exact ⟨k z (by simp) _ hz, k TI (by simp) _ hTI, ⟨x, y, k TO (by simp) _ hTO⟩, h1.at fun o q => k i1 (by simp) o q, h2.at fun o q => k i2 (by simp) o q⟩
  item := by
    intro X hP hw hK hc i pins s σ H E I hf st hg
    subst hP hw hK
    obtain ⟨hz, hTI, ⟨x0, y0, hTO⟩, h1, h2⟩ := st
    obtain ⟨xs, ys, x, y, hqx, hqy, hx, hy⟩ := hg
    obtain ⟨its, rv, p, _⟩ := I.tuple hqx
    obtain ⟨its2, rv2, p2, _⟩ := I.list hqy
    obtain ⟨u, hu, ru⟩ := rv.get hx
    obtain ⟨u2, hu2, ru2⟩ := rv2.get hy
    have hzl : z < s.heap.objs.size := Heap.lt_size hz
    have l1 : i < its.toArray.size := by
      have := (List.getElem?_eq_some_iff.mp hu).1
      simpa using this
    have l2 : i < its2.toArray.size := by
      have := (List.getElem?_eq_some_iff.mp hu2).1
      simpa using this
    refine wpAny_pyNext_zipD2_item S (Draws.tuple (A := X.A.in1) (I.ok.hd hc) i1 a na its.toArray) (Draws.list (A := X.A.in1) (I.ok.hd hc) i2 b nb its2.toArray) hz hTI hTO ⟨h1, p⟩ ⟨h2, p2.isList⟩ l1 l2 fun w1 w2 h' tk q1 q2 z' TO' s1 s2 hT hsz hk => ?_
    have e1 : w1 = u := by
      have : its[i]? = some w1 := by simpa using q1
      rw [hu] at this
      exact (Option.some.inj this).symm
    have e2 : w2 = u2 := by
      have : its2[i]? = some w2 := by simpa using q2
      rw [hu2] at this
      exact (Option.some.inj this).symm
    subst e1 e2
    refine ⟨_, rfl, wpAny_letOwnedTupleGo_zip (s := { s with heap := h', toks := tk }) z' fun h'' z'' sb => ?_⟩
    have hT2 : h''.get? s.heap.objs.size = some { cls := .type "tuple", data := .seq #[w1, w2] } := (sb.2 _ (Nat.ne_of_gt hzl)).trans hT
    have new : ObjOk X.prog X.w (upd H s.heap.objs.size (.tup [x, y])) h'' s.heap.objs.size (.tup [x, y]) :=
      ⟨by show 2 ≤ sizeLine; decide, [w1, w2], .cons ru (.cons ru2 .nil), ⟨_, hT2, rfl, _, rfl⟩⟩
    have I1 : Inv X pins σ (upd H s.heap.objs.size (.tup [x, y])) { s with heap := h'', toks := tk } :=
      I.turnedNew (t' := tk) (ch := [z, TI, TO, i1, i2]) (fun c o hb q => (sb.2 c (fun q' => hb (by simp [q']))).trans (hk c o (fun q' => hb (by simp [q'])) (fun q' => hb (by simp [q'])) (fun q' => hb (by simp [q'])) (fun q' => hb (by simp [q'])) q)) hf (Nat.le_refl _) new
    refine ⟨.ref s.heap.objs.size, _, I1, rfl, ⟨_, x, y, rfl, I.hok.fresh (Nat.le_refl _), rfl, fun l hl => by rw [I.tuple_inj hl hqx]; exact hx, fun l hl => by rw [I.list_inj hl hqy]; exact hy⟩, ⟨z'', ?_, ⟨w1, w2, ?_⟩, ?_, ?_⟩, fun c hcm => ?_⟩
    · exact (sb.2 _ S.TIz).trans (hk _ _ S.TIz S.TITO S.TIi1 S.TIi2 hTI)
    · exact (sb.2 _ S.TOz).trans TO'
    · exact s1.1.at fun o q => (sb.2 _ (Ne.symm S.zi1)).trans q
    · exact s2.1.at fun o q => (sb.2 _ (Ne.symm S.zi2)).trans q
    · have hlt : c < s.heap.objs.size := by
        have e' : c = z ∨ c = TI ∨ c = TO ∨ c = i1 ∨ c = i2 := by simpa using hcm
        rcases e' with q | q | q | q | q
        · rw [q]; exact hzl
        · rw [q]; exact Heap.lt_size hTI
        · rw [q]; exact Heap.lt_size hTO
        · rw [q]; obtain ⟨_, e1, _⟩ := h1; exact Heap.lt_size e1
        · rw [q]; obtain ⟨_, e2, _⟩ := h2; exact Heap.lt_size e2
      rw [upd_ne (Nat.ne_of_lt hlt)]
      exact (hf c hcm).1
  done := by
    intro X hP hw hK hc i pins s σ H E I hf st hg
    subst hP hw hK
    obtain ⟨hz, hTI, ⟨x0, y0, hTO⟩, h1, h2⟩ := st
    obtain ⟨xs, ys, hqx, hqy, g1, g2, hend⟩ := hg
    obtain ⟨its, rv, p, _⟩ := I.tuple hqx
    obtain ⟨its2, rv2, p2, _⟩ := I.list hqy
    have l1 := rv.length
    have l2 := rv2.length
    refine wpAny_pyNext_zipD2_end S (Draws.tuple (A := X.A.in1) (I.ok.hd hc) i1 a na its.toArray) (Draws.list (A := X.A.in1) (I.ok.hd hc) i2 b nb its2.toArray) hz hTI hTO ⟨h1, p⟩ ⟨h2, p2.isList⟩ (by simp; omega) (by simp; omega) (by simp; omega) fun h' tk hk => ⟨rfl, I.turnedL (t' := tk) (ch := [z, TI, TO, i1, i2]) (fun c o hb q =>
      hk c o (fun q' => hb (by simp [q'])) (fun q' => hb (by simp [q'])) (fun q' => hb (by simp [q'])) (fun q' => hb (by simp [q'])) q) hf⟩
  self := fun A i s Q E st h => wpAny_pyIter_zip st.1 h
def iZipM (K : PySem.W.Frag) (ta : TA) : TI := fun σ H R => ta σ H fun vs H1 => ∃ a b xs ys, vs = [.ref a, .ref b] ∧ SqT K H1 a xs ∧ SqL K H1 b ys ∧ R (ItzM K a b) H1
theorem pi_zipM {X : Cx} {e e2 : Expr} {ta : TA} {p pos tpos : Pos} {elts : List Expr} {kk : Nat} (hg : Gl X "zip") (hm : X.mg "zip" = none) (ha : PA X [e, e2] ta)
    (hs : starEach [e, e2] X.env = (false, eval e X.env) :: starEach [e2] X.env := by rfl) (hpl : (backTo pos (starEach [e2] X.env)).any (·.1) = false := by rfl) :
    PI X (.Tuple elts kk tpos) (.Call (.Name "zip" p) [e, e2] [] pos) (iZipM X.K ta) := by
  refine ⟨fun pins s σ H R I h => ?_⟩
  refine Call_ (ld_blt I hg hm PyProof.Rows.boot_zip (PyProof.Rows.callWith_type1 (thn (ha.run pos pins s σ H _ I h) fun us s1 ⟨vs, H1, I1, r1, q1⟩ => ?_) hs hpl))
  obtain ⟨a, b, xs, ys, ex, hqx, hqy, q⟩ := q1
  subst ex
  cases r1 with
  | cons r rr =>
    cases rr with
    | cons r' rr =>
      cases rr
      cases r
      cases r'
      have fresh5 : ∀ c, c ∈ [s1.heap.objs.size + 4, s1.heap.objs.size + 2, s1.heap.objs.size + 3, s1.heap.objs.size, s1.heap.objs.size + 1] → FpOk X pins H1 c := fun c hcm => by
        have e' : c = s1.heap.objs.size + 4 ∨ c = s1.heap.objs.size + 2 ∨ c = s1.heap.objs.size + 3 ∨ c = s1.heap.objs.size ∨ c = s1.heap.objs.size + 1 := by simpa using hcm
        have hle : s1.heap.objs.size ≤ c := by
          rcases e' with z | z | z | z | z
          · rw [z]; exact Nat.le_add_right _ _
          · rw [z]; exact Nat.le_add_right _ _
          · rw [z]; exact Nat.le_add_right _ _
          · rw [z]; exact Nat.le_refl _
          · rw [z]; exact Nat.le_add_right _ _
        exact I1.fpOk hle (I1.hok.fresh hle)
      obtain ⟨its, rv, p1, _⟩ := I1.tuple hqx
      obtain ⟨its2, rv2, p2, _⟩ := I1.list hqy
      obtain ⟨o1, ho1, _⟩ := id p1
      have la : a < s1.heap.objs.size := Heap.lt_size ho1
      refine zip_begins2 (begins_tuple a its.toArray) (begins_list b its2.toArray) p1 p2.isList fun h' hz hTI hTO h1 h2 hsz hk => wpAny_pyIter_zip hz ?_
      have I2 : Inv X pins σ H1 { s1 with heap := h' } := I1.kept (t' := s1.toks) hk
      refine ⟨s1.heap.objs.size + 4, [s1.heap.objs.size + 4, s1.heap.objs.size + 2, s1.heap.objs.size + 3, s1.heap.objs.size, s1.heap.objs.size + 1], _, _, H1, rfl, I2, turn_zipM (zip_sep2 (fp1 := [a]) (fp2 := [b]) (fun c hc => by rw [List.mem_singleton.mp hc]; exact la) (fun c hc => by rw [List.mem_singleton.mp hc]; exact p2.lt)) (Nat.ne_of_lt la) (Nat.ne_of_lt (Nat.lt_succ_of_lt p2.lt)), ⟨hz, hTI, ⟨_, _, hTO⟩, ⟨_, h1, rfl, rfl⟩, ⟨_, h2, rfl, rfl⟩⟩, fresh5, q⟩
section
variable {X : Cx} {η : En} {L : Lg} {Q : Src → Lg → Prop} {a b e : Expr} {p pos tpos : Pos} {elts : List Expr} {kk : Nat}
theorem walk_zipM {K : PySem.W.Frag} {a b : Addr} {xs ys : List V} {n : Nat} (hn : n = min xs.length ys.length) : Walk (ItzM K a b) n (fun H => SqT K H a xs ∧ SqL K H b ys) (YPair (fun i => xs[i]?) (fun i => ys[i]?)) := by
  subst hn
  refine ⟨fun i _ hi q => ?_, fun _ q => ⟨xs, ys, q.1, q.2, by omega, by omega, by omega⟩, fun i H v H' _ q y => ?_⟩
  · have h1 : i < xs.length := by omega
    have h2 : i < ys.length := by omega
    exact ⟨xs, ys, xs[i], ys[i], q.1, q.2, by simp [h1], by simp [h2]⟩
  · obtain ⟨T, x, z, h1, h2, h3, h4, h5⟩ := y
    exact ⟨T, x, z, h1, h2, h3, h4 xs q.1, h5 ys q.2⟩
/-- zip of a tuple and a list -/
theorem gi_zipM (h : GA X [e, a] η L fun vs L1 => ∃ q r xs ys, vs = [.ref q, .ref r] ∧ (q, HO.tup xs) ∈ L1 ∧ (r, HO.lst ys) ∈ L1 ∧ Q ⟨min xs.length ys.length, fun M => (q, HO.tup xs) ∈ M ∧ (r, HO.lst ys) ∈ M, itemPr (fun i => xs[i]?) (fun i => ys[i]?)⟩ L1) (hm : X.mg "zip" = none) (hg : Gl X "zip" := by rfl)
    (hs' : starEach [e, a] X.env = (false, eval e X.env) :: starEach [a] X.env := by rfl) (hpl : (backTo pos (starEach [a] X.env)).any (·.1) = false := by rfl) : GI X (.Tuple elts kk tpos) (.Call (.Name "zip" p) [e, a] [] pos) η L Q := fun hN H hH =>
  WI.of (pi_zipM hg hm pa_W hs' hpl) (h.then hN hH fun vs L1 H1 k1 ⟨q, r, xs, ys, e1, m1, m2, z⟩ => ⟨q, r, xs, ys, e1, sqt k1 m1, sql k1 m2, L1, _, k1, SrcOk.of (walk_zipM rfl) (fun H M hM k => ⟨sqt hM k.1, sql hM k.2⟩) (fun i H x H' M _ hM _ y => y_pr hM y), z⟩)
end
end G
set_option Elab.async false
set_option linter.all false
set_option maxRecDepth 100000
set_option maxHeartbeats 4000000
namespace SrtO
open PySem PySem.Spec PyProof.Rows
abbrev I3 := Int × Int × Int
end SrtO
namespace L2
open PySem PySem.Spec PyProof.Rows
end L2
namespace G
open PySem PySem.Spec PyProof.Rows L2
def trO (p : SrtO.I3) : HO := .tup [.int p.1, .int p.2.1, .int p.2.2]
end G
set_option Elab.async false
set_option linter.all false
set_option maxRecDepth 100000
set_option maxHeartbeats 4000000
namespace G
open PySem PySem.Spec PyProof.Rows L2
end G
set_option Elab.async false
set_option linter.all false
set_option maxRecDepth 100000
set_option maxHeartbeats 4000000
namespace L2
open PySem PySem.Spec PyProof.Rows
/-- n items, the step above 0 -/
def RgB (i j c : Int) (n : Nat) : Prop := 0 < c ∧ c.natAbs.log2 < 9000 ∧ Builtin.Range.rangeSize i j c = n
end L2
namespace G
open PySem PySem.Spec PyProof.Rows L2
/-- how many are from i on and below j, by a step -/
def stepsN (i j c : Int) : Nat := if i < j then ((j - i - 1) / c).toNat + 1 else 0
theorem RgB.of {i j c : Int} (c0 : 0 < c) (cb : c.natAbs.log2 < 9000) : RgB i j c (stepsN i j c) := by
  refine ⟨c0, cb, ?_⟩
  unfold Builtin.Range.rangeSize stepsN
  rw [if_pos c0]
  split
  · have := Int.ediv_nonneg (a := j - i - 1) (b := c) (by omega) (by omega)
    omega
  · rfl
theorem log2_lt {c : Int} {k : Nat} (h : c.natAbs < 2 ^ k) (hk : k ≤ 9000) : c.natAbs.log2 < 9000 := by
  by_cases h0 : c.natAbs = 0
  · rw [h0]
    decide +kernel
  · have := (Nat.log2_lt h0).mpr h
    omega
end G
set_option Elab.async false
set_option linter.all false
set_option maxRecDepth 100000
set_option maxHeartbeats 4000000
namespace G
open PySem PySem.Spec PyProof.Rows L2
theorem map_at {α : Type} {as : List α} {val : α → V} {i : Nat} {x : V} (h : (as.map val)[i]? = some x) : ∃ a, as[i]? = some a ∧ val a = x := by
  rw [List.getElem?_map] at h
  exact Option.map_eq_some_iff.mp h
section
variable {X : Cx} {L : Lg} {elt : Expr} {ifs : List Expr} {scope : Scope} {f : V → En} {f3 : V → V → V → En} {R : V → Lg → Prop} {q : Addr} {o : HO} {α : Type} {as : List α} {val : α → V} {t : α → Bool} {g : α → V} {pl : α → HO}
/-- the n-th of a list, told -/
def gotA {α β : Type} (as : List α) (h : α → β) (d : β) (i : Nat) : β := ((as[i]?).map h).getD d
theorem gotA_at {α β : Type} {as : List α} {h : α → β} {d : β} {i : Nat} {a : α} (e : as[i]? = some a) : gotA as h d i = h a := by
  unfold gotA
  rw [e]
  rfl
theorem gotA_all {α β : Type} {as : List α} {t : α → Bool} {h : α → β} {d : β} : ((List.range as.length).filter (gotA as t false)).map (gotA as h d) = (as.filter t).map h :=
  filter_listA fun i v e => ⟨gotA_at e, gotA_at e⟩
theorem pure_rowA (mq : (q, o) ∈ L) (hl : as.length ≤ 1000000) (ht : ∀ a ∈ as, TurnP X scope ifs elt L (f (val a)) (t a) (g a)) (h : ∀ D, R (.ref D) ((D, .lst ((as.filter t).map g)) :: L)) : PureL X scope ifs elt (stOne f) R ⟨(as.map val).length, fun M => (q, o) ∈ M, itemAt (as.map val)⟩ L := by
  refine ⟨gotA as t false, gotA as g .non, ⟨by show (as.map val).length ≤ _; rw [List.length_map]; exact hl, fun M h => h _ mq, fun i x E D acc M hi ⟨hx, hE⟩ _ s => ?_⟩, fun D => ?_⟩
  · subst hE
    obtain ⟨a, he, rfl⟩ := map_at hx
    have k := turnP_use (st := stOne f) (ht a (List.mem_of_getElem? he)) s
    rw [gotA_at he, gotA_at he]
    exact k
  · show R (.ref D) ((D, .lst (((List.range (as.map val).length).filter _).map _)) :: L)
    rw [List.length_map, gotA_all]
    exact h D
end
end G
set_option Elab.async false
set_option linter.all false
set_option maxRecDepth 100000
set_option maxHeartbeats 4000000
namespace G
open PySem PySem.Spec PyProof.Rows L2
end G
set_option Elab.async false
set_option linter.all false
set_option maxRecDepth 100000
set_option maxHeartbeats 4000000
namespace G
open PySem PySem.Spec PyProof.Rows L2
end G
set_option Elab.async false
set_option linter.all false
set_option maxRecDepth 100000
set_option maxHeartbeats 4000000
namespace G
open PySem PySem.Spec PyProof.Rows L2
class St (P : Prop) (P' : outParam Prop) : Prop where
  to : P' → P
class AtI (x : Str) (v : outParam V) (η : En) : Prop where
  h : At x v η
instance (priority := high) atiH {x : Str} {v : V} {η : En} : AtI x v ((x, some v) :: η) := ⟨.here⟩
instance (priority := low) atiT {x : Str} {v : V} {e : Str × Option V} {η : En} [a : AtI x v η] : AtI x v (e :: η) := ⟨.there a.h⟩
class MemI (p : Addr) (o : outParam HO) (L : Lg) : Prop where
  h : (p, o) ∈ L
instance (priority := high) memiH {p : Addr} {o : HO} {L : Lg} : MemI p o ((p, o) :: L) := ⟨mem0⟩
instance (priority := low) memiT {p : Addr} {o : HO} {e : Addr × HO} {L : Lg} [m : MemI p o L] : MemI p o (e :: L) := ⟨memS m.h⟩
class NStar (e : Expr) : Prop where
  h : ∀ es env, starEach (e :: es) env = (false, eval e env) :: starEach es env
instance {a b} : NStar (.Name a b) := ⟨fun _ _ => rfl⟩
instance {a b c} : NStar (.Constant a b c) := ⟨fun _ _ => rfl⟩
instance {a b c d} : NStar (.BinOp a b c d) := ⟨fun _ _ => rfl⟩
instance {a b c} : NStar (.UnaryOp a b c) := ⟨fun _ _ => rfl⟩
instance {a b c} : NStar (.BoolOp a b c) := ⟨fun _ _ => rfl⟩
instance {a b c d} : NStar (.Compare a b c d) := ⟨fun _ _ => rfl⟩
instance {a b c d} : NStar (.Call a b c d) := ⟨fun _ _ => rfl⟩
instance {a b c} : NStar (.Attribute a b c) := ⟨fun _ _ => rfl⟩
instance {a b c} : NStar (.Subscript a b c) := ⟨fun _ _ => rfl⟩
instance {a b c} : NStar (.Tuple a b c) := ⟨fun _ _ => rfl⟩
instance {a b} : NStar (.List a b) := ⟨fun _ _ => rfl⟩
instance {a b c d} : NStar (.IfExp a b c d) := ⟨fun _ _ => rfl⟩
instance {a b c} : NStar (.NamedExpr a b c) := ⟨fun _ _ => rfl⟩
instance {a b c d} : NStar (.Lambda a b c d) := ⟨fun _ _ => rfl⟩
instance {a b c} : NStar (.Dict a b c) := ⟨fun _ _ => rfl⟩
instance {a b c} : NStar (.Set a b c) := ⟨fun _ _ => rfl⟩
instance {a b c d} : NStar (.ListComp a b c d) := ⟨fun _ _ => rfl⟩
instance {a b c d} : NStar (.SetComp a b c d) := ⟨fun _ _ => rfl⟩
instance {a b c d f} : NStar (.DictComp a b c d f) := ⟨fun _ _ => rfl⟩
instance {a b c d} : NStar (.GeneratorExp a b c d) := ⟨fun _ _ => rfl⟩
instance {a b} : NStar (.JoinedStr a b) := ⟨fun _ _ => rfl⟩
instance {a b c d} : NStar (.FormattedValue a b c d) := ⟨fun _ _ => rfl⟩
class NMark (op : CmpOp) (b : Expr) : Prop where
  h : behindInMarks op b = false
instance {op a b} : NMark op (.Name a b) := ⟨rfl⟩
instance {op a b c} : NMark op (.Constant a b c) := ⟨rfl⟩
instance {op a b c d} : NMark op (.BinOp a b c d) := ⟨rfl⟩
instance {op a b c} : NMark op (.UnaryOp a b c) := ⟨rfl⟩
instance {op a b c d} : NMark op (.Call a b c d) := ⟨rfl⟩
instance {op a b c} : NMark op (.Attribute a b c) := ⟨rfl⟩
instance {op a b c} : NMark op (.Subscript a b c) := ⟨rfl⟩
instance {op a b c} : NMark op (.Tuple a b c) := ⟨rfl⟩
instance {op a b} : NMark op (.List a b) := ⟨rfl⟩
instance {op a b c} : NMark op (.NamedExpr a b c) := ⟨rfl⟩
instance {op a b c d} : NMark op (.Lambda a b c d) := ⟨rfl⟩
instance {op a b c} : NMark op (.Dict a b c) := ⟨rfl⟩
instance {op a b c d} : NMark op (.ListComp a b c d) := ⟨rfl⟩
instance {op a b c d} : NMark op (.SetComp a b c d) := ⟨rfl⟩
instance {op a b c d f} : NMark op (.DictComp a b c d f) := ⟨rfl⟩
instance {op a b c d} : NMark op (.GeneratorExp a b c d) := ⟨rfl⟩
instance {op a b} : NMark op (.JoinedStr a b) := ⟨rfl⟩
instance {op a b c d} : NMark op (.FormattedValue a b c d) := ⟨rfl⟩
instance {op a b c} : NMark op (.BoolOp a b c) := ⟨rfl⟩
instance {op a b c d} : NMark op (.Compare a b c d) := ⟨rfl⟩
instance {op a b c d} : NMark op (.IfExp a b c d) := ⟨rfl⟩
section
variable {X : Cx} {η : En} {L : Lg} {Q : QV} {a b c e : Expr} {pos : Pos}
instance {i : Int} {j} : St (GE X (.Constant (.int i) j pos) η L Q) (Q (.int i) L) := ⟨ge_int⟩
instance {i : Bool} {j} : St (GE X (.Constant (.bool i) j pos) η L Q) (Q (.bl i) L) := ⟨ge_bl⟩
instance {j} : St (GE X (.Constant .none j pos) η L Q) (Q .non L) := ⟨ge_non⟩
instance {i : Str} {j} : St (GE X (.Constant (.str i) j pos) η L Q) (Q (.str i) L) := ⟨ge_str⟩
instance {op : Operator} : St (GE X (.BinOp a op b pos) η L Q) (GE X a η L fun x L1 => GE X b η L1 fun y L2 => GOp X (binaryOp op) x y L2 Q) := ⟨ge_bin⟩
instance {op : UnaryOp} : St (GE X (.UnaryOp op a pos) η L Q) (GE X a η L fun x L1 => GUn X (unaryOp op) x L1 Q) := ⟨ge_un⟩
instance (priority := high) : St (GE X (.UnaryOp .Not a pos) η L Q) (GE X a η L fun x L1 => ∃ k, x = .bl k ∧ Q (.bl (!k)) L1) := ⟨ge_not⟩
instance {op : CmpOp} [m : NMark op b] : St (GE X (.Compare a [op] [b] pos) η L Q) (GE X a η L fun x L1 => GE X b η L1 fun y L2 => GOp X (compareOp op) x y L2 Q) := ⟨fun h => ge_cmp h m.h⟩
instance {op : BoolOp} : St (GE X (.BoolOp op [a] pos) η L Q) (GE X a η L Q) := ⟨ge_one⟩
instance {rest : List Expr} : St (GE X (.BoolOp .And (a :: b :: rest) pos) η L Q) (GE X a η L fun x L1 => ∃ k, x = .bl k ∧ if k = true then GE X (.BoolOp .And (b :: rest) pos) η L1 Q else Q (.bl false) L1) := ⟨ge_and⟩
instance {rest : List Expr} : St (GE X (.BoolOp .Or (a :: b :: rest) pos) η L Q) (GE X a η L fun x L1 => ∃ k, x = .bl k ∧ if k = true then Q (.bl true) L1 else GE X (.BoolOp .Or (b :: rest) pos) η L1 Q) := ⟨ge_or⟩
instance : St (GE X (.IfExp c a b pos) η L Q) (GT X c η L fun k L1 => if k = true then GE X a η L1 Q else GE X b η L1 Q) := ⟨ge_if⟩
instance {es : List Expr} {x1} : St (GE X (.Tuple es x1 pos) η L Q) (GA X es η L fun xs L1 => xs.length ≤ sizeLine ∧ ∀ p, Q (.ref p) ((p, .tup xs) :: L1)) := ⟨ge_tup⟩
instance {es : List Expr} : St (GE X (.List es pos) η L Q) (GA X es η L fun xs L1 => xs.length ≤ sizeLine ∧ ∀ p, Q (.ref p) ((p, .lst xs) :: L1)) := ⟨ge_lst⟩
instance {Q : List V → Lg → Prop} : St (GA X [] η L Q) (Q [] L) := ⟨ga_nil⟩
instance {es : List Expr} {Q : List V → Lg → Prop} [n : NStar e] : St (GA X (e :: es) η L Q) (GE X e η L fun x L1 => GA X es η L1 fun xs L2 => Q (x :: xs) L2) := ⟨fun h => ga_cons h (n.h _ _)⟩
instance {i j : Int} : St (GOp X (binaryOp .Add) (.int i) (.int j) L Q) (Q (.int (i + j)) L) := ⟨go_add⟩
instance {i j : Int} : St (GOp X (binaryOp .Sub) (.int i) (.int j) L Q) (Q (.int (i - j)) L) := ⟨go_sub⟩
instance {i j : Int} : St (GOp X (compareOp .Lt) (.int i) (.int j) L Q) (Q (.bl (decide (i < j))) L) := ⟨go_lt⟩
instance {i j : Int} : St (GOp X (compareOp .LtE) (.int i) (.int j) L Q) (Q (.bl (decide (i ≤ j))) L) := ⟨go_le⟩
instance {i j : Int} : St (GOp X (compareOp .Eq) (.int i) (.int j) L Q) (Q (.bl (decide (i = j))) L) := ⟨go_eq⟩
instance {i j : Int} : St (GOp X (compareOp .Gt) (.int i) (.int j) L Q) (Q (.bl (decide (j < i))) L) := ⟨go_gt⟩
instance {i j : Int} : St (GOp X (compareOp .GtE) (.int i) (.int j) L Q) (Q (.bl (decide (j ≤ i))) L) := ⟨go_ge⟩
instance {i j : Int} : St (GOp X (compareOp .NotEq) (.int i) (.int j) L Q) (Q (.bl (!decide (i = j))) L) := ⟨go_ne⟩
end
section
variable {X : Cx} {η : En} {L : Lg} {Q : Bool → Lg → Prop} {a b c e : Expr} {pos : Pos}
instance {op : CmpOp} [m : NMark op b] : St (GT X (.Compare a [op] [b] pos) η L Q) (GE X a η L fun x L1 => GE X b η L1 fun y L2 => GOp X (compareOp op) x y L2 fun z L3 => ∃ k, z = .bl k ∧ Q k L3) := ⟨fun h => gt_cmp h m.h⟩
instance {op : BoolOp} {es : List Expr} : St (GT X (.BoolOp op es pos) η L Q) (GW X (.BoolOp op es pos) η L Q) := ⟨gt_w⟩
instance : St (GT X (.UnaryOp .Not a pos) η L Q) (GT X a η L fun k L1 => Q (!k) L1) := ⟨gt_not⟩
instance {x : Str} : St (GT X (.Name x pos) η L Q) (GE X (.Name x pos) η L fun x L1 => ∃ k, x = .bl k ∧ Q k L1) := ⟨gt_val⟩
instance {f : Expr} {es ks} : St (GT X (.Call f es ks pos) η L Q) (GE X (.Call f es ks pos) η L fun x L1 => ∃ k, x = .bl k ∧ Q k L1) := ⟨gt_val⟩
instance : St (GW X (.BoolOp .And [a] pos) η L Q) (GT X a η L Q) := ⟨gw_and1⟩
instance : St (GW X (.BoolOp .Or [a] pos) η L Q) (GT X a η L Q) := ⟨gw_or1⟩
instance {rest : List Expr} : St (GW X (.BoolOp .And (a :: b :: rest) pos) η L Q) (GT X a η L fun k L1 => if k = true then GW X (.BoolOp .And (b :: rest) pos) η L1 Q else Q false L1) := ⟨gw_and⟩
instance {rest : List Expr} : St (GW X (.BoolOp .Or (a :: b :: rest) pos) η L Q) (GT X a η L fun k L1 => if k = true then Q true L1 else GW X (.BoolOp .Or (b :: rest) pos) η L1 Q) := ⟨gw_or⟩
end
section
variable {X : Cx} {η : En} {L : Lg} {e : Expr} {pos : Pos} {D : GD}
instance {st : Stmt} {rest : List Stmt} : St (GSs X (st :: rest) D η L) (GS X st { nx := fun θ L1 => GSs X rest D θ L1, rt := D.rt, bk := D.bk, ct := D.ct } η L) := ⟨gss_cons⟩
instance : St (GSs X [] D η L) (D.nx η L) := ⟨gss_nil⟩
instance : St (GS X (.Return (some e) pos) D η L) (GE X e η L D.rt) := ⟨gs_ret⟩
instance : St (GS X (.Return none pos) D η L) (D.rt .non L) := ⟨gs_retN⟩
instance : St (GS X (.Pass pos) D η L) (D.nx η L) := ⟨gs_pass⟩
instance : St (GS X (.Break pos) D η L) (D.bk η L) := ⟨gs_break⟩
instance : St (GS X (.Continue pos) D η L) (D.ct η L) := ⟨gs_continue⟩
instance {Q : En → Lg → Prop} : St (GGs X [] [] η L Q) (Q η L) := ⟨ggs_nil⟩
end
instance {p q : Prop} : St (if true = true then p else q) p := ⟨fun h => h⟩
instance {p q : Prop} : St (if false = true then p else q) q := ⟨fun h => h⟩
instance {p q : Prop} : St (if (!true) = true then p else q) q := ⟨fun h => h⟩
instance {p q : Prop} : St (if (!false) = true then p else q) p := ⟨fun h => h⟩
instance {k : Bool} {q : Bool → Prop} : St (∃ j, V.bl k = .bl j ∧ q j) (q k) := ⟨fun h => ⟨_, rfl, h⟩⟩
/-- the names of a def, as its scope has them -/
def chkN (N : List Str) (sc : Scope) : Bool := N.all fun x => (sc.names.lookup x == some .local || sc.names.lookup x == some .cell) && !(x == ("__debug__" : Str)) && !(x == ("__classdict__" : Str))
class OkL (sc : Scope) (M : outParam (List Str)) : Prop where
  k : chkN M sc = true
class InS (x : Str) (M : List Str) : Prop where
  h : x ∈ M
instance (priority := high) insH {x : Str} {M : List Str} : InS x (x :: M) := ⟨mem0⟩
instance (priority := low) insT {x y : Str} {M : List Str} [i : InS x M] : InS x (y :: M) := ⟨memS i.h⟩
class NdI (N : List Str) : Prop where
  n : N.Nodup
class VisX (X : Cx) : Prop where
  n : X.N.Nodup
  f : ∀ x, X.fn x = true
  c : X.calm = true
class OkX (X : Cx) (x : Str) : Prop where
  l : Loc X.env.scope x
  d : (x == ("__debug__" : Str)) = false ∧ (x == ("__classdict__" : Str)) = false
theorem chkN_at {N : List Str} {sc : Scope} (h : chkN N sc = true) {x : Str} (m : x ∈ N) : Loc sc x ∧ (x == ("__debug__" : Str)) = false ∧ (x == ("__classdict__" : Str)) = false := by
  have := List.all_eq_true.mp h x m
  simp only [Bool.and_eq_true, Bool.or_eq_true, beq_iff_eq, Bool.not_eq_true'] at this
  exact ⟨this.1.1, this.1.2, this.2⟩
instance {P : Program} {w : World} {K : PySem.W.Frag} {mg : Str → Option Value} {base : Heap} {N : List Str} {x : Str} {sc : Scope} {f : Addr} {cdv : Value} {A : Around} {outer : List Env} {s : Shared} {H : Hp} {E0 : XK} [k : NdI N] : VisX (cx0 P w K mg base N x sc f cdv A outer s H E0) := ⟨k.n, fun _ => rfl, rfl⟩
instance {P : Program} {w : World} {K : PySem.W.Frag} {mg : Str → Option Value} {base : Heap} {N : List Str} {x : Str} {sc : Scope} {f : Addr} {cdv : Value} {A : Around} {outer : List Env} {s : Shared} {H : Hp} {E0 : XK} {y : Str} {M : List Str} [k : OkL sc M] [i : InS y M] : OkX (cx0 P w K mg base N x sc f cdv A outer s H E0) y := ⟨(chkN_at k.k i.h).1, (chkN_at k.k i.h).2⟩
class PutFI (x : Str) (η : En) (f : outParam (V → En)) : Prop where
  h : PutF x η f
instance (priority := high) putfiH {x : Str} {o : Option V} {η : En} : PutFI x ((x, o) :: η) (fun v => (x, some v) :: η) := ⟨.here⟩
instance (priority := low) putfiT {x : Str} {e : Str × Option V} {η : En} {f : V → En} [p : PutFI x η f] : PutFI x (e :: η) (fun v => e :: f v) := ⟨.there p.h⟩
class PutI (x : Str) (v : V) (η : En) (θ : outParam En) : Prop where
  h : Put x v η θ
instance (priority := high) putiH {x : Str} {v : V} {o : Option V} {η : En} : PutI x v ((x, o) :: η) ((x, some v) :: η) := ⟨.here⟩
instance (priority := low) putiT {x : Str} {v : V} {e : Str × Option V} {η θ : En} [p : PutI x v η θ] : PutI x v (e :: η) (e :: θ) := ⟨.there p.h⟩
class NSwap (e : Expr) : Prop where
  h : ∀ t l env, swapsWith e t l env = pure false
instance {a b} : NSwap (.Name a b) := ⟨fun _ _ _ => rfl⟩
instance {a b c} : NSwap (.Constant a b c) := ⟨fun _ _ _ => rfl⟩
instance {a b c d} : NSwap (.BinOp a b c d) := ⟨fun _ _ _ => rfl⟩
instance {a b c} : NSwap (.UnaryOp a b c) := ⟨fun _ _ _ => rfl⟩
instance {a b c} : NSwap (.BoolOp a b c) := ⟨fun _ _ _ => rfl⟩
instance {a b c d} : NSwap (.Compare a b c d) := ⟨fun _ _ _ => rfl⟩
instance {a b c d} : NSwap (.Call a b c d) := ⟨fun _ _ _ => rfl⟩
instance {a b c} : NSwap (.Attribute a b c) := ⟨fun _ _ _ => rfl⟩
instance {a b c} : NSwap (.Subscript a b c) := ⟨fun _ _ _ => rfl⟩
instance {a b c} : NSwap (.Tuple a b c) := ⟨fun _ _ _ => rfl⟩
instance {a b} : NSwap (.List a b) := ⟨fun _ _ _ => rfl⟩
instance {a b c d} : NSwap (.IfExp a b c d) := ⟨fun _ _ _ => rfl⟩
instance {a b c} : NSwap (.NamedExpr a b c) := ⟨fun _ _ _ => rfl⟩
instance {a b c d} : NSwap (.Lambda a b c d) := ⟨fun _ _ _ => rfl⟩
instance {a b c} : NSwap (.Dict a b c) := ⟨fun _ _ _ => rfl⟩
instance {a b c} : NSwap (.Set a b c) := ⟨fun _ _ _ => rfl⟩
instance {a b c d} : NSwap (.GeneratorExp a b c d) := ⟨fun _ _ _ => rfl⟩
instance {a b} : NSwap (.JoinedStr a b) := ⟨fun _ _ _ => rfl⟩
instance {a b c d} : NSwap (.FormattedValue a b c d) := ⟨fun _ _ _ => rfl⟩
class PIx (e : Expr) : Prop where
  h : PlainIx e
instance {a b} : PIx (.Name a b) := ⟨fun _ _ => rfl⟩
instance {a b c} : PIx (.Constant a b c) := ⟨fun _ _ => rfl⟩
instance {a b c d} : PIx (.BinOp a b c d) := ⟨fun _ _ => rfl⟩
instance {a b c} : PIx (.UnaryOp a b c) := ⟨fun _ _ => rfl⟩
instance {a b c} : PIx (.BoolOp a b c) := ⟨fun _ _ => rfl⟩
instance {a b c d} : PIx (.Compare a b c d) := ⟨fun _ _ => rfl⟩
instance {a b c d} : PIx (.Call a b c d) := ⟨fun _ _ => rfl⟩
instance {a b c} : PIx (.Attribute a b c) := ⟨fun _ _ => rfl⟩
instance {a b c} : PIx (.Subscript a b c) := ⟨fun _ _ => rfl⟩
instance {a b c} : PIx (.Tuple a b c) := ⟨fun _ _ => rfl⟩
instance {a b} : PIx (.List a b) := ⟨fun _ _ => rfl⟩
instance {a b c d} : PIx (.IfExp a b c d) := ⟨fun _ _ => rfl⟩
instance {a b c} : PIx (.NamedExpr a b c) := ⟨fun _ _ => rfl⟩
instance {a b c d} : PIx (.Lambda a b c d) := ⟨fun _ _ => rfl⟩
instance {a b c} : PIx (.Dict a b c) := ⟨fun _ _ => rfl⟩
instance {a b c} : PIx (.Set a b c) := ⟨fun _ _ => rfl⟩
instance {a b c d} : PIx (.ListComp a b c d) := ⟨fun _ _ => rfl⟩
instance {a b c d} : PIx (.SetComp a b c d) := ⟨fun _ _ => rfl⟩
instance {a b c d f} : PIx (.DictComp a b c d f) := ⟨fun _ _ => rfl⟩
instance {a b c d} : PIx (.GeneratorExp a b c d) := ⟨fun _ _ => rfl⟩
instance {a b} : PIx (.JoinedStr a b) := ⟨fun _ _ => rfl⟩
instance {a b c d} : PIx (.FormattedValue a b c d) := ⟨fun _ _ => rfl⟩
class NBase (e : Expr) : Prop where
  h : ∀ n env, attributeBase e n env (eval e env) = eval e env
instance {a b} : NBase (.Name a b) := ⟨fun _ _ => rfl⟩
instance {a b c} : NBase (.Attribute a b c) := ⟨fun _ _ => rfl⟩
instance {a b c} : NBase (.Subscript a b c) := ⟨fun _ _ => rfl⟩
class NTgt (e : Expr) : Prop where
  h : ∀ ts env, assignEach (e :: ts) env = (false, assign e env) :: assignEach ts env
instance {a b} : NTgt (.Name a b) := ⟨fun _ _ => rfl⟩
instance {a b c} : NTgt (.Attribute a b c) := ⟨fun _ _ => rfl⟩
instance {a b c} : NTgt (.Subscript a b c) := ⟨fun _ _ => rfl⟩
instance {a b c} : NTgt (.Tuple a b c) := ⟨fun _ _ => rfl⟩
class NTgts (es : List Expr) : Prop where
  h : ∀ env, (assignEach es env).length = es.length ∧ (assignEach es env).findIdx? (·.1) = none
instance : NTgts [] := ⟨fun _ => ⟨rfl, rfl⟩⟩
instance {e : Expr} {es : List Expr} [a : NTgt e] [b : NTgts es] : NTgts (e :: es) := ⟨fun env => by
  have := b.h env
  rw [a.h]
  exact ⟨by simp [this.1], by simp [List.findIdx?_cons, this.2]⟩⟩
class SLen {α β : Type} (xs : List α) (es : List β) : Prop where
  h : xs.length = es.length
instance {α β : Type} : SLen ([] : List α) ([] : List β) := ⟨rfl⟩
instance {α β : Type} {x : α} {xs : List α} {y : β} {ys : List β} [a : SLen xs ys] : SLen (x :: xs) (y :: ys) := ⟨by simp [a.h]⟩
section
variable {X : Cx} {η : En} {L : Lg} {Q : QV} {a b e : Expr} {pos : Pos} {D : GD}
instance {x : Str} {v : V} [k : OkX X x] [t : AtI x v η] : St (GE X (.Name x pos) η L Q) (Q v L) := ⟨fun q => ge_var t.h q (k.l.elim .inl fun z => .inr (.inl z)) k.d.1 k.d.2⟩
instance [i : PIx b] : St (GE X (.Subscript a b pos) η L Q) (GE X a η L fun x L1 => GE X b η L1 fun y L2 => GIx X x y L2 Q) := ⟨fun h => ge_ix h i.h⟩
instance {n : Str} [i : NBase e] : St (GE X (.Attribute e n pos) η L Q) (GE X e η L fun x L1 => GAt X n x L1 Q) := ⟨fun h => ge_attr h (i.h _ _)⟩
instance {x : Str} {f : V → En} {pos' : Pos} [k : VisX X] [o : OkX X x] [p : PutFI x η f] [s : NSwap e] : St (GS X (.Assign [.Name x pos'] e pos) D η L) (GE X e η L fun v L1 => D.nx (f v) L1) := ⟨fun h => gs_set p.h h k.n o.l (s.h _ _ _) (.inl (k.f x))⟩
instance [s : NSwap e] : St (GS X (.Expr e pos) D η L) (GE X e η L fun x L1 => D.nx η L1) := ⟨fun h => gs_expr h (s.h _ _ _)⟩
instance {x : Str} {y : V} {f : V → En} {pos' : Pos} {op : Operator} [k : VisX X] [o : OkX X x] [t : AtI x y η] [p : PutFI x η f] : St (GS X (.AugAssign (.Name x pos') op e pos) D η L) (GE X e η L fun z L1 => GIp X op y z L1 fun w L2 => D.nx (f w) L2) := ⟨fun h => gs_aug t.h p.h h k.n o.l (.inl (k.f x))⟩
instance {x : Str} {v : V} {θ : En} {Q : En → Lg → Prop} [k : VisX X] [o : OkX X x] [p : PutI x v η θ] : St (GG X (.Name x pos) v η L Q) (Q θ L) := ⟨fun h => gg_name p.h h k.n o.l (.inl (k.f x))⟩
instance {v : V} {ts : List Expr} {vs : List V} {Q : En → Lg → Prop} [n : NTgt e] : St (GGs X (e :: ts) (v :: vs) η L Q) (GG X e v η L fun θ L1 => GGs X ts vs θ L1 Q) := ⟨fun h => ggs_cons h (by rw [n.h]; rfl)⟩
instance {es : List Expr} {k : Nat} {p : Addr} {xs : List V} {Q : En → Lg → Prop} [v : VisX X] [m : MemI p (.tup xs) L] [n : NTgts es] [s : SLen xs es] : St (GG X (.Tuple es k pos) (.ref p) η L Q) (GGs X es xs η L Q) := ⟨fun h => gg_tup m.h h s.h v.c (n.h _).1 (n.h _).2⟩
instance {i j : Int} : St (GIp X .Add (.int i) (.int j) L Q) (Q (.int (i + j)) L) := ⟨gp_add⟩
instance {i j : Int} : St (GIp X .Sub (.int i) (.int j) L Q) (Q (.int (i - j)) L) := ⟨gp_sub⟩
instance {i : Int} : St (GUn X (unaryOp .USub) (.int i) L Q) (Q (.int (-i)) L) := ⟨gu_neg⟩
instance : St (GOp X (compareOp .Is) .non .non L Q) (Q (.bl true) L) := ⟨isN_non⟩
instance : St (GOp X (compareOp .IsNot) .non .non L Q) (Q (.bl false) L) := ⟨notN_non⟩
instance {i : Int} : St (GOp X (compareOp .Is) (.int i) .non L Q) (Q (.bl false) L) := ⟨isN_int⟩
instance {i : Int} : St (GOp X (compareOp .IsNot) (.int i) .non L Q) (Q (.bl true) L) := ⟨notN_int⟩
instance {i : Addr} : St (GOp X (compareOp .Is) (.ref i) .non L Q) (Q (.bl false) L) := ⟨isN_ref⟩
instance {i : Addr} : St (GOp X (compareOp .IsNot) (.ref i) .non L Q) (Q (.bl true) L) := ⟨notN_ref⟩
end
instance {i : Int} {q : Int → Prop} : St (∃ j, V.int i = .int j ∧ q j) (q i) := ⟨fun h => ⟨_, rfl, h⟩⟩
instance {i : Addr} {q : Addr → Prop} : St (∃ j, V.ref i = .ref j ∧ q j) (q i) := ⟨fun h => ⟨_, rfl, h⟩⟩
instance {a : V} {q : V → Prop} : St (∃ v, [a] = [v] ∧ q v) (q a) := ⟨fun h => ⟨_, rfl, h⟩⟩
instance {a b : V} {q : V → V → Prop} : St (∃ v w, [a, b] = [v, w] ∧ q v w) (q a b) := ⟨fun h => ⟨_, _, rfl, h⟩⟩
instance {a b c : V} {q : V → V → V → Prop} : St (∃ u v w, [a, b, c] = [u, v, w] ∧ q u v w) (q a b c) := ⟨fun h => ⟨_, _, _, rfl, h⟩⟩
class NSt (t e : Expr) : Prop where
  h : ∀ env, swappedStores [t] e env = pure none
instance {ts k p a b} : NSt (.Tuple ts k p) (.Name a b) := ⟨fun _ => rfl⟩
instance {ts k p a b c} : NSt (.Tuple ts k p) (.Constant a b c) := ⟨fun _ => rfl⟩
instance {ts k p a b c d} : NSt (.Tuple ts k p) (.BinOp a b c d) := ⟨fun _ => rfl⟩
instance {ts k p a b c} : NSt (.Tuple ts k p) (.UnaryOp a b c) := ⟨fun _ => rfl⟩
instance {ts k p a b c} : NSt (.Tuple ts k p) (.BoolOp a b c) := ⟨fun _ => rfl⟩
instance {ts k p a b c d} : NSt (.Tuple ts k p) (.Compare a b c d) := ⟨fun _ => rfl⟩
instance {ts k p a b c d} : NSt (.Tuple ts k p) (.Call a b c d) := ⟨fun _ => rfl⟩
instance {ts k p a b c} : NSt (.Tuple ts k p) (.Attribute a b c) := ⟨fun _ => rfl⟩
instance {ts k p a b c} : NSt (.Tuple ts k p) (.Subscript a b c) := ⟨fun _ => rfl⟩
instance {ts k p a b} : NSt (.Tuple ts k p) (.List a b) := ⟨fun _ => rfl⟩
instance {ts k p a b c d} : NSt (.Tuple ts k p) (.IfExp a b c d) := ⟨fun _ => rfl⟩
instance {u v p e} : NSt (.Subscript u v p) e := ⟨fun _ => by cases e <;> rfl⟩
class NAsg (t : Expr) : Prop where
  h : ∀ env, (assignEach [t] env).map (·.2) = [assign t env]
instance {ts k p} : NAsg (.Tuple ts k p) := ⟨fun _ => rfl⟩
instance {u v p} : NAsg (.Subscript u v p) := ⟨fun _ => rfl⟩
instance {X : Cx} {η : En} {L : Lg} {t e : Expr} {pos : Pos} {D : GD} [s : NSwap e] [n : NSt t e] [a : NAsg t] : St (GS X (.Assign [t] e pos) D η L) (GE X e η L fun v L1 => GG X t v η L1 D.nx) := ⟨fun h => gs_asg h (s.h _ _ _) (n.h _) (a.h _)⟩
/-- a step by a built-in's name -/
class StB (P : Prop) (mg : outParam (Str → Option Value)) (C P' : outParam Prop) : Prop where
  to : Bi mg → C → P' → P
section
variable {X : Cx} {η : En} {L : Lg} {Q : QV} {e : Expr} {es : List Expr} {pos p : Pos}
instance [n : NStar e] : StB (GE X (.Call (.Name "len" p) (e :: es) [] pos) η L Q) X.mg (Gl X "len" ∧ (backTo pos (starEach es X.env)).any (·.1) = false) (GA X (e :: es) η L fun xs L1 => GC X (.builtin "len") xs L1 Q) := ⟨fun B c h => gb_len B h c.1 (n.h _ _) c.2⟩
instance [n : NStar e] : StB (GE X (.Call (.Name "abs" p) (e :: es) [] pos) η L Q) X.mg (Gl X "abs" ∧ (backTo pos (starEach es X.env)).any (·.1) = false) (GA X (e :: es) η L fun xs L1 => GC X (.builtin "abs") xs L1 Q) := ⟨fun B c h => gb_abs B h c.1 (n.h _ _) c.2⟩
instance [n : NStar e] : StB (GE X (.Call (.Name "min" p) (e :: es) [] pos) η L Q) X.mg (Gl X "min" ∧ (backTo pos (starEach es X.env)).any (·.1) = false) (GA X (e :: es) η L fun xs L1 => GC X (.builtin "min") xs L1 Q) := ⟨fun B c h => gb_min B h c.1 (n.h _ _) c.2⟩
instance [n : NStar e] : StB (GE X (.Call (.Name "max" p) (e :: es) [] pos) η L Q) X.mg (Gl X "max" ∧ (backTo pos (starEach es X.env)).any (·.1) = false) (GA X (e :: es) η L fun xs L1 => GC X (.builtin "max") xs L1 Q) := ⟨fun B c h => gb_max B h c.1 (n.h _ _) c.2⟩
instance [n : NStar e] : StB (GE X (.Call (.Name "sum" p) (e :: es) [] pos) η L Q) X.mg (Gl X "sum" ∧ (backTo pos (starEach es X.env)).any (·.1) = false) (GA X (e :: es) η L fun xs L1 => GC X (.builtin "sum") xs L1 Q) := ⟨fun B c h => gb_sum B h c.1 (n.h _ _) c.2⟩
instance [n : NStar e] : StB (GE X (.Call (.Name "sorted" p) (e :: es) [] pos) η L Q) X.mg (Gl X "sorted" ∧ (backTo pos (starEach es X.env)).any (·.1) = false) (GA X (e :: es) η L fun xs L1 => GC X (.builtin "sorted") xs L1 Q) := ⟨fun B c h => gb_sorted B h c.1 (n.h _ _) c.2⟩
instance [n : NStar e] : StB (GE X (.Call (.Name "any" p) (e :: es) [] pos) η L Q) X.mg (Gl X "any" ∧ (backTo pos (starEach es X.env)).any (·.1) = false) (GA X (e :: es) η L fun xs L1 => GC X (.builtin "any") xs L1 Q) := ⟨fun B c h => gb_any B h c.1 (n.h _ _) c.2⟩
instance [n : NStar e] : StB (GE X (.Call (.Name "all" p) (e :: es) [] pos) η L Q) X.mg (Gl X "all" ∧ (backTo pos (starEach es X.env)).any (·.1) = false) (GA X (e :: es) η L fun xs L1 => GC X (.builtin "all") xs L1 Q) := ⟨fun B c h => gb_all B h c.1 (n.h _ _) c.2⟩
instance [n : NStar e] : StB (GE X (.Call (.Name "isinstance" p) (e :: es) [] pos) η L Q) X.mg (Gl X "isinstance" ∧ (backTo pos (starEach es X.env)).any (·.1) = false) (GA X (e :: es) η L fun xs L1 => GC X (.builtin "isinstance") xs L1 Q) := ⟨fun B c h => gb_isinstance B h c.1 (n.h _ _) c.2⟩
instance [n : NStar e] : StB (GE X (.Call (.Name "int" p) (e :: es) [] pos) η L Q) X.mg (Gl X "int" ∧ (backTo pos (starEach es X.env)).any (·.1) = false) (GA X (e :: es) η L fun xs L1 => GC X (.type "int") xs L1 Q) := ⟨fun B c h => gb_int B h c.1 (n.h _ _) c.2⟩
instance [n : NStar e] : StB (GE X (.Call (.Name "list" p) (e :: es) [] pos) η L Q) X.mg (Gl X "list" ∧ (backTo pos (starEach es X.env)).any (·.1) = false) (GA X (e :: es) η L fun xs L1 => GC X (.type "list") xs L1 Q) := ⟨fun B c h => gb_list B h c.1 (n.h _ _) c.2⟩
instance [n : NStar e] : StB (GE X (.Call (.Name "tuple" p) (e :: es) [] pos) η L Q) X.mg (Gl X "tuple" ∧ (backTo pos (starEach es X.env)).any (·.1) = false) (GA X (e :: es) η L fun xs L1 => GC X (.type "tuple") xs L1 Q) := ⟨fun B c h => gb_tuple B h c.1 (n.h _ _) c.2⟩
instance [n : NStar e] : StB (GE X (.Call (.Name "bool" p) (e :: es) [] pos) η L Q) X.mg (Gl X "bool" ∧ (backTo pos (starEach es X.env)).any (·.1) = false) (GA X (e :: es) η L fun xs L1 => GC X (.type "bool") xs L1 Q) := ⟨fun B c h => gb_bool B h c.1 (n.h _ _) c.2⟩
instance [n : NStar e] : StB (GE X (.Call (.Name "str" p) (e :: es) [] pos) η L Q) X.mg (Gl X "str" ∧ (backTo pos (starEach es X.env)).any (·.1) = false) (GA X (e :: es) η L fun xs L1 => GC X (.type "str") xs L1 Q) := ⟨fun B c h => gb_str B h c.1 (n.h _ _) c.2⟩
instance : StB (GE X (.Name "int" pos) η L Q) X.mg (Gl X "int" ∧ 0 = 0) (Q (.ty "int") L) := ⟨fun B c q => gv_int B q c.1⟩
instance : StB (GE X (.Name "bool" pos) η L Q) X.mg (Gl X "bool" ∧ 0 = 0) (Q (.ty "bool") L) := ⟨fun B c q => gv_bool B q c.1⟩
instance : StB (GE X (.Name "tuple" pos) η L Q) X.mg (Gl X "tuple" ∧ 0 = 0) (Q (.ty "tuple") L) := ⟨fun B c q => gv_tuple B q c.1⟩
instance : StB (GE X (.Name "list" pos) η L Q) X.mg (Gl X "list" ∧ 0 = 0) (Q (.ty "list") L) := ⟨fun B c q => gv_list B q c.1⟩
instance : StB (GE X (.Name "str" pos) η L Q) X.mg (Gl X "str" ∧ 0 = 0) (Q (.ty "str") L) := ⟨fun B c q => gv_str B q c.1⟩
instance : StB (GE X (.Name "ValueError" pos) η L Q) X.mg (Gl X "ValueError" ∧ 0 = 0) (Q (.ty "ValueError") L) := ⟨fun B c q => gv_ValueError B q c.1⟩
instance : StB (GE X (.Name "LookupError" pos) η L Q) X.mg (Gl X "LookupError" ∧ 0 = 0) (Q (.ty "LookupError") L) := ⟨fun B c q => gv_LookupError B q c.1⟩
instance {i : Int} : St (GC X (.type "int") [.int i] L Q) (Q (.int i) L) := ⟨gc_int⟩
instance {k : Bool} : St (GC X (.type "int") [.bl k] L Q) (Q (.int (if k = true then 1 else 0)) L) := ⟨gc_intB⟩
instance {i : Int} : St (GC X (.builtin "abs") [.int i] L Q) (Q (.int i.natAbs) L) := ⟨gc_abs⟩
instance {i j : Int} [v : VisX X] : St (GC X (.builtin "min") [.int i, .int j] L Q) (Q (.int (if j < i then j else i)) L) := ⟨gc_min2 v.c⟩
instance {i j : Int} [v : VisX X] : St (GC X (.builtin "max") [.int i, .int j] L Q) (Q (.int (if j > i then j else i)) L) := ⟨gc_max2 v.c⟩
instance {q : Addr} {xs : List V} [m : MemI q (.lst xs) L] : St (GC X (.builtin "len") [.ref q] L Q) (Q (.int xs.length) L) := ⟨gc_lenL m.h⟩
instance {q : Addr} {xs : List V} [m : MemI q (.tup xs) L] : St (GC X (.builtin "len") [.ref q] L Q) (Q (.int xs.length) L) := ⟨gc_lenT m.h⟩
theorem isE (h : GE X e η L Q) : GE X e η L Q := h
theorem isC {f : Value} {xs : List V} (h : GC X f xs L Q) : GC X f xs L Q := h
theorem isIx {x y : V} (h : GIx X x y L Q) : GIx X x y L Q := h
theorem isAt {n : Str} {x : V} (h : GAt X n x L Q) : GAt X n x L Q := h
theorem isS {st : Stmt} {D : GD} (h : GS X st D η L) : GS X st D η L := h
theorem isT {Q : Bool → Lg → Prop} (h : GT X e η L Q) : GT X e η L Q := h
theorem isA {Q : List V → Lg → Prop} (h : GA X es η L Q) : GA X es η L Q := h
theorem isSt {o i v : V} {Q : Lg → Prop} (h : GSt X o i v L Q) : GSt X o i v L Q := h
theorem isG {v : V} {Q : En → Lg → Prop} (h : GG X e v η L Q) : GG X e v η L Q := h
end
end G
set_option Elab.async false
set_option linter.all false
set_option maxRecDepth 100000
set_option maxHeartbeats 4000000
namespace G
open PySem PySem.Spec PyProof.Rows L2
end G
set_option Elab.async false
set_option linter.all false
set_option maxRecDepth 100000
set_option maxHeartbeats 4000000
namespace G
open PySem PySem.Spec PyProof.Rows L2
/-- a tuple that stands in the program's heap -/
def TupK (K : PySem.W.Frag) (a : Addr) (xs : List V) : Prop := ∃ (o : Obj) (its : Array Value) (n : Nat), K.lookup a = some o ∧ o.cls = .type "tuple" ∧ o.data = .seq its n ∧ its.size ≤ sizeLine ∧ Vals xs its.toList
theorem TupK.sq {K : PySem.W.Frag} {a : Addr} {xs : List V} (h : TupK K a xs) (H : Hp) : SqT K H a xs := .inr h
/-- the constant (1, ((0, 0),)) -/
structure EvT (K : PySem.W.Frag) (mg : Str → Option Value) (x : Str) where
  e : Addr
  r : Addr
  p : Addr
  at_ : mg x = some (.ref e)
  te : TupK K e [.int 1, .ref r]
  tr : TupK K r [.ref p]
  tp : TupK K p [.int 0, .int 0]
theorem EvT.dp {K : PySem.W.Frag} {mg : Str → Option Value} {x : Str} (T : EvT K mg x) (H : Hp) : Dp K H (.ref T.e) (.tuple [.int 1, .tuple [.tuple [.int 0, .int 0]]]) :=
  .tup (T.te.sq H) (.cons (.int 1) (.cons (.tup (T.tr.sq H) (.cons (.tup (T.tp.sq H) (.cons (.int 0) (.cons (.int 0) .nil))) .nil)) .nil))
end G
set_option Elab.async false
set_option linter.all false
set_option maxRecDepth 100000
set_option maxHeartbeats 4000000
namespace L2
open PySem PySem.Spec PyProof.Rows
end L2
namespace G
open PySem PySem.Spec PyProof.Rows L2
end G
set_option Elab.async false
set_option linter.all false
set_option maxRecDepth 100000
set_option maxHeartbeats 4000000
namespace G
open PySem PySem.Spec PyProof.Rows L2
end G
set_option Elab.async false
set_option linter.all false
set_option maxRecDepth 100000
set_option maxHeartbeats 4000000
namespace PySem.W
open PySem PySem.Calls PySem.Spec PyProof.Rows Builtin
end PySem.W
namespace G
open PySem PySem.Spec PyProof.Rows L2
end G
set_option Elab.async false
set_option linter.all false
set_option maxRecDepth 100000
set_option maxHeartbeats 4000000
namespace G
open PySem PySem.Spec PyProof.Rows L2
end G
set_option Elab.async false
set_option linter.all false
set_option maxRecDepth 100000
set_option maxHeartbeats 4000000
namespace PySem.SeqAt
open AutoSeq1 (wpAny_loadPart')
open MeetsSeq MeetsSeq2 MeetsSeq3 SeqRoads2
section
variable {prog : Program} {w : World}
theorem list_eqNe (l b : Addr) (items items2 : Array Value) (n n2 : Nat) (dd dd2 : Option Addr) (sl sl2 : Array (Option Value)) (hsz : items.size ≠ items2.size) :
    MeetsIn prog w (Builtin.«list.__eq__» ⟨[.ref l, .ref b], []⟩)
      (fun A R s => s.heap.get? l = some { cls := .type "list", dict := dd, data := .seq items n, slots := sl } ∧ s.heap.get? b = some { cls := .type "list", dict := dd2, data := .seq items2 n2, slots := sl2 } ∧
        R (.ok (.ret (.bool false))) s) := by
  intro A R s h
  obtain ⟨hp, g, d, tk, os⟩ := s; obtain ⟨hl, hb, h⟩ := h
  have f3 := AutoSeq1.sub_list_list
  have hne : (items.size != items2.size) = true := by simp [hsz]
  wp_walk using wpAny_loadPart' hl, wpAny_loadPart' hb
  exact h
theorem rc_listsNe {A : Around} {s : Shared} {l b : Addr} {items items2 : Array Value} (hl : s.heap.IsList l items) (hb : s.heap.IsList b items2) (hsz : items.size ≠ items2.size) (hu : A.units < cLine)
    (E Q : Value → Shared → Prop) (h : Q (.bool false) s) : wpAny (model prog w) A (richCompare .Eq (.ref l) (.ref b)) Q E s := by
  obtain ⟨⟨cls, dd, data, sl⟩, ho, hc, n, hd⟩ := id hl
  obtain ⟨⟨cls2, dd2, data2, sl2⟩, ho2, hc2, n2, hd2⟩ := id hb
  simp only at hc hd hc2 hd2
  subst hc hd hc2 hd2
  have ta : s.TypeIs (.ref l) "list" := ⟨_, ho, rfl⟩
  have tb : s.TypeIs (.ref b) "list" := ⟨_, ho2, rfl⟩
  exact wpAny_richCompare_same_room (op := .Eq) ta tb F.slot_list_eq (call_meetsIn F.slot_list_eq ta F.entry_list_eq (F.args_list_eq_2 _ _) (list_eqNe l b items items2 n n2 dd dd2 sl sl2 hsz)
    ⟨ho, ho2, show Value.bool false ≠ Value.notImplemented ∧ Q (.bool false) s from ⟨(fun x => nomatch x), h⟩⟩) hu
end
end PySem.SeqAt
namespace G
open PySem PySem.Spec PyProof.Rows L2
section
variable {X : Cx} {CX : CXT} {j k : Nat} {η : En} {L : Lg} {f p q : Addr} {x : Str} {e : Expr} {es : List Expr} {pos p1 p2 : Pos} {sp : SpL} {El : XL} {xs ys : List V}
/-- x(*e) -/
theorem ge_callS {Q : QV} (F : Fn X.prog X.w X.K X.mg X.base CX x k sp) (hr : RoomG j X.A) (hx : Passes CX X (upX El)) (h : GE X e η L fun v L1 => ∃ p xs, v = .ref p ∧ ((p, HO.tup xs) ∈ L1 ∨ (p, HO.lst xs) ∈ L1) ∧ sp xs L1 Q El) (hjk : k ≤ j := by decide) (hg : Gl X x := by rfl) (hd : (x == ("__debug__" : Str)) = false := by decide) :
    GE X (.Call (.Name x p1) [.Starred e p2] [] pos) η L Q := fun hN H hH pins s I => by
  obtain ⟨f, hm, hk, R⟩ := F
  refine wpAny_Call_Name_kw (ld_glob I hg hm ?_ hd)
  refine PySem.W.callWith_S (h₀ := X.base) I.ok.mod.kin hk (thn (h hN H hH pins s I) fun v s1 ⟨y, H1, I1, ry, L1, h1, a, xs, ey, m, q⟩ => ?_)
  subst ey
  obtain rfl : v = Value.ref a := ry
  refine StX.star_any I1 (m.imp (fun z => sqt h1 z) fun z => sql h1 z) fun us s2 I2 rv => ?_
  exact ⟨I2.kIn, run_G (args := argsP) R (hr.mono hjk) hx I2 rv (up_sp h1 q)⟩
theorem go_eqLen {Q : QV} (hr : RoomG j X.A) (ma : (p, HO.lst xs) ∈ L) (mb : (q, HO.lst ys) ∈ L) (ne : xs.length ≠ ys.length) (h : Q (.bl false) L) : GOp X (compareOp .Eq) (.ref p) (.ref q) L Q := fun pins s σ H v u hH I rx ry => by
  obtain rfl : v = Value.ref p := rx
  obtain rfl : u = Value.ref q := ry
  obtain ⟨its, r, e, z⟩ := I.list (sql hH ma)
  obtain ⟨its2, r2, e2, z2⟩ := I.list (sql hH mb)
  show wpAny (model X.prog X.w) X.A (richCompare .Eq (.ref p) (.ref q)) _ _ _
  exact PySem.SeqAt.rc_listsNe e.isList e2.isList (by rw [List.size_toArray, List.size_toArray, ← r.length, ← r2.length]; exact ne) hr.toRoom.units0 _ _ ⟨.bl false, H, I, rfl, L, hH, h⟩
end
end G
set_option Elab.async false
set_option linter.all false
set_option maxRecDepth 100000
set_option maxHeartbeats 4000000
namespace G
open PySem PySem.Spec PyProof.Rows L2
end G
set_option Elab.async false
set_option linter.all false
set_option maxRecDepth 100000
set_option maxHeartbeats 4000000
namespace G
open PySem PySem.Spec PyProof.Rows L2
end G
set_option Elab.async false
set_option linter.all false
set_option maxRecDepth 100000
set_option maxHeartbeats 4000000
namespace G
open PySem PySem.Spec PyProof.Rows L2
end G
set_option Elab.async false
set_option linter.all false
set_option maxRecDepth 100000
set_option maxHeartbeats 4000000
namespace G
open PySem PySem.Spec PyProof.Rows L2
end G
set_option Elab.async false
set_option linter.all false
set_option maxRecDepth 100000
set_option maxHeartbeats 4000000
namespace G
open PySem PySem.Spec PyProof.Rows L2
section
variable {X : Cx} {j k : Nat} {η : En} {L : Lg} {x : Str} {e : Expr} {pos p1 p2 : Pos} {sp : SpL} {W : XW}
/-- an error of the class C with these fields is let out, whatever stands beside it -/
def telX (C : Addr) (fs : List (Str × V)) (E : XL) (L : Lg) : Prop := ∀ (d : Addr) (M : Lg), Sub ((d, HO.xd fs) :: L) M → E (.ref C) (some d) M
theorem telX.sub {C : Addr} {fs : List (Str × V)} {E : XL} {L L' : Lg} (h : telX C fs E L) (s : Sub L L') : telX C fs E L' := fun d M k => h d M (Sub.trans (Sub.cons s) k)
end
end G
set_option Elab.async false
set_option linter.all false
set_option maxRecDepth 100000
set_option maxHeartbeats 4000000
namespace G
open PySem PySem.Spec PyProof.Rows L2
section
variable {X : Cx} {η : En} {L : Lg} {Q : QV} {o e a b : Expr} {pos apos : Pos} {x y : Str} {i : Int}
theorem ge_split (h : GE X o η L fun v L1 => ∃ z : Str, v = .str z ∧ GE X e η L1 fun u L2 => ∃ s : Str, u = .str s ∧ (s.length == 0) = false ∧ z.length + 2 ≤ sizeLine ∧ ∀ p, Q (.ref p) ((p, .lst ((Txt.split z s).map V.str)) :: L2))
    (hs : starEach [e] X.env = [(false, eval e X.env)] := by rfl) (hbase : attributeBase o "split" X.env (eval o X.env) = eval o X.env := by rfl) (hline : (apos.endLine == pos.line) = true := by rfl) : GE X (.Call (.Attribute o "split" apos) [e] [] pos) η L Q := fun hN H hH =>
  WE.of (pe_split pe_W pe_W hs hbase hline) (h.then hN hH fun v L1 H1 k1 ⟨z, ev, q⟩ => by
    subst ev
    exact ⟨⟨_, rfl⟩, q.then hN k1 fun u L2 H2 k2 ⟨s, eu, n, l, q2⟩ => ⟨z, s, rfl, by rw [eu], n, l, fun p hp => ⟨_, k2.new hp, q2 p⟩⟩⟩)
theorem gi_sx {c : Nat} (hl : x.length ≤ sizeLine) (h : atI x.cps.toList i = some c) (q : Q (.str ⟨#[c]⟩) L) : GIx X (.str x) (.int i) L Q := GIx.of ix_str fun H hH => ⟨x, i, c, rfl, rfl, hl, h, L, hH, q⟩
theorem go_inS {c : Nat} (h : Q (.bl (decide (c ∈ y.cps.toList))) L) : GOp X (compareOp .In) (.str ⟨#[c]⟩) (.str y) L Q := GOp.of op_inS fun H hH => ⟨c, y, rfl, rfl, L, hH, h⟩
theorem gc_lenS (z : x.length ≤ sizeLine) (h : Q (.int x.length) L) : GC X (.builtin "len") [.str x] L Q := GC.of call_len_str fun H hH => ⟨x, rfl, z, L, hH, h⟩
theorem gc_intS {n : Int} (e : PySem.intText? x = some n) (z : x.length ≤ 640) (h : Q (.int n) L) : GC X (.type "int") [.str x] L Q := GC.of call_int_str fun H hH => ⟨x, n, rfl, e, z, L, hH, h⟩
theorem gc_strI (z : i.natAbs < 2 ^ 1920) (h : Q (.str (toString i)) L) : GC X (.type "str") [.int i] L Q := GC.of call_str_int fun H hH => ⟨i, rfl, PySem.Flt.log2_lt_of (by decide) z, L, hH, h⟩
end
section
variable {X : Cx} {L : Lg} {elt : Expr} {ifs : List Expr} {scope : Scope} {f : V → En} {R : V → Lg → Prop} {z : Str} {t : Nat → Bool} {g : Nat → V}
/-- a pure comprehension over the signs of a text -/
theorem pure_str (hl : z.length ≤ 1000000) (ht : ∀ c ∈ z.cps.toList, TurnP X scope ifs elt L (f (.str ⟨#[c]⟩)) (t c) (g c)) (h : ∀ D, R (.ref D) ((D, .lst ((z.cps.toList.filter t).map g)) :: L)) : PureL X scope ifs elt (stOne f) R ⟨z.cps.size, fun _ => True, fun i v E => (∃ c, z.cps[i]? = some c ∧ v = .str ⟨#[c]⟩) ∧ E = []⟩ L := by
  refine ⟨fun i => t (z.cps.toList.getD i 0), fun i => g (z.cps.toList.getD i 0), ⟨hl, fun _ _ => True.intro, fun i x E D acc M hi ⟨⟨c, hc, hx⟩, hE⟩ _ s => ?_⟩, fun D => ?_⟩
  · subst hE hx
    have hc' : z.cps.toList[i]? = some c := by simpa using hc
    have k := turnP_use (st := stOne f) (ht c (List.mem_of_getElem? hc')) s
    have e2 : z.cps.toList.getD i 0 = c := by rw [List.getD_eq_getElem?_getD, hc']; rfl
    rw [e2]
    exact k
  · have zz := filter_listA (xs := z.cps.toList) (t := t) (g := g) (p := fun i => t (z.cps.toList.getD i 0)) (h := fun i => g (z.cps.toList.getD i 0)) fun i v e => by
      have e2 : z.cps.toList.getD i 0 = v := by rw [List.getD_eq_getElem?_getD, e]; rfl
      rw [e2]
      exact ⟨rfl, rfl⟩
    show R (.ref D) ((D, .lst (((List.range z.cps.size).filter _).map _)) :: L)
    rw [show z.cps.size = z.cps.toList.length by simp, zz]
    exact h D
end
end G
set_option Elab.async false
set_option linter.all false
set_option maxRecDepth 100000
set_option maxHeartbeats 4000000
namespace PySem.W
open PySem PySem.Calls PySem.Spec PyProof.Rows Builtin
section
variable {prog : Program} {w : World} {A : Around} {E : Value → Shared → Prop} {s : Shared} {K : Frag} {x C f : Addr} {ox : Obj} {od : Option Obj} {nm T : String}
theorem g_bin1K {b : Value} {fo ro rc : Option Value} {Q : Value → Shared → Prop} (X : K.In s.heap) (I : InstAt s.heap x ox C od) (hb : Looks (model prog w) s.heap (typeOf b) (.type T)) (hc : selfFirst K C = true)
    (hs : findIn K (.ref C) (PySem.dunder nm) = some (some (.ref f))) (hf : isFn K (.ref f) = true) (hr : findIn K (.ref C) (dunderR nm) = some rc) (hp : rc = none ∨ ∃ g : Addr, rc = some (.ref g))
    (h1 : findIn K (.type T) (PySem.dunder nm) = some fo) (h2 : findIn K (.type T) (dunderR nm) = some ro) (hsub : subIn K (.type T) (.ref C) = some false)
    (h : wpAny (model prog w) A (call (.ref f) [.ref x, b]) (CmpBack Q) E s) : wpAny (model prog w) A (binaryOp1 nm (.ref x) b) (fun r s' => ∃ v, r = some v ∧ Q v s') E s := by
  obtain ⟨cd, rest, hcd, hm⟩ := ksp_first hc
  have one := ksp_try X I hs hf h
  obtain ⟨hh, g, d, tt, os⟩ := s
  have L1 : Looks (model prog w) hh (typeOf (.ref x)) (.ref C) := I.type
  have L2 : Looks (model prog w) hh (typeOf b) (.type T) := hb
  have L3 : Looks (model prog w) hh (fillsNumberSlot (.ref C) nm) true := fills_K X hcd hm hs
  have L4 : Looks (model prog w) hh (fillsNumberSlot (.type T) nm) ((fo.isSome && !isSeqSlot fo) || (ro.isSome && !isSeqSlot ro)) := ksp_fillsT X h1 h2
  have L5 : Looks (model prog w) hh (isSubtype (.type T) (.ref C)) false := looks_subIn X hsub
  have L6 : Looks (model prog w) hh (numberSlotInPython (.ref C) nm) true := ksp_inPy X hs hr hp
  have L7 : Looks (model prog w) hh (numberSlotInPython (.type T) nm) false := Looks.of_pure rfl
  have L8 : Looks (model prog w) hh (typeLookup (.type T) (dunderR nm)) ro := looks_findIn X h2
  generalize ((fo.isSome && !isSeqSlot fo) || (ro.isSome && !isSeqSlot ro)) = right at L4
  have hne : (Value.ref C == Value.type T) = false := Bool.eq_false_iff.mpr fun q => by cases beq_iff_eq.mp q
  unfold binaryOp1
  refine wpAny_bind (L1.at (wpAny_bind (L2.at (wpAny_bind (L3.at ?_)))))
  simp only [hne, Bool.false_eq_true, if_false]
  cases right with
  | false =>
    ksp_lk
    refine wpAny_mono one (fun r s' hr' => ?_) fun _ _ e => e
    obtain ⟨v, rfl, hq⟩ := hr'
    ksp_lk
    exact ⟨v, rfl, hq⟩
  | true =>
    ksp_lk
    refine wpAny_mono one (fun r s' hr' => ?_) fun _ _ e => e
    obtain ⟨v, rfl, hq⟩ := hr'
    ksp_lk
    exact ⟨v, rfl, hq⟩
end
end PySem.W
namespace G
open PySem PySem.Spec PyProof.Rows L2
section
variable {X : Cx} {CX : CXT} {j k : Nat} {C g a b dx dy : Addr} {fs gs : List (Str × V)} {sp : SpL} {El : XL} {L : Lg} {Q : QV} {op : Operator} {i : Int} {y : V} {T : String}
/-- a op y, y of another kind -/
theorem go_binK (O : OwnBin X.K C op.info.2 g) (O2 : BinT X.K C op.info.2 T) (F : RunG X.prog X.w X.K X.mg X.base CX k g argsP (toSp sp)) (hr : RoomG j X.A) (hx : Passes CX X (upX El)) (ma : (a, HO.ins C dx fs) ∈ L) (ky : Knd L y T) (h : sp [.ref a, y] L Q El) (hjk : k ≤ j := by decide) : GOp X (binaryOp op) (.ref a) y L Q := fun pins s σ H v u hH I r1 r2 => by
  obtain rfl : v = Value.ref a := id r1
  obtain ⟨oe, od, J⟩ := ins_inst I hH ma
  obtain ⟨P, kx, hp, _⟩ := kit_of I r2 (ky.ty H hH)
  obtain ⟨fo, h1⟩ := O2.h1
  obtain ⟨ro, h2⟩ := O2.h2
  exact PySem.W.g_binOf (PySem.W.g_bin1K I.kIn J (kx.ty _ _ I.kIn hp) O.sf O.at_ O.fn O2.r (.inl rfl) h1 h2 O2.sub (own_call F hr hx I hH (.cons r1 (.cons r2 .nil)) h (fun _ _ z => z) hjk))
end
end G
set_option Elab.async false
set_option linter.all false
set_option maxRecDepth 100000
set_option maxHeartbeats 4000000
namespace PySem.W
open PySem PySem.Calls PyProof.Rows
end PySem.W
namespace G
open PySem PySem.Spec PyProof.Rows L2
end G
set_option Elab.async false
set_option linter.all false
set_option maxRecDepth 100000
set_option maxHeartbeats 4000000
namespace G
open PySem PySem.Spec PyProof.Rows L2
end G
set_option Elab.async false
set_option linter.all false
set_option maxRecDepth 100000
set_option maxHeartbeats 4000000
namespace PySem.W
open PySem PySem.Calls PyProof.Rows
end PySem.W
namespace G
open PySem PySem.Spec PyProof.Rows L2
end G
set_option Elab.async false
set_option linter.all false
set_option maxRecDepth 100000
set_option maxHeartbeats 4000000
namespace G
open PySem PySem.Spec PyProof.Rows L2
end G
set_option Elab.async false
set_option linter.all false
set_option maxRecDepth 100000
set_option maxHeartbeats 400000
namespace PySem
end PySem
namespace PySem
structure ZipGot (P1 P2 : Nat → Value → Prop) (lo : Addr) (h : Heap) (as : List Addr) : Prop where
  rise : as.Pairwise (· < ·)
  above : ∀ a ∈ as, lo < a
  pairs : ∀ (j : Nat) (a : Addr), as[j]? = some a → ∃ x1 x2, P1 j x1 ∧ P2 j x2 ∧ IsTupOf2 h a x1 x2
section
variable {prog : Program} {w : World} {A : Around} {E : Value → Shared → Prop} {s : Shared} {z TI TO i1 i2 S : Addr} {fp1 fp2 : List Addr} {n1 n2 i : Nat} {P1 P2 : Nat → Value → Prop} {St1 St2 : Nat → Heap → Prop}
theorem ZipGot.there {lo : Addr} {h : Heap} {as : List Addr} (g : ZipGot P1 P2 lo h as) {a : Addr} (ha : a ∈ as) : a < h.objs.size := by
  obtain ⟨j, hj⟩ := List.mem_iff_getElem?.mp ha
  obtain ⟨_, _, _, _, e⟩ := g.pairs j a hj
  exact Heap.lt_size e
variable {R : Result → Shared → Prop}
end
end PySem
namespace G
open PySem PySem.Spec PyProof.Rows L2
end G
set_option Elab.async false
set_option linter.all false
set_option maxRecDepth 100000
set_option maxHeartbeats 4000000
namespace G
open PySem PySem.Spec PyProof.Rows L2
end G
set_option Elab.async false
set_option linter.all false
set_option maxRecDepth 100000
set_option maxHeartbeats 400000
namespace G
open PySem PySem.Spec PyProof.Rows L2
/-- a def whose keyword-only parameters have defaults, as it stands -/
structure FunK (K : PySem.W.Frag) (x q : Str) (st : Stmt) (kws : List (Str × V)) (f : Addr) : Prop where
  ex : ∃ (oc : Value) (od : Option Addr) (D : Addr) (doc pm : Value) (an : Option Addr) (cdv ct : Value) (osl : Array (Option Value)),
    K.lookup f = some ⟨oc, od, .func (PySem.W.fnOf x q (defArgs st) (defBody st) (defScope st) .none (.ref D) doc pm an cdv ct), osl⟩ ∧ PySem.W.codeIn K cdv q = true ∧ ∀ p ∈ kws, ∃ u, PySem.W.nsIn K D p.1 = some (some u) ∧ RelV p.2 u
  kp : PySem.W.keepIn K (.ref f) = true
/-- the lacking names are looked up, one behind another; then r -/
def KwCh {α : Type} (D : Addr) : List (Str × Value) → Sem α → Sem α → Prop
  | [], t, r => t = r
  | q :: l, t, r => ∃ (β γ : Type) (k1 : Option Value → Sem β) (k2 : β → Sem γ) (k3 : γ → Sem α) (a : β), t = ((nsGet D q.1 >>= k1) >>= k2) >>= k3 ∧ k1 (some q.2) = pure a ∧ KwCh D l (k2 a >>= k3) r
theorem KwCh.run {α : Type} {K : PySem.W.Frag} {M : Model} {A : Around} {E : Value → Shared → Prop} {Q : α → Shared → Prop} {s : Shared} {D : Addr} (X : K.In s.heap) : ∀ {l : List (Str × Value)} {t r : Sem α}, (∀ q ∈ l, PySem.W.nsIn K D q.1 = some (some q.2)) → KwCh D l t r → wpAny M A r Q E s → wpAny M A t Q E s
  | [], t, r, _, e, h => by
    have e : t = r := e
    rw [e]
    exact h
  | q :: l, t, r, hl, e, h => by
    obtain ⟨β, γ, k1, k2, k3, a, e1, e2, e3⟩ := e
    have z := KwCh.run X (fun p hp => hl p (List.mem_cons_of_mem _ hp)) e3 h
    have l1 : PySem.W.Looks M s.heap (nsGet D q.1 >>= k1) a := (PySem.W.looks_nsIn X (hl q (List.mem_cons_self ..))).andThen (PySem.W.Looks.of_pure e2)
    rw [e1, bind_assoc]
    exact wpAny_bind (l1.here z)
section
variable {P : Program} {w : World} {K : PySem.W.Frag} {mg : Str → Option Value} {base : Heap}
/-- how such a call's values are bound: us the values for ps, rest for the star, ws for the keywords ks, the lacking ms from the defaults -/
def BindK (x q pv : Str) (st : Stmt) (ps ko ks : List Str) (ms : List (Str × V)) (g : {α : Type} → List α → List α → List α) (ok : Nat → Prop) : Prop :=
  ∀ (D : Addr) (doc pm : Value) (an : Option Addr) (cdv ct : Value) (us rest mv ws : List Value), us.length = ps.length → mv.length = ms.length → ws.length = ks.length → ok rest.length →
    KwCh D ((ms.map (·.1)).zip mv) (bindArgs (PySem.W.fnOf x q (defArgs st) (defBody st) (defScope st) .none (.ref D) doc pm an cdv ct) ⟨us ++ rest, ks.zip ws⟩) (newTuple rest >>= fun t => pure (ps.zip us ++ (ko.zip (g mv ws) ++ [(pv, t)])))
theorem run_starK {x q pv : Str} {st : Stmt} {f : Addr} {N ps ko ks : List Str} {k : Nat} {sp : SpL} {kws ms : List (Str × V)} (n : Nat) (g : {α : Type} → List α → List α → List α) (F : FunK K x q st kws f) (S : FnScope N (ps ++ (ko ++ [pv])) (defScope st)) (hms : ∀ q ∈ ms, q ∈ kws)
    (hg : ∀ {mz zs : List V} {mv ws : List Value}, Vals mz mv → Vals zs ws → Vals (g mz zs) (g mv ws)) (hgl : ∀ {α : Type} (mz zs : List α), mz.length = ms.length → zs.length = ks.length → (g mz zs).length = ko.length)
    {ok : Nat → Prop} (hb : BindK x q pv st ps ko ks ms g ok) (hl : ps.length + (ko.length + 1) ≤ N.length) (body : BodyOf P w K mg base N q st k sp) :
    RunG P w K mg base CX0 (k + 1) f (argsK n ks) (toSp fun vs L Q E => ∃ ws rest zs, vs = (ws ++ rest) ++ zs ∧ ws.length = ps.length ∧ (ws ++ rest).length = n ∧ zs.length = ks.length ∧ rest.length ≤ sizeLine ∧ ok rest.length ∧ ∀ p, sp (ws ++ (g (ms.map (·.2)) zs ++ [.ref p])) ((p, .tup rest) :: L) Q E) := by
  obtain ⟨oc, od, D, doc, pm, an, cdv, ct, osl, lk, hcd, hkw⟩ := F.ex
  intro A outer s H us vs Q E hr e0 r hsp
  obtain ⟨L, Ql, El, hH, ⟨ws, rest, zs, ev, hlw, hln, hlz, hz, hok, hs⟩, hq, _⟩ := hsp
  subst ev
  obtain ⟨u12, u3, eu, r12, r3⟩ := StX.vals_split r
  subst eu
  obtain ⟨u1, u2, eu, r1, r2⟩ := StX.vals_split r12
  subst eu
  obtain ⟨mv, hmv, rm, hks⟩ := kwd_vals (K := K) (D := D) (ms := ms) fun q hm => hkw q (hms q hm)
  have hn : H s.heap.objs.size = none := e0.hok.fresh (Nat.le_refl _)
  have hl1 : u1.length = ps.length := by
    rw [← r1.length]
    exact hlw
  have hl2 : u2.length ≤ sizeLine := by
    rw [← r2.length]
    exact hz
  have hl3 : u3.length = ks.length := by
    rw [← r3.length]
    exact hlz
  have hl12 : (u1 ++ u2).length = n := by
    rw [← r12.length]
    exact hln
  have kin : K.In s.heap := e0.mod.kin.keeps fun b o e => (e0.bs b o e).1
  have rg : Vals (g (ms.map (·.2)) zs) (g mv u3) := hg rm r3
  have glen := hgl mv u3 hmv hl3
  have glen2 := hgl (ms.map (·.2)) zs (by rw [List.length_map]) hlz
  refine StX.run_bnd (CX := CX0) lk hcd S hr.toRoom e0 (G := fun xs H2 => ∃ p, H p = none ∧ xs = ws ++ (g (ms.map (·.2)) zs ++ [V.ref p]) ∧ H2 = upd H p (.tup rest)) (fun A' Ex Q' h => ?_) fun s2 H2 xs ⟨p, hp, ex, eH⟩ hr' => ?_
  · have ea : argsK n ks ((u1 ++ u2) ++ u3) = ⟨u1 ++ u2, ks.zip u3⟩ := by
      show (⟨((u1 ++ u2) ++ u3).take n, ks.zip (((u1 ++ u2) ++ u3).drop n)⟩ : Args) = _
      rw [← hl12, List.take_left, List.drop_left]
    rw [ea]
    refine KwCh.run kin hks (hb D doc pm an cdv ct u1 u2 mv u3 hl1 hmv hl3 (by rw [← r2.length]; exact hok)) ?_
    refine wpAny_bind (wpAny_newTuple (wpAny_pure ?_) hl2)
    have new : ObjOk P w (upd H s.heap.objs.size (.tup rest)) (s.heap.push ({ cls := .type "tuple", data := .seq u2.toArray } : Obj)) s.heap.objs.size (.tup rest) := ⟨hz, u2, r2, ⟨_, Heap.get?_push_size _ rfl, rfl, _, rfl⟩⟩
    have un := StX.un_laid (fs := frs outer) (s := s) (o := ({ cls := .type "tuple", data := .seq u2.toArray } : Obj)) (u := .tup rest) hn
    have z := h _ _ (ws ++ (g (ms.map (·.2)) zs ++ [V.ref s.heap.objs.size])) (u1 ++ (g mv u3 ++ [Value.ref s.heap.objs.size])) (StX.env0_laid e0 new) un rfl (fun _ _ z => z.elim) (r1.append (rg.append (.cons rfl .nil))) (by simp only [List.length_append, hlw, glen2] <;> rfl) ⟨_, hn, rfl, rfl⟩
    rw [List.zip_append hl1.symm, List.zip_append glen.symm] at z
    exact z
  · subst ex eH
    have hlv : (ws ++ (g (ms.map (·.2)) zs ++ [V.ref p])).length ≤ N.length := by
      rw [List.length_append, List.length_append, hlw, glen2]
      exact hl
    exact ⟨WSs _ (defBody st), PSs.nox pss_W, body_end (X := cx0 P w K mg base N q (defScope st) f cdv A outer s2 (upd H p (.tup rest)) E) hlv hq (hH.new hp) (body _ f cdv A outer s2 _ E _ _ Ql El rfl S.nd ⟨hr', guard_deeper hr.gd⟩ (hs p))⟩
end
end G
set_option Elab.async false
set_option linter.all false
set_option maxRecDepth 100000
set_option maxHeartbeats 400000
namespace PySem.W
open PySem PySem.Calls PySem.Spec PyProof.Rows
section
variable {M : Model} {A : Around} {E : Value → Shared → Prop} {s : Shared}
theorem ks_callKW {f : Value} {first : List Value} {pos : Pos} {Q : Value → Shared → Prop} {P : Heap → Prop} {args : List (Bool × Sem Value)} {kws : List (Option Str × Sem Value)} (hst : args.any (·.1) = true)
    (hk : ∀ h, P h → ∃ k, (k = Keeper.frame ∨ k = Keeper.machine ∨ k = Keeper.boundFrame) ∧ Looks M h (keeperOf f) k)
    (h : wpAny M A (evalArgs f true args kws) (fun a s₁ => P s₁.heap ∧ wpAny M A (call f (first ++ a.pos) a.kw) Q E s₁) E s) : wpAny M A (callWith pos f first args kws) Q E s := by
  unfold callWith
  refine wpAny_bind (wpAny_holding (wpAny_mono h (fun a s₁ h₁ => wpAny_bind (wpAny_standAt ?_)) fun _ _ x => x))
  obtain ⟨k, hk', L⟩ := hk _ h₁.1
  simp only [hst, Bool.true_or]
  refine wpAny_bind (L.here ?_)
  have tail : ∀ {t : Sem Value}, wpAny M A t Q E s₁ → wpAny M A (t >>= fun r => holding [r] point >>= fun _ => pure r) Q E s₁ :=
    fun ht => wpAny_bind (wpAny_mono ht (fun r s₂ hr => wpAny_bind (wpAny_holding (wpAny_point (wpAny_pure hr)))) fun _ _ x => x)
  have marked (mk : Value) : wpAny M A (callMarked mk f (first ++ a.pos) a.kw) Q E s₁ := by unfold callMarked; exact Calls.wpAny_keep h₁.2
  rcases hk' with rfl | rfl | rfl <;> dsimp only <;> first | exact tail (marked _) | exact tail (wpAny_operating h₁.2)
end
end PySem.W
namespace G
open PySem PySem.Spec PyProof.Rows L2
/-- the defaults as the dict at D holds them -/
inductive KwHas (K : PySem.W.Frag) (D : Addr) : List (Str × V) → Prop
  | nil : KwHas K D []
  | cons {x : Str} {v : V} {u : Value} {l : List (Str × V)} (h : PySem.W.nsIn K D x = some (some u)) (r : RelV v u) (t : KwHas K D l) : KwHas K D ((x, v) :: l)
theorem KwHas.all {K : PySem.W.Frag} {D : Addr} : ∀ {l : List (Str × V)}, KwHas K D l → ∀ p ∈ l, ∃ u, PySem.W.nsIn K D p.1 = some (some u) ∧ RelV p.2 u
  | _, .nil, _, h => nomatch h
  | _, .cons h r t, p, hp => by
    rcases List.mem_cons.mp hp with rfl | hp
    · exact ⟨_, h, r⟩
    · exact t.all p hp
theorem funk_mk {K : PySem.W.Frag} {x q : Str} {st : Stmt} {kws : List (Str × V)} {f D : Addr} {oc doc pm cdv ct : Value} {od an : Option Addr} {osl : Array (Option Value)} (h : K.lookup f = some ⟨oc, od, .func (PySem.W.fnOf x q (defArgs st) (defBody st) (defScope st) .none (.ref D) doc pm an cdv ct), osl⟩) (c : PySem.W.codeIn K cdv q = true) (k : PySem.W.keepIn K (.ref f) = true) (d : KwHas K D kws) : FunK K x q st kws f :=
  ⟨⟨oc, od, D, doc, pm, an, cdv, ct, osl, h, c, d.all⟩, k⟩
section
variable {X : Cx} {η : En} {L : Lg} {Q : QV} {f : Addr} {x : Str} {e : Expr} {es : List Expr} {kws : List Keyword} {pos p1 p2 : Pos} {ks : List Str}
/-- x(a, .., *e, k = v, ..) -/
theorem ge_kwS2 {φ : Nat → List V → Lg → Prop} (hm : X.mg x = some (.ref f)) (hk : PySem.W.keepIn X.K (.ref f) = true) (F : ∀ n, X.N = names η → GF X η f (argsK n ks) (φ n) Q) (h : GA X (e :: es) η L fun vs L1 => GK X kws η L1 fun ws L2 => φ vs.length (vs ++ ws) L2)
    (hks : (backToKw pos (keywordEach kws X.env)).filterMap (·.1) = ks := by rfl) (hall : (backToKw pos (keywordEach kws X.env)).all (·.1.isSome) = true := by rfl) (hg : Gl X x := by rfl) (hd : (x == ("__debug__" : Str)) = false := by decide)
    (he : starEach (e :: es) X.env = (false, eval e X.env) :: starEach es X.env := by rfl) (hst : (backTo pos (starEach es X.env)).any (·.1) = true := by rfl) : GE X (.Call (.Name x p1) (e :: es) kws pos) η L Q := fun hN H hH pins s I => by
  refine wpAny_Call_Name_kw (ld_glob I hg hm ?_ hd)
  have ha : (backTo pos (starEach (e :: es) X.env)).any (·.1) = true := by
    rw [he]
    show (false || (backTo pos (starEach es X.env)).any (·.1)) = true
    rw [hst]
    rfl
  refine PySem.W.ks_callKW (P := X.K.In) ha (PySem.W.keeps_K hk) (evalArgs_kw2 hall (thn (h hN H hH pos pins s I) fun us s1 ⟨vs, H1, I1, r1, L1, h1, q1⟩ => ?_) he)
  refine thn (GK.run (Q := fun _ _ => True) q1 hN pos pins s1 H1 h1 I1) fun ws s2 ⟨zs, H2, I2, r2, L2, h2, q2⟩ => ⟨I2.kIn, ?_⟩
  have l1 : us.length = vs.length := r1.length.symm
  have z := F vs.length hN pins s2 H2 (us ++ ws) (vs ++ zs) L2 h2 I2 (r1.append r2) q2
  have e1 : (us ++ ws).take vs.length = us := by rw [← l1]; exact List.take_left
  have e2 : (us ++ ws).drop vs.length = ws := by rw [← l1]; exact List.drop_left
  rw [hks]
  show wpAny _ _ (call (.ref f) us (ks.zip ws)) _ _ _
  have z' : wpAny (model X.prog X.w) X.A (call (.ref f) ((us ++ ws).take vs.length) (ks.zip ((us ++ ws).drop vs.length))) (EP X pins (vals η) (up Q)) X.xe s2 := z
  rw [e1, e2] at z'
  exact z'
end
end G
set_option Elab.async false
set_option linter.all false
set_option maxRecDepth 100000
set_option maxHeartbeats 400000
namespace G
open PySem PySem.Spec PyProof.Rows L2
/-- the class C has its own __getitem__ -/
structure OwnItem (K : PySem.W.Frag) (C g : Addr) : Prop where
  at_ : PySem.W.findIn K (.ref C) "__getitem__" = some (some (.ref g))
  fn : PySem.W.isFn K (.ref g) = true
  fi : PySem.W.fnIn K g = true
section
variable {X : Cx} {CX : CXT} {η : En} {L : Lg} {Q : QV} {C g : Addr} {j k : Nat} {sp : SpL} {El : XL} {a b : Expr} {pos : Pos}
theorem ge_ixM (T : OwnItem X.K C g) (F : RunG X.prog X.w X.K X.mg X.base CX k g argsP (toSp sp)) (hr : RoomG j X.A) (hx : Passes CX X (upX El))
    (h : GE X a η L fun x L1 => GE X b η L1 fun y L2 => ∃ p dx fs, x = .ref p ∧ (p, HO.ins C dx fs) ∈ L2 ∧ sp [.ref p, y] L2 Q El) (hjk : k + 1 ≤ j := by decide)
    (hs : ∀ o i, subscripted b true o i = runValue (.builtin "lifetime.subscript" ⟨[o, i], []⟩) := by exact fun _ _ => rfl) : GE X (.Subscript a b pos) η L Q := fun hN H hH pins s I => by
  refine Subscript_ (thn (h hN H hH pins s I) fun v s1 ⟨x, H1, I1, rx, L1, h1, q1⟩ => thn (q1 hN H1 h1 pins s1 I1) fun u s2 ⟨y, H2, I2, ry, L2, h2, p, dx, fs, ex, mp, q⟩ => ?_)
  subst ex
  obtain rfl : v = Value.ref p := rx
  obtain ⟨oe, od, J⟩ := ins_inst I2 h2 mp
  obtain ⟨m, hF⟩ := I2.fr
  refine PySem.W.sub_K hF I2.ok.mod.kin J T.at_ T.fi T.fn ?_ (hs _ _)
  refine wpAny_call (codeAny_mono (F X.A.in1 X.stack s2 H2 [.ref p, u] [.ref p, y] _ _ (hr.mono hjk).in1 I2.env0.in1 (.cons rfl (.cons ry .nil)) (up_sp h2 q)) fun r s3 hq => ?_)
  cases r with
  | error e => exact hx pins _ H2 s2 e s3 I2 hq
  | ok fl =>
    cases fl with
    | ret w => exact I2.after hq
    | next => exact hq.elim
    | brk => exact hq.elim
    | cont => exact hq.elim
end
end G
set_option Elab.async false
set_option linter.all false
set_option maxRecDepth 100000
set_option maxHeartbeats 4000000
namespace G
open PySem PySem.Spec PyProof.Rows L2
section
variable {X : Cx} {L : Lg} {elt : Expr} {ifs : List Expr} {scope : Scope} {g : V → V → En} {R : V → Lg → Prop} {q r : Addr} {xs ys : List V} {pt : Nat → Bool} {pg : Nat → V}
theorem pure_zipM (mq : (q, HO.tup xs) ∈ L) (mr : (r, HO.lst ys) ∈ L) (hl : xs.length ≤ 1000000) (ht : ∀ i x y, xs[i]? = some x → ys[i]? = some y → TurnP X scope ifs elt L (g x y) (pt i) (pg i)) (h : ∀ D, R (.ref D) ((D, .lst (((List.range (min xs.length ys.length)).filter pt).map pg)) :: L)) :
    PureL X scope ifs elt (stTwo g) R ⟨min xs.length ys.length, fun M => (q, HO.tup xs) ∈ M ∧ (r, HO.lst ys) ∈ M, itemPr (fun i => xs[i]?) (fun i => ys[i]?)⟩ L := by
  refine ⟨pt, pg, ⟨Nat.le_trans (Nat.min_le_left _ _) hl, fun M h => ⟨h _ mq, h _ mr⟩, fun i x E D acc M hi it _ s => ?_⟩, h⟩
  obtain ⟨T, a, b, rfl, rfl, ea, eb⟩ := it
  exact ⟨T, a, b, rfl, mem0, turnP_use (st := stTwo g) (ht i a b ea eb) (s.trans Sub.drop)⟩
end
/-- one item cut out of a list -/
theorem cut_one {xs : List V} {i : Nat} {v : V} (h : xs[i]? = some v) : cutV xs (some (i : Int)) (some ((i : Int) + 1)) = [v] := by
  obtain ⟨hi, rfl⟩ := List.getElem?_eq_some_iff.mp h
  unfold cutV
  rw [show ((i : Int) + 1) = ((i + 1 : Nat) : Int) from rfl, HT.sIx_nat, HT.sIx_nat, Nat.min_eq_left (by omega), Nat.min_eq_left (by omega), show i + 1 - i = 1 by omega, List.drop_eq_getElem_cons hi]
  rfl
section
variable {X : Cx} {η : En} {L : Lg} {e : Expr} {pos : Pos}
/-- a text in an f-string, with the length so far -/
theorem gjs_S {acc : Str} {n k : Nat} {r : List Expr} {Q : Str → Lg → Prop} (ha : acc.length ≤ n) (hn : n + k ≤ 10000000) (h : GE X e η L fun x L1 => ∃ y : Str, x = .str y ∧ y.length ≤ k ∧ GJs X r η (acc ++ y) L1 Q) : GJs X (.FormattedValue e (-1) none pos :: r) η acc L Q :=
  ge_fmtS (h.imp fun x L1 ⟨y, ex, hy, q⟩ => ⟨y, ex, by rw [sizeLine_eq]; omega, _, rfl, by rw [sizeLine_eq, Str.length_append]; omega, q⟩)
end
end G
set_option Elab.async false
set_option linter.all false
set_option maxRecDepth 100000
set_option maxHeartbeats 4000000
namespace G
open PySem PySem.Spec PyProof.Rows L2
section
variable {prog : Program} {w : World} {A : Around} {E : Value → Shared → Prop} {s : Shared} {l : Addr} {its : List Value} {ns : List Int} {Q : Value → Shared → Prop}
theorem maxT_raw (hh : A.handled = none) (hl : s.heap.IsTuple l its.toArray) (hi : IntsAre its ns) (hne : 0 < ns.length)
    (h : ∀ h' tk M t', (∀ b o, s.heap.get? b = some o → h'.get? b = some o) → M ∈ ns → (∀ a, a ∈ ns → a ≤ M) → Q (.int M t') { s with heap := h', toks := tk }) : wpAny (model prog w) A (call (.builtin "max") [.ref l]) Q E s := by
  obtain ⟨xs, e⟩ := hi.allInts.items
  have hn : numsOf (intItems xs).toList = ns := by rw [← e]; exact hi.numsOf
  rw [nums_intItems] at hn
  subst hn
  rw [e] at hl
  have hsz : 0 < xs.size := by simpa using hne
  have hlt : l < s.heap.objs.size := by obtain ⟨_, e, _⟩ := hl; exact Heap.lt_size e
  refine call_max_walk (wpAny_pyIter_tuple hl ?_)
  refine ⟨_, _, _, _, _, _, _, rfl, Walks.tuple (A := A.in1) hh s.heap.objs.size l (Nat.ne_of_lt hlt) (intItems xs), ⟨⟨_, Heap.get?_push_size _ rfl, rfl, rfl⟩, hl.push _⟩, fun b hb => ?_, by simpa [intItems] using hsz, CmpOf.ints_gt (numAt xs) (fun _ _ => intItems_at), fun v h' tk hP hk => ?_⟩
  · show b < (s.heap.push _).objs.size
    rw [Heap.size_push]
    rcases List.mem_cons.mp hb with rfl | hb
    · exact Nat.lt_succ_self _
    · rcases List.mem_cons.mp hb with rfl | hb
      · exact Nat.lt_succ_of_lt hlt
      · cases hb
  have hv : (intItems xs)[argBest (fun i j => decide (numAt xs i > numAt xs j)) (xs.size - 1)]? = some v := by simpa [intItems] using hP
  obtain ⟨t, rfl⟩ := intItems_at hv
  obtain ⟨h1, h2⟩ := argBest_gt (numAt xs) (xs.size - 1)
  refine h h' tk _ t (fun b o e => ?_) ?_ fun a ha => ?_
  · refine hk b o (fun hm => ?_) (Heap.get?_push_of_some _ e)
    rcases List.mem_cons.mp hm with e1 | hm
    · exact absurd (e1 ▸ Heap.lt_size e) (Nat.lt_irrefl _)
    · cases hm
  · rw [numAt_eq]; exact PySem.getD_mem (by rw [List.length_map, Array.length_toList]; omega)
  · obtain ⟨j, hj, rfl⟩ := mem_getD ha
    rw [List.length_map, Array.length_toList] at hj
    rw [← numAt_eq]; exact h2 j (by omega)
end
section
variable {X : Cx} {L : Lg} {Q : QV} {q : Addr}
theorem gc_maxT {ns : List Int} (hc : X.calm = true) (m : (q, HO.tup (ns.map V.int)) ∈ L) (h0 : 0 < ns.length) (h : ∀ r, r ∈ ns → (∀ y ∈ ns, y ≤ r) → Q (.int r) L) : GC X (.builtin "max") [.ref q] L Q := fun pins s σ H us hH I rr => by
  rw [Vals.ref1 rr]
  obtain ⟨its, rv, hl, _⟩ := I.tuple (sqt hH m)
  exact maxT_raw (I.ok.hd hc) hl rv.ints h0 fun h' tk r t' hk h1 h2 => ⟨.int _, H, I.kept hk, ⟨_, rfl⟩, L, hH, h r h1 h2⟩
end
end G
local macro_rules | `(tactic| tm_at "g_at") => `(tactic| first | with_reducible apply G.At.here | (with_reducible apply G.At.there; tm_at "g_at"))
local macro_rules | `(tactic| tm_at "g_put") => `(tactic| first | with_reducible apply G.PutF.here | (with_reducible apply G.PutF.there; tm_at "g_put"))
local macro_rules | `(tactic| tm_at "g_pv") => `(tactic| first | with_reducible apply G.Put.here | (with_reducible apply G.Put.there; tm_at "g_pv"))
local macro_rules | `(tactic| tm_at "g_mem") => `(tactic| first | with_reducible apply G.mem0 | (with_reducible apply G.memS; tm_at "g_mem") | (with_reducible apply G.memR; tm_at "g_mem") | with_reducible assumption)
local macro_rules | `(tactic| tm_at "g_memd") => `(tactic| first | apply G.mem0 | (apply G.memS; tm_at "g_memd") | (with_reducible apply G.memR; tm_at "g_memd"))
local macro_rules | `(tactic| tm_at "g_swap") => `(tactic| first | ((with_reducible apply G.Swap.here); rfl) | with_reducible assumption | ((with_reducible apply G.Swap.there); tm_at "g_swap") | ((with_reducible apply G.Swap.right); tm_at "g_swap"))
local macro_rules | `(tactic| tm_at "g_sub") => `(tactic| first | with_reducible apply G.Sub.refl | (refine G.Sub.trans ?_ G.Sub.drop; tm_at "g_sub"))
local macro_rules | `(tactic| tm_at "g_subl") => `(tactic| first | with_reducible exact List.Sublist.refl _ | with_reducible apply List.Sublist.cons_cons | with_reducible apply List.Sublist.cons)
local macro_rules | `(tactic| tm_at "g_end") => `(tactic| (refine G.Sub.sublist ?_; repeat (first | with_reducible exact List.Sublist.refl _ | with_reducible apply List.Sublist.cons_cons | with_reducible apply List.Sublist.cons | with_reducible apply G.subl_app)))
local macro_rules | `(tactic| tm_at "g_br") => `(tactic| first | with_reducible apply G.br0 | with_reducible apply G.br1 | with_reducible apply G.br2 | with_reducible apply G.br3 | with_reducible apply G.br4 | with_reducible apply G.br5 | with_reducible apply G.br6)
local macro_rules | `(tactic| tm_at "g_len") => `(tactic| (intro vs L Q E h; repeat (first | (obtain ⟨e, _⟩ := h; subst e; rfl) | (obtain ⟨_, h⟩ := h))))
local macro_rules | `(tactic| tm_at "g_size") => `(tactic| first | exact G.sz1 | exact G.sz2 | exact G.sz3 | exact G.sz_le (n := 0) (by decide) | exact G.sz_le (n := 4) (by decide) | exact G.sz_le (n := 5) (by decide) | exact G.sz_le (n := 6) (by decide) | exact G.sz_le (n := 7) (by decide) | exact G.sz_le (n := 8) (by decide) | exact G.sz_le (by first | decide | omega | (simp only [List.length_append, List.length_cons, List.length_nil, List.length_map]; omega)))
/-- all steps but a test's -/
local macro_rules | `(tactic| tm_at "f_e") => `(tactic| first
  | ((with_reducible show G.GE _ (PySem.Expr.Call (PySem.Expr.Attribute _ "append" _) _ _ _) _ _ _); refine G.ge_append ?_)
  | ((with_reducible show G.GE _ (PySem.Expr.Compare _ [_, _] _ _) _ _ _); refine G.ge_chain ?_)
  | ((with_reducible show G.GE _ (PySem.Expr.Subscript _ (PySem.Expr.Slice _ _ none _) _) _ _ _); refine G.ge_sliceL ?_)
  | ((with_reducible show G.GE _ (PySem.Expr.Name _ _) _ _ _); refine G.ge_var (by tm_at "g_at") ?_)
  | ((with_reducible show G.GE _ (PySem.Expr.Dict [] [] _) _ _ _); refine G.ge_dict0 (fun p => ?_))
  | ((with_reducible show G.GE _ (PySem.Expr.Compare _ _ _ _) _ _ _); refine G.ge_cmp ?_)
  | ((with_reducible show G.GE _ (PySem.Expr.Subscript _ _ _) _ _ _); refine G.ge_ix ?_)
  | ((with_reducible show G.GE _ (PySem.Expr.Attribute _ _ _) _ _ _); refine G.ge_attr ?_))
local macro_rules | `(tactic| tm_at "f_t") => `(tactic| first
  | ((with_reducible show G.GT _ (PySem.Expr.Compare _ [_, _] _ _) _ _ _); refine G.gt_chain ?_)
  | ((with_reducible show G.GT _ (PySem.Expr.Compare _ _ _ _) _ _ _); refine G.gt_cmp ?_)
  | refine G.gt_val ?_)
local macro_rules | `(tactic| tm_at "f_s") => `(tactic| first
  | ((with_reducible show G.GS _ (PySem.Stmt.Assign [PySem.Expr.Name _ _] _ _) _ _ _); refine G.gs_set (by tm_at "g_put") ?_)
  | ((with_reducible show G.GS _ (PySem.Stmt.Assign [PySem.Expr.Tuple [PySem.Expr.Name _ _, PySem.Expr.Name _ _] _ _] (PySem.Expr.Tuple _ _ _) _) _ _ _); refine G.gs_par (by tm_at "g_put") (fun _ => by tm_at "g_put") ?_)
  | ((with_reducible show G.GS _ (PySem.Stmt.Assign [PySem.Expr.Tuple [PySem.Expr.Name _ _, PySem.Expr.Name _ _, PySem.Expr.Name _ _] _ _] (PySem.Expr.Tuple _ _ _) _) _ _ _); refine G.gs_par3 (by tm_at "g_put") (fun _ => by tm_at "g_put") (fun _ _ => by tm_at "g_put") ?_)
  | ((with_reducible show G.GS _ (PySem.Stmt.Assign [PySem.Expr.Attribute _ _ _] _ _) _ _ _); refine G.gs_fld ?_)
  | ((with_reducible show G.GS _ (PySem.Stmt.Assign _ _ _) _ _ _); refine G.gs_asg ?_)
  | ((with_reducible show G.GS _ (PySem.Stmt.AugAssign _ _ _ _) _ _ _); refine G.gs_aug (by tm_at "g_at") (by tm_at "g_put") ?_)
  | ((with_reducible show G.GS _ (PySem.Stmt.Expr _ _) _ _ _); refine G.gs_expr ?_))
local macro_rules | `(tactic| tm_at "f_c") => `(tactic| first
  | ((with_reducible show G.GC _ (PySem.Value.builtin "len") _ _ _); first | refine G.gc_lenL (by tm_at "g_mem") ?_ | refine G.gc_lenT (by tm_at "g_mem") ?_)
  | ((with_reducible show G.GC _ (PySem.Value.builtin "min") [L2.V.int _, L2.V.int _] _ _); refine G.gc_min2 rfl ?_)
  | ((with_reducible show G.GC _ (PySem.Value.builtin "max") [L2.V.int _, L2.V.int _] _ _); refine G.gc_max2 rfl ?_))
local macro_rules | `(tactic| tm_at "f_g") => `(tactic| first
  | ((with_reducible show G.GG _ (PySem.Expr.Name _ _) _ _ _ _); refine G.gg_name (by tm_at "g_pv") ?_)
  | ((with_reducible show G.GG _ (PySem.Expr.Tuple _ _ _) _ _ _ _); refine G.gg_tup (by tm_at "g_mem") ?_)
  | ((with_reducible show G.GG _ (PySem.Expr.Subscript _ _ _) _ _ _ _); refine G.gg_sub ?_))
local macro_rules | `(tactic| tm_at "f_st") => `(tactic| first
  | refine G.gst_30 (by tm_at "g_mem") (by tm_at "g_swap") ?_
  | refine G.gst_31 (by tm_at "g_mem") (by tm_at "g_swap") ?_
  | refine G.gst_32 (by tm_at "g_mem") (by tm_at "g_swap") ?_)
local macro_rules | `(tactic| tm_at "f_i") => `(tactic| first
  | ((with_reducible show ∃ _, _ = _ ∧ _); with_reducible refine ⟨_, rfl, ?_⟩)
  | ((with_reducible show ∃ _ _, _ = _ ∧ _ ∈ _ ∧ _); refine ⟨_, _, rfl, (by tm_at "g_mem"), ?_⟩)
  | ((with_reducible show ∃ _ _, _ ∈ _ ∧ _ < _ ∧ _); refine ⟨_, _, (by tm_at "g_mem"), (by exact G.sz_lt (by simp only [List.length_append, List.length_cons, List.length_nil, List.length_map]; omega)), (by tm_at "g_swap"), ?_⟩)
  | ((with_reducible show ∃ _ _, _ = _ ∧ _); with_reducible refine ⟨_, _, rfl, ?_⟩)
  | ((with_reducible show ∃ _ _ _, _ = _ ∧ _); with_reducible refine ⟨_, _, _, rfl, ?_⟩))
local macro_rules | `(tactic| tm_at "f_a") => `(tactic| first
  | ((with_reducible show G.GA _ (PySem.Expr.Starred _ _ :: _) _ _ _); refine G.ga_star ?_)
  | refine G.ga_cons ?_)
local macro_rules | `(tactic| tm_at "f_k") => `(tactic| first
  | ((with_reducible show G.GK _ (_ :: _) _ _ _); refine G.gk_cons ?_)
  | ((with_reducible show G.GK _ [] _ _ _); refine G.gk_nil ?_)
  | ((with_reducible show G.GGs _ (_ :: _) _ _ _ _); refine G.ggs_cons ?_))
local macro_rules | `(tactic| tm_at "f1") => `(tactic| first
  | ((with_reducible apply G.isE); tm_at "f_e")
  | ((with_reducible apply G.isS); tm_at "f_s")
  | ((with_reducible apply G.isAt); refine G.gat_fldA (by tm_at "g_mem") (by assumption) (by assumption) (by exact rfl) ?_)
  | ((with_reducible apply G.isIx); first | refine G.gi_lst (by tm_at "g_mem") (by exact rfl) ?_ | refine G.gi_tup (by tm_at "g_mem") (by exact rfl) ?_)
  | ((with_reducible apply G.isT); tm_at "f_t")
  | ((with_reducible apply G.isC); tm_at "f_c")
  | ((with_reducible apply G.isG); tm_at "f_g")
  | ((with_reducible apply G.isA); tm_at "f_a")
  | ((with_reducible apply G.isSt); tm_at "f_st")
  | tm_at "f_i"
  | tm_at "f_k")
local macro_rules | `(tactic| tm_at "gx1") => `(tactic| first
  | refine G.St.to ?_
  | ((with_reducible show _ ∧ _); refine ⟨(by tm_at "g_size"), fun p => ?_⟩)
  | refine G.StB.to (by assumption) ⟨rfl, rfl⟩ ?_
  | tm_at "f1")
local macro_rules | `(tactic| tm_at "g1") => `(tactic| first
  | refine G.St.to ?_
  | with_reducible apply G.gs_if
  | ((with_reducible show _ ∧ _); refine ⟨(by tm_at "g_size"), fun p => ?_⟩)
  | refine G.StB.to (by assumption) ⟨rfl, rfl⟩ ?_
  | tm_at "f1")
local macro_rules | `(tactic| tm_at "g") => `(tactic| repeat (tm_at "g1"; try dsimp only [G.bodyD]))
local macro_rules | `(tactic| tm_at "gx") => `(tactic| repeat (tm_at "gx1"; try dsimp only [G.bodyD]))
local macro_rules | `(tactic| tm_at "g_rot") => `(tactic| first | with_reducible apply G.Sub.refl | (with_reducible apply G.rotStep; tm_at "g_rot") | (with_reducible apply G.rotApp; tm_at "g_rot"))
/-- what a draw is shown of; then intro d n m d0 d1 a0 a1 a2 -/
local macro_rules | `(tactic| tm_at "g_dr") => `(tactic| refine ⟨_, _, _, _, _, _, _, rfl, by tm_at "g_rot", by assumption, by omega, by omega, by omega, by omega, by omega, ?_⟩)
local macro_rules | `(tactic| tm_at "g_draw") => `(tactic| (refine G.ge_call (El := G.NoX) (by assumption) (by assumption) G.passA ?_; tm_at "g"; tm_at "g_dr"))
/-- what a pick is shown of; then intro k x n m hx a0 a1 a2 -/
local macro_rules | `(tactic| tm_at "g_pk") => `(tactic| refine ⟨_, _, _, _, _, _, _, _, rfl, by tm_at "g_rot", by tm_at "g_mem", by assumption, by first | exact Nat.le_of_ble_eq_true rfl | (simp only [List.length_append, List.length_cons, List.length_nil, List.length_map]; omega), by first | exact Nat.le_of_ble_eq_true rfl | (simp only [List.length_append, List.length_cons, List.length_nil, List.length_map]; omega), by omega, by omega, by omega, ?_⟩)
namespace T
open PySem PySem.Spec PyProof.Rows L2 G
namespace Tx
open PySem NumText L2 TL
abbrev isFig (c : Nat) : Bool := decide (c ∈ (Str.ofString "0123456789").cps.toList)
theorem isFig_iff {c : Nat} : isFig c = true ↔ 48 ≤ c ∧ c ≤ 57 := by
  unfold isFig
  rw [decide_eq_true_iff, show (Str.ofString "0123456789").cps.toList = [48, 49, 50, 51, 52, 53, 54, 55, 56, 57] by decide +kernel]
  simp only [List.mem_cons, List.not_mem_nil, or_false]
  omega
theorem all_fig {l : List Nat} : l.all isFig = true ↔ AllDigits l := by
  rw [List.all_eq_true]
  exact ⟨fun h c hc => isFig_iff.mp (h c hc), fun h c hc => isFig_iff.mpr (h c hc)⟩
/-- the number that a word writes as str does -/
def wholeS (z : Str) : Option Nat :=
  if 1 ≤ z.length ∧ z.length ≤ 120 ∧ z.cps.toList.all isFig = true then
    (if z.cps.toList.head? = some 48 ∧ 1 < z.length then none else some (digitsVal z.cps.toList)) else none
theorem len_cps (z : Str) : z.length = z.cps.toList.length := by simp [Str.length]
theorem whole_num {n : Nat} (h : (numL n).length ≤ 120) : wholeS (Str.ofString (toString ((n : Nat) : Int))) = some n := by
  have e : (Str.ofString (toString ((n : Nat) : Int))).cps.toList = numL n := tl_num n
  have ln : (numL n) ≠ [] := numL_ne n
  have lp : 1 ≤ (numL n).length := List.length_pos_iff.mpr ln
  unfold wholeS
  rw [len_cps, e, if_pos ⟨lp, h, all_fig.mpr (numL_digits n)⟩, if_neg fun z => ?_, numL_val]
  obtain ⟨z1, z2⟩ := z
  rcases Nat.lt_or_ge n 10 with c | c
  · rw [numL_lt c] at z2
    exact absurd z2 (by simp)
  · -- the first figure of a number of two or more is no 0
    have key : ∀ m : Nat, 10 ≤ m → (numL m).head? ≠ some 48 := fun m => by
      induction m using Nat.strongRecOn with
      | _ m ih =>
        intro hm e
        have hh : (numL (m / 10) ++ [48 + m % 10]).head? = (numL (m / 10)).head? := by
          have := numL_ne (m / 10)
          cases hq : numL (m / 10) with
          | nil => exact absurd hq this
          | cons a b => rfl
        rw [numL_step hm, hh] at e
        rcases Nat.lt_or_ge (m / 10) 10 with q | q
        · rw [numL_lt q, List.head?_cons] at e
          have := Option.some.inj e
          omega
        · exact ih (m / 10) (by omega) q e
    exact key n c z1
/-- the number at a word, within bounds -/
def numS (z : Str) (least most : Nat) : Option Nat := (wholeS z).bind fun n => if least ≤ n ∧ n ≤ most then some n else none
def numW (ws : List Str) (at_ least most : Nat) : Option Nat := ws[at_]?.bind fun z => numS z least most
end Tx
def top (i : Nat) : Stmt := PySem.Challenge.pw_wheelreach_k74_trains_made_and_read.main.body.getD i (.Pass ⟨0, 0, 0, 0⟩)
abbrev s_BadNumber_init : Stmt := clsAt (top 2) 0
abbrev N_BadNumber_init : List Str := ["self", "value", "__class__"]
theorem sc_BadNumber_init : NdefX.NScope N_BadNumber_init ["self", "value"] ["__class__"] (defScope s_BadNumber_init) := NdefX.nscope_by (by decide +kernel)
abbrev s_BadValue_init : Stmt := clsAt (top 3) 0
abbrev N_BadValue_init : List Str := ["self", "value", "__class__"]
theorem sc_BadValue_init : NdefX.NScope N_BadValue_init ["self", "value"] ["__class__"] (defScope s_BadValue_init) := NdefX.nscope_by (by decide +kernel)
abbrev s_BadGear_init : Stmt := clsAt (top 4) 0
abbrev N_BadGear_init : List Str := ["self", "at", "__class__"]
theorem sc_BadGear_init : NdefX.NScope N_BadGear_init ["self", "at"] ["__class__"] (defScope s_BadGear_init) := NdefX.nscope_by (by decide +kernel)
abbrev s_BadText_init : Stmt := clsAt (top 5) 0
abbrev N_BadText_init : List Str := ["self", "line", "word", "__class__"]
theorem sc_BadText_init : NdefX.NScope N_BadText_init ["self", "line", "word"] ["__class__"] (defScope s_BadText_init) := NdefX.nscope_by (by decide +kernel)
abbrev s_NoPlace_init : Stmt := clsAt (top 6) 0
abbrev N_NoPlace_init : List Str := ["self", "at", "__class__"]
theorem sc_NoPlace_init : NdefX.NScope N_NoPlace_init ["self", "at"] ["__class__"] (defScope s_NoPlace_init) := NdefX.nscope_by (by decide +kernel)
abbrev s_TooMany_init : Stmt := clsAt (top 7) 0
abbrev N_TooMany_init : List Str := ["self", "what", "most", "__class__"]
theorem sc_TooMany_init : NdefX.NScope N_TooMany_init ["self", "what", "most"] ["__class__"] (defScope s_TooMany_init) := NdefX.nscope_by (by decide +kernel)
abbrev s_Train_init : Stmt := clsAt (top 31) 0
abbrev N_Train_init : List Str := ["self", "period", "slip", "gears", "periods", "slips", "at", "gear", "on", "driving", "driven", "top", "bottom", "bottoms"]
theorem sc_Train_init : FnScope N_Train_init ["self", "period", "slip", "gears"] (defScope s_Train_init) := ⟨rfl, rfl, rfl, by decide +kernel, rfl, by decide +kernel, by decide +kernel⟩
instance : G.NdI N_Train_init := ⟨sc_Train_init.nd⟩
instance : G.OkL (defScope s_Train_init) ["self", "period", "slip", "gears", "periods", "slips", "at", "gear", "on", "driving", "driven", "top", "bottom", "bottoms"] := ⟨by decide +kernel⟩
abbrev s_Train_read : Stmt := clsAt (top 31) 1
abbrev N_Train_read : List Str := ["text"]
theorem sc_Train_read : FnScope N_Train_read ["text"] (defScope s_Train_read) := ⟨rfl, rfl, rfl, by decide +kernel, rfl, by decide +kernel, by decide +kernel⟩
instance : G.NdI N_Train_read := ⟨sc_Train_read.nd⟩
instance : G.OkL (defScope s_Train_read) ["text"] := ⟨by decide +kernel⟩
abbrev s_Train_again : Stmt := clsAt (top 31) 2
abbrev N_Train_again : List Str := ["self", "tops", "top", "bottom"]
theorem sc_Train_again : FnScope N_Train_again ["self"] (defScope s_Train_again) := ⟨rfl, rfl, rfl, by decide +kernel, rfl, by decide +kernel, by decide +kernel⟩
instance : G.NdI N_Train_again := ⟨sc_Train_again.nd⟩
instance : G.OkL (defScope s_Train_again) ["self", "tops"] := ⟨by decide +kernel⟩
abbrev s_Train_stands : Stmt := clsAt (top 31) 3
abbrev N_Train_stands : List Str := ["self", "value", "top", "bottom"]
theorem sc_Train_stands : FnScope N_Train_stands ["self", "value"] (defScope s_Train_stands) := ⟨rfl, rfl, rfl, by decide +kernel, rfl, by decide +kernel, by decide +kernel⟩
instance : G.NdI N_Train_stands := ⟨sc_Train_stands.nd⟩
instance : G.OkL (defScope s_Train_stands) ["self", "value"] := ⟨by decide +kernel⟩
abbrev s_Train_len : Stmt := clsAt (top 31) 4
abbrev N_Train_len : List Str := ["self"]
theorem sc_Train_len : FnScope N_Train_len ["self"] (defScope s_Train_len) := ⟨rfl, rfl, rfl, by decide +kernel, rfl, by decide +kernel, by decide +kernel⟩
instance : G.NdI N_Train_len := ⟨sc_Train_len.nd⟩
instance : G.OkL (defScope s_Train_len) ["self"] := ⟨by decide +kernel⟩
abbrev s_Train_iter : Stmt := clsAt (top 31) 5
abbrev N_Train_iter : List Str := ["self"]
theorem sc_Train_iter : FnScope N_Train_iter ["self"] (defScope s_Train_iter) := ⟨rfl, rfl, rfl, by decide +kernel, rfl, by decide +kernel, by decide +kernel⟩
instance : G.NdI N_Train_iter := ⟨sc_Train_iter.nd⟩
instance : G.OkL (defScope s_Train_iter) ["self"] := ⟨by decide +kernel⟩
abbrev s_Train_getitem : Stmt := clsAt (top 31) 6
abbrev N_Train_getitem : List Str := ["self", "i"]
theorem sc_Train_getitem : FnScope N_Train_getitem ["self", "i"] (defScope s_Train_getitem) := ⟨rfl, rfl, rfl, by decide +kernel, rfl, by decide +kernel, by decide +kernel⟩
instance : G.NdI N_Train_getitem := ⟨sc_Train_getitem.nd⟩
instance : G.OkL (defScope s_Train_getitem) ["self", "i"] := ⟨by decide +kernel⟩
abbrev s_Train_add : Stmt := clsAt (top 31) 7
abbrev N_Train_add : List Str := ["self", "gear", "gears", "slip", "period"]
theorem sc_Train_add : FnScope N_Train_add ["self", "gear"] (defScope s_Train_add) := ⟨rfl, rfl, rfl, by decide +kernel, rfl, by decide +kernel, by decide +kernel⟩
instance : G.NdI N_Train_add := ⟨sc_Train_add.nd⟩
instance : G.OkL (defScope s_Train_add) ["self", "gear", "gears", "slip", "period"] := ⟨by decide +kernel⟩
abbrev s_Train_eq : Stmt := clsAt (top 31) 8
abbrev N_Train_eq : List Str := ["self", "other"]
theorem sc_Train_eq : FnScope N_Train_eq ["self", "other"] (defScope s_Train_eq) := ⟨rfl, rfl, rfl, by decide +kernel, rfl, by decide +kernel, by decide +kernel⟩
instance : G.NdI N_Train_eq := ⟨sc_Train_eq.nd⟩
instance : G.OkL (defScope s_Train_eq) ["self", "other"] := ⟨by decide +kernel⟩
abbrev s_Train_str : Stmt := clsAt (top 31) 9
abbrev N_Train_str : List Str := ["self", "slips", "texts", "top", "bottom", "gear", "slip"]
theorem sc_Train_str : FnScope N_Train_str ["self"] (defScope s_Train_str) := ⟨rfl, rfl, rfl, by decide +kernel, rfl, by decide +kernel, by decide +kernel⟩
instance : G.NdI N_Train_str := ⟨sc_Train_str.nd⟩
instance : G.OkL (defScope s_Train_str) ["self", "slips", "texts"] := ⟨by decide +kernel⟩
abbrev s_is_whole : Stmt := top 9
abbrev N_is_whole : List Str := ["value"]
theorem sc_is_whole : FnScope N_is_whole ["value"] (defScope s_is_whole) := ⟨rfl, rfl, rfl, by decide +kernel, rfl, by decide +kernel, by decide +kernel⟩
instance : G.NdI N_is_whole := ⟨sc_is_whole.nd⟩
instance : G.OkL (defScope s_is_whole) ["value"] := ⟨by decide +kernel⟩
abbrev s_need_whole : Stmt := top 10
abbrev N_need_whole : List Str := ["value"]
theorem sc_need_whole : FnScope N_need_whole ["value"] (defScope s_need_whole) := ⟨rfl, rfl, rfl, by decide +kernel, rfl, by decide +kernel, by decide +kernel⟩
instance : G.NdI N_need_whole := ⟨sc_need_whole.nd⟩
instance : G.OkL (defScope s_need_whole) ["value"] := ⟨by decide +kernel⟩
abbrev s_need_above : Stmt := top 11
abbrev N_need_above : List Str := ["value"]
theorem sc_need_above : FnScope N_need_above ["value"] (defScope s_need_above) := ⟨rfl, rfl, rfl, by decide +kernel, rfl, by decide +kernel, by decide +kernel⟩
instance : G.NdI N_need_above := ⟨sc_need_above.nd⟩
instance : G.OkL (defScope s_need_above) ["value"] := ⟨by decide +kernel⟩
abbrev s_divisor_of : Stmt := top 12
abbrev N_divisor_of : List Str := ["one", "other"]
theorem sc_divisor_of : FnScope N_divisor_of ["one", "other"] (defScope s_divisor_of) := ⟨rfl, rfl, rfl, by decide +kernel, rfl, by decide +kernel, by decide +kernel⟩
instance : G.NdI N_divisor_of := ⟨sc_divisor_of.nd⟩
instance : G.OkL (defScope s_divisor_of) ["one", "other"] := ⟨by decide +kernel⟩
abbrev s_common : Stmt := top 13
abbrev N_common : List Str := ["numbers", "number", "found"]
theorem sc_common : FnScope N_common ["numbers"] (defScope s_common) := ⟨rfl, rfl, rfl, by decide +kernel, rfl, by decide +kernel, by decide +kernel⟩
instance : G.NdI N_common := ⟨sc_common.nd⟩
instance : G.OkL (defScope s_common) ["numbers", "number", "found"] := ⟨by decide +kernel⟩
abbrev s_multiple : Stmt := top 14
abbrev N_multiple : List Str := ["numbers", "number", "found"]
theorem sc_multiple : FnScope N_multiple ["numbers"] (defScope s_multiple) := ⟨rfl, rfl, rfl, by decide +kernel, rfl, by decide +kernel, by decide +kernel⟩
instance : G.NdI N_multiple := ⟨sc_multiple.nd⟩
instance : G.OkL (defScope s_multiple) ["numbers", "number", "found"] := ⟨by decide +kernel⟩
abbrev s_whole_of : Stmt := top 18
abbrev N_whole_of : List Str := ["word", "sign"]
theorem sc_whole_of : FnScope N_whole_of ["word"] (defScope s_whole_of) := ⟨rfl, rfl, rfl, by decide +kernel, rfl, by decide +kernel, by decide +kernel⟩
instance : G.NdI N_whole_of := ⟨sc_whole_of.nd⟩
instance : G.OkL (defScope s_whole_of) ["word"] := ⟨by decide +kernel⟩
abbrev s_number_at : Stmt := top 19
abbrev N_number_at : List Str := ["words", "at", "least", "most", "found"]
theorem sc_number_at : FnScope N_number_at ["words", "at", "least", "most"] (defScope s_number_at) := ⟨rfl, rfl, rfl, by decide +kernel, rfl, by decide +kernel, by decide +kernel⟩
instance : G.NdI N_number_at := ⟨sc_number_at.nd⟩
instance : G.OkL (defScope s_number_at) ["words", "at", "least", "most", "found"] := ⟨by decide +kernel⟩
abbrev s_need_word : Stmt := top 20
abbrev N_need_word : List Str := ["words", "at", "word"]
theorem sc_need_word : FnScope N_need_word ["words", "at", "word"] (defScope s_need_word) := ⟨rfl, rfl, rfl, by decide +kernel, rfl, by decide +kernel, by decide +kernel⟩
instance : G.NdI N_need_word := ⟨sc_need_word.nd⟩
instance : G.OkL (defScope s_need_word) ["words", "at", "word"] := ⟨by decide +kernel⟩
abbrev s_words_of : Stmt := top 21
abbrev N_words_of : List Str := ["text"]
theorem sc_words_of : FnScope N_words_of ["text"] (defScope s_words_of) := ⟨rfl, rfl, rfl, by decide +kernel, rfl, by decide +kernel, by decide +kernel⟩
instance : G.NdI N_words_of := ⟨sc_words_of.nd⟩
instance : G.OkL (defScope s_words_of) ["text"] := ⟨by decide +kernel⟩
abbrev s_need_end : Stmt := top 22
abbrev N_need_end : List Str := ["words", "at"]
theorem sc_need_end : FnScope N_need_end ["words", "at"] (defScope s_need_end) := ⟨rfl, rfl, rfl, by decide +kernel, rfl, by decide +kernel, by decide +kernel⟩
instance : G.NdI N_need_end := ⟨sc_need_end.nd⟩
instance : G.OkL (defScope s_need_end) ["words", "at"] := ⟨by decide +kernel⟩
abbrev s_is_between : Stmt := top 27
abbrev N_is_between : List Str := ["value", "least", "most"]
theorem sc_is_between : FnScope N_is_between ["value", "least", "most"] (defScope s_is_between) := ⟨rfl, rfl, rfl, by decide +kernel, rfl, by decide +kernel, by decide +kernel⟩
instance : G.NdI N_is_between := ⟨sc_is_between.nd⟩
instance : G.OkL (defScope s_is_between) ["value", "least", "most"] := ⟨by decide +kernel⟩
abbrev s_is_fraction : Stmt := top 28
abbrev N_is_fraction : List Str := ["value"]
theorem sc_is_fraction : FnScope N_is_fraction ["value"] (defScope s_is_fraction) := ⟨rfl, rfl, rfl, by decide +kernel, rfl, by decide +kernel, by decide +kernel⟩
instance : G.NdI N_is_fraction := ⟨sc_is_fraction.nd⟩
instance : G.OkL (defScope s_is_fraction) ["value"] := ⟨by decide +kernel⟩
abbrev s_lowest : Stmt := top 29
abbrev N_lowest : List Str := ["top", "bottom", "shared"]
theorem sc_lowest : FnScope N_lowest ["top", "bottom"] (defScope s_lowest) := ⟨rfl, rfl, rfl, by decide +kernel, rfl, by decide +kernel, by decide +kernel⟩
instance : G.NdI N_lowest := ⟨sc_lowest.nd⟩
instance : G.OkL (defScope s_lowest) ["top", "bottom", "shared"] := ⟨by decide +kernel⟩
abbrev s_need_gear : Stmt := top 30
abbrev N_need_gear : List Str := ["gear", "at"]
theorem sc_need_gear : FnScope N_need_gear ["gear", "at"] (defScope s_need_gear) := ⟨rfl, rfl, rfl, by decide +kernel, rfl, by decide +kernel, by decide +kernel⟩
instance : G.NdI N_need_gear := ⟨sc_need_gear.nd⟩
instance : G.OkL (defScope s_need_gear) ["gear", "at"] := ⟨by decide +kernel⟩
abbrev s_fraction_at : Stmt := top 32
abbrev N_fraction_at : List Str := ["words", "at", "top", "bottom"]
theorem sc_fraction_at : FnScope N_fraction_at ["words", "at"] (defScope s_fraction_at) := ⟨rfl, rfl, rfl, by decide +kernel, rfl, by decide +kernel, by decide +kernel⟩
instance : G.NdI N_fraction_at := ⟨sc_fraction_at.nd⟩
instance : G.OkL (defScope s_fraction_at) ["words", "at", "top", "bottom"] := ⟨by decide +kernel⟩
abbrev s_read_train : Stmt := top 33
abbrev N_read_train : List Str := ["text", "words", "period", "slip", "gears", "at", "on", "driving", "driven"]
theorem sc_read_train : FnScope N_read_train ["text"] (defScope s_read_train) := ⟨rfl, rfl, rfl, by decide +kernel, rfl, by decide +kernel, by decide +kernel⟩
instance : G.NdI N_read_train := ⟨sc_read_train.nd⟩
instance : G.OkL (defScope s_read_train) ["text", "words", "period", "slip", "gears", "at", "on", "driving", "driven"] := ⟨by decide +kernel⟩
abbrev s_law_pen : Stmt := top 35
abbrev N_law_pen : List Str := ["_law_script"]
theorem sc_law_pen : FnScope N_law_pen ["_law_script"] (defScope s_law_pen) := ⟨rfl, rfl, rfl, by decide +kernel, rfl, by decide +kernel, by decide +kernel⟩
instance : G.NdI N_law_pen := ⟨sc_law_pen.nd⟩
instance : G.OkL (defScope s_law_pen) ["_law_script"] := ⟨by decide +kernel⟩
abbrev s_law_draw : Stmt := top 36
abbrev N_law_draw : List Str := ["_law_pen_here", "_law_many", "_law_digit", "_law_begun", "_law_lone", "_law_great", "_law_mixed"]
theorem sc_law_draw : FnScope N_law_draw ["_law_pen_here", "_law_many"] (defScope s_law_draw) := ⟨rfl, rfl, rfl, by decide +kernel, rfl, by decide +kernel, by decide +kernel⟩
instance : G.NdI N_law_draw := ⟨sc_law_draw.nd⟩
instance : G.OkL (defScope s_law_draw) ["_law_pen_here", "_law_many", "_law_digit", "_law_begun", "_law_lone", "_law_great", "_law_mixed"] := ⟨by decide +kernel⟩
abbrev s_law_pick : Stmt := top 37
abbrev N_law_pick : List Str := ["_law_pen_here", "_law_some"]
theorem sc_law_pick : FnScope N_law_pick ["_law_pen_here", "_law_some"] (defScope s_law_pick) := ⟨rfl, rfl, rfl, by decide +kernel, rfl, by decide +kernel, by decide +kernel⟩
instance : G.NdI N_law_pick := ⟨sc_law_pick.nd⟩
instance : G.OkL (defScope s_law_pick) ["_law_pen_here", "_law_some"] := ⟨by decide +kernel⟩
abbrev s_law_shared : Stmt := top 38
abbrev N_law_shared : List Str := ["_law_one", "_law_other", "_law_first", "_law_last"]
theorem sc_law_shared : FnScope N_law_shared ["_law_one", "_law_other"] (defScope s_law_shared) := ⟨rfl, rfl, rfl, by decide +kernel, rfl, by decide +kernel, by decide +kernel⟩
instance : G.NdI N_law_shared := ⟨sc_law_shared.nd⟩
instance : G.OkL (defScope s_law_shared) ["_law_one", "_law_other", "_law_first", "_law_last"] := ⟨by decide +kernel⟩
abbrev s_law_lowest : Stmt := top 39
abbrev N_law_lowest : List Str := ["_law_top", "_law_bottom", "_law_shared_here"]
theorem sc_law_lowest : FnScope N_law_lowest ["_law_top", "_law_bottom"] (defScope s_law_lowest) := ⟨rfl, rfl, rfl, by decide +kernel, rfl, by decide +kernel, by decide +kernel⟩
instance : G.NdI N_law_lowest := ⟨sc_law_lowest.nd⟩
instance : G.OkL (defScope s_law_lowest) ["_law_top", "_law_bottom", "_law_shared_here"] := ⟨by decide +kernel⟩
abbrev s_law_multiple : Stmt := top 40
abbrev N_law_multiple : List Str := ["_law_numbers", "_law_found", "_law_number"]
theorem sc_law_multiple : FnScope N_law_multiple ["_law_numbers"] (defScope s_law_multiple) := ⟨rfl, rfl, rfl, by decide +kernel, rfl, by decide +kernel, by decide +kernel⟩
instance : G.NdI N_law_multiple := ⟨sc_law_multiple.nd⟩
instance : G.OkL (defScope s_law_multiple) ["_law_numbers", "_law_found", "_law_number"] := ⟨by decide +kernel⟩
abbrev s_law_periods : Stmt := top 41
abbrev N_law_periods : List Str := ["_law_period_here", "_law_gears_here", "_law_found", "_law_on", "_law_driving", "_law_driven", "_law_slip"]
theorem sc_law_periods : FnScope N_law_periods ["_law_period_here", "_law_gears_here"] (defScope s_law_periods) := ⟨rfl, rfl, rfl, by decide +kernel, rfl, by decide +kernel, by decide +kernel⟩
instance : G.NdI N_law_periods := ⟨sc_law_periods.nd⟩
instance : G.OkL (defScope s_law_periods) ["_law_period_here", "_law_gears_here", "_law_found", "_law_on", "_law_driving", "_law_driven", "_law_slip"] := ⟨by decide +kernel⟩
abbrev s_law_train : Stmt := top 42
abbrev N_law_train : List Str := ["_law_period_here", "_law_slip", "_law_gears_here", "_law_found", "_law_gear"]
theorem sc_law_train : FnScope N_law_train ["_law_period_here", "_law_slip", "_law_gears_here"] (defScope s_law_train) := ⟨rfl, rfl, rfl, by decide +kernel, rfl, by decide +kernel, by decide +kernel⟩
instance : G.NdI N_law_train := ⟨sc_law_train.nd⟩
instance : G.OkL (defScope s_law_train) ["_law_period_here", "_law_slip", "_law_gears_here", "_law_found", "_law_gear"] := ⟨by decide +kernel⟩
abbrev s_law_fraction : Stmt := top 43
abbrev N_law_fraction : List Str := ["_law_pen_here", "_law_some", "_law_drawn"]
theorem sc_law_fraction : FnScope N_law_fraction ["_law_pen_here"] (defScope s_law_fraction) := ⟨rfl, rfl, rfl, by decide +kernel, rfl, by decide +kernel, by decide +kernel⟩
instance : G.NdI N_law_fraction := ⟨sc_law_fraction.nd⟩
instance : G.OkL (defScope s_law_fraction) ["_law_pen_here", "_law_some", "_law_drawn"] := ⟨by decide +kernel⟩
abbrev s_law_gears : Stmt := top 44
abbrev N_law_gears : List Str := ["_law_pen_here", "_law_many", "_law_found", "_law_at", "_law_most"]
theorem sc_law_gears : FnScope N_law_gears ["_law_pen_here", "_law_many"] (defScope s_law_gears) := ⟨rfl, rfl, rfl, by decide +kernel, rfl, by decide +kernel, by decide +kernel⟩
instance : G.NdI N_law_gears := ⟨sc_law_gears.nd⟩
instance : G.OkL (defScope s_law_gears) ["_law_pen_here", "_law_many", "_law_found", "_law_at", "_law_most"] := ⟨by decide +kernel⟩
abbrev s_law_period : Stmt := top 45
abbrev N_law_period : List Str := ["_law_pen_here"]
theorem sc_law_period : FnScope N_law_period ["_law_pen_here"] (defScope s_law_period) := ⟨rfl, rfl, rfl, by decide +kernel, rfl, by decide +kernel, by decide +kernel⟩
instance : G.NdI N_law_period := ⟨sc_law_period.nd⟩
instance : G.OkL (defScope s_law_period) ["_law_pen_here"] := ⟨by decide +kernel⟩
abbrev s_law_text : Stmt := top 46
abbrev N_law_text : List Str := ["_law_period_here", "_law_slip", "_law_gears_here", "_law_words", "_law_on", "_law_driving", "_law_driven", "_law_own", "_law_part"]
theorem sc_law_text : FnScope N_law_text ["_law_period_here", "_law_slip", "_law_gears_here"] (defScope s_law_text) := ⟨rfl, rfl, rfl, by decide +kernel, rfl, by decide +kernel, by decide +kernel⟩
instance : G.NdI N_law_text := ⟨sc_law_text.nd⟩
instance : G.OkL (defScope s_law_text) ["_law_period_here", "_law_slip", "_law_gears_here", "_law_words", "_law_on", "_law_driving", "_law_driven", "_law_own"] := ⟨by decide +kernel⟩
abbrev s_law_stands : Stmt := top 47
abbrev N_law_stands : List Str := ["_law_periods_here", "_law_value", "_law_top", "_law_bottom"]
theorem sc_law_stands : FnScope N_law_stands ["_law_periods_here", "_law_value"] (defScope s_law_stands) := ⟨rfl, rfl, rfl, by decide +kernel, rfl, by decide +kernel, by decide +kernel⟩
instance : G.NdI N_law_stands := ⟨sc_law_stands.nd⟩
instance : G.OkL (defScope s_law_stands) ["_law_periods_here", "_law_value"] := ⟨by decide +kernel⟩
abbrev s_law_right : Stmt := top 48
abbrev N_law_right : List Str := ["_law_pen_here", "_law_period_here", "_law_slip", "_law_many", "_law_gears_here", "_law_train_here", "_law_periods_here", "_law_slips", "_law_again", "_law_great", "_law_value", "_law_gear", "_law_top", "_law_bottom", "_law_part", "_law_at"]
theorem sc_law_right : FnScope N_law_right ["_law_pen_here"] (defScope s_law_right) := ⟨rfl, rfl, rfl, by decide +kernel, rfl, by decide +kernel, by decide +kernel⟩
instance : G.NdI N_law_right := ⟨sc_law_right.nd⟩
instance : G.OkL (defScope s_law_right) ["_law_pen_here", "_law_period_here", "_law_slip", "_law_many", "_law_gears_here", "_law_train_here", "_law_periods_here", "_law_slips", "_law_again", "_law_great", "_law_value"] := ⟨by decide +kernel⟩
abbrev s_law_told_alike : Stmt := top 49
abbrev N_law_told_alike : List Str := ["_law_pen_here", "_law_train_here", "_law_parts", "_law_period_here", "_law_slip", "_law_gears_here", "_law_text_here", "_law_on", "_law_driving", "_law_driven", "_law_own", "_law_some", "_law_other", "_law_due", "_law_changed"]
theorem sc_law_told_alike : FnScope N_law_told_alike ["_law_pen_here", "_law_train_here", "_law_parts"] (defScope s_law_told_alike) := ⟨rfl, rfl, rfl, by decide +kernel, rfl, by decide +kernel, by decide +kernel⟩
instance : G.NdI N_law_told_alike := ⟨sc_law_told_alike.nd⟩
instance : G.OkL (defScope s_law_told_alike) ["_law_pen_here", "_law_train_here", "_law_parts", "_law_period_here", "_law_slip", "_law_gears_here", "_law_text_here", "_law_on", "_law_driving", "_law_driven", "_law_own", "_law_some", "_law_other", "_law_due", "_law_changed"] := ⟨by decide +kernel⟩
abbrev s_law : Stmt := top 50
abbrev N_law : List Str := ["_law_script", "_law_pen_here", "_law_lap", "_law_ten", "_law_one", "_law_told"]
theorem sc_law : FnScope N_law ["_law_script"] (defScope s_law) := ⟨rfl, rfl, rfl, by decide +kernel, rfl, by decide +kernel, by decide +kernel⟩
instance : G.NdI N_law := ⟨sc_law.nd⟩
instance : G.OkL (defScope s_law) ["_law_script", "_law_pen_here", "_law_lap", "_law_ten", "_law_one", "_law_told"] := ⟨by decide +kernel⟩
section
variable {P : Program} {w : World} {K : PySem.W.Frag} {mg : Str → Option Value} {base : Heap}
theorem fn_law_pen (B : Bi mg) (F : Df K mg "_law_pen" s_law_pen) : Fn P w K mg base CX0 "_law_pen" 1 (fun vs L Q _ => ∃ (a : Addr) (ns : List Int), vs = [.ref a] ∧ InL K L a (ns.map V.int) ∧ ∀ p c ms, ms.length ≤ 63 → Q (.ref p) ((p, penO c 0 0) :: (c, celO ms) :: L)) := by
  refine fn_plain F sc_law_pen (fun _ _ _ _ _ _ us hl => match us, hl with | [_], _ => rfl) (by decide) (by tm_at "g_len") ?_
  intro X f cdv A outer s H E0 L vs Q E hX nd hr h
  subst hX
  obtain ⟨a, ns, rfl, hi, q⟩ := h
  show GSs _ (defBody s_law_pen) (bodyD Q) [("_law_script", some (.ref a))] L
  refine gss_cons ?_
  tm_at "g"
  refine ⟨a, ns.map V.int, rfl, ?_⟩
  show GE _ _ _ _ _
  tm_at "g"
  refine ⟨hi, fun q1 => ?_⟩
  obtain ⟨ms, hm, em⟩ := cut63 (ns := ns)
  rw [em]
  tm_at "g"
  refine gc_list mem0 fun c => ?_
  tm_at "g"

  exact ⟨_, Sub.sublist (((List.sublist_cons_self _ _).cons_cons _).cons_cons _), q _ c ms hm⟩
theorem fn_law_draw (B : Bi mg) (F : Df K mg "_law_draw" s_law_draw) : Fn P w K mg base CX0 "_law_draw" 1 spDraw := by
  refine fn_plain F sc_law_draw (fun _ _ _ _ _ _ us hl => match us, hl with | [_, _], _ => rfl) (by decide) (by tm_at "g_len") ?_
  intro X f cdv A outer s H E0 L vs Q E hX nd hr h
  subst hX
  obtain ⟨p, c, ns, n, m, many, R, rfl, sb, h63, k1, k2, n0, n1, m0, q⟩ := h
  refine GSs.sub sb ?_
  show GSs _ (defBody s_law_draw) (bodyD Q) [("_law_pen_here", some (.ref p)), ("_law_many", some (.int many)), ("_law_digit", none), ("_law_begun", none), ("_law_lone", none), ("_law_great", none), ("_law_mixed", none)] _
  refine gss_cons ?_
  tm_at "g"
  refine ite_d (fun hm => ?_) (fun hm => ?_)
  · tm_at "g"
    refine go_modR k1 fun d d0 d1 => ?_
    tm_at "g"
    refine go_divS k1 k2 ?_
    tm_at "g"
    exact ⟨_, Sub.refl, q d n (m / many) d0 d1 n0 (by omega) (Int.ediv_nonneg m0 (by omega))⟩
  tm_at "g"
  refine go_mulS (.inl (by decide)) ?_
  tm_at "gx"
  refine GS.cut (fun θ M => ∃ r : Int, θ = ([("_law_pen_here", some (.ref p)), ("_law_many", some (.int many)), ("_law_digit", none), ("_law_begun", some (.int n)), ("_law_lone", some (.int r)), ("_law_great", none), ("_law_mixed", none)] : En) ∧ Sub ((p, penO c (n + 1) m) :: (c, celO ns) :: R) M) ?_ ?_
  · tm_at "g"
    refine go_neD (d := .list (ns.map PyData.int)) (e := .list ([].map PyData.int)) hr.toRoom (dl_lst (by tm_at "g_mem") dls_ints) (dl_lst (by tm_at "g_mem") dls_nil) (shapedL _) (shapedL _) ?_
    rw [eqvL]
    tm_at "g"
    refine ite_n (fun hz => ?_) (fun hz => ?_)
    · tm_at "g"
      have hp : 0 < (ns.length : Int) := by
        cases ns with
        | nil => exact absurd rfl hz
        | cons a r => rw [List.length_cons]; omega
      rw [List.length_map]
      refine go_modR hp fun d d0 d1 => ?_
      obtain ⟨k, rfl⟩ : ∃ k : Nat, d = (k : Int) := ⟨d.toNat, by omega⟩
      have hk : k < ns.length := by omega
      refine gi_lst (by tm_at "g_mem") (atI_nat (v := .int ns[k]) (by rw [List.getElem?_map, List.getElem?_eq_getElem hk] <;> rfl)) ?_
      tm_at "g"
      tm_at "g_sub"
    · tm_at "g"
      tm_at "g_sub"
  rintro θ M ⟨raw, rfl, hs⟩
  refine GSs.sub hs ?_
  tm_at "gx"
  refine gs_if (GT.imp (Q := fun k M => M = (p, penO c (n + 1) m) :: (c, celO ns) :: R ∧ (k = true → 1000000000000000000 ≤ (raw.natAbs : Int))) ?_ ?_)
  · tm_at "g"
    refine ite_d (fun _ => ?_) (fun _ => ⟨rfl, fun z => nomatch z⟩)
    tm_at "g"
    refine go_powL (r := 1000000000000000000) ⟨by decide, by decide, by decide⟩ (by decide) ?_
    tm_at "g"
    exact ⟨rfl, fun z => of_decide_eq_true z⟩
  rintro k M ⟨rfl, hk⟩
  refine ite_b (fun e => ?_) (fun e => ?_)
  · have hr1 := hk e
    tm_at "g"
    refine go_powL (r := 1000000000000000000) ⟨by decide, by decide, by decide⟩ (by decide) ?_
    tm_at "g"
    refine go_mulS (.inl (by decide)) ?_
    tm_at "g"
    have g0 : 0 ≤ 2 * ((raw.natAbs : Int) - 1000000000000000000) + (if (decide (raw < 0)) = true then 1 else 0) := by split <;> omega
    refine go_divS k1 k2 ?_
    tm_at "g"
    refine go_modR k1 fun d d0 d1 => ?_
    tm_at "g"
    exact ⟨_, Sub.refl, q d (n + 1) _ d0 d1 (by omega) (by omega) (Int.ediv_nonneg g0 (by omega))⟩
  tm_at "g"
  refine go_modR (by decide) fun a a0 a1 => ?_
  tm_at "g"
  refine go_mulS (.inl (by decide)) ?_
  tm_at "g"
  refine go_powR ⟨by decide, by decide, by omega⟩ fun b => ?_
  tm_at "g"
  refine go_modR (by decide) fun s s0 s1 => ?_
  tm_at "g"
  refine go_mulS (.inl (by decide)) ?_
  tm_at "g"
  have b1 := bnd (t := 2 * n + 711) (B := 200000 + 711) s0 (Int.le_of_lt s1) (by omega) (by omega)
  refine go_mulS (.inl (by omega)) ?_
  tm_at "g"
  refine go_mulS (.inl (by decide)) ?_
  tm_at "g"
  have b2 := bnd (s := 61539 * n) (t := n) (A := 61539 * 100000) (B := 100000) (by omega) (by omega) n0 n1
  refine go_mulS (.inl (by omega)) ?_
  tm_at "g"
  refine go_powR ⟨by decide, by decide, by omega⟩ fun b => ?_
  tm_at "g"
  refine go_modR (by decide) fun s' s0' s1' => ?_
  tm_at "g"
  refine go_divS (by decide) (by decide) ?_
  tm_at "g"
  refine go_modR k1 fun d d0 d1 => ?_
  tm_at "g"
  exact ⟨_, Sub.refl, q d (n + 1) m d0 d1 (by omega) (by omega) m0⟩
end
section
variable {P : Program} {w : World} {K : PySem.W.Frag} {mg : Str → Option Value} {base : Heap}
def spDrawB : SpL := fun vs L Q _ => ∃ (p c : Addr) (ns : List Int) (n m many : Int) (R : Lg), vs = [.ref p, .int many] ∧ Sub ((p, penO c n m) :: (c, celO ns) :: R) L ∧ ns.length ≤ 63 ∧ 0 < many ∧ many.natAbs < 2 ^ 200 ∧ 0 ≤ n ∧ n ≤ 100000 ∧ 0 ≤ m ∧
  ∀ d n' m', 0 ≤ d → d < many → 0 ≤ n' → n' ≤ n + 1 → 0 ≤ m' → Q (.int d) ((p, penO c n' m') :: (c, celO ns) :: R)
theorem fn_law_drawB (B : Bi mg) (F : Df K mg "_law_draw" s_law_draw) : Fn P w K mg base CX0 "_law_draw" 1 spDrawB := by
  refine fn_plain F sc_law_draw (fun _ _ _ _ _ _ us hl => match us, hl with | [_, _], _ => rfl) (by decide) (by tm_at "g_len") ?_
  intro X f cdv A outer s H E0 L vs Q E hX nd hr h
  subst hX
  obtain ⟨p, c, ns, n, m, many, R, rfl, sb, h63, k1, k2, n0, n1, m0, q⟩ := h
  refine GSs.sub sb ?_
  show GSs _ (defBody s_law_draw) (bodyD Q) [("_law_pen_here", some (.ref p)), ("_law_many", some (.int many)), ("_law_digit", none), ("_law_begun", none), ("_law_lone", none), ("_law_great", none), ("_law_mixed", none)] _
  refine gss_cons ?_
  tm_at "g"
  refine ite_d (fun hm => ?_) (fun hm => ?_)
  · tm_at "g"
    refine go_modR k1 fun d d0 d1 => ?_
    tm_at "g"
    refine go_divK (k := 200) k1 k2 (by decide) ?_
    tm_at "g"
    exact ⟨_, Sub.refl, q d n (m / many) d0 d1 n0 (by omega) (Int.ediv_nonneg m0 (by omega))⟩
  tm_at "g"
  refine go_mulS (.inl (by decide)) ?_
  tm_at "gx"
  refine GS.cut (fun θ M => ∃ r : Int, θ = ([("_law_pen_here", some (.ref p)), ("_law_many", some (.int many)), ("_law_digit", none), ("_law_begun", some (.int n)), ("_law_lone", some (.int r)), ("_law_great", none), ("_law_mixed", none)] : En) ∧ Sub ((p, penO c (n + 1) m) :: (c, celO ns) :: R) M) ?_ ?_
  · tm_at "g"
    refine go_neD (d := .list (ns.map PyData.int)) (e := .list ([].map PyData.int)) hr.toRoom (dl_lst (by tm_at "g_mem") dls_ints) (dl_lst (by tm_at "g_mem") dls_nil) (shapedL _) (shapedL _) ?_
    rw [eqvL]
    tm_at "g"
    refine ite_n (fun hz => ?_) (fun hz => ?_)
    · tm_at "g"
      have hp : 0 < (ns.length : Int) := by
        cases ns with
        | nil => exact absurd rfl hz
        | cons a r => rw [List.length_cons]; omega
      rw [List.length_map]
      refine go_modR hp fun d d0 d1 => ?_
      obtain ⟨k, rfl⟩ : ∃ k : Nat, d = (k : Int) := ⟨d.toNat, by omega⟩
      have hk : k < ns.length := by omega
      refine gi_lst (by tm_at "g_mem") (atI_nat (v := .int ns[k]) (by rw [List.getElem?_map, List.getElem?_eq_getElem hk] <;> rfl)) ?_
      tm_at "g"
      tm_at "g_sub"
    · tm_at "g"
      tm_at "g_sub"
  rintro θ M ⟨raw, rfl, hs⟩
  refine GSs.sub hs ?_
  tm_at "gx"
  refine gs_if (GT.imp (Q := fun k M => M = (p, penO c (n + 1) m) :: (c, celO ns) :: R ∧ (k = true → 1000000000000000000 ≤ (raw.natAbs : Int))) ?_ ?_)
  · tm_at "g"
    refine ite_d (fun _ => ?_) (fun _ => ⟨rfl, fun z => nomatch z⟩)
    tm_at "g"
    refine go_powL (r := 1000000000000000000) ⟨by decide, by decide, by decide⟩ (by decide) ?_
    tm_at "g"
    exact ⟨rfl, fun z => of_decide_eq_true z⟩
  rintro k M ⟨rfl, hk⟩
  refine ite_b (fun e => ?_) (fun e => ?_)
  · have hr1 := hk e
    tm_at "g"
    refine go_powL (r := 1000000000000000000) ⟨by decide, by decide, by decide⟩ (by decide) ?_
    tm_at "g"
    refine go_mulS (.inl (by decide)) ?_
    tm_at "g"
    have g0 : 0 ≤ 2 * ((raw.natAbs : Int) - 1000000000000000000) + (if (decide (raw < 0)) = true then 1 else 0) := by split <;> omega
    refine go_divK (k := 200) k1 k2 (by decide) ?_
    tm_at "g"
    refine go_modR k1 fun d d0 d1 => ?_
    tm_at "g"
    exact ⟨_, Sub.refl, q d (n + 1) _ d0 d1 (by omega) (by omega) (Int.ediv_nonneg g0 (by omega))⟩
  tm_at "g"
  refine go_modR (by decide) fun a a0 a1 => ?_
  tm_at "g"
  refine go_mulS (.inl (by decide)) ?_
  tm_at "g"
  refine go_powR ⟨by decide, by decide, by omega⟩ fun b => ?_
  tm_at "g"
  refine go_modR (by decide) fun s s0 s1 => ?_
  tm_at "g"
  refine go_mulS (.inl (by decide)) ?_
  tm_at "g"
  have b1 := bnd (t := 2 * n + 711) (B := 200000 + 711) s0 (Int.le_of_lt s1) (by omega) (by omega)
  refine go_mulS (.inl (by omega)) ?_
  tm_at "g"
  refine go_mulS (.inl (by decide)) ?_
  tm_at "g"
  have b2 := bnd (s := 61539 * n) (t := n) (A := 61539 * 100000) (B := 100000) (by omega) (by omega) n0 n1
  refine go_mulS (.inl (by omega)) ?_
  tm_at "g"
  refine go_powR ⟨by decide, by decide, by omega⟩ fun b => ?_
  tm_at "g"
  refine go_modR (by decide) fun s' s0' s1' => ?_
  tm_at "g"
  refine go_divS (by decide) (by decide) ?_
  tm_at "g"
  refine go_modR k1 fun d d0 d1 => ?_
  tm_at "g"
  exact ⟨_, Sub.refl, q d (n + 1) m d0 d1 (by omega) (by omega) m0⟩
end
section
variable {P : Program} {w : World} {K : PySem.W.Frag} {mg : Str → Option Value} {base : Heap} {C : Addr}
theorem fn_law_pick (B : Bi mg) (F : Df K mg "_law_pick" s_law_pick) (D1 : Fn P w K mg base CX0 "_law_draw" 1 spDraw) : Fn P w K mg base CX0 "_law_pick" 2 spPick := by
  refine fn_plain F sc_law_pick (fun _ _ _ _ _ _ us hl => match us, hl with | [_, _], _ => rfl) (by decide) (by tm_at "g_len") ?_
  intro X f cdv A outer s H E0 L vs Q E hX nd hr h
  subst hX
  obtain ⟨p, c, q, ns, xs, n, m, R, rfl, sb, mq, h63, l0, l1, n0, n1, m0, qq⟩ := h
  refine GSs.sub sb ?_
  show GSs _ (defBody s_law_pick) (bodyD Q) [("_law_pen_here", some (.ref p)), ("_law_some", some (.ref q))] _
  refine gss_cons ?_
  tm_at "g"
  refine ge_call (El := NoX) D1 hr passA ?_
  tm_at "g"
  refine ⟨p, c, ns, n, m, xs.length, R, rfl, Sub.refl, h63, by omega, by omega, n0, n1, m0, fun d n' m' d0 d1 a0 a1 a2 => ?_⟩
  obtain ⟨k, rfl⟩ : ∃ k : Nat, d = (k : Int) := ⟨d.toNat, by omega⟩
  have hk : k < xs.length := by omega
  refine gi_lst (memS (memS mq)) (atI_nat (v := xs[k]) (List.getElem?_eq_getElem hk)) ?_
  tm_at "g"
  exact ⟨_, Sub.refl, qq k _ n' m' (List.getElem?_eq_getElem hk) a0 a1 a2⟩
end
section
open Tx
variable {P : Program} {w : World} {K : PySem.W.Frag} {mg : Str → Option Value} {base : Heap} {Ct : Addr}
def optV : Option Nat → V
  | none => .non
  | some n => .int n
abbrev strsO (ws : List Str) : HO := .lst (ws.map V.str)
abbrev textF (at_ : Int) : List (Str × V) := [("word", .int at_), ("line", .int 0)]
def spWholeOf : SpL := fun vs L Q _ => ∃ z : Str, vs = [.str z] ∧ z.length ≤ 1000000 ∧ Q (optV (wholeS z)) L
theorem fn_whole_of (B : Bi mg) (F : Df K mg "whole_of" s_whole_of) {u u2 : Value} (hF : mg "FIGURES" = some u) (rF : RelV (.str "0123456789") u) (hM : mg "MOST_FIGURES" = some u2) (rM : RelV (.int 120) u2) : Fn P w K mg base CX0 "whole_of" 1 spWholeOf := by
  refine fn_plain F sc_whole_of (fun _ _ _ _ _ _ us hl => match us, hl with | [_], _ => rfl) (by decide) (by tm_at "g_len") ?_
  intro X f cdv A outer s H E0 L vs Q E hX nd hr h
  subst hX
  obtain ⟨z, rfl, hz, q⟩ := h
  show GSs _ (defBody s_whole_of) (bodyD Q) [("word", some (.str z)), ("sign", none)] L
  refine gss_cons ?_
  have zl : z.length ≤ sizeLine := szL (by omega)
  tm_at "g"
  refine gc_lenS zl ?_
  tm_at "g"
  refine ite_d (fun c1 => ?_) (fun c1 => ?_)
  · refine gv_con hM rM ?_
    tm_at "g"
    refine ite_n (fun c2 => ?_) (fun c2 => ?_)
    · tm_at "g"
      refine ⟨_, Sub.refl, ?_⟩
      rw [show wholeS z = none from if_neg fun h => c2 (by omega)] at q
      exact q
    · tm_at "g"
      refine ge_lcP (by tm_at "g_put") (gi_str ?_) (show blkC N_whole_of (defScope s_whole_of) _ [(_, List.idxOf _ N_whole_of)] = true by decide +kernel)
      tm_at "g"
      refine pure_str (t := fun _ => true) (g := fun c => .bl (isFig c)) hz (fun c hc D acc s1 H1 C1 cl1 fp1 => ?_) fun D => ?_
      · refine gts_nil ⟨rfl, Sub.refl, fun _ s2 H2 C2 cl2 fp2 => ?_⟩
        tm_at "g"
        refine gv_con hF rF ?_
        refine go_inS ?_
        exact ⟨rfl, Sub.refl⟩
      rw [List.filter_eq_self.mpr fun _ _ => rfl]
      have eb : z.cps.toList.map (fun c => V.bl (isFig c)) = (z.cps.toList.map isFig).map V.bl := by rw [List.map_map]; rfl
      rw [eb]
      tm_at "g"
      refine gc_allB (by rfl) mem0 ?_
      have ea : (z.cps.toList.map isFig).all id = z.cps.toList.all isFig := by rw [List.all_map]; rfl
      rw [ea]
      cases c3 : z.cps.toList.all isFig with
      | false =>
        tm_at "g"
        refine ⟨_, Sub.drop, ?_⟩
        rw [show wholeS z = none from if_neg fun h => by rw [c3] at h; exact absurd h.2.2 (by decide)] at q
        exact q
      | true =>
        obtain ⟨a, r, er⟩ : ∃ a r, z.cps.toList = a :: r := by
          cases e : z.cps.toList with
          | nil => rw [len_cps, e] at c1; exact absurd c1 (by decide)
          | cons a r => exact ⟨a, r, rfl⟩
        have c1' : 1 ≤ z.length := by omega
        have c2' : z.length ≤ 120 := by omega
        have dg : NumText.AllDigits z.cps.toList := all_fig.mp c3
        have ne : z.cps.toList ≠ [] := fun e => by rw [er] at e; cases e
        have iz : PySem.intText? z = some ((NumText.digitsVal z.cps.toList : Nat) : Int) := PySem.intText_digits dg ne (by omega)
        have ez : decide (V.str ⟨#[a]⟩ = V.str (Str.ofString "0")) = decide (a = 48) := by
          rw [decide_eq_decide]
          constructor
          · intro h
            have h := V.str.inj h
            have h := congrArg (fun s : Str => s.cps.toList) h
            have h : [a] = [48] := h
            exact (List.cons.inj h).1
          · rintro rfl
            rfl
        have fin : ∀ M : Lg, Sub L M → ¬ (z.cps.toList.head? = some 48 ∧ 1 < z.length) → drp Q (.int ((NumText.digitsVal z.cps.toList : Nat) : Int)) M := fun M s n => by
          have e : wholeS z = some (NumText.digitsVal z.cps.toList) := by
            unfold wholeS
            rw [if_pos ⟨c1', c2', c3⟩, if_neg n]
          rw [e] at q
          exact ⟨_, s, q⟩
        tm_at "g"
        refine gi_sx zl (c := a) (atI_nat (j := 0) (by rw [er]; rfl)) ?_
        tm_at "g"
        refine go_eqV rfl ?_
        rw [ez]
        refine ⟨_, rfl, ite_d (fun y => ?_) (fun y => ?_)⟩
        · subst y
          tm_at "g"
          refine gc_lenS zl ?_
          tm_at "g"
          refine ite_d (fun y2 => ?_) (fun y2 => ?_)
          · tm_at "g"
            have e : wholeS z = none := by
              unfold wholeS
              rw [if_pos ⟨c1', c2', c3⟩, if_pos ⟨by rw [er]; rfl, by omega⟩]
            rw [e] at q
            exact ⟨_, Sub.drop, q⟩
          · tm_at "g"
            refine gc_intS iz (by omega) ?_
            exact fin _ Sub.drop fun h => y2 (by omega)
        · tm_at "g"
          refine gc_intS iz (by omega) ?_
          exact fin _ Sub.drop fun h => y (by have := h.1; rw [er] at this; exact Option.some.inj this)
  · tm_at "g"
    refine ⟨_, Sub.refl, ?_⟩
    rw [show wholeS z = none from if_neg fun h => c1 (by omega)] at q
    exact q
/-- rows of words, none of them too long -/
def Words (ws : List Str) : Prop := ws.length ≤ 1000 ∧ ∀ z ∈ ws, z.length ≤ 100000
theorem words_at {ws : List Str} {i : Nat} {z : Str} (h : ws[i]? = some z) : atI (ws.map V.str) (i : Int) = some (.str z) := atI_nat (by rw [List.getElem?_map, h]; rfl)
/-- what an error of a text says -/
abbrev telT (Ct : Addr) (at_ : Nat) (E : XL) (L : Lg) : Prop := telX Ct (textF at_) E L
def spNumAt (Ct : Addr) : SpL := fun vs L Q E => ∃ (r : Addr) (ws : List Str) (i least most : Nat), vs = [.ref r, .int i, .int least, .int most] ∧ (r, strsO ws) ∈ L ∧ Words ws ∧ (∀ n, numW ws i least most = some n → Q (.int n) L) ∧ (numW ws i least most = none → telT Ct i E L)
theorem fn_number_at (B : Bi mg) (F : Df K mg "number_at" s_number_at) (D1 : Fn P w K mg base CX0 "whole_of" 1 spWholeOf) (T : ErrT P w K mg base "BadText" Ct ["line", "word"]) : Fn P w K mg base (L2.CX P w) "number_at" 3 (spNumAt Ct) := by
  refine fn_raise F sc_number_at (fun _ _ _ _ _ _ us hl => match us, hl with | [_, _, _, _], _ => rfl) (by decide) (by tm_at "g_len") ?_
  intro X f cdv A outer s H E0 L vs Q E hX nd hr tk h
  subst hX
  obtain ⟨r, ws, i, least, most, rfl, mr, ⟨l1, l2⟩, q, e⟩ := h
  show GSs _ (defBody s_number_at) (bodyD Q) [("words", some (.ref r)), ("at", some (.int i)), ("least", some (.int least)), ("most", some (.int most)), ("found", none)] L
  refine gss_cons ?_
  tm_at "g"
  rw [List.length_map]
  refine ite_d (fun c => ?_) (fun c => ?_)
  · obtain ⟨z, hz⟩ : ∃ z, ws[i]? = some z := ⟨_, List.getElem?_eq_getElem (show i < ws.length by omega)⟩
    have en : numW ws i least most = numS z least most := by unfold numW; rw [hz]; rfl
    rw [en] at q e
    tm_at "g"
    refine ge_call (El := NoX) D1 hr passA ?_
    tm_at "g"
    refine gi_lst mr (words_at hz) ?_
    tm_at "g"
    refine ⟨z, rfl, Nat.le_trans (l2 z (List.mem_of_getElem? hz)) (by decide), ?_⟩
    cases hw : wholeS z with
    | none =>
      have e0 : numS z least most = none := by unfold numS; rw [hw]; rfl
      dsimp only [optV]
      tm_at "g"
      refine gs_raise tk (gmk_err T.ck hr ?_ (by decide))
      tm_at "g"
      exact ⟨rfl, fun d => ⟨_, Sub.refl, e e0 d _ Sub.refl⟩⟩
    | some n =>
      have e1 : numS z least most = if least ≤ n ∧ n ≤ most then some n else none := by unfold numS; rw [hw]; rfl
      dsimp only [optV]
      tm_at "g"
      refine ite_d (fun c1 => ?_) (fun c1 => ?_)
      · tm_at "g"
        refine ite_n (fun c2 => ?_) (fun c2 => ?_)
        · have e0 : numS z least most = none := by rw [e1, if_neg fun h => c2 (by omega)]
          tm_at "g"
          refine gs_raise tk (gmk_err T.ck hr ?_ (by decide))
          tm_at "g"
          exact ⟨rfl, fun d => ⟨_, Sub.refl, e e0 d _ Sub.refl⟩⟩
        · tm_at "g"
          exact ⟨_, Sub.refl, q n (by rw [e1, if_pos ⟨by omega, by omega⟩])⟩
      · have e0 : numS z least most = none := by rw [e1, if_neg fun h => c1 (by omega)]
        tm_at "g"
        refine gs_raise tk (gmk_err T.ck hr ?_ (by decide))
        tm_at "g"
        exact ⟨rfl, fun d => ⟨_, Sub.refl, e e0 d _ Sub.refl⟩⟩
  · have e0 : numW ws i least most = none := by
      unfold numW
      rw [List.getElem?_eq_none (by omega)]
      rfl
    tm_at "g"
    refine gs_raise tk (gmk_err T.ck hr ?_ (by decide))
    tm_at "g"
    exact ⟨rfl, fun d => ⟨_, Sub.refl, e e0 d _ Sub.refl⟩⟩
def spNeedEnd (Ct : Addr) : SpL := fun vs L Q E => ∃ (r : Addr) (ws : List Str) (i : Nat), vs = [.ref r, .int i] ∧ (r, strsO ws) ∈ L ∧ (ws.length ≤ i → Q .non L) ∧ (i < ws.length → telT Ct i E L)
theorem fn_need_end (F : Df K mg "need_end" s_need_end) (B : Bi mg) (T : ErrT P w K mg base "BadText" Ct ["line", "word"]) : Fn P w K mg base (L2.CX P w) "need_end" 3 (spNeedEnd Ct) := by
  refine fn_raise F sc_need_end (fun _ _ _ _ _ _ us hl => match us, hl with | [_, _], _ => rfl) (by decide) (by tm_at "g_len") ?_
  intro X f cdv A outer s H E0 L vs Q E hX nd hr tk h
  subst hX
  obtain ⟨r, ws, i, rfl, mr, q, e⟩ := h
  show GSs _ (defBody s_need_end) (bodyD Q) [("words", some (.ref r)), ("at", some (.int i))] L
  refine gss_cons ?_
  tm_at "g"
  rw [List.length_map]
  refine ite_d (fun c => ?_) (fun c => ?_)
  · tm_at "g"
    refine gs_raise tk (gmk_err T.ck hr ?_ (by decide))
    tm_at "g"
    exact ⟨rfl, fun d => ⟨_, Sub.refl, e (by omega) d _ Sub.refl⟩⟩
  · tm_at "g"
    exact ⟨_, Sub.refl, q (by omega)⟩
/-- words_of, of a text -/
def spWordsOf : SpL := fun vs L Q _ => ∃ z : Str, vs = [.str z] ∧ z.length ≤ 1000000 ∧ ∀ p, Q (.ref p) ((p, strsO (Txt.split z (Str.ofString " "))) :: L)
theorem fn_words_of (B : Bi mg) (F : Df K mg "words_of" s_words_of) : Fn P w K mg base CX0 "words_of" 1 spWordsOf := by
  refine fn_plain F sc_words_of (fun _ _ _ _ _ _ us hl => match us, hl with | [_], _ => rfl) (by decide) (by tm_at "g_len") ?_
  intro X f cdv A outer s H E0 L vs Q E hX nd hr h
  subst hX
  obtain ⟨z, rfl, hz, q⟩ := h
  show GSs _ (defBody s_words_of) (bodyD Q) [("text", some (.str z))] L
  refine gss_cons ?_
  tm_at "g"
  refine gc_isK .str (show kitB "str" "str" = some true by decide +kernel) ?_
  tm_at "g"
  refine ge_split ?_
  tm_at "g"
  exact ⟨by decide +kernel, szL (by omega), fun p => ⟨_, Sub.refl, q p⟩⟩
end
section
variable {P : Program} {w : World} {K : PySem.W.Frag} {mg : Str → Option Value} {base : Heap} {C : Addr}
def spWholeI : SpL := fun vs L Q _ => ∃ i : Int, vs = [.int i] ∧ Q (.bl true) L
theorem fn_is_wholeI (B : Bi mg) (F : Df K mg "is_whole" s_is_whole) : Fn P w K mg base CX0 "is_whole" 1 spWholeI := by
  refine fn_plain F sc_is_whole (fun _ _ _ _ _ _ us hl => match us, hl with | [_], _ => rfl) (by decide) (by tm_at "g_len") ?_
  intro X f cdv A outer s H E0 L vs Q E hX nd hr h
  subst hX
  obtain ⟨i, rfl, q⟩ := h
  show GSs _ (defBody s_is_whole) (bodyD Q) [("value", some (.int i))] L
  refine gss_cons ?_
  tm_at "g"
  refine gc_isK .int kb_int_int ?_
  tm_at "g"
  refine gc_isK .int kb_int_bool ?_
  tm_at "g"
  exact ⟨_, Sub.refl, q⟩
end
section
def spInteger : SpL := fun vs L Q _ => ∃ n : Int, vs = [.int n] ∧ Q .non L
end
section
variable {P : Program} {w : World} {K : PySem.W.Frag} {mg : Str → Option Value} {base : Heap} {C : Addr}
theorem getMapInt {ns : List Int} {i : Nat} {x : V} (h : (ns.map V.int)[i]? = some x) : ∃ n, ns[i]? = some n ∧ x = .int n := by
  rw [List.getElem?_map] at h
  cases e : ns[i]? with
  | none => rw [e] at h; cases h
  | some n => rw [e] at h; cases h; exact ⟨n, rfl, rfl⟩
def gcds (l : List Int) : Nat := l.foldl (fun a n => Nat.gcd a n.natAbs) 0
theorem gcds_more {ns : List Int} {i : Nat} {n : Int} (h : ns[i]? = some n) : gcds (ns.take (i + 1)) = Nat.gcd (gcds (ns.take i)) n.natAbs := by
  unfold gcds
  rw [List.take_succ, h]
  simp
def spDivOf : SpL := fun vs L Q _ => ∃ a b : Nat, vs = [.int a, .int b] ∧ b < 2 ^ 9000 ∧ Q (.int (Nat.gcd a b : Nat)) L
theorem fn_divisor_of (B : Bi mg) (F : Df K mg "divisor_of" s_divisor_of) : Fn P w K mg base CX0 "divisor_of" 1 spDivOf := by
  refine fn_plain F sc_divisor_of (fun _ _ _ _ _ _ us hl => match us, hl with | [_, _], _ => rfl) (by decide) (by tm_at "g_len") ?_
  intro X f cdv A outer s H E0 L vs Q E hX nd hr h
  subst hX
  obtain ⟨a, b, rfl, hb, q⟩ := h
  show GSs _ (defBody s_divisor_of) (bodyD Q) [("one", some (.int a)), ("other", some (.int b))] L
  refine gss_cons ?_
  refine gs_while (fun m θ M => ∃ c d : Nat, θ = ([("one", some (.int c)), ("other", some (.int d))] : En) ∧ M = L ∧ Nat.gcd c d = Nat.gcd a b ∧ m = d) b ⟨a, b, rfl, rfl, rfl, rfl⟩ ?_
  rintro m θ M ⟨c, d, rfl, rfl, hg, rfl⟩
  tm_at "g"
  refine ite_n (fun hd => ?_) (fun hd => ?_)
  · tm_at "g"
    refine go_mod (by omega) ?_
    tm_at "g"
    refine ⟨c % m, Nat.mod_lt _ (by omega), m, c % m, ?_, rfl, ?_, rfl⟩
    · rw [Int.natCast_emod]
    · rw [← hg, Nat.gcd_comm m (c % m), ← Nat.gcd_rec, Nat.gcd_comm]
  · tm_at "g"
    have e : m = 0 := by omega
    subst e
    rw [← hg, Nat.gcd_zero_right] at q
    exact ⟨_, Sub.refl, q⟩
theorem fn_need_wholeI (F : Df K mg "need_whole" s_need_whole) (D1 : Fn P w K mg base CX0 "is_whole" 1 spWholeI) : Fn P w K mg base CX0 "need_whole" 2 spInteger := by
  refine fn_plain F sc_need_whole (fun _ _ _ _ _ _ us hl => match us, hl with | [_], _ => rfl) (by decide) (by tm_at "g_len") ?_
  intro X f cdv A outer s H E0 L vs Q E hX nd hr h
  subst hX
  obtain ⟨n, rfl, q⟩ := h
  show GSs _ (defBody s_need_whole) (bodyD Q) [("value", some (.int n))] L
  refine gss_cons ?_
  tm_at "g"
  refine ge_call (El := NoX) D1 hr passA ?_
  tm_at "g"
  refine ⟨n, rfl, ?_⟩
  tm_at "g"
  exact ⟨_, Sub.refl, q⟩
def spGcds : SpL := fun vs L Q _ => ∃ (p : Addr) (ns : List Int) (M : Lg), vs = [.ref p] ∧ L = (p, .tup (ns.map V.int)) :: M ∧ (∀ n ∈ ns, n.natAbs < 2 ^ 9000) ∧ Q (.int (gcds ns : Nat)) M
theorem fn_commonI (B : Bi mg) (F : Df K mg "common" s_common) (D1 : Fn P w K mg base CX0 "need_whole" 2 spInteger) (D2 : Fn P w K mg base CX0 "divisor_of" 1 spDivOf) : Fn P w K mg base CX0 "common" 3 (spStar spGcds) := by
  refine fn_starred F sc_common (fun _ _ _ _ _ _ => rfl) (fun _ _ _ _ _ _ _ _ => rfl) (by decide) (by tm_at "g_len") ?_
  intro X f cdv A outer s H E0 L vs Q E hX nd hr h
  subst hX
  obtain ⟨p, ns, M, rfl, rfl, hb, q⟩ := h
  show GSs _ (defBody s_common) (bodyD Q) [("numbers", some (.ref p)), ("number", none), ("found", none)] _
  refine gss_cons ?_
  refine gs_for (gi_tuple ?_)
  tm_at "g"
  refine ⟨fun i θ N => N = (p, .tup (ns.map V.int)) :: M ∧ ∃ u, θ = ([("numbers", some (.ref p)), ("number", u), ("found", none)] : En), ⟨rfl, ⟨none, rfl⟩⟩, fun i θ N _ _ ⟨e, _⟩ => by rw [e]; exact mem0, ?_, ?_⟩
  · rintro i x E1 θ N hi ⟨hx, rfl⟩ ⟨rfl, u, rfl⟩
    obtain ⟨n, hn, rfl⟩ := getMapInt hx
    dsimp only [List.nil_append]
    refine gg_name (by tm_at "g_pv") ?_
    tm_at "g"
    refine ge_call (El := NoX) D1 hr passA ?_
    tm_at "g"
    refine ⟨n, rfl, ?_⟩
    tm_at "g"
    exact ⟨rfl, ⟨_, rfl⟩⟩
  rintro θ N ⟨rfl, u, rfl⟩
  tm_at "g"
  refine gs_for (gi_tuple ?_)
  tm_at "g"
  refine ⟨fun i θ N => N = (p, .tup (ns.map V.int)) :: M ∧ ∃ u, θ = ([("numbers", some (.ref p)), ("number", u), ("found", some (.int (gcds (ns.take i) : Nat)))] : En), ⟨rfl, u, rfl⟩, fun i θ N _ _ ⟨e, _⟩ => by rw [e]; exact mem0, ?_, ?_⟩
  · rintro i x E1 θ N hi ⟨hx, rfl⟩ ⟨rfl, u, rfl⟩
    obtain ⟨n, hn, rfl⟩ := getMapInt hx
    dsimp only [List.nil_append]
    refine gg_name (by tm_at "g_pv") ?_
    tm_at "g"
    refine ge_call (El := NoX) D2 hr passA ?_
    tm_at "g"
    refine ⟨_, _, rfl, hb n (List.mem_of_getElem? hn), ?_⟩
    tm_at "g"
    refine ⟨rfl, some (.int n), ?_⟩
    rw [gcds_more hn]
  · rintro θ N ⟨rfl, u, rfl⟩
    tm_at "g"
    rw [List.length_map, List.take_length]
    exact ⟨_, Sub.drop, q⟩
end
section
variable {P : Program} {w : World} {K : PySem.W.Frag} {mg : Str → Option Value} {base : Heap} {C : Addr}
def lcms (l : List Int) : Nat := l.foldl (fun a n => Nat.lcm a n.natAbs) 1
def spAboveI : SpL := fun vs L Q _ => ∃ i : Int, vs = [.int i] ∧ 1 ≤ i ∧ Q .non L
def spMultiple0 : SpL := fun vs L Q _ => ∃ p ns M, vs = [.ref p] ∧ L = (p, .tup (ns.map V.int)) :: M ∧ (∀ n ∈ ns, 1 ≤ n ∧ n.natAbs < 2 ^ 200) ∧ ns.length ≤ 60 ∧ Q (.int (lcms ns : Nat)) M
theorem lcms_more {ns : List Int} {i : Nat} {n : Int} (h : ns[i]? = some n) : lcms (ns.take (i + 1)) = Nat.lcm (lcms (ns.take i)) n.natAbs := by
  unfold lcms
  rw [List.take_succ, h]
  simp
theorem lcms_pos : ∀ {ns : List Int}, (∀ n ∈ ns, 1 ≤ n) → ∀ i, 0 < lcms (ns.take i) := by
  intro ns h i
  induction i with
  | zero => exact Nat.one_pos
  | succ i ih =>
    cases e : ns[i]? with
    | none =>
      have z : ns.take (i + 1) = ns.take i := by rw [List.take_succ, e] <;> simp
      rw [z]
      exact ih
    | some n =>
      rw [lcms_more e]
      have h1 := h n (List.mem_of_getElem? e)
      exact Nat.lcm_pos ih (by omega)
theorem lcms_lt {ns : List Int} (h : ∀ n ∈ ns, n.natAbs < 2 ^ 200) : ∀ i, lcms (ns.take i) < 2 ^ (200 * i + 1) := by
  intro i
  induction i with
  | zero => exact (by decide : 1 < 2 ^ 1)
  | succ i ih =>
    cases e : ns[i]? with
    | none =>
      have z : ns.take (i + 1) = ns.take i := by rw [List.take_succ, e] <;> simp
      rw [z]
      exact Nat.lt_of_lt_of_le ih (Nat.pow_le_pow_right (by decide) (by omega))
    | some n =>
      rw [lcms_more e]
      have h1 := h n (List.mem_of_getElem? e)
      have h2 : Nat.lcm (lcms (ns.take i)) n.natAbs ≤ lcms (ns.take i) * n.natAbs := Nat.div_le_self _ _
      have h3 : lcms (ns.take i) * n.natAbs < 2 ^ (200 * i + 1) * 2 ^ 200 := Nat.mul_lt_mul'' ih h1
      rw [← Nat.pow_add] at h3
      exact Nat.lt_of_le_of_lt h2 (Nat.lt_of_lt_of_le h3 (Nat.pow_le_pow_right (by decide) (by omega)))
theorem fn_need_above (B : Bi mg) (F : Df K mg "need_above" s_need_above) (D1 : Fn P w K mg base CX0 "is_whole" 1 spWholeI) : Fn P w K mg base CX0 "need_above" 2 spAboveI := by
  refine fn_plain F sc_need_above (fun _ _ _ _ _ _ us hl => match us, hl with | [_], _ => rfl) (by decide) (by tm_at "g_len") ?_
  intro X f cdv A outer s H E0 L vs Q E hX nd hr h
  subst hX
  obtain ⟨i, rfl, h1, q⟩ := h
  show GSs _ (defBody s_need_above) (bodyD Q) [("value", some (.int i))] L
  refine gss_cons ?_
  tm_at "g"
  refine ge_call (El := NoX) D1 hr passA ?_
  tm_at "g"
  refine ⟨i, rfl, ?_⟩
  tm_at "g"
  refine ite_d (fun z => absurd z (by omega)) (fun _ => ?_)
  tm_at "g"
  exact ⟨_, Sub.refl, q⟩
theorem fn_multiple (B : Bi mg) (F : Df K mg "multiple" s_multiple) (D1 : Fn P w K mg base CX0 "need_above" 2 spAboveI) (D2 : Fn P w K mg base CX0 "divisor_of" 1 spDivOf) : Fn P w K mg base CX0 "multiple" 3 (spStar spMultiple0) := by
  refine fn_starred F sc_multiple (fun _ _ _ _ _ _ => rfl) (fun _ _ _ _ _ _ _ _ => rfl) (by decide) (by tm_at "g_len") ?_
  intro X f cdv A outer s H E0 L vs Q E hX nd hr h
  subst hX
  obtain ⟨p, ns, M, rfl, rfl, hb, hl, q⟩ := h
  show GSs _ (defBody s_multiple) (bodyD Q) [("numbers", some (.ref p)), ("number", none), ("found", none)] _
  refine gss_cons ?_
  refine gs_for (gi_tuple ?_)
  tm_at "g"
  refine ⟨fun i θ N => N = (p, .tup (ns.map V.int)) :: M ∧ ∃ u, θ = ([("numbers", some (.ref p)), ("number", u), ("found", none)] : En), ⟨rfl, ⟨none, rfl⟩⟩, fun i θ N _ _ ⟨e, _⟩ => by rw [e]; exact mem0, ?_, ?_⟩
  · rintro i x E1 θ N hi ⟨hx, rfl⟩ ⟨rfl, u, rfl⟩
    obtain ⟨n, hn, rfl⟩ := getMapInt hx
    dsimp only [List.nil_append]
    refine gg_name (by tm_at "g_pv") ?_
    tm_at "g"
    refine ge_call (El := NoX) D1 hr passA ?_
    tm_at "g"
    refine ⟨n, rfl, (hb n (List.mem_of_getElem? hn)).1, ?_⟩
    tm_at "g"
    exact ⟨rfl, _, rfl⟩
  rintro θ N ⟨rfl, u, rfl⟩
  tm_at "g"
  refine gs_for (gi_tuple ?_)
  tm_at "g"
  refine ⟨fun i θ N => N = (p, .tup (ns.map V.int)) :: M ∧ ∃ u, θ = ([("numbers", some (.ref p)), ("number", u), ("found", some (.int (lcms (ns.take i) : Nat)))] : En), ⟨rfl, u, rfl⟩, fun i θ N _ _ ⟨e, _⟩ => by rw [e]; exact mem0, ?_, ?_⟩
  · rintro i x E1 θ N hi ⟨hx, rfl⟩ ⟨rfl, u, rfl⟩
    obtain ⟨n, hn, rfl⟩ := getMapInt hx
    dsimp only [List.nil_append]
    replace hi : i < ns.length := by
      have : i < (ns.map V.int).length := hi
      rwa [List.length_map] at this
    obtain ⟨n1, n2⟩ := hb n (List.mem_of_getElem? hn)
    have hp := lcms_pos (fun n h => (hb n h).1) i
    have hlt := lcms_lt (fun n h => (hb n h).2) i
    have en : (n.natAbs : Int) = n := by omega
    have gp : 0 < Nat.gcd (lcms (ns.take i)) n.natAbs := Nat.gcd_pos_of_pos_left _ hp
    have gle : Nat.gcd (lcms (ns.take i)) n.natAbs ≤ n.natAbs := Nat.le_of_dvd (by omega) (Nat.gcd_dvd_right _ _)
    refine gg_name (by tm_at "g_pv") ?_
    tm_at "g"
    refine ge_call (El := NoX) D2 hr passA ?_
    tm_at "g"
    refine ⟨lcms (ns.take i), n.natAbs, by rw [en], Nat.lt_of_lt_of_le n2 (Nat.pow_le_pow_right (by decide) (by decide)), ?_⟩
    refine go_div (by omega) (Nat.lt_of_le_of_lt gle (Nat.lt_of_lt_of_le n2 (Nat.pow_le_pow_right (by decide) (by decide)))) ?_
    tm_at "g"
    refine go_mul (wide_mul (a := 200 * 60 + 1) (b := 200) ?_ n2 (by decide) (by decide) (by decide)) ?_
    · rw [← Int.natCast_ediv, Int.natAbs_natCast]
      exact Nat.lt_of_le_of_lt (Nat.div_le_self _ _) (Nat.lt_of_lt_of_le hlt (Nat.pow_le_pow_right (by decide) (by omega)))
    tm_at "g"
    refine ⟨rfl, some (.int n), ?_⟩
    have e2 : ((lcms (ns.take i) : Nat) : Int) / ((Nat.gcd (lcms (ns.take i)) n.natAbs : Nat) : Int) * n = ((lcms (ns.take (i + 1)) : Nat) : Int) := by
      rw [lcms_more hn, Nat.lcm]
      conv => lhs; rhs; rw [← en]
      rw [← Int.natCast_ediv, ← Int.natCast_mul]
      congr 1
      rw [Nat.div_mul_right_comm (Nat.gcd_dvd_left _ _)]
    rw [e2]
  · rintro θ N ⟨rfl, u, rfl⟩
    tm_at "g"
    rw [List.length_map, List.take_length]
    exact ⟨_, Sub.drop, q⟩
end
theorem pw2 (a b : Nat) (h : a ≤ b) : (2 : Nat) ^ a ≤ 2 ^ b := Nat.pow_le_pow_right (by decide) h
/-- a fraction: top, bottom -/
abbrev Fr := Nat × Nat
/-- a gear: on, driving, driven, slip -/
abbrev GearD := Nat × Nat × Nat × Fr
def low (t : Fr) : Fr := (t.1 / Nat.gcd t.1 t.2, t.2 / Nat.gcd t.1 t.2)
abbrev frO (t : Fr) : HO := .tup [.int (t.1 : Nat), .int (t.2 : Nat)]
def FrOk (t : Fr) : Prop := t.1 ≤ 1000000 ∧ 1 ≤ t.2 ∧ t.2 ≤ 1000000
def GearOk (i : Nat) (g : GearD) : Prop := g.1 ≤ i ∧ 1 ≤ g.2.1 ∧ g.2.1 ≤ 1000 ∧ 1 ≤ g.2.2.1 ∧ g.2.2.1 ≤ 1000 ∧ FrOk g.2.2.2
section
variable {X : Cx} {K : PySem.W.Frag} {L : Lg} {Q : QV} {p : Addr} {xs : List V} {i : Int} {v : V}
theorem tupK_ty {a : Addr} {xs : List V} (h : TupK K a xs) (H : Hp) : TyX K H (.ref a) (.type "tuple") := by
  obtain ⟨o, _, _, e, c, _⟩ := h
  exact .kTuple e c
theorem gc_lenK (m : TupK X.K p xs) (h : Q (.int (xs.length : Int)) L) : GC X (.builtin "len") [.ref p] L Q := GC.of call_len_seq fun H hH => ⟨p, xs, rfl, .inr (m.sq H), L, hH, h⟩
theorem gi_tupK (m : TupK X.K p xs) (e : atI xs i = some v) (h : Q v L) : GIx X (.ref p) (.int i) L Q := GIx.of ix_tup fun H hH => ⟨p, xs, i, v, rfl, rfl, m.sq H, e, L, hH, h⟩
theorem gc_frLen {f : Addr} {t : Fr} (h : (f, frO t) ∈ L ∨ TupK X.K f [.int (t.1 : Nat), .int (t.2 : Nat)]) (q : Q (.int 2) L) : GC X (.builtin "len") [.ref f] L Q := by
  rcases h with m | m
  · exact GC.of call_len_seq fun H hH => ⟨f, [.int (t.1 : Nat), .int (t.2 : Nat)], rfl, .inr (sqt hH m), L, hH, q⟩
  · exact gc_lenK m q
end
def FrAt (L : Lg) (v : V) (t : Fr) : Prop := ∃ a, v = .ref a ∧ (a, frO t) ∈ L
theorem frMono : RepMono FrAt := fun _ _ _ _ s ⟨a, e, m⟩ => ⟨a, e, s _ m⟩
def GearAt (L : Lg) (v : V) (g : GearD) : Prop := ∃ a f, v = .ref a ∧ (a, HO.tup [.int (g.1 : Nat), .int (g.2.1 : Nat), .int (g.2.2.1 : Nat), .ref f]) ∈ L ∧ (f, frO g.2.2.2) ∈ L
theorem gearMono : RepMono GearAt := fun _ _ _ _ s ⟨a, f, e, m, k⟩ => ⟨a, f, e, s _ m, s _ k⟩
section
variable {P : Program} {w : World} {K : PySem.W.Frag} {mg : Str → Option Value} {base : Heap} {C : Addr}
/-- is_between of integers -/
def spBetween : SpL := fun vs L Q _ => ∃ i a b : Int, vs = [.int i, .int a, .int b] ∧ a ≤ i ∧ i ≤ b ∧ Q (.bl true) L
theorem fn_is_between (F : Df K mg "is_between" s_is_between) (D1 : Fn P w K mg base CX0 "is_whole" 1 spWholeI) : Fn P w K mg base CX0 "is_between" 2 spBetween := by
  refine fn_plain F sc_is_between (fun _ _ _ _ _ _ us hl => match us, hl with | [_, _, _], _ => rfl) (by decide) (by tm_at "g_len") ?_
  intro X f cdv A outer s H E0 L vs Q E hX nd hr h
  subst hX
  obtain ⟨i, a, b, rfl, h1, h2, q⟩ := h
  show GSs _ (defBody s_is_between) (bodyD Q) [("value", some (.int i)), ("least", some (.int a)), ("most", some (.int b))] L
  refine gss_cons ?_
  tm_at "g"
  refine ge_call (El := NoX) D1 hr passA ?_
  tm_at "g"
  refine ⟨i, rfl, ?_⟩
  tm_at "g"
  refine ite_d (fun _ => ?_) (fun z => absurd h1 z)
  tm_at "g"
  rw [decide_eq_true h2]
  exact ⟨_, Sub.refl, q⟩
/-- a fraction in the ledger, or one that the program holds -/
def FrH (K : PySem.W.Frag) (L : Lg) (v : V) (t : Fr) : Prop := ∃ f, v = .ref f ∧ ((f, frO t) ∈ L ∨ TupK K f [.int (t.1 : Nat), .int (t.2 : Nat)])
theorem FrH.mono {K : PySem.W.Frag} {L M : Lg} {v : V} {t : Fr} (h : FrH K L v t) (s : ∀ e ∈ L, e ∈ M) : FrH K M v t := by
  obtain ⟨f, e, m | m⟩ := h
  · exact ⟨f, e, .inl (s _ m)⟩
  · exact ⟨f, e, .inr m⟩
theorem gi_fr0 {X : Cx} {L : Lg} {Q : QV} {f : Addr} {t : Fr} (h : (f, frO t) ∈ L ∨ TupK X.K f [.int (t.1 : Nat), .int (t.2 : Nat)]) (q : Q (.int (t.1 : Nat)) L) : GIx X (.ref f) (.int 0) L Q := by
  rcases h with m | m
  · exact gi_tup m rfl q
  · exact gi_tupK m rfl q
theorem gi_fr1 {X : Cx} {L : Lg} {Q : QV} {f : Addr} {t : Fr} (h : (f, frO t) ∈ L ∨ TupK X.K f [.int (t.1 : Nat), .int (t.2 : Nat)]) (q : Q (.int (t.2 : Nat)) L) : GIx X (.ref f) (.int 1) L Q := by
  rcases h with m | m
  · exact gi_tup m rfl q
  · exact gi_tupK m rfl q
def spFraction (K : PySem.W.Frag) : SpL := fun vs L Q _ => ∃ (v : V) (t : Fr), vs = [v] ∧ FrH K L v t ∧ FrOk t ∧ Q (.bl true) L
theorem fn_is_fraction (B : Bi mg) (F : Df K mg "is_fraction" s_is_fraction) (D1 : Fn P w K mg base CX0 "is_between" 2 spBetween) {u : Value} (hM : mg "MOST_UNITS" = some u) (rM : RelV (.int 1000000) u) : Fn P w K mg base CX0 "is_fraction" 3 (spFraction K) := by
  refine fn_plain F sc_is_fraction (fun _ _ _ _ _ _ us hl => match us, hl with | [_], _ => rfl) (by decide) (by tm_at "g_len") ?_
  intro X f cdv A outer s H E0 L vs Q E hX nd hr h
  subst hX
  obtain ⟨v, t, rfl, ⟨fr, rfl, mt⟩, ⟨t0, t1, t2⟩, q⟩ := h
  show GSs _ (defBody s_is_fraction) (bodyD Q) [("value", some (.ref fr))] L
  refine gss_cons ?_
  tm_at "g"
  refine gc_isi (T := "tuple") (b := true) (fun H hH => ?_) (by decide +kernel) ?_
  · rcases mt with m | m
    · exact (Knd.tup m).ty H hH
    · exact tupK_ty m H
  tm_at "g"
  refine gc_frLen mt ?_
  tm_at "g"
  rw [show decide ((2 : Int) = 2) = true from rfl]
  tm_at "g"
  refine ge_call (El := NoX) D1 hr passA ?_
  tm_at "g"
  refine gi_fr0 mt ?_
  tm_at "g"
  refine gv_con hM rM ?_
  tm_at "g"
  refine ⟨_, _, _, rfl, by omega, by omega, ?_⟩
  tm_at "g"
  refine ge_call (El := NoX) D1 hr passA ?_
  tm_at "g"
  refine gi_fr1 mt ?_
  tm_at "g"
  refine gv_con hM rM ?_
  tm_at "g"
  refine ⟨_, _, _, rfl, by omega, by omega, ?_⟩
  exact ⟨_, Sub.refl, q⟩
def spLowest : SpL := fun vs L Q _ => ∃ a b : Nat, vs = [.int a, .int b] ∧ 1 ≤ b ∧ a < 2 ^ 200 ∧ b < 2 ^ 200 ∧ ∀ t, Q (.ref t) ((t, frO (low (a, b))) :: L)
theorem fn_lowest (B : Bi mg) (F : Df K mg "lowest" s_lowest) (D1 : Fn P w K mg base CX0 "common" 3 (spStar spGcds)) : Fn P w K mg base CX0 "lowest" 4 spLowest := by
  refine fn_plain F sc_lowest (fun _ _ _ _ _ _ us hl => match us, hl with | [_, _], _ => rfl) (by decide) (by tm_at "g_len") ?_
  intro X f cdv A outer s H E0 L vs Q E hX nd hr h
  subst hX
  obtain ⟨a, b, rfl, b1, ha, hb, q⟩ := h
  show GSs _ (defBody s_lowest) (bodyD Q) [("top", some (.int (a : Nat))), ("bottom", some (.int (b : Nat))), ("shared", none)] L
  refine gss_cons ?_
  tm_at "g"
  refine ge_call (El := NoX) D1 hr passA ?_
  tm_at "g"
  have g0 : 0 < Nat.gcd a b := Nat.gcd_pos_of_pos_right _ (by omega)
  have g1 : Nat.gcd a b < 2 ^ 200 := Nat.lt_of_le_of_lt (Nat.gcd_le_right _ (by omega)) hb
  have k9 : ∀ x : Nat, x < 2 ^ 200 → ((x : Int).natAbs < 2 ^ 9000) := fun x hx => by
    rw [Int.natAbs_natCast]
    exact Nat.lt_of_lt_of_le hx (pw2 200 9000 (by decide))
  refine ⟨szL (show 2 ≤ 16777216 by decide), fun p => ⟨p, [(a : Int), (b : Int)], L, rfl, rfl, fun n hn => ?_, ?_⟩⟩
  · simp only [List.mem_cons, List.not_mem_nil, or_false] at hn
    rcases hn with rfl | rfl
    · exact k9 _ ha
    · exact k9 _ hb
  rw [show gcds [(a : Int), (b : Int)] = Nat.gcd a b by simp [gcds]]
  tm_at "g"
  refine go_div (by omega) (k9 _ g1) ?_
  tm_at "g"
  refine go_div (by omega) (k9 _ g1) ?_
  tm_at "g"
  rw [← Int.natCast_ediv, ← Int.natCast_ediv]
  exact ⟨_, Sub.refl, q _⟩
def spNeedGear : SpL := fun vs L Q _ => ∃ (v : V) (g : GearD) (i : Nat), vs = [v, .int (i : Nat)] ∧ GearAt L v g ∧ GearOk i g ∧ Q .non L
theorem fn_need_gear (B : Bi mg) (F : Df K mg "need_gear" s_need_gear) (D1 : Fn P w K mg base CX0 "is_between" 2 spBetween) (D2 : Fn P w K mg base CX0 "is_fraction" 3 (spFraction K)) {u : Value} (hM : mg "MOST_TEETH" = some u) (rM : RelV (.int 1000) u) : Fn P w K mg base CX0 "need_gear" 4 spNeedGear := by
  refine fn_plain F sc_need_gear (fun _ _ _ _ _ _ us hl => match us, hl with | [_, _], _ => rfl) (by decide) (by tm_at "g_len") ?_
  intro X f cdv A outer s H E0 L vs Q E hX nd hr h
  subst hX
  obtain ⟨v, g, i, rfl, ⟨a, fr, rfl, ma, mf⟩, ⟨g1, g2, g3, g4, g5, g6⟩, q⟩ := h
  show GSs _ (defBody s_need_gear) (bodyD Q) [("gear", some (.ref a)), ("at", some (.int (i : Nat)))] L
  refine gss_cons ?_
  tm_at "g"
  refine gc_isK (.tup ma) (b := true) (by decide +kernel) ?_
  tm_at "g"
  rw [show decide (((([V.int (g.1 : Nat), V.int (g.2.1 : Nat), V.int (g.2.2.1 : Nat), V.ref fr] : List V).length : Nat) : Int) = 4) = true from rfl]
  tm_at "g"
  refine ge_call (El := NoX) D1 hr passA ?_
  tm_at "g"
  refine ⟨_, _, _, rfl, by omega, by omega, ?_⟩
  tm_at "g"
  refine ge_call (El := NoX) D1 hr passA ?_
  tm_at "g"
  refine gv_con hM rM ?_
  tm_at "g"
  refine ⟨_, _, _, rfl, by omega, by omega, ?_⟩
  tm_at "g"
  refine ge_call (El := NoX) D1 hr passA ?_
  tm_at "g"
  refine gv_con hM rM ?_
  tm_at "g"
  refine ⟨_, _, _, rfl, by omega, by omega, ?_⟩
  tm_at "g"
  refine ge_call (El := NoX) D2 hr passA ?_
  tm_at "g"
  refine ⟨_, _, rfl, ⟨fr, rfl, .inl mf⟩, g6, ?_⟩
  tm_at "g"
  exact ⟨_, Sub.refl, q⟩
end
def stepP (ps : List Fr) (g : GearD) : List Fr := ps ++ [low ((ps.getD g.1 (0, 1)).1 * g.2.2.1, (ps.getD g.1 (0, 1)).2 * g.2.1)]
def perF (p : Nat) (gs : List GearD) : List Fr := gs.foldl stepP [(p, 1)]
def slpF (s : Fr) (gs : List GearD) : List Fr := low s :: gs.map fun g => low g.2.2.2
theorem per_len {p : Nat} {gs : List GearD} : (perF p gs).length = gs.length + 1 := by
  have : ∀ (l : List GearD) (ps : List Fr), (l.foldl stepP ps).length = ps.length + l.length := by
    intro l
    induction l with
    | nil => intro ps; rfl
    | cons g l ih =>
      intro ps
      rw [List.foldl_cons, ih, stepP, List.length_append, List.length_cons, List.length_cons, List.length_nil]
      omega
  rw [perF, this, List.length_cons, List.length_nil]
  omega
theorem per_more {p : Nat} {gs : List GearD} {i : Nat} {g : GearD} (h : gs[i]? = some g) : perF p (gs.take (i + 1)) = stepP (perF p (gs.take i)) g := by
  unfold perF
  rw [List.take_succ, h]
  simp
theorem low_bnd {t : Fr} (h1 : 1 ≤ t.1) (h2 : 1 ≤ t.2) : 1 ≤ (low t).1 ∧ (low t).1 ≤ t.1 ∧ 1 ≤ (low t).2 ∧ (low t).2 ≤ t.2 := by
  have g0 : 0 < Nat.gcd t.1 t.2 := Nat.gcd_pos_of_pos_left _ h1
  exact ⟨Nat.div_pos (Nat.le_of_dvd h1 (Nat.gcd_dvd_left _ _)) g0, Nat.div_le_self _ _, Nat.div_pos (Nat.le_of_dvd h2 (Nat.gcd_dvd_right _ _)) g0, Nat.div_le_self _ _⟩
theorem low_bnd0 {t : Fr} (h2 : 1 ≤ t.2) : (low t).1 ≤ t.1 ∧ 1 ≤ (low t).2 ∧ (low t).2 ≤ t.2 := by
  have g0 : 0 < Nat.gcd t.1 t.2 := Nat.gcd_pos_of_pos_right _ h2
  exact ⟨Nat.div_le_self _ _, Nat.div_pos (Nat.le_of_dvd h2 (Nat.gcd_dvd_right _ _)) g0, Nat.div_le_self _ _⟩
/-- a period's parts, behind n gears -/
def PerB (n : Nat) (x : Fr) : Prop := 1 ≤ x.1 ∧ x.1 ≤ 1000000 * 1000 ^ n ∧ 1 ≤ x.2 ∧ x.2 ≤ 1000 ^ n
theorem per_bnd {p : Nat} (p1 : 1 ≤ p) (p2 : p ≤ 1000000) : ∀ (n : Nat) (gs : List GearD), gs.length = n → (∀ (i : Nat) (g : GearD), gs[i]? = some g → GearOk i g) → ∀ x ∈ perF p gs, PerB n x
  | 0, gs, hl, _ => fun x hx => by
    have e : gs = [] := List.length_eq_zero_iff.mp hl
    subst e
    rw [show perF p [] = [(p, 1)] from rfl] at hx
    rw [List.mem_singleton.mp hx]
    exact ⟨p1, by simp; exact p2, Nat.le_refl _, Nat.le_refl _⟩
  | n + 1, gs, hl, hg => fun x hx => by
    have hn : gs[n]? = some gs[n] := List.getElem?_eq_getElem (by omega)
    have e : perF p gs = stepP (perF p (gs.take n)) gs[n] := by
      rw [← per_more hn, List.take_of_length_le (by omega)]
    have ih := per_bnd p1 p2 n (gs.take n) (by rw [List.length_take]; omega) fun i g h => hg i g (by
      rw [List.getElem?_take] at h
      split at h
      · exact h
      · cases h)
    obtain ⟨g1, g2, g3, g4, g5, _⟩ := hg n _ hn
    have up : 1000 ^ n ≤ 1000 ^ (n + 1) := Nat.pow_le_pow_right (by decide) (by omega)
    rw [e, stepP] at hx
    rcases List.mem_append.mp hx with hx | hx
    · obtain ⟨a, b, c, d⟩ := ih x hx
      exact ⟨a, Nat.le_trans b (Nat.mul_le_mul_left _ up), c, Nat.le_trans d up⟩
    · rw [List.mem_singleton.mp hx]
      have hlt : gs[n].1 < (perF p (gs.take n)).length := by
        rw [per_len, List.length_take]
        omega
      have ey : (perF p (gs.take n)).getD gs[n].1 (0, 1) = (perF p (gs.take n))[gs[n].1] := by rw [List.getD_eq_getElem?_getD, List.getElem?_eq_getElem hlt]; rfl
      obtain ⟨a, b, c, d⟩ := ih _ (List.getElem_mem hlt)
      rw [ey]
      generalize (perF p (gs.take n))[gs[n].1] = y at a b c d
      have k1 : 1 ≤ y.1 * gs[n].2.2.1 := Nat.mul_pos a g4
      have k2 : 1 ≤ y.2 * gs[n].2.1 := Nat.mul_pos c g2
      obtain ⟨l1, l2, l3, l4⟩ := low_bnd (t := (y.1 * gs[n].2.2.1, y.2 * gs[n].2.1)) k1 k2
      refine ⟨l1, Nat.le_trans l2 ?_, l3, Nat.le_trans l4 ?_⟩
      · rw [Nat.pow_succ, ← Nat.mul_assoc]
        exact Nat.mul_le_mul b g5
      · rw [Nat.pow_succ]
        exact Nat.mul_le_mul d g3
theorem per_small {n : Nat} {x : Fr} (hn : n ≤ 6) (h : PerB n x) : 1 ≤ x.1 ∧ x.1 ≤ 1000000000000000000000000 ∧ 1 ≤ x.2 ∧ x.2 ≤ 1000000000000000000 := by
  obtain ⟨a, b, c, d⟩ := h
  have k : 1000 ^ n ≤ 1000 ^ 6 := Nat.pow_le_pow_right (by decide) hn
  have k6 : (1000 : Nat) ^ 6 = 1000000000000000000 := by decide
  rw [k6] at k
  exact ⟨a, Nat.le_trans b (Nat.le_trans (Nat.mul_le_mul_left _ k) (by decide)), c, Nat.le_trans d k⟩
theorem slp_bnd {s : Fr} {gs : List GearD} (hs : FrOk s) (hg : ∀ (i : Nat) (g : GearD), gs[i]? = some g → GearOk i g) : ∀ x ∈ slpF s gs, x.1 ≤ 1000000 ∧ 1 ≤ x.2 ∧ x.2 ≤ 1000000 := fun x hx => by
  rcases List.mem_cons.mp hx with rfl | hx
  · obtain ⟨a, b, c⟩ := low_bnd0 hs.2.1
    exact ⟨Nat.le_trans a hs.1, b, Nat.le_trans c hs.2.2⟩
  · obtain ⟨g, hgm, rfl⟩ := List.mem_map.mp hx
    obtain ⟨i, hi⟩ := List.mem_iff_getElem?.mp hgm
    obtain ⟨_, _, _, _, _, h1, h2, h3⟩ := hg i g hi
    obtain ⟨a, b, c⟩ := low_bnd0 h2
    exact ⟨Nat.le_trans a h1, b, Nat.le_trans c h3⟩
/-- a train -/
abbrev trO (C dx : Addr) (og pp sl : Addr) (u : Int) : HO := .ins C dx [("own_gears", .ref og), ("periods", .ref pp), ("slips", .ref sl), ("unit", .int u)]
/-- period, slip, gears -/
abbrev TrD := Nat × Fr × List GearD
def GearsOk (gs : List GearD) : Prop := gs.length ≤ 6 ∧ ∀ (i : Nat) (g : GearD), gs[i]? = some g → GearOk i g
def TrOk (d : TrD) : Prop := 1 ≤ d.1 ∧ d.1 ≤ 1000000 ∧ FrOk d.2.1 ∧ GearsOk d.2.2
def unitF (d : TrD) : Nat := lcms (((perF d.1 d.2.2 ++ slpF d.2.1 d.2.2).map fun x => (x.2 : Int)))
def againF (d : TrD) : Nat := lcms ((perF d.1 d.2.2).map fun x => (x.1 : Int))
def TrAt (C : Addr) (L : Lg) (v : V) (d : TrD) : Prop := ∃ a dx og pp sl gz pz sz, v = .ref a ∧ (a, trO C dx og pp sl (unitF d)) ∈ L ∧ (og, HO.tup gz) ∈ L ∧ Reps (GearAt L) gz d.2.2 ∧ (pp, HO.tup pz) ∈ L ∧ Reps (FrAt L) pz (perF d.1 d.2.2) ∧ (sl, HO.tup sz) ∈ L ∧ Reps (FrAt L) sz (slpF d.2.1 d.2.2)
theorem trMono {C : Addr} : RepMono (TrAt C) := fun _ _ _ _ s ⟨a, dx, og, pp, sl, gz, pz, sz, e, h1, h2, r1, h3, r2, h4, r3⟩ =>
  ⟨a, dx, og, pp, sl, gz, pz, sz, e, s _ h1, s _ h2, r1.imp fun v a z => gearMono _ _ _ _ s z, s _ h3, r2.imp fun v a z => frMono _ _ _ _ s z, s _ h4, r3.imp fun v a z => frMono _ _ _ _ s z⟩
structure TrC (K : PySem.W.Frag) (C : Addr) : Prop where
  c : L2.Cls K C
  n1 : NoAttr K C "own_gears"
  n2 : NoAttr K C "periods"
  n3 : NoAttr K C "slips"
  n4 : NoAttr K C "unit"
/-- self, period, slip, gears, as they are bound -/
def spTrainInit (K : PySem.W.Frag) (C : Addr) : SpL := fun vs L Q _ => ∃ (a dx gt : Addr) (p : Nat) (v : V) (s : Fr) (gz : List V) (gs : List GearD) (R : Lg), vs = [.ref a, .int (p : Nat), v, .ref gt] ∧ L = (gt, HO.tup gz) :: (a, HO.ins C dx []) :: R ∧ TrC K C ∧ FrH K R v s ∧ Reps (GearAt R) gz gs ∧ TrOk (p, s, gs) ∧
  ∀ (og pp sl : Addr) (N : Lg) (pz sz : List V), og = gt → (∀ e ∈ R, e ∈ N) → (og, HO.tup gz) ∈ N → (pp, HO.tup pz) ∈ N → Reps (FrAt N) pz (perF p gs) → (sl, HO.tup sz) ∈ N → Reps (FrAt N) sz (slpF s gs) → Q .non ((a, trO C dx og pp sl (unitF (p, s, gs))) :: N)
section
variable {P : Program} {w : World} {K : PySem.W.Frag} {mg : Str → Option Value} {base : Heap} {C : Addr}
theorem slp_more {s : Fr} {gs : List GearD} {i : Nat} {g : GearD} (h : gs[i]? = some g) : slpF s (gs.take (i + 1)) = slpF s (gs.take i) ++ [low g.2.2.2] := by
  unfold slpF
  rw [List.take_succ, h]
  simp
theorem gss_nd2 {X : Cx} {st : List Stmt} {D : GD} {η : En} {L : Lg} (h : (L.map (·.1)).Nodup → GSs X st D η L) : GSs X st D η L := fun hN H hH => h hH.1 hN H hH
theorem Reps.append {α : Type} {R : V → α → Prop} : ∀ {xs ys : List V} {as bs : List α}, Reps R xs as → Reps R ys bs → Reps R (xs ++ ys) (as ++ bs)
  | _, _, _, _, .nil, h => h
  | _, _, _, _, .cons a t, h => .cons a (Reps.append t h)
theorem gg_nd {X : Cx} {tg : Expr} {v : V} {η : En} {L : Lg} {Q : En → Lg → Prop} (h : (L.map (·.1)).Nodup → GG X tg v η L Q) : GG X tg v η L Q := fun hN H hH => h hH.1 hN H hH
theorem body_Train_init (B : Bi mg) (D1 : Fn P w K mg base CX0 "is_between" 2 spBetween) (D2 : Fn P w K mg base CX0 "is_fraction" 3 (spFraction K)) (D3 : Fn P w K mg base CX0 "lowest" 4 spLowest) (D4 : Fn P w K mg base CX0 "need_gear" 4 spNeedGear) (D5 : Fn P w K mg base CX0 "multiple" 3 (spStar spMultiple0))
    {u1 u2 : Value} (hM : mg "MOST_UNITS" = some u1) (rM : RelV (.int 1000000) u1) (hG : mg "MOST_GEARS" = some u2) (rG : RelV (.int 6) u2) : BodyOf P w K mg base N_Train_init "Train.__init__" s_Train_init 4 (spTrainInit K C) := by
  intro X f cdv A outer s H E0 L vs Q E hX nd hr h
  subst hX
  obtain ⟨a, dx, gt, p, v, sv, gz, gs, R, rfl, rfl, ⟨cC, cn1, cn2, cn3, cn4⟩, fh, rg, ⟨p1, p2, s0, g6, gok⟩, q⟩ := h
  have lg := rg.len
  dsimp only at p1 p2 s0 g6 gok
  show GSs _ (defBody s_Train_init) (bodyD Q) [("self", some (.ref a)), ("period", some (.int (p : Nat))), ("slip", some v), ("gears", some (.ref gt)), ("periods", none), ("slips", none), ("at", none), ("gear", none), ("on", none), ("driving", none), ("driven", none), ("top", none), ("bottom", none), ("bottoms", none)] _
  refine gss_cons ?_
  tm_at "g"
  refine ge_call (El := NoX) D1 hr passA ?_
  tm_at "g"
  refine gv_con hM rM ?_
  tm_at "g"
  refine ⟨_, _, _, rfl, by omega, by omega, ?_⟩
  tm_at "g"
  refine ge_call (El := NoX) D2 hr passA ?_
  tm_at "g"
  refine ⟨v, sv, rfl, fh.mono fun _ h => memS (memS h), s0, ?_⟩
  tm_at "g"
  refine gv_con hG rG ?_
  tm_at "g"
  refine ite_d (fun z => absurd z (by omega)) (fun _ => ?_)
  obtain ⟨fv, rfl, mfv⟩ := fh
  tm_at "g"
  refine ge_call (El := NoX) D3 hr passA ?_
  tm_at "g"
  refine gi_fr0 (mfv.imp (fun h => by repeat (first | exact h | with_reducible apply memS)) id) ?_
  tm_at "g"
  refine gi_fr1 (mfv.imp (fun h => by repeat (first | exact h | with_reducible apply memS)) id) ?_
  tm_at "g"
  have sm : ∀ x : Nat, x ≤ 1000000000000000000000000000000 → x < 2 ^ 200 := fun x hx => Nat.lt_of_lt_of_le (show x < 2 ^ 100 by omega) (pw2 100 200 (by decide))
  obtain ⟨s1, s2, s3⟩ := s0
  refine ⟨sv.1, sv.2, rfl, s2, sm _ (by omega), sm _ (by omega), fun t0 => ?_⟩
  tm_at "g"
  rename_i z1 pl sl
  refine gs_for (gi_enumO (o := .tup gz) (.inr rfl) ?_ B.enumerate)
  tm_at "g"
  have e0 : perF p (gs.take 0) = [(p, 1)] := rfl
  have f0 : slpF sv (gs.take 0) = [low sv] := rfl
  refine ⟨by tm_at "g_mem", fun i θ N => ∃ (u1 u2 u3 u4 u5 u6 u7 : Option V) (pz sz : List V) (R' : Lg), θ = ([("self", some (.ref a)), ("period", some (.int (p : Nat))), ("slip", some (.ref fv)), ("gears", some (.ref gt)), ("periods", some (.ref pl)), ("slips", some (.ref sl)), ("at", u1), ("gear", u2), ("on", u3), ("driving", u4), ("driven", u5), ("top", u6), ("bottom", u7), ("bottoms", none)] : En) ∧
    Sub ((pl, HO.lst pz) :: (sl, HO.lst sz) :: R') N ∧ Sub ((gt, HO.tup gz) :: (a, HO.ins C dx []) :: R) R' ∧ Reps (FrAt R') pz (perF p (gs.take i)) ∧ Reps (FrAt R') sz (slpF sv (gs.take i)), ?_, fun i θ M _ nd ⟨_, _, _, _, _, _, _, _, _, _, _, sb, sR, _⟩ => (sb.to nd).2 _ (memS (memS ((sR.to (List.nodup_cons.mp (List.nodup_cons.mp (sb.to nd).1).2).2).2 _ mem0))), ?_, ?_⟩
  · refine ⟨none, none, none, none, none, none, none, [V.ref z1], [V.ref t0], (t0, frO (low sv)) :: (z1, HO.tup [.int (p : Nat), .int 1]) :: (gt, HO.tup gz) :: (a, HO.ins C dx []) :: R, rfl, ?_, Sub.trans Sub.drop Sub.drop, ?_, ?_⟩
    · exact Sub.perm (List.perm_middle (l₁ := [_, _])).symm
    · rw [e0]
      exact .cons ⟨z1, rfl, memS mem0⟩ .nil
    · rw [f0]
      exact .cons ⟨t0, rfl, mem0⟩ .nil
  · rintro i x E1 θ N hi ⟨T, y1, y2, rfl, rfl, ea, eb⟩ ⟨u1, u2, u3, u4, u5, u6, u7, pz, sz, R', rfl, sb, sR, rp, rs⟩
    cases ea
    have eb : gz[i]? = some y2 := eb
    obtain ⟨g, hg, ga, gf, rfl, mga, mgf⟩ := rg.get eb
    obtain ⟨k1, k2, k3, k4, k5, k6, k7, k8⟩ := gok i g hg
    refine GG.sub (Sub.cons sb) ?_
    refine gg_nd fun ndN => ?_
    have up := (sR.to (List.nodup_cons.mp (List.nodup_cons.mp (List.nodup_cons.mp ndN).2).2).2).2
    have mga2 := up _ (memS (memS mga))
    have mgf2 := up _ (memS (memS mgf))
    refine gg_tup mem0 ?_
    tm_at "g"
    refine ge_call (El := NoX) D4 hr passA ?_
    tm_at "g"
    refine ⟨_, g, i, rfl, ⟨ga, gf, rfl, memS (memS (memS mga2)), memS (memS (memS mgf2))⟩, ⟨k1, k2, k3, k4, k5, k6, k7, k8⟩, ?_⟩
    have hil : i < gs.length := (List.getElem?_eq_some_iff.mp hg).1
    have lp := rp.len
    rw [per_len, List.length_take, Nat.min_eq_left (by omega)] at lp
    have ls := rs.len
    have hon : g.1 < pz.length := by omega
    obtain ⟨y, hy, ya, eya, mya⟩ := rp.get (List.getElem?_eq_getElem hon)
    have gok' : ∀ (j : Nat) (g : GearD), (gs.take i)[j]? = some g → GearOk j g := fun j g h => gok j g (by
      rw [List.getElem?_take] at h
      split at h
      · exact h
      · cases h)
    have yb := per_small (n := i) (by omega) (per_bnd p1 p2 i (gs.take i) (by rw [List.length_take]; omega) gok' y (List.mem_of_getElem? hy))
    tm_at "g"
    refine ge_call (El := NoX) D3 hr passA ?_
    tm_at "g"
    refine gi_lst (by tm_at "g_mem") (atI_nat (by rw [List.getElem?_eq_getElem hon, eya])) ?_
    tm_at "g"
    refine go_mulS (.inr (by omega)) ?_
    tm_at "g"
    refine gi_lst (by tm_at "g_mem") (atI_nat (by rw [List.getElem?_eq_getElem hon, eya])) ?_
    tm_at "g"
    refine go_mulS (.inr (by omega)) ?_
    have m1 := Nat.mul_le_mul yb.2.1 k5
    have m2 := Nat.mul_le_mul yb.2.2.2 k3
    have m3 := Nat.mul_pos yb.2.2.1 k2
    tm_at "g"
    refine ⟨y.1 * g.2.2.1, y.2 * g.2.1, by rw [Int.natCast_mul, Int.natCast_mul], m3, sm _ (by omega), sm _ (by omega), fun t1 => ?_⟩
    tm_at "g"
    refine ⟨pz, _, by tm_at "g_mem", szL (show pz.length + 1 ≤ 16777216 by omega), by tm_at "g_swap", ?_⟩
    tm_at "g"
    refine ge_call (El := NoX) D3 hr passA ?_
    tm_at "g"
    refine ⟨g.2.2.2.1, g.2.2.2.2, rfl, k7, sm _ (by omega), sm _ (by omega), fun t2 => ?_⟩
    tm_at "g"
    refine ⟨sz, _, by tm_at "g_mem", szL (show sz.length + 1 ≤ 16777216 by rw [ls, slpF, List.length_cons, List.length_map, List.length_take]; omega), by tm_at "g_swap", ?_⟩
    tm_at "g"
    have ey : (perF p (gs.take i)).getD g.1 (0, 1) = y := by rw [List.getD_eq_getElem?_getD, hy]; rfl
    refine ⟨_, _, _, _, _, _, _, pz ++ [V.ref t1], sz ++ [V.ref t2], (t2, frO (low g.2.2.2)) :: (t1, frO (low (y.1 * g.2.2.1, y.2 * g.2.1))) :: R', rfl, ?_, Sub.trans sR (Sub.trans Sub.drop Sub.drop), ?_, ?_⟩
    · exact Sub.trans (Sub.perm (List.perm_middle (l₁ := [_, _]))) (Sub.cons (Sub.trans (Sub.perm (List.perm_middle (l₁ := [_, _]))) (Sub.cons Sub.drop)))
    · rw [per_more hg, stepP, ey]
      exact (rp.imp fun v a z => frMono _ _ _ _ (fun _ h => memS (memS h)) z).snoc ⟨t1, rfl, memS mem0⟩
    · rw [slp_more hg]
      exact (rs.imp fun v a z => frMono _ _ _ _ (fun _ h => memS (memS h)) z).snoc ⟨t2, rfl, mem0⟩
  · rintro θ N ⟨u1, u2, u3, u4, u5, u6, u7, pz, sz, R', rfl, sb, sR, rp, rs⟩
    have rp : Reps (FrAt R') pz (perF p (gs.take gz.length)) := rp
    have rs : Reps (FrAt R') sz (slpF sv (gs.take gz.length)) := rs
    rw [List.take_of_length_le (by omega)] at rp rs
    refine (fun h => GSs.sub sb h) ?_
    refine gss_nd2 fun ndN => ?_
    have ndR := (List.nodup_cons.mp (List.nodup_cons.mp ndN).2).2
    obtain ⟨R2, pm, k1, k2⟩ := out1 ndR (Sub.trans Sub.drop sR)
    have tup2 : ∀ (b : Addr) (ys : List V), (b, HO.tup ys) ∈ R' → (b, HO.tup ys) ∈ R2 := fun b ys h => by
      rcases k2 _ h with z | z
      · cases z
      · exact z
    have mgt : (gt, HO.tup gz) ∈ R2 := tup2 _ _ ((sR.to ndR).2 _ mem0)
    have rp2 : Reps (FrAt R2) pz (perF p gs) := rp.imp fun v t ⟨b, e, m⟩ => ⟨b, e, tup2 _ _ m⟩
    have rs2 : Reps (FrAt R2) sz (slpF sv gs) := rs.imp fun v t ⟨b, e, m⟩ => ⟨b, e, tup2 _ _ m⟩
    have lp := rp.len
    have ls := rs.len
    rw [per_len] at lp
    rw [slpF, List.length_cons, List.length_map] at ls
    refine (fun h => GSs.sub (M := (a, HO.ins C dx []) :: (pl, HO.lst pz) :: (sl, HO.lst sz) :: R2) (Sub.trans (Sub.perm (List.perm_middle (l₁ := [_, _])).symm) (Sub.cons (Sub.cons (Sub.perm pm.symm)))) h) ?_
    clear sb sR ndN ndR pm rp rs k2
    tm_at "g"
    have ra := Reps.append rp2 rs2
    refine gs_lcP2 (by tm_at "g_put") (by tm_at "g_put") (fun _ => by tm_at "g_put") (gi_list ?_) (by decide) (show blkC N_Train_init (defScope s_Train_init) _ [(_, List.idxOf _ N_Train_init), (_, List.idxOf _ N_Train_init)] = true by decide +kernel)
    tm_at "g"
    refine go_cat (by tm_at "g_mem") (by tm_at "g_mem") (szL (by rw [lp, ls]; omega)) fun q1 => ?_
    tm_at "g"
    have all : (perF p gs ++ slpF sv gs).length = (pz ++ sz).length := ra.len.symm
    refine pure_list2 (pt := fun _ => true) (pg := fun i => .int (((perF p gs ++ slpF sv gs).getD i (0, 0)).2 : Nat)) mem0 (by rw [List.length_append, lp, ls]; omega) (fun i v hv => ?_) fun D3 => ?_
    · obtain ⟨t, ht, b, rfl, mb⟩ := ra.get hv
      have et : (perF p gs ++ slpF sv gs).getD i (0, 0) = t := by rw [List.getD_eq_getElem?_getD, ht]; rfl
      rw [et]
      refine ⟨b, _, _, rfl, by repeat (first | exact mb | with_reducible apply memS), fun D4 acc s1 H1 C1 cl1 fp1 => ?_⟩
      refine gts_nil ⟨rfl, Sub.refl, fun _ s2 H2 C2 cl2 fp2 => ?_⟩
      tm_at "g"
      exact ⟨rfl, Sub.refl⟩
    rw [show ((List.range (pz ++ sz).length).filter fun _ => true).map (fun i => V.int ((((perF p gs ++ slpF sv gs).getD i (0, 0)).2 : Nat) : Int)) = ((perF p gs ++ slpF sv gs).map fun x => ((x.2 : Nat) : Int)).map V.int by
      rw [← all, List.map_map]
      exact range_get fun i x h => by rw [List.getD_eq_getElem?_getD, h]; rfl]
    tm_at "g"
    refine ⟨a, C, dx, [], _, rfl, by tm_at "g_mem", cC, cn1, (show 0 < 1000 by decide), by tm_at "g_swap", ?_⟩
    rw [show putF ("own_gears" : Str) (V.ref gt) [] = ([("own_gears", .ref gt)] : List (Str × V)) from rfl]
    tm_at "g"
    refine gc_tupL (by tm_at "g_mem") fun pp => ?_
    tm_at "g"
    refine ⟨a, C, dx, [("own_gears", .ref gt)], _, rfl, by tm_at "g_mem", cC, cn2, (show 1 < 1000 by decide), by tm_at "g_swap", ?_⟩
    rw [show putF ("periods" : Str) (V.ref pp) [("own_gears", .ref gt)] = ([("own_gears", .ref gt), ("periods", .ref pp)] : List (Str × V)) from rfl]
    tm_at "g"
    refine gc_tupL (by tm_at "g_mem") fun sl2 => ?_
    tm_at "g"
    refine ⟨a, C, dx, [("own_gears", .ref gt), ("periods", .ref pp)], _, rfl, by tm_at "g_mem", cC, cn3, (show 2 < 1000 by decide), by tm_at "g_swap", ?_⟩
    rw [show putF ("slips" : Str) (V.ref sl2) [("own_gears", .ref gt), ("periods", .ref pp)] = ([("own_gears", .ref gt), ("periods", .ref pp), ("slips", .ref sl2)] : List (Str × V)) from rfl]
    tm_at "g"
    refine ge_callS (El := NoX) D5 hr passA ?_
    tm_at "g"
    refine ⟨D3, _, rfl, .inr (by tm_at "g_mem"), szL (by rw [List.length_map, List.length_map, all, List.length_append, lp, ls]; omega), fun p5 => ⟨p5, _, _, rfl, rfl, fun n hn => ?_, by rw [List.length_map, all, List.length_append, lp, ls]; omega, ?_⟩⟩
    · obtain ⟨x, hx, rfl⟩ := List.mem_map.mp hn
      have xb : 1 ≤ x.2 ∧ x.2 ≤ 1000000000000000000 := by
        rcases List.mem_append.mp hx with hx | hx
        · have z := per_small g6 (per_bnd p1 p2 gs.length gs rfl gok x hx)
          omega
        · have z := slp_bnd ⟨s1, s2, s3⟩ gok x hx
          omega
      have z := sm x.2 (by omega)
      exact ⟨by omega, by rw [Int.natAbs_natCast]; exact z⟩
    tm_at "g"
    refine ⟨a, C, dx, [("own_gears", .ref gt), ("periods", .ref pp), ("slips", .ref sl2)], _, rfl, by tm_at "g_mem", cC, cn4, (show 3 < 1000 by decide), by tm_at "g_swap", ?_⟩
    tm_at "g"
    refine ⟨_, ?_, q gt pp sl2 ((sl2, HO.tup sz) :: (pp, HO.tup pz) :: R2) pz sz rfl (fun e he => memS (memS (k1 e he))) (memS (memS mgt)) (memS mem0) (rp2.imp fun v t z => frMono _ _ _ _ (fun _ h => memS (memS h)) z) mem0 (rs2.imp fun v t z => frMono _ _ _ _ (fun _ h => memS (memS h)) z)⟩
    exact Sub.trans (Sub.perm (List.perm_middle (l₁ := [(sl2, HO.tup sz), (pp, HO.tup pz)])).symm) (Sub.cons (Sub.cons (Sub.trans (Sub.cons (Sub.trans Sub.drop Sub.drop)) (Sub.trans Sub.drop Sub.drop))))
end
section
variable {P : Program} {w : World} {K : PySem.W.Frag} {mg : Str → Option Value} {base : Heap} {C : Addr}
def spTrLen (K : PySem.W.Frag) (C : Addr) : SpL := fun vs L Q _ => ∃ (a dx og pp sl : Addr) (u : Int) (pz : List V), vs = [.ref a] ∧ (a, trO C dx og pp sl u) ∈ L ∧ TrC K C ∧ (pp, HO.tup pz) ∈ L ∧ Q (.int pz.length) L
theorem run_Train_len (B : Bi mg) {f : Addr} {fd : FuncData} (F : Fun K "__len__" "Train.__len__" s_Train_len f fd) : RunG P w K mg base CX0 1 f argsP (toSp (spTrLen K C)) := by
  refine run_plain F sc_Train_len argsP id id (fun _ _ r => r) (fun _ _ _ _ _ _ us hl => match us, hl with | [_], _ => rfl) (by decide) (by tm_at "g_len") ?_
  intro X f cdv A outer s H E0 L vs Q E hX nd hr h
  subst hX
  obtain ⟨a, dx, og, pp, sl, u, pz, rfl, ma, ⟨c, n1, n2, n3, n4⟩, mp, q⟩ := h
  show GSs _ (defBody s_Train_len) (bodyD Q) [("self", some (.ref a))] L
  refine gss_cons ?_
  tm_at "g"
  exact ⟨_, Sub.refl, q⟩
def TrIt (K : PySem.W.Frag) (C : Addr) : Addr → Addr → List V → Lg → Prop := fun a t xs L => ∃ (dx og sl : Addr) (u : Int), TrC K C ∧ (a, trO C dx og t sl u) ∈ L
theorem run_Train_iter (B : Bi mg) {f : Addr} {fd : FuncData} (F : Fun K "__iter__" "Train.__iter__" s_Train_iter f fd) (n : Nat) : RunN n P w K mg base CX0 1 f argsP (toSp (spIterT n (TrIt K C))) := by
  refine run_plainN F sc_Train_iter (fun _ _ _ _ _ _ us hl => match us, hl with | [_], _ => rfl) (by decide) (by tm_at "g_len") ?_
  intro X f cdv A outer s H E0 L vs Q E hX hn nd hr h
  subst hX
  obtain ⟨a, t, xs, rfl, ⟨dx, og, sl, u, ⟨c, n1, n2, n3, n4⟩, ma⟩, mt, q⟩ := h
  show GSs _ (defBody s_Train_iter) (bodyD Q) [("self", some (.ref a))] L
  refine gss_cons ?_
  tm_at "g"
  refine ge_B B.iter bt_iter ?_
  tm_at "g"
  refine gc_iterT mt fun it hit => ?_
  exact ⟨_, Sub.refl, q it (Nat.le_trans hn hit)⟩
def spTrItem (K : PySem.W.Frag) (C : Addr) : SpL := fun vs L Q _ => ∃ (a dx og pp sl : Addr) (u : Int) (pz : List V) (i : Nat) (v : V), vs = [.ref a, .int (i : Nat)] ∧ (a, trO C dx og pp sl u) ∈ L ∧ TrC K C ∧ (pp, HO.tup pz) ∈ L ∧ pz[i]? = some v ∧ Q v L
theorem run_Train_getitem (B : Bi mg) {f : Addr} {fd : FuncData} (F : Fun K "__getitem__" "Train.__getitem__" s_Train_getitem f fd) (D1 : Fn P w K mg base CX0 "is_between" 2 spBetween) : RunG P w K mg base CX0 3 f argsP (toSp (spTrItem K C)) := by
  refine run_plain F sc_Train_getitem argsP id id (fun _ _ r => r) (fun _ _ _ _ _ _ us hl => match us, hl with | [_, _], _ => rfl) (by decide) (by tm_at "g_len") ?_
  intro X f cdv A outer s H E0 L vs Q E hX nd hr h
  subst hX
  obtain ⟨a, dx, og, pp, sl, u, pz, i, v, rfl, ma, ⟨c, n1, n2, n3, n4⟩, mp, hv, q⟩ := h
  have hi := (List.getElem?_eq_some_iff.mp hv).1
  show GSs _ (defBody s_Train_getitem) (bodyD Q) [("self", some (.ref a)), ("i", some (.int (i : Nat)))] L
  refine gss_cons ?_
  tm_at "g"
  refine ge_call (El := NoX) D1 hr passA ?_
  tm_at "g"
  refine ⟨_, _, _, rfl, by omega, by omega, ?_⟩
  tm_at "g"
  refine gi_tup mp (atI_nat hv) ?_
  exact ⟨_, Sub.refl, q⟩
def spTrAgain (K : PySem.W.Frag) (C : Addr) : SpL := fun vs L Q _ => ∃ (a dx og pp sl : Addr) (u : Int) (pz : List V) (ps : List Fr), vs = [.ref a] ∧ (a, trO C dx og pp sl u) ∈ L ∧ TrC K C ∧ (pp, HO.tup pz) ∈ L ∧ Reps (FrAt L) pz ps ∧ ps.length ≤ 7 ∧ (∀ x ∈ ps, 1 ≤ x.1 ∧ x.1 < 2 ^ 200) ∧ Q (.int (lcms (ps.map fun x => (x.1 : Int)) : Nat)) L
theorem run_Train_again (B : Bi mg) {f : Addr} {fd : FuncData} (F : Fun K "again" "Train.again" s_Train_again f fd) (D1 : Fn P w K mg base CX0 "multiple" 3 (spStar spMultiple0)) : RunG P w K mg base CX0 4 f argsP (toSp (spTrAgain K C)) := by
  refine run_plain F sc_Train_again argsP id id (fun _ _ r => r) (fun _ _ _ _ _ _ us hl => match us, hl with | [_], _ => rfl) (by decide) (by tm_at "g_len") ?_
  intro X f cdv A outer s H E0 L vs Q E hX nd hr h
  subst hX
  obtain ⟨a, dx, og, pp, sl, u, pz, ps, rfl, ma, ⟨c, n1, n2, n3, n4⟩, mp, rp, hl, hb, q⟩ := h
  have lp := rp.len
  show GSs _ (defBody s_Train_again) (bodyD Q) [("self", some (.ref a)), ("tops", none), ("top", none), ("bottom", none)] L
  refine gss_cons ?_
  refine gs_lcP2 (by tm_at "g_put") (by tm_at "g_put") (fun _ => by tm_at "g_put") (gi_rowO (o := .tup pz) (.inr rfl) ?_) (by decide) (show blkC N_Train_again (defScope s_Train_again) _ [(_, List.idxOf _ N_Train_again), (_, List.idxOf _ N_Train_again)] = true by decide +kernel)
  tm_at "g"
  refine ⟨mp, ?_⟩
  refine pure_row2 (pt := fun _ => true) (pg := fun i => .int ((ps.getD i (0, 0)).1 : Nat)) mp (by omega) (fun i v hv => ?_) fun D => ?_
  · obtain ⟨t, ht, b, rfl, mb⟩ := rp.get hv
    have et : ps.getD i (0, 0) = t := by rw [List.getD_eq_getElem?_getD, ht]; rfl
    rw [et]
    refine ⟨b, _, _, rfl, mb, fun D4 acc s1 H1 C1 cl1 fp1 => ?_⟩
    refine gts_nil ⟨rfl, Sub.refl, fun _ s2 H2 C2 cl2 fp2 => ?_⟩
    tm_at "g"
    exact ⟨rfl, Sub.refl⟩
  rw [show ((List.range pz.length).filter fun _ => true).map (fun i => V.int (((ps.getD i (0, 0)).1 : Nat) : Int)) = (ps.map fun x => ((x.1 : Nat) : Int)).map V.int by
    rw [lp, List.map_map]
    exact range_get fun i x h => by rw [List.getD_eq_getElem?_getD, h]; rfl]
  tm_at "g"
  refine ge_callS (El := NoX) D1 hr passA ?_
  tm_at "g"
  refine ⟨D, _, rfl, .inr mem0, szL (by rw [List.length_map, List.length_map]; omega), fun p5 => ⟨p5, _, _, rfl, rfl, fun n hn => ?_, by rw [List.length_map]; omega, ?_⟩⟩
  · obtain ⟨x, hx, rfl⟩ := List.mem_map.mp hn
    obtain ⟨x1, x2⟩ := hb x hx
    exact ⟨by omega, by rw [Int.natAbs_natCast]; exact x2⟩
  exact ⟨_, Sub.drop, q⟩
end
def standF (v : Int) (ps : List Fr) : List Fr := ps.map fun x => low ((v * (x.2 : Int) % (x.1 : Int)).toNat, x.2)
theorem small200 {x : Nat} (h : x ≤ 1000000000000000000000000000000) : x < 2 ^ 200 := Nat.lt_of_lt_of_le (show x < 2 ^ 100 by omega) (pw2 100 200 (by decide))
theorem range_dflt {α : Type} {l : List α} {d : α} : (List.range l.length).map (fun j => l.getD j d) = l := by
  have z := range_get (l := l) (f := fun j => l.getD j d) (g := id) fun i a h => by rw [List.getD_eq_getElem?_getD, h]; rfl
  rw [List.filter_eq_self.mpr fun _ _ => rfl, List.map_id] at z
  exact z
section
variable {P : Program} {w : World} {K : PySem.W.Frag} {mg : Str → Option Value} {base : Heap} {C : Addr}
def spStands (K : PySem.W.Frag) (C : Addr) : SpL := fun vs L Q _ => ∃ (a dx og pp sl : Addr) (u : Int) (pz : List V) (ps : List Fr) (v : Int), vs = [.ref a, .int v] ∧ (a, trO C dx og pp sl u) ∈ L ∧ TrC K C ∧ (pp, HO.tup pz) ∈ L ∧ Reps (FrAt L) pz ps ∧ ps.length ≤ 7 ∧ (∀ x ∈ ps, 1 ≤ x.1 ∧ x.1 ≤ 1000000000000000000000000 ∧ 1 ≤ x.2 ∧ x.2 ≤ 1000000000000000000) ∧
  ∀ (t : Addr) (zs : List V) (R : Lg), (∀ e ∈ L, e ∈ R) → Reps (FrAt R) zs (standF v ps) → Q (.ref t) ((t, .tup zs) :: R)
theorem run_Train_stands (B : Bi mg) {f : Addr} {fd : FuncData} (F : Fun K "stands" "Train.stands" s_Train_stands f fd) (D0 : Fn P w K mg base CX0 "is_whole" 1 spWholeI) (D1 : Fn P w K mg base CX0 "lowest" 4 spLowest) : RunG P w K mg base CX0 5 f argsP (toSp (spStands K C)) := by
  refine run_plain F sc_Train_stands argsP id id (fun _ _ r => r) (fun _ _ _ _ _ _ us hl => match us, hl with | [_, _], _ => rfl) (by decide) (by tm_at "g_len") ?_
  intro X f cdv A outer s H E0 L vs Q E hX nd hr h
  subst hX
  obtain ⟨a, dx, og, pp, sl, u, pz, ps, v, rfl, ma, ⟨c, n1, n2, n3, n4⟩, mp, rp, hl, hb, q⟩ := h
  have lp := rp.len
  show GSs _ (defBody s_Train_stands) (bodyD Q) [("self", some (.ref a)), ("value", some (.int v)), ("top", none), ("bottom", none)] L
  refine gss_cons ?_
  tm_at "g"
  refine ge_call (El := NoX) D0 hr passA ?_
  tm_at "g"
  refine ⟨v, rfl, ?_⟩
  tm_at "g"
  refine ge_lcR2 (by tm_at "g_put") (fun _ => by tm_at "g_put") (gi_rowO (o := .tup pz) (.inr rfl) ?_) (by decide) (show blkC N_Train_stands (defScope s_Train_stands) _ [(_, List.idxOf _ N_Train_stands), (_, List.idxOf _ N_Train_stands)] = true by decide +kernel)
  tm_at "g"
  refine ⟨mp, Fr, FrAt, fun i => (standF v ps).getD i (0, 0), frMono, by show pz.length ≤ _; omega, fun M s => s _ mp, ?_, ?_⟩
  · intro D i x E2 zs R hi it hR nd
    obtain ⟨hx, rfl⟩ := it
    obtain ⟨t, ht, b, rfl, mb⟩ := rp.get hx
    have tb := hb t (List.mem_of_getElem? ht)
    have et : (standF v ps).getD i (0, 0) = low ((v * (t.2 : Int) % (t.1 : Int)).toNat, t.2) := by
      unfold standF
      rw [List.getD_eq_getElem?_getD, List.getElem?_map, ht]
      rfl
    dsimp only [List.nil_append]
    rw [et]
    refine ⟨b, _, _, rfl, memS (hR _ mb), ?_⟩
    intro s2 H2 C2 cl2 fp2
    tm_at "g"
    refine ge_call (El := NoX) D1 hr passA ?_
    tm_at "g"
    refine go_mulS (.inr (by omega)) ?_
    tm_at "g"
    refine go_mod (by omega) ?_
    have z0 := Int.emod_nonneg (v * (t.2 : Int)) (show (t.1 : Int) ≠ 0 by omega)
    have z1 := Int.emod_lt_of_pos (v * (t.2 : Int)) (show 0 < (t.1 : Int) by omega)
    tm_at "g"
    refine ⟨(v * (t.2 : Int) % (t.1 : Int)).toNat, t.2, by rw [Int.toNat_of_nonneg z0], tb.2.2.1, small200 (by omega), small200 (by omega), fun t2 => ?_⟩
    exact ⟨(t2, frO (low ((v * (t.2 : Int) % (t.1 : Int)).toNat, t.2))) :: R, Sub.perm (List.Perm.swap _ _ _), fun _ h => memS h, t2, rfl, mem0⟩
  · intro D zs R hR rz
    tm_at "g"
    refine gc_tupL mem0 fun t => ?_
    replace rz : Reps (FrAt R) zs ((List.range pz.length).map fun i => (standF v ps).getD i (0, 0)) := rz
    rw [show pz.length = (standF v ps).length by unfold standF; rw [List.length_map, lp], range_dflt] at rz
    exact ⟨_, Sub.cons Sub.drop, q t zs R hR rz⟩
end
def frI (t : Fr) : Int × Int := ((t.1 : Int), (t.2 : Int))
theorem fr_prs {L : Lg} : ∀ {zs : List V} {ts : List Fr}, Reps (FrAt L) zs ts → ∃ ps : List Pr2, zs = ps.map (fun e => V.ref e.1) ∧ ps.map (·.2) = ts.map frI ∧ PrL ps L
  | _, _, .nil => ⟨[], rfl, rfl, fun _ h => nomatch h⟩
  | _, _, .cons ⟨a, e, m⟩ r => by
    subst e
    obtain ⟨ps, e1, e2, h⟩ := fr_prs r
    refine ⟨(a, frI _) :: ps, by rw [e1]; rfl, by rw [List.map_cons, e2]; rfl, fun e he => ?_⟩
    rcases List.mem_cons.mp he with rfl | he
    · exact m
    · exact h e he
theorem frI_map : ∀ {ts us : List Fr}, ts.map frI = us.map frI → ts = us
  | [], [], _ => rfl
  | [], _ :: _, h => by cases h
  | _ :: _, [], h => by cases h
  | t :: ts, u :: us, h => by
    rw [List.map_cons, List.map_cons] at h
    obtain ⟨h1, h2⟩ := List.cons.inj h
    have e1 : (t.1 : Int) = u.1 := congrArg Prod.fst h1
    have e2 : (t.2 : Int) = u.2 := congrArg Prod.snd h1
    rw [frI_map h2, show t = u from Prod.ext (by omega) (by omega)]
theorem frI_dec {ts us : List Fr} : decide (ts.map frI = us.map frI) = decide (ts = us) := decide_eq_decide.mpr ⟨frI_map, fun h => by rw [h]⟩
/-- a train by its lists -/
structure TrL (C : Addr) (a : Addr) (ps ss : List Fr) (L : Lg) : Prop where
  ex : ∃ dx og pp sl u pz sz, (a, trO C dx og pp sl u) ∈ L ∧ (pp, HO.tup pz) ∈ L ∧ Reps (FrAt L) pz ps ∧ (sl, HO.tup sz) ∈ L ∧ Reps (FrAt L) sz ss
theorem TrAt.l {C : Addr} {L : Lg} {v : V} {d : TrD} (h : TrAt C L v d) : ∃ a, v = .ref a ∧ TrL C a (perF d.1 d.2.2) (slpF d.2.1 d.2.2) L := by
  obtain ⟨a, dx, og, pp, sl, gz, pz, sz, e, h1, h2, r1, h3, r2, h4, r3⟩ := h
  exact ⟨a, e, ⟨dx, og, pp, sl, _, pz, sz, h1, h3, r2, h4, r3⟩⟩
section
variable {P : Program} {w : World} {K : PySem.W.Frag} {mg : Str → Option Value} {base : Heap} {C : Addr}
def spTrEq (K : PySem.W.Frag) (C : Addr) : SpL := fun vs L Q _ => ∃ (a b : Addr) (ps ss qs ts : List Fr), vs = [.ref a, .ref b] ∧ TrL C a ps ss L ∧ TrL C b qs ts L ∧ Q (.bl (decide (ps = qs ∧ ss = ts))) L
theorem run_Train_eq (B : Bi mg) {f : Addr} {fd : FuncData} (F : Fun K "__eq__" "Train.__eq__" s_Train_eq f fd) (hC : mg "Train" = some (.ref C)) (tc : TrC K C) (ot : OwnT K C) (kk : PySem.W.kitOne K (.ref C) (.ref C) = some true) : RunG P w K mg base CX0 1 f argsP (toSp (spTrEq K C)) := by
  obtain ⟨c, n1, n2, n3, n4⟩ := tc
  refine run_plain F sc_Train_eq argsP id id (fun _ _ r => r) (fun _ _ _ _ _ _ us hl => match us, hl with | [_, _], _ => rfl) (by decide) (by tm_at "g_len") ?_
  intro X f cdv A outer s H E0 L vs Q E hX nd hr h
  subst hX
  obtain ⟨a, b, ps, ss, qs, ts, rfl, ⟨⟨dx, og, pp, sl, u, pz, sz, ma, mp, rp, ms, rs⟩⟩, ⟨⟨dy, og2, pp2, sl2, u2, pz2, sz2, mb, mp2, rp2, ms2, rs2⟩⟩, q⟩ := h
  obtain ⟨e1, x1, y1, z1⟩ := fr_prs rp
  obtain ⟨e2, x2, y2, z2⟩ := fr_prs rp2
  obtain ⟨e3, x3, y3, z3⟩ := fr_prs rs
  obtain ⟨e4, x4, y4, z4⟩ := fr_prs rs2
  show GSs _ (defBody s_Train_eq) (bodyD Q) [("self", some (.ref a)), ("other", some (.ref b))] L
  refine gss_cons ?_
  tm_at "g"
  refine gv_def hC ?_
  tm_at "g"
  refine gc_isI ot mb (.own C) kk ?_
  tm_at "g"
  refine go_eqPT hr mp mp2 x1 x2 z1 z2 ?_
  rw [y1, y2, frI_dec]
  tm_at "g"
  refine ite_d (fun h1 => ?_) (fun h1 => ?_)
  · tm_at "g"
    refine go_eqPT hr ms ms2 x3 x4 z3 z4 ?_
    rw [y3, y4, frI_dec]
    rw [show decide (ps = qs ∧ ss = ts) = decide (ss = ts) from decide_eq_decide.mpr ⟨fun h => h.2, fun h => ⟨h1, h⟩⟩] at q
    exact ⟨_, Sub.refl, q⟩
  · rw [decide_eq_false fun h => h1 h.1] at q
    exact ⟨_, Sub.refl, q⟩
/-- a train against something else -/
def spTrNeq (K : PySem.W.Frag) (C : Addr) : SpL := fun vs L Q _ => ∃ (a : Addr) (y : V) (T : String), vs = [.ref a, y] ∧ Knd L y T ∧ PySem.W.kitOne K (.type T) (.ref C) = some false ∧ Q (.bl false) L
theorem run_Train_neq (B : Bi mg) {f : Addr} {fd : FuncData} (F : Fun K "__eq__" "Train.__eq__" s_Train_eq f fd) (hC : mg "Train" = some (.ref C)) : RunG P w K mg base CX0 1 f argsP (toSp (spTrNeq K C)) := by
  refine run_plain F sc_Train_eq argsP id id (fun _ _ r => r) (fun _ _ _ _ _ _ us hl => match us, hl with | [_, _], _ => rfl) (by decide) (by tm_at "g_len") ?_
  intro X f cdv A outer s H E0 L vs Q E hX nd hr h
  subst hX
  obtain ⟨a, y, T, rfl, kn, kk, q⟩ := h
  show GSs _ (defBody s_Train_eq) (bodyD Q) [("self", some (.ref a)), ("other", some y)] L
  refine gss_cons ?_
  tm_at "g"
  refine gv_def hC ?_
  tm_at "g"
  refine gc_isKO kn kk ?_
  tm_at "g"
  exact ⟨_, Sub.refl, q⟩
end
theorem gcd_low {t : Fr} (h : 1 ≤ t.2) : Nat.gcd (low t).1 (low t).2 = 1 := by
  have g0 : 0 < Nat.gcd t.1 t.2 := Nat.gcd_pos_of_pos_right _ h
  exact Nat.gcd_div_gcd_div_gcd_of_pos_right h
theorem low_low {t : Fr} (h : 1 ≤ t.2) : low (low t) = low t := by
  have e := gcd_low h
  show ((low t).1 / Nat.gcd (low t).1 (low t).2, (low t).2 / Nat.gcd (low t).1 (low t).2) = low t
  rw [e, Nat.div_one, Nat.div_one]
theorem slp_low {s : Fr} {gs : List GearD} (h : 1 ≤ s.2) : slpF (low s) gs = slpF s gs := by
  unfold slpF
  rw [low_low h]
theorem bindS : BindK "__init__" "Train.__init__" "gears" s_Train_init ["self", "period"] ["slip"] ["slip"] [] (fun _ ws => ws) (fun _ => True) := fun D doc pm an cdv ct us rest mv ws h1 h2 h3 _ =>
  match us, h1, mv, h2, ws, h3 with
  | [u, v], _, [], _, [a], _ => by cases rest <;> exact rfl
theorem bindN (T0 : Addr) : BindK "__init__" "Train.__init__" "gears" s_Train_init ["self", "period"] ["slip"] [] [("slip", .ref T0)] (fun mz _ => mz) (fun _ => True) := fun D doc pm an cdv ct us rest mv ws h1 h2 h3 _ =>
  match us, h1, mv, h2, ws, h3 with
  | [u, v], _, [a], _, [], _ => by cases rest <;> exact ⟨_, _, _, _, _, _, rfl, rfl, rfl⟩
theorem bindP : BindK "__init__" "Train.__init__" "gears" s_Train_init ["self"] ["period", "slip"] ["period", "slip"] [] (fun _ ws => ws) (fun n => n = 0) := fun D doc pm an cdv ct us rest mv ws h1 h2 h3 h4 =>
  match us, h1, mv, h2, ws, h3, rest, h4 with
  | [u], _, [], _, [a, b], _, [], _ => rfl
  | [u], _, [], _, [a, b], _, _ :: _, h4 => nomatch h4
section
variable {P : Program} {w : World} {K : PySem.W.Frag} {mg : Str → Option Value} {base : Heap} {C f T0 : Addr}
/-- how Train's __init__ may be called -/
structure TrI (P : Program) (w : World) (K : PySem.W.Frag) (mg : Str → Option Value) (base : Heap) (C f T0 : Addr) : Prop where
  slip : ∀ n, RunG P w K mg base CX0 5 f (argsK n ["slip"]) (toSp fun vs L Q E => ∃ ws rest zs, vs = (ws ++ rest) ++ zs ∧ ws.length = 2 ∧ (ws ++ rest).length = n ∧ zs.length = 1 ∧ rest.length ≤ sizeLine ∧ True ∧ ∀ p, spTrainInit K C (ws ++ (zs ++ [.ref p])) ((p, .tup rest) :: L) Q E)
  none : ∀ n, RunG P w K mg base CX0 5 f (argsK n []) (toSp fun vs L Q E => ∃ ws rest zs, vs = (ws ++ rest) ++ zs ∧ ws.length = 2 ∧ (ws ++ rest).length = n ∧ zs.length = 0 ∧ rest.length ≤ sizeLine ∧ True ∧ ∀ p, spTrainInit K C (ws ++ ([.ref T0] ++ [.ref p])) ((p, .tup rest) :: L) Q E)
  both : ∀ n, RunG P w K mg base CX0 5 f (argsK n ["period", "slip"]) (toSp fun vs L Q E => ∃ ws rest zs, vs = (ws ++ rest) ++ zs ∧ ws.length = 1 ∧ (ws ++ rest).length = n ∧ zs.length = 2 ∧ rest.length ≤ sizeLine ∧ rest.length = 0 ∧ ∀ p, spTrainInit K C (ws ++ (zs ++ [.ref p])) ((p, .tup rest) :: L) Q E)
theorem trI_of (F : FunK K "__init__" "Train.__init__" s_Train_init [("slip", .ref T0)] f) (body : BodyOf P w K mg base N_Train_init "Train.__init__" s_Train_init 4 (spTrainInit K C)) : TrI P w K mg base C f T0 where
  slip := fun n => run_starK (ps := ["self", "period"]) (ko := ["slip"]) (ms := []) n (fun _ ws => ws) F sc_Train_init (fun q h => nomatch h) (fun _ r => r) (fun _ zs _ h => h) bindS (by decide) body
  none := fun n => run_starK (ps := ["self", "period"]) (ko := ["slip"]) (ms := [("slip", .ref T0)]) n (fun mz _ => mz) F sc_Train_init (fun q h => h) (fun r _ => r) (fun mz _ h _ => h) (bindN T0) (by decide) body
  both := fun n => run_starK (ps := ["self"]) (ko := ["period", "slip"]) (ms := []) n (fun _ ws => ws) F sc_Train_init (fun q h => nomatch h) (fun _ r => r) (fun _ zs _ h => h) bindP (by decide) body
end
theorem per_head {p : Nat} {gs : List GearD} : (perF p gs)[0]? = some (p, 1) := by
  have : ∀ (l : List GearD) (ps : List Fr), ps[0]? = some (p, 1) → (l.foldl stepP ps)[0]? = some (p, 1) := by
    intro l
    induction l with
    | nil => intro ps h; exact h
    | cons g l ih =>
      intro ps h
      rw [List.foldl_cons]
      refine ih _ ?_
      unfold stepP
      rw [List.getElem?_append_left (List.getElem?_eq_some_iff.mp h).1]
      exact h
  exact this gs _ rfl
section
variable {P : Program} {w : World} {K : PySem.W.Frag} {mg : Str → Option Value} {base : Heap} {C fI T0 : Addr}
def spTrAdd (C : Addr) : SpL := fun vs L Q _ => ∃ (v gv : V) (d : TrD) (g : GearD), vs = [v, gv] ∧ TrAt C L v d ∧ GearAt L gv g ∧ TrOk d ∧ d.2.2.length < 6 ∧ GearOk d.2.2.length g ∧ ∀ (x : V) (R : Lg), (∀ e ∈ L, e ∈ R) → TrAt C R x (d.1, d.2.1, d.2.2 ++ [g]) → Q x R
theorem run_Train_add (B : Bi mg) {f : Addr} {fd : FuncData} (F : Fun K "__add__" "Train.__add__" s_Train_add f fd) (hC : mg "Train" = some (.ref C)) (tc : TrC K C) (M : Mk K C fI) (TI : TrI P w K mg base C fI T0) : RunG P w K mg base CX0 7 f argsP (toSp (spTrAdd C)) := by
  refine run_plain F sc_Train_add argsP id id (fun _ _ r => r) (fun _ _ _ _ _ _ us hl => match us, hl with | [_, _], _ => rfl) (by decide) (by tm_at "g_len") ?_
  intro X f cdv A outer s H E0 L vs Q E hX nd hr h
  subst hX
  obtain ⟨v, gv, ⟨p, sv, gs⟩, g, rfl, ⟨a, dx, og, pp, sl, gz, pz, sz, rfl, ma, mg, rg, mp, rp, ms, rs⟩, ga, ⟨p1, p2, s0, g6, gok⟩, l6, gk, q⟩ := h
  dsimp only at ma rg rp rs p1 p2 s0 g6 gok l6 gk q
  obtain ⟨c, n1, n2, n3, n4⟩ := id tc
  have lg := rg.len
  have lp := rp.len
  have ls := rs.len
  rw [per_len] at lp
  rw [slpF, List.length_cons, List.length_map] at ls
  have h0 : 0 < pz.length := by omega
  obtain ⟨y, hy, ya, eya, mya⟩ := rp.get (List.getElem?_eq_getElem h0)
  obtain rfl : (p, 1) = y := Option.some.inj (per_head.symm.trans hy)
  have h1 : 0 < sz.length := by omega
  obtain ⟨y2, hy2, yb, eyb, myb⟩ := rs.get (List.getElem?_eq_getElem h1)
  obtain rfl : low sv = y2 := Option.some.inj hy2
  show GSs _ (defBody s_Train_add) (bodyD Q) [("self", some (.ref a)), ("gear", some gv), ("gears", none), ("slip", none), ("period", none)] L
  refine gss_cons ?_
  tm_at "g"
  refine ⟨og, gz, rfl, .inl mg, ?_⟩
  tm_at "g"
  rename_i q1
  refine gi_tup (memS ms) (atI_nat (j := 0) (by rw [List.getElem?_eq_getElem h1, eyb])) ?_
  tm_at "g"
  refine gi_tup (memS mp) (atI_nat (j := 0) (by rw [List.getElem?_eq_getElem h0, eya])) ?_
  tm_at "g"
  refine ge_kwS2 hC M.kp (fun n _ => gf_make (args := argsK n ["slip"]) (El := NoX) M (TI.slip (n + 1)) (fun _ _ => rfl) hr passA) ?_
  tm_at "g"
  refine ⟨q1, _, rfl, .inr mem0, ?_⟩
  tm_at "g"
  obtain ⟨s1, s2, s3⟩ := s0
  have lowb := low_bnd0 (t := sv) s2
  have gok2 : GearsOk (gs ++ [g]) := ⟨by rw [List.length_append]; simp; omega, fun i g' h => by
    by_cases hi : i < gs.length
    · rw [List.getElem?_append_left hi] at h
      exact gok i g' h
    · rw [List.getElem?_append_right (by omega)] at h
      by_cases h0 : i - gs.length = 0
      · rw [h0] at h
        have e : i = gs.length := by omega
        subst e
        cases h
        exact gk
      · obtain ⟨u, hu⟩ : ∃ u, i - gs.length = u + 1 := ⟨i - gs.length - 1, by omega⟩
        rw [hu] at h
        simp at h⟩
  refine fun x dx2 => ⟨[.ref x, .int (p : Nat)], gz ++ [gv], [.ref yb], by simp, rfl, by simp, rfl, szL (by rw [List.length_append]; simp; omega), True.intro, fun p' => ⟨x, dx2, p', p, .ref yb, low sv, gz ++ [gv], gs ++ [g], (dx2, .own x) :: (q1, HO.lst (gz ++ [gv])) :: L, rfl, rfl, tc, ⟨yb, rfl, .inl (memS (memS myb))⟩, (rg.imp fun v a z => gearMono _ _ _ _ (fun _ h => memS (memS h)) z).snoc (gearMono _ _ _ _ (fun _ h => memS (memS h)) ga), ⟨p1, p2, ⟨by dsimp only; omega, lowb.2.1, by dsimp only; omega⟩, gok2⟩, fun og' pp' sl' N pz' sz' eog up mo mp' rp' ms' rs' => ⟨rfl, ?_⟩⟩⟩
  have eu : unitF (p, low sv, gs ++ [g]) = unitF (p, sv, gs ++ [g]) := by unfold unitF; dsimp only; rw [slp_low s2]
  rw [slp_low s2] at rs'
  refine ⟨_, Sub.refl, q (.ref x) _ (fun e he => memS (up _ (memS (memS he)))) ⟨x, dx2, og', pp', sl', gz ++ [gv], pz', sz', rfl, by rw [eu]; exact mem0, memS mo, (rg.imp fun v a z => gearMono _ _ _ _ (fun _ h => memS (up _ (memS (memS h)))) z).snoc (gearMono _ _ _ _ (fun _ h => memS (up _ (memS (memS h)))) ga), memS mp', rp'.imp fun v a z => frMono _ _ _ _ (fun _ h => memS h) z, memS ms', rs'.imp fun v a z => frMono _ _ _ _ (fun _ h => memS h) z⟩⟩
end
section
variable {P : Program} {w : World} {K : PySem.W.Frag} {mg : Str → Option Value} {base : Heap} {C : Addr}
theorem fn_law_shared (B : Bi mg) (F : Df K mg "_law_shared" s_law_shared) : Fn P w K mg base CX0 "_law_shared" 1 spDivOf := by
  refine fn_plain F sc_law_shared (fun _ _ _ _ _ _ us hl => match us, hl with | [_, _], _ => rfl) (by decide) (by tm_at "g_len") ?_
  intro X f cdv A outer s H E0 L vs Q E hX nd hr h
  subst hX
  obtain ⟨a, b, rfl, hb, q⟩ := h
  show GSs _ (defBody s_law_shared) (bodyD Q) [("_law_one", some (.int (a : Nat))), ("_law_other", some (.int (b : Nat))), ("_law_first", none), ("_law_last", none)] L
  refine gss_cons ?_
  tm_at "g"
  refine gs_while (fun m θ M => ∃ c d : Nat, θ = ([("_law_one", some (.int (a : Nat))), ("_law_other", some (.int (b : Nat))), ("_law_first", some (.int (c : Nat))), ("_law_last", some (.int (d : Nat)))] : En) ∧ M = L ∧ Nat.gcd c d = Nat.gcd a b ∧ m = d) b ⟨a, b, rfl, rfl, rfl, rfl⟩ ?_
  rintro m θ M ⟨c, d, rfl, rfl, hg, rfl⟩
  tm_at "g"
  refine ite_d (fun hd => ?_) (fun hd => ?_)
  · tm_at "g"
    refine go_mod (by omega) ?_
    tm_at "g"
    refine ⟨c % m, Nat.mod_lt _ (by omega), m, c % m, ?_, rfl, ?_, rfl⟩
    · rw [Int.natCast_emod]
    · rw [← hg, Nat.gcd_comm m (c % m), ← Nat.gcd_rec, Nat.gcd_comm]
  · tm_at "g"
    have e : m = 0 := by omega
    subst e
    rw [← hg, Nat.gcd_zero_right] at q
    exact ⟨_, Sub.refl, q⟩
theorem fn_law_lowest (B : Bi mg) (F : Df K mg "_law_lowest" s_law_lowest) (D1 : Fn P w K mg base CX0 "_law_shared" 1 spDivOf) : Fn P w K mg base CX0 "_law_lowest" 2 spLowest := by
  refine fn_plain F sc_law_lowest (fun _ _ _ _ _ _ us hl => match us, hl with | [_, _], _ => rfl) (by decide) (by tm_at "g_len") ?_
  intro X f cdv A outer s H E0 L vs Q E hX nd hr h
  subst hX
  obtain ⟨a, b, rfl, b1, ha, hb, q⟩ := h
  show GSs _ (defBody s_law_lowest) (bodyD Q) [("_law_top", some (.int (a : Nat))), ("_law_bottom", some (.int (b : Nat))), ("_law_shared_here", none)] L
  refine gss_cons ?_
  tm_at "g"
  refine ge_call (El := NoX) D1 hr passA ?_
  tm_at "g"
  have g0 : 0 < Nat.gcd a b := Nat.gcd_pos_of_pos_right _ (by omega)
  have g1 : Nat.gcd a b < 2 ^ 200 := Nat.lt_of_le_of_lt (Nat.gcd_le_right _ (by omega)) hb
  have k9 : ∀ x : Nat, x < 2 ^ 200 → ((x : Int).natAbs < 2 ^ 9000) := fun x hx => by
    rw [Int.natAbs_natCast]
    exact Nat.lt_of_lt_of_le hx (pw2 200 9000 (by decide))
  refine ⟨a, b, rfl, Nat.lt_of_lt_of_le hb (pw2 200 9000 (by decide)), ?_⟩
  tm_at "g"
  refine go_div (by omega) (k9 _ g1) ?_
  tm_at "g"
  refine go_div (by omega) (k9 _ g1) ?_
  tm_at "g"
  rw [← Int.natCast_ediv, ← Int.natCast_ediv]
  exact ⟨_, Sub.refl, q _⟩
def spLawMul : SpL := fun vs L Q _ => ∃ (p : Addr) (ns : List Int), vs = [.ref p] ∧ (p, HO.lst (ns.map V.int)) ∈ L ∧ (∀ n ∈ ns, 1 ≤ n ∧ n.natAbs < 2 ^ 200) ∧ ns.length ≤ 60 ∧ Q (.int (lcms ns : Nat)) L
theorem fn_law_multiple (B : Bi mg) (F : Df K mg "_law_multiple" s_law_multiple) (D2 : Fn P w K mg base CX0 "_law_shared" 1 spDivOf) : Fn P w K mg base CX0 "_law_multiple" 2 spLawMul := by
  refine fn_plain F sc_law_multiple (fun _ _ _ _ _ _ us hl => match us, hl with | [_], _ => rfl) (by decide) (by tm_at "g_len") ?_
  intro X f cdv A outer s H E0 L vs Q E hX nd hr h
  subst hX
  obtain ⟨p, ns, rfl, mp, hb, hl, q⟩ := h
  show GSs _ (defBody s_law_multiple) (bodyD Q) [("_law_numbers", some (.ref p)), ("_law_found", none), ("_law_number", none)] L
  refine gss_cons ?_
  tm_at "g"
  refine gs_for (gi_list ?_)
  tm_at "g"
  refine ⟨fun i θ N => N = L ∧ ∃ u, θ = ([("_law_numbers", some (.ref p)), ("_law_found", some (.int (lcms (ns.take i) : Nat))), ("_law_number", u)] : En), ⟨rfl, none, rfl⟩, fun i θ N _ _ ⟨e, _⟩ => by rw [e]; exact mp, ?_, ?_⟩
  · rintro i x E1 θ N hi ⟨hx, rfl⟩ ⟨rfl, u, rfl⟩
    obtain ⟨n, hn, rfl⟩ := getMapInt hx
    dsimp only [List.nil_append]
    replace hi : i < ns.length := by
      have : i < (ns.map V.int).length := hi
      rwa [List.length_map] at this
    obtain ⟨n1, n2⟩ := hb n (List.mem_of_getElem? hn)
    have hp := lcms_pos (fun n h => (hb n h).1) i
    have hlt := lcms_lt (fun n h => (hb n h).2) i
    have en : (n.natAbs : Int) = n := by omega
    have gp : 0 < Nat.gcd (lcms (ns.take i)) n.natAbs := Nat.gcd_pos_of_pos_left _ hp
    have gle : Nat.gcd (lcms (ns.take i)) n.natAbs ≤ n.natAbs := Nat.le_of_dvd (by omega) (Nat.gcd_dvd_right _ _)
    refine gg_name (by tm_at "g_pv") ?_
    tm_at "g"
    refine ge_call (El := NoX) D2 hr passA ?_
    tm_at "g"
    refine ⟨lcms (ns.take i), n.natAbs, by rw [en], Nat.lt_of_lt_of_le n2 (Nat.pow_le_pow_right (by decide) (by decide)), ?_⟩
    refine go_div (by omega) (Nat.lt_of_le_of_lt gle (Nat.lt_of_lt_of_le n2 (Nat.pow_le_pow_right (by decide) (by decide)))) ?_
    tm_at "g"
    refine go_mul (wide_mul (a := 200 * 60 + 1) (b := 200) ?_ n2 (by decide) (by decide) (by decide)) ?_
    · rw [← Int.natCast_ediv, Int.natAbs_natCast]
      exact Nat.lt_of_le_of_lt (Nat.div_le_self _ _) (Nat.lt_of_lt_of_le hlt (Nat.pow_le_pow_right (by decide) (by omega)))
    tm_at "g"
    refine ⟨rfl, some (.int n), ?_⟩
    have e2 : ((lcms (ns.take i) : Nat) : Int) / ((Nat.gcd (lcms (ns.take i)) n.natAbs : Nat) : Int) * n = ((lcms (ns.take (i + 1)) : Nat) : Int) := by
      rw [lcms_more hn, Nat.lcm]
      conv => lhs; rhs; rw [← en]
      rw [← Int.natCast_ediv, ← Int.natCast_mul]
      congr 1
      rw [Nat.div_mul_right_comm (Nat.gcd_dvd_left _ _)]
    rw [e2]
  · rintro θ N ⟨rfl, u, rfl⟩
    tm_at "g"
    have e : ns.take (ns.map V.int).length = ns := by rw [List.length_map, List.take_length]
    rw [e]
    exact ⟨_, Sub.refl, q⟩
end
section
variable {P : Program} {w : World} {K : PySem.W.Frag} {mg : Str → Option Value} {base : Heap} {C fI T0 gA : Addr}
/-- the law's own stands -/
def spLawStands : SpL := fun vs L Q _ => ∃ (o : Addr) (pz : List V) (ps : List Fr) (v : Int), vs = [.ref o, .int v] ∧ (o, HO.lst pz) ∈ L ∧ Reps (FrAt L) pz ps ∧ ps.length ≤ 7 ∧ (∀ x ∈ ps, 1 ≤ x.1 ∧ x.1 ≤ 1000000000000000000000000 ∧ 1 ≤ x.2 ∧ x.2 ≤ 1000000000000000000) ∧
  ∀ (t : Addr) (zs : List V) (R : Lg), (∀ e ∈ L, e ∈ R) → Reps (FrAt R) zs (standF v ps) → Q (.ref t) ((t, .tup zs) :: R)
theorem fn_law_stands (B : Bi mg) (F : Df K mg "_law_stands" s_law_stands) (D1 : Fn P w K mg base CX0 "_law_lowest" 2 spLowest) : Fn P w K mg base CX0 "_law_stands" 3 spLawStands := by
  refine fn_plain F sc_law_stands (fun _ _ _ _ _ _ us hl => match us, hl with | [_, _], _ => rfl) (by decide) (by tm_at "g_len") ?_
  intro X f cdv A outer s H E0 L vs Q E hX nd hr h
  subst hX
  obtain ⟨o, pz, ps, v, rfl, mp, rp, hl, hb, q⟩ := h
  have lp := rp.len
  show GSs _ (defBody s_law_stands) (bodyD Q) [("_law_periods_here", some (.ref o)), ("_law_value", some (.int v)), ("_law_top", none), ("_law_bottom", none)] L
  refine gss_cons ?_
  tm_at "g"
  refine ge_lcR2 (by tm_at "g_put") (fun _ => by tm_at "g_put") (gi_list ?_) (by decide) (show blkC N_law_stands (defScope s_law_stands) _ [(_, List.idxOf _ N_law_stands), (_, List.idxOf _ N_law_stands)] = true by decide +kernel)
  tm_at "g"
  refine ⟨Fr, FrAt, fun i => (standF v ps).getD i (0, 0), frMono, by show pz.length ≤ _; omega, fun M s => s _ mp, ?_, ?_⟩
  · intro D i x E2 zs R hi it hR nd
    obtain ⟨hx, rfl⟩ := it
    obtain ⟨t, ht, b, rfl, mb⟩ := rp.get hx
    have tb := hb t (List.mem_of_getElem? ht)
    have et : (standF v ps).getD i (0, 0) = low ((v * (t.2 : Int) % (t.1 : Int)).toNat, t.2) := by
      unfold standF
      rw [List.getD_eq_getElem?_getD, List.getElem?_map, ht]
      rfl
    dsimp only [List.nil_append]
    rw [et]
    refine ⟨b, _, _, rfl, memS (hR _ mb), ?_⟩
    intro s2 H2 C2 cl2 fp2
    tm_at "g"
    refine ge_call (El := NoX) D1 hr passA ?_
    tm_at "g"
    refine go_mulS (.inr (by omega)) ?_
    tm_at "g"
    refine go_mod (by omega) ?_
    have z0 := Int.emod_nonneg (v * (t.2 : Int)) (show (t.1 : Int) ≠ 0 by omega)
    have z1 := Int.emod_lt_of_pos (v * (t.2 : Int)) (show 0 < (t.1 : Int) by omega)
    tm_at "g"
    refine ⟨(v * (t.2 : Int) % (t.1 : Int)).toNat, t.2, by rw [Int.toNat_of_nonneg z0], tb.2.2.1, small200 (by omega), small200 (by omega), fun t2 => ?_⟩
    exact ⟨(t2, frO (low ((v * (t.2 : Int) % (t.1 : Int)).toNat, t.2))) :: R, Sub.perm (List.Perm.swap _ _ _), fun _ h => memS h, t2, rfl, mem0⟩
  · intro D zs R hR rz
    tm_at "g"
    refine gc_tupL mem0 fun t => ?_
    replace rz : Reps (FrAt R) zs ((List.range pz.length).map fun i => (standF v ps).getD i (0, 0)) := rz
    rw [show pz.length = (standF v ps).length by unfold standF; rw [List.length_map, lp], range_dflt] at rz
    exact ⟨_, Sub.cons Sub.drop, q t zs R hR rz⟩
/-- the law's own periods -/
def spLawPeriods : SpL := fun vs L Q _ => ∃ (p : Nat) (go : Addr) (gz : List V) (gs : List GearD), vs = [.int (p : Nat), .ref go] ∧ (go, HO.lst gz) ∈ L ∧ Reps (GearAt L) gz gs ∧ 1 ≤ p ∧ p ≤ 1000000 ∧ GearsOk gs ∧
  ∀ (f : Addr) (pz : List V) (R : Lg), Sub L R → Reps (FrAt R) pz (perF p gs) → Q (.ref f) ((f, .lst pz) :: R)
theorem fn_law_periods (B : Bi mg) (F : Df K mg "_law_periods" s_law_periods) (D1 : Fn P w K mg base CX0 "_law_lowest" 2 spLowest) : Fn P w K mg base CX0 "_law_periods" 3 spLawPeriods := by
  refine fn_plain F sc_law_periods (fun _ _ _ _ _ _ us hl => match us, hl with | [_, _], _ => rfl) (by decide) (by tm_at "g_len") ?_
  intro X f cdv A outer s H E0 L vs Q E hX nd hr h
  subst hX
  obtain ⟨p, go, gz, gs, rfl, mg', rg, p1, p2, ⟨g6, gok⟩, q⟩ := h
  have lg := rg.len
  show GSs _ (defBody s_law_periods) (bodyD Q) [("_law_period_here", some (.int (p : Nat))), ("_law_gears_here", some (.ref go)), ("_law_found", none), ("_law_on", none), ("_law_driving", none), ("_law_driven", none), ("_law_slip", none)] L
  refine gss_cons ?_
  tm_at "g"
  rename_i z1 pl
  refine gs_for (gi_list ?_)
  tm_at "g"
  refine ⟨fun i θ N => ∃ (u1 u2 u3 u4 : Option V) (pz : List V) (R' : Lg), θ = ([("_law_period_here", some (.int (p : Nat))), ("_law_gears_here", some (.ref go)), ("_law_found", some (.ref pl)), ("_law_on", u1), ("_law_driving", u2), ("_law_driven", u3), ("_law_slip", u4)] : En) ∧ Sub ((pl, HO.lst pz) :: R') N ∧ Sub L R' ∧ Reps (FrAt R') pz (perF p (gs.take i)), ⟨none, none, none, none, [V.ref z1], _, rfl, Sub.refl, Sub.drop, .cons ⟨z1, rfl, mem0⟩ .nil⟩, fun i θ M _ nd ⟨_, _, _, _, _, _, _, sb, sR, _⟩ => (sb.to nd).2 _ (memS ((sR.to (List.nodup_cons.mp (sb.to nd).1).2).2 _ mg')), ?_, ?_⟩
  · rintro i x E1 θ N hi ⟨hx, rfl⟩ ⟨u1, u2, u3, u4, pz, R', rfl, sb, sR, rp⟩
    obtain ⟨g, hg, ga, gf, rfl, mga, mgf⟩ := rg.get hx
    obtain ⟨k1, k2, k3, k4, k5, k6, k7, k8⟩ := gok i g hg
    dsimp only [List.nil_append]
    refine GG.sub sb ?_
    refine gg_nd fun ndN => ?_
    have up := (sR.to (List.nodup_cons.mp ndN).2).2
    have hil : i < gs.length := (List.getElem?_eq_some_iff.mp hg).1
    have lp := rp.len
    rw [per_len, List.length_take, Nat.min_eq_left (by omega)] at lp
    have hon : g.1 < pz.length := by omega
    obtain ⟨y, hy, ya, eya, mya⟩ := rp.get (List.getElem?_eq_getElem hon)
    have gok' : ∀ (j : Nat) (g : GearD), (gs.take i)[j]? = some g → GearOk j g := fun j g h => gok j g (by
      rw [List.getElem?_take] at h
      split at h
      · exact h
      · cases h)
    have yb := per_small (n := i) (by omega) (per_bnd p1 p2 i (gs.take i) (by rw [List.length_take]; omega) gok' y (List.mem_of_getElem? hy))
    refine gg_tup (xs := [.int (g.1 : Nat), .int (g.2.1 : Nat), .int (g.2.2.1 : Nat), .ref gf]) (memS (up _ mga)) ?_
    tm_at "g"
    refine ge_call (El := NoX) D1 hr passA ?_
    tm_at "g"
    refine gi_lst (by tm_at "g_mem") (atI_nat (by rw [List.getElem?_eq_getElem hon, eya])) ?_
    tm_at "g"
    refine go_mulS (.inr (by omega)) ?_
    tm_at "g"
    refine gi_lst (by tm_at "g_mem") (atI_nat (by rw [List.getElem?_eq_getElem hon, eya])) ?_
    tm_at "g"
    refine go_mulS (.inr (by omega)) ?_
    have m1 := Nat.mul_le_mul yb.2.1 k5
    have m2 := Nat.mul_le_mul yb.2.2.2 k3
    have m3 := Nat.mul_pos yb.2.2.1 k2
    tm_at "g"
    refine ⟨y.1 * g.2.2.1, y.2 * g.2.1, by rw [Int.natCast_mul, Int.natCast_mul], m3, small200 (by omega), small200 (by omega), fun t1 => ?_⟩
    tm_at "g"
    refine ⟨pz, _, by tm_at "g_mem", szL (show pz.length + 1 ≤ 16777216 by omega), by tm_at "g_swap", ?_⟩
    tm_at "g"
    have ey : (perF p (gs.take i)).getD g.1 (0, 1) = y := by rw [List.getD_eq_getElem?_getD, hy]; rfl
    refine ⟨_, _, _, _, pz ++ [V.ref t1], (t1, frO (low (y.1 * g.2.2.1, y.2 * g.2.1))) :: R', rfl, Sub.perm (List.Perm.swap _ _ _), Sub.trans sR Sub.drop, ?_⟩
    rw [per_more hg, stepP, ey]
    exact (rp.imp fun v a z => frMono _ _ _ _ (fun _ h => memS h) z).snoc ⟨t1, rfl, mem0⟩
  · rintro θ N ⟨u1, u2, u3, u4, pz, R', rfl, sb, sR, rp⟩
    have rp : Reps (FrAt R') pz (perF p (gs.take gz.length)) := rp
    rw [List.take_of_length_le (by omega)] at rp
    tm_at "g"
    exact ⟨_, sb, q pl pz R' sR rp⟩
end
/-- what the law wants of the class of trains -/
structure TrS (P : Program) (w : World) (K : PySem.W.Frag) (mg : Str → Option Value) (base : Heap) (C fI T0 gA gE gL gI gS : Addr) (gN gD : String → Addr → Prop) : Prop where
  hC : mg "Train" = some (.ref C)
  tc : TrC K C
  ot : OwnT K C
  kk : PySem.W.kitOne K (.ref C) (.ref C) = some true
  M : Mk K C fI
  TI : TrI P w K mg base C fI T0
  oa : OwnBin K C "add" gA
  oat : BinT K C "add" "tuple"
  RA : RunG P w K mg base CX0 7 gA argsP (toSp (spTrAdd C))
section
variable {P : Program} {w : World} {K : PySem.W.Frag} {mg : Str → Option Value} {base : Heap} {C fI T0 gA gE gL gI gS : Addr} {gN gD : String → Addr → Prop}
def spLawTrain (C : Addr) : SpL := fun vs L Q _ => ∃ (p : Nat) (sf go : Addr) (sv : Fr) (gz : List V) (gs : List GearD), vs = [.int (p : Nat), .ref sf, .ref go] ∧ (sf, frO sv) ∈ L ∧ (go, HO.lst gz) ∈ L ∧ Reps (GearAt L) gz gs ∧ TrOk (p, sv, gs) ∧ ∀ (x : V) (R : Lg), (∀ e ∈ L, e ∈ R) → TrAt C R x (p, sv, gs) → Q x R
theorem fn_law_train (B : Bi mg) (F : Df K mg "_law_train" s_law_train) (S : TrS P w K mg base C fI T0 gA gE gL gI gS gN gD) : Fn P w K mg base CX0 "_law_train" 9 (spLawTrain C) := by
  refine fn_plain F sc_law_train (fun _ _ _ _ _ _ us hl => match us, hl with | [_, _, _], _ => rfl) (by decide) (by tm_at "g_len") ?_
  intro X f cdv A outer s H E0 L vs Q E hX nd hr h
  subst hX
  obtain ⟨p, sf, go, sv, gz, gs, rfl, ms, mg', rg, ⟨p1, p2, s0, g6, gok⟩, q⟩ := h
  dsimp only at p1 p2 s0 g6 gok
  have lg := rg.len
  show GSs _ (defBody s_law_train) (bodyD Q) [("_law_period_here", some (.int (p : Nat))), ("_law_slip", some (.ref sf)), ("_law_gears_here", some (.ref go)), ("_law_found", none), ("_law_gear", none)] L
  refine gss_cons ?_
  tm_at "g"
  refine ge_kw (n := 1) S.hC S.M.kp (fun _ => gf_make (args := argsK 1 ["slip"]) (El := NoX) S.M (S.TI.slip 2) (fun _ _ => rfl) hr passA) ?_
  tm_at "g"
  refine ⟨rfl, fun x dx => ⟨[.ref x, .int (p : Nat)], [], [.ref sf], rfl, rfl, rfl, rfl, szL (show 0 ≤ 16777216 by decide), True.intro, fun p' => ⟨x, dx, p', p, .ref sf, sv, [], [], (dx, .own x) :: L, rfl, rfl, S.tc, ⟨sf, rfl, .inl (memS ms)⟩, .nil, ⟨p1, p2, s0, by simp, fun i g h => by simp at h⟩, fun og pp sl N pz sz eog up mo mp rp ms' rs => ⟨rfl, ?_⟩⟩⟩⟩
  have ta : TrAt C ((x, trO C dx og pp sl (unitF (p, sv, []))) :: N) (.ref x) (p, sv, []) := ⟨x, dx, og, pp, sl, [], pz, sz, rfl, mem0, memS mo, .nil, memS mp, rp.imp fun v a z => frMono _ _ _ _ (fun _ h => memS h) z, memS ms', rs.imp fun v a z => frMono _ _ _ _ (fun _ h => memS h) z⟩
  have up2 : ∀ e ∈ L, e ∈ (x, trO C dx og pp sl (unitF (p, sv, []))) :: N := fun e he => memS (up _ (memS he))
  generalize ((x, trO C dx og pp sl (unitF (p, sv, []))) :: N : Lg) = L1 at ta up2
  tm_at "g"
  refine gs_for (gi_list ?_)
  tm_at "g"
  refine ⟨go, gz, rfl, up2 _ mg', fun i θ N => ∃ (u : Option V) (y : V), θ = ([("_law_period_here", some (.int (p : Nat))), ("_law_slip", some (.ref sf)), ("_law_gears_here", some (.ref go)), ("_law_found", some (y)), ("_law_gear", u)] : En) ∧ (∀ e ∈ L, e ∈ N) ∧ TrAt C N y (p, sv, gs.take i), ⟨none, .ref x, rfl, up2, ta⟩, fun i θ M _ nd ⟨_, _, _, up, _⟩ => up _ mg', ?_, ?_⟩
  · rintro i y E1 θ N hi ⟨hx, rfl⟩ ⟨u, y0, rfl, up3, ty⟩
    obtain ⟨g, hg, ga⟩ := rg.get hx
    have hil : i < gs.length := (List.getElem?_eq_some_iff.mp hg).1
    have ga2 := gearMono _ _ _ _ up3 ga
    obtain ⟨gq, gf, rfl, mga, mgf⟩ := id ga2
    obtain ⟨a, dx2, og2, pp2, sl2, gz2, pz2, sz2, rfl, mo2, _⟩ := id ty
    dsimp only [List.nil_append]
    refine gg_name (by tm_at "g_pv") ?_
    tm_at "g"
    refine go_binK (El := NoX) (op := .Add) S.oa S.oat S.RA hr passA mo2 (.tup mga) ⟨_, _, _, g, rfl, ty, ga2, ⟨p1, p2, s0, by dsimp only; rw [List.length_take]; omega, fun j g' h => gok j g' (by
      dsimp only at h
      rw [List.getElem?_take] at h
      split at h
      · exact h
      · cases h)⟩, by dsimp only; rw [List.length_take]; omega, by dsimp only; rw [List.length_take, Nat.min_eq_left (by omega)]; exact gok i g hg, fun x2 R2 up4 t2 => ?_⟩
    tm_at "g"
    refine ⟨fun e he => up4 _ (up3 _ he), ?_⟩
    rw [List.take_succ, hg]
    exact t2
  · rintro θ N ⟨u, y0, rfl, up3, ty⟩
    have ty : TrAt C N y0 (p, sv, gs.take gz.length) := ty
    rw [List.take_of_length_le (by omega)] at ty
    tm_at "g"
    exact ⟨_, Sub.refl, q _ _ up3 ty⟩
end
section
variable {P : Program} {w : World} {K : PySem.W.Frag} {mg : Str → Option Value} {base : Heap} {C : Addr}
def spLawFraction : SpL := fun vs L Q _ => ∃ (p c : Addr) (ns : List Int) (n m : Int) (R : Lg), vs = [.ref p] ∧ Sub ((p, penO c n m) :: (c, celO ns) :: R) L ∧ ns.length ≤ 63 ∧ 0 ≤ n ∧ n + 6 ≤ 100000 ∧ 0 ≤ m ∧
  ∀ (f : Addr) (t : Fr) (R' : Lg) (n' m' : Int), Sub R R' → (f, frO t) ∈ R' → FrOk t → 0 ≤ n' → n' ≤ n + 5 → 0 ≤ m' → Q (.ref f) ((p, penO c n' m') :: (c, celO ns) :: R')
theorem fn_law_fraction (B : Bi mg) (F : Df K mg "_law_fraction" s_law_fraction) (D1 : Fn P w K mg base CX0 "_law_draw" 1 spDraw) (D2 : Fn P w K mg base CX0 "_law_pick" 2 spPick) : Fn P w K mg base CX0 "_law_fraction" 3 spLawFraction := by
  refine fn_plain F sc_law_fraction (fun _ _ _ _ _ _ us hl => match us, hl with | [_], _ => rfl) (by decide) (by tm_at "g_len") ?_
  intro X f cdv A outer s H E0 L vs Q E hX nd hr h
  subst hX
  obtain ⟨p, c, ns, n, m, R, rfl, sb, h63, n0, n1, m0, q⟩ := h
  refine (fun h => GSs.sub sb h) ?_
  show GSs _ (defBody s_law_fraction) (bodyD Q) [("_law_pen_here", some (.ref p)), ("_law_some", none), ("_law_drawn", none)] _
  refine gss_cons ?_
  tm_at "g"
  refine go_powL (r := 1000000) ⟨by decide, by decide, by decide⟩ (by decide) ?_
  tm_at "g"
  refine go_powL (r := 1000000) ⟨by decide, by decide, by decide⟩ (by decide) ?_
  tm_at "g"
  refine go_powL (r := 1000000) ⟨by decide, by decide, by decide⟩ (by decide) ?_
  tm_at "g"
  rename_i t1 t2 t3 t4 t5 t6 t7 q1
  refine ge_call (El := NoX) D1 hr passA ?_
  tm_at "g"
  refine go_powL (r := 1000000) ⟨by decide, by decide, by decide⟩ (by decide) ?_
  tm_at "g"
  tm_at "g_dr"
  intro d1 n2 m2 d0 d1' a0 a1 a2
  tm_at "g"
  refine ge_call (El := NoX) D1 hr passA ?_
  tm_at "g"
  refine go_powL (r := 1000000) ⟨by decide, by decide, by decide⟩ (by decide) ?_
  tm_at "g"
  tm_at "g_dr"
  intro d2 n3 m3 e0 e1 b0 b1 b2
  tm_at "g"
  rename_i t8
  refine ge_call (El := NoX) D2 hr passA ?_
  tm_at "g"
  refine ge_call (El := NoX) D1 hr passA ?_
  tm_at "g"
  tm_at "g_dr"
  intro d3 n4 m4 f0 f1 c0 c1 c2
  tm_at "g"
  refine ge_call (El := NoX) D1 hr passA ?_
  tm_at "g"
  tm_at "g_dr"
  intro d4 n5 m5 g0 g1 h0 h1 h2
  tm_at "g"
  rename_i t9 q2
  obtain ⟨k1, rfl⟩ := Int.eq_ofNat_of_zero_le d0
  obtain ⟨k2, rfl⟩ := Int.eq_ofNat_of_zero_le e0
  obtain ⟨k3, rfl⟩ := Int.eq_ofNat_of_zero_le f0
  obtain ⟨k4, rfl⟩ := Int.eq_ofNat_of_zero_le g0
  refine go_cat (by tm_at "g_mem") mem0 (szL (by simp)) fun q3 => ?_
  tm_at "g"
  tm_at "g_pk"
  intro k6 x6 n9 m9 hx6 i0 i1 i2
  refine ⟨_, Sub.refl, ?_⟩
  have hm := List.mem_of_getElem? hx6
  clear hx6
  simp only [List.cons_append, List.nil_append, List.mem_cons, List.not_mem_nil, or_false] at hm
  rcases hm with rfl | rfl | rfl | rfl | rfl | rfl | rfl | rfl | rfl | rfl
  · exact q t1 (0, 1) _ n9 m9 (by tm_at "g_end") (show (t1, HO.tup [V.int 0, V.int 1]) ∈ _ by tm_at "g_mem") ⟨by decide, by decide, by decide⟩ i0 (by omega) i2
  · exact q t2 (0, 6) _ n9 m9 (by tm_at "g_end") (show (t2, HO.tup [V.int 0, V.int 6]) ∈ _ by tm_at "g_mem") ⟨by decide, by decide, by decide⟩ i0 (by omega) i2
  · exact q t3 (1, 2) _ n9 m9 (by tm_at "g_end") (show (t3, HO.tup [V.int 1, V.int 2]) ∈ _ by tm_at "g_mem") ⟨by decide, by decide, by decide⟩ i0 (by omega) i2
  · exact q t4 (2, 4) _ n9 m9 (by tm_at "g_end") (show (t4, HO.tup [V.int 2, V.int 4]) ∈ _ by tm_at "g_mem") ⟨by decide, by decide, by decide⟩ i0 (by omega) i2
  · exact q t5 (3, 1) _ n9 m9 (by tm_at "g_end") (show (t5, HO.tup [V.int 3, V.int 1]) ∈ _ by tm_at "g_mem") ⟨by decide, by decide, by decide⟩ i0 (by omega) i2
  · exact q t6 (1000000, 1000000) _ n9 m9 (by tm_at "g_end") (show (t6, HO.tup [V.int 1000000, V.int 1000000]) ∈ _ by tm_at "g_mem") ⟨by decide, by decide, by decide⟩ i0 (by omega) i2
  · exact q t7 (1000000, 999999) _ n9 m9 (by tm_at "g_end") (show (t7, HO.tup [V.int 1000000, V.int 999999]) ∈ _ by tm_at "g_mem") ⟨by decide, by decide, by decide⟩ i0 (by omega) i2
  · exact q t8 (k1, 1 + k2) _ n9 m9 (by tm_at "g_end") (show (t8, HO.tup [V.int (k1 : Nat), V.int (1 + (k2 : Nat))]) ∈ _ by tm_at "g_mem") ⟨by dsimp only; omega, by dsimp only; omega, by dsimp only; omega⟩ i0 (by omega) i2
  · exact q t8 (k1, 1 + k2) _ n9 m9 (by tm_at "g_end") (show (t8, HO.tup [V.int (k1 : Nat), V.int (1 + (k2 : Nat))]) ∈ _ by tm_at "g_mem") ⟨by dsimp only; omega, by dsimp only; omega, by dsimp only; omega⟩ i0 (by omega) i2
  · exact q t9 (k3, 1 + k4) _ n9 m9 (by tm_at "g_end") (show (t9, HO.tup [V.int (k3 : Nat), V.int (1 + (k4 : Nat))]) ∈ _ by tm_at "g_mem") ⟨by dsimp only; omega, by dsimp only; omega, by dsimp only; omega⟩ i0 (by omega) i2
end
section
variable {P : Program} {w : World} {K : PySem.W.Frag} {mg : Str → Option Value} {base : Heap} {C : Addr}
def spLawPeriod : SpL := fun vs L Q _ => ∃ (p c : Addr) (ns : List Int) (n m : Int) (R : Lg), vs = [.ref p] ∧ Sub ((p, penO c n m) :: (c, celO ns) :: R) L ∧ ns.length ≤ 63 ∧ 0 ≤ n ∧ n + 3 ≤ 100000 ∧ 0 ≤ m ∧
  ∀ (d : Nat) (R' : Lg) (n' m' : Int), Sub R R' → 1 ≤ d → d ≤ 1000000 → 0 ≤ n' → n' ≤ n + 3 → 0 ≤ m' → Q (.int (d : Nat)) ((p, penO c n' m') :: (c, celO ns) :: R')
theorem fn_law_period (B : Bi mg) (F : Df K mg "_law_period" s_law_period) (D1 : Fn P w K mg base CX0 "_law_draw" 1 spDraw) (D2 : Fn P w K mg base CX0 "_law_pick" 2 spPick) : Fn P w K mg base CX0 "_law_period" 3 spLawPeriod := by
  refine fn_plain F sc_law_period (fun _ _ _ _ _ _ us hl => match us, hl with | [_], _ => rfl) (by decide) (by tm_at "g_len") ?_
  intro X f cdv A outer s H E0 L vs Q E hX nd hr h
  subst hX
  obtain ⟨p, c, ns, n, m, R, rfl, sb, h63, n0, n1, m0, q⟩ := h
  refine (fun h => GSs.sub sb h) ?_
  show GSs _ (defBody s_law_period) (bodyD Q) [("_law_pen_here", some (.ref p))] _
  refine gss_cons ?_
  tm_at "g"
  refine ge_call (El := NoX) D2 hr passA ?_
  tm_at "g"
  refine ge_call (El := NoX) D1 hr passA ?_
  tm_at "g"
  tm_at "g_dr"
  intro d1 n2 m2 d0 d1' a0 a1 a2
  tm_at "g"
  refine ge_call (El := NoX) D1 hr passA ?_
  tm_at "g"
  refine go_powL (r := 1000000) ⟨by decide, by decide, by decide⟩ (by decide) ?_
  tm_at "g"
  tm_at "g_dr"
  intro d2 n3 m3 e0 e1 b0 b1 b2
  tm_at "g"
  refine go_powL (r := 1000000) ⟨by decide, by decide, by decide⟩ (by decide) ?_
  tm_at "g"
  tm_at "g_pk"
  intro k6 x6 n9 m9 hx6 i0 i1 i2
  obtain ⟨k1, rfl⟩ := Int.eq_ofNat_of_zero_le d0
  obtain ⟨k2, rfl⟩ := Int.eq_ofNat_of_zero_le e0
  have hm := List.mem_of_getElem? hx6
  clear hx6
  simp only [List.cons_append, List.nil_append, List.mem_cons, List.not_mem_nil, or_false] at hm
  rcases hm with rfl | rfl | rfl | rfl | rfl
  · exact ⟨_, Sub.refl, q (1 + k1) _ n9 m9 (by tm_at "g_end") (by omega) (by omega) i0 (by omega) i2⟩
  · exact ⟨_, Sub.refl, q (1 + k2) _ n9 m9 (by tm_at "g_end") (by omega) (by omega) i0 (by omega) i2⟩
  · exact ⟨_, Sub.refl, q 1000000 _ n9 m9 (by tm_at "g_end") (by omega) (by omega) i0 (by omega) i2⟩
  · exact ⟨_, Sub.refl, q 1 _ n9 m9 (by tm_at "g_end") (by omega) (by omega) i0 (by omega) i2⟩
  · exact ⟨_, Sub.refl, q 360 _ n9 m9 (by tm_at "g_end") (by omega) (by omega) i0 (by omega) i2⟩
end
section
variable {P : Program} {w : World} {K : PySem.W.Frag} {mg : Str → Option Value} {base : Heap} {C : Addr}
theorem GAsubg {X : Cx} {es : List Expr} {η : En} {L M : Lg} {Q : List V → Lg → Prop} (s : Sub M L) (h : GA X es η M Q) : GA X es η L Q := fun hN H hH => h hN H (s.has H hH)
theorem GAndg {X : Cx} {es : List Expr} {η : En} {L : Lg} {Q : List V → Lg → Prop} (h : (L.map (·.1)).Nodup → GA X es η L Q) : GA X es η L Q := fun hN H hH => h hH.1 hN H hH
theorem uniqF : ∀ {L : Lg} {a : Addr} {o u : HO}, (L.map (·.1)).Nodup → (a, o) ∈ L → (a, u) ∈ L → o = u
  | e :: L, a, o, u, nd, h1, h2 => by
    obtain ⟨n, nd⟩ := List.nodup_cons.mp nd
    rcases List.mem_cons.mp h1 with rfl | k1 <;> rcases List.mem_cons.mp h2 with h2 | h2
    · exact ((Prod.mk.injEq ..).mp h2).2.symm
    · exact absurd (List.mem_map.mpr ⟨_, h2, rfl⟩) n
    · subst h2
      exact (n (List.mem_map.mpr ⟨(a, o), k1, rfl⟩)).elim
    · exact uniqF nd k1 h2
theorem swap14 {a b c d : Addr × HO} {R : Lg} : Sub (d :: b :: c :: a :: R) (a :: b :: c :: d :: R) := Sub.perm ((List.perm_middle (l₁ := [d, b, c]) (a := a) (l₂ := R)).trans ((List.perm_middle (l₁ := [b, c]) (a := d) (l₂ := R)).symm.cons a))
theorem frKeep {e0 : Addr × HO} {f0 fr : Addr} {gz xs : List V} {R' R2 : Lg} (nd : (R2.map (·.1)).Nodup) (s : Sub (e0 :: (f0, HO.lst gz) :: R') R2) (m : (fr, HO.tup xs) ∈ R2) : ∃ R'' : Lg, Sub ((f0, HO.lst gz) :: R'') R2 ∧ Sub R' R'' ∧ (fr, HO.tup xs) ∈ R'' := by
  have up := (s.to nd).2
  have nd1 := (List.nodup_cons.mp (s.to nd).1).2
  have nd2 := List.nodup_cons.mp nd1
  by_cases h : fr ∈ R'.map (·.1)
  · obtain ⟨⟨b, o⟩, hb, rfl⟩ := List.mem_map.mp h
    have ho := uniqF nd (up _ (memS (memS hb))) m
    subst ho
    exact ⟨R', Sub.trans Sub.drop s, Sub.refl, hb⟩
  · refine ⟨(fr, HO.tup xs) :: R', ⟨fun _ => ⟨?_, fun e he => ?_⟩⟩, Sub.drop, mem0⟩
    · refine List.nodup_cons.mpr ⟨fun hf => ?_, List.nodup_cons.mpr ⟨h, nd2.2⟩⟩
      rcases List.mem_cons.mp hf with hf | hf
      · dsimp only at hf
        subst hf
        have := uniqF nd (up _ (memS mem0)) m
        cases this
      · exact nd2.1 hf
    · rcases List.mem_cons.mp he with rfl | he
      · exact up _ (memS mem0)
      · rcases List.mem_cons.mp he with rfl | he
        · exact m
        · exact up _ (memS (memS he))
def spLawGears : SpL := fun vs L Q _ => ∃ (p c : Addr) (ns : List Int) (n m : Int) (k : Nat) (R : Lg), vs = [.ref p, .int (k : Nat)] ∧ k ≤ 6 ∧ Sub ((p, penO c n m) :: (c, celO ns) :: R) L ∧ ns.length ≤ 63 ∧ 0 ≤ n ∧ n + 60 ≤ 100000 ∧ 0 ≤ m ∧
  ∀ (f : Addr) (gz : List V) (gs : List GearD) (R' : Lg) (n' m' : Int), Sub R R' → Reps (GearAt R') gz gs → gs.length = k → GearsOk gs → 0 ≤ n' → n' ≤ n + 60 → 0 ≤ m' → Q (.ref f) ((f, HO.lst gz) :: (p, penO c n' m') :: (c, celO ns) :: R')
theorem fn_law_gears (B : Bi mg) (F : Df K mg "_law_gears" s_law_gears) (D1 : Fn P w K mg base CX0 "_law_draw" 1 spDraw) (D2 : Fn P w K mg base CX0 "_law_pick" 2 spPick) (D3 : Fn P w K mg base CX0 "_law_fraction" 3 spLawFraction) : Fn P w K mg base CX0 "_law_gears" 4 spLawGears := by
  refine fn_plain F sc_law_gears (fun _ _ _ _ _ _ us hl => match us, hl with | [_, _], _ => rfl) (by decide) (by tm_at "g_len") ?_
  intro X f cdv A outer s H E0 L vs Q E hX nd hr h
  subst hX
  obtain ⟨p, c, ns, n, m, k, R, rfl, k6, sb, h63, n0, n1, m0, q⟩ := h
  refine (fun h => GSs.sub sb h) ?_
  show GSs _ (defBody s_law_gears) (bodyD Q) [("_law_pen_here", some (.ref p)), ("_law_many", some (.int (k : Nat))), ("_law_found", none), ("_law_at", none), ("_law_most", none)] _
  refine gss_cons ?_
  tm_at "g"
  rename_i f0
  refine gs_for (gi_range1 ?_ B.range)
  tm_at "g"
  refine ⟨⟨by omega, by omega⟩, fun i θ N => ∃ (u v : Option V) (gz : List V) (gs : List GearD) (R' : Lg) (n' m' : Int), θ = ([("_law_pen_here", some (.ref p)), ("_law_many", some (.int (k : Nat))), ("_law_found", some (.ref f0)), ("_law_at", u), ("_law_most", v)] : En) ∧ Sub ((f0, HO.lst gz) :: (p, penO c n' m') :: (c, celO ns) :: R') N ∧ Sub R R' ∧ Reps (GearAt R') gz gs ∧ gs.length = i ∧ (∀ (j : Nat) (g : GearD), gs[j]? = some g → GearOk j g) ∧ 0 ≤ n' ∧ n' ≤ n + 10 * (i : Int) ∧ 0 ≤ m', ⟨none, none, [], [], R, n, m, rfl, Sub.refl, Sub.refl, .nil, rfl, (fun j g h => by simp at h), n0, by omega, m0⟩, fun _ _ _ _ _ _ => True.intro, ?_, ?_⟩
  · rintro i x E1 θ N hi ⟨rfl, rfl⟩ ⟨u, v, gz, gs, R', n2, m2, rfl, sb2, sR, rp, hl, gok, a0, a1, a2⟩
    dsimp only [List.nil_append] at hi ⊢
    have hik : i < k := by omega
    have lgz := rp.len
    refine gg_name (by tm_at "g_pv") ?_
    refine (fun h => GSs.sub sb2 h) ?_
    refine gss_cons ?_
    tm_at "g"
    refine ge_call (El := NoX) D2 hr passA ?_
    tm_at "g"
    tm_at "g_pk"
    intro k6' x6 n9 m9 hx6 i0 i1 i2
    have hm := List.mem_of_getElem? hx6
    clear hx6
    simp only [List.mem_cons, List.not_mem_nil, or_false] at hm
    obtain ⟨mo, rfl, mo1, mo2⟩ : ∃ mo : Nat, x6 = V.int (mo : Nat) ∧ 1 ≤ mo ∧ mo ≤ 1000 := by
      rcases hm with rfl | rfl | rfl
      · exact ⟨6, rfl, by decide, by decide⟩
      · exact ⟨30, rfl, by decide, by decide⟩
      · exact ⟨1000, rfl, by decide, by decide⟩
    tm_at "g"
    refine ge_call (El := NoX) D1 hr passA ?_
    tm_at "g"
    tm_at "g_dr"
    intro d1 n3 m3 d0 d1' b0 b1 b2
    tm_at "g"
    refine ge_call (El := NoX) D1 hr passA ?_
    tm_at "g"
    tm_at "g_dr"
    intro d2 n4 m4 e0 e1 c0 c1 c2
    tm_at "g"
    refine ge_call (El := NoX) D1 hr passA ?_
    tm_at "g"
    tm_at "g_dr"
    intro d3 n5 m5 f1 f2 g0 g1 g2
    tm_at "g"
    refine ge_call (El := NoX) D3 hr passA ?_
    tm_at "g"
    refine ⟨_, _, _, _, _, _, rfl, by tm_at "g_rot", h63, by omega, by omega, by omega, ?_⟩
    intro fr t R2 n6 m6 sR2 mfr tok o0 o1 o2
    refine GAndg fun ndA => ?_
    obtain ⟨R3, s3, sR3, m3'⟩ := frKeep (List.nodup_cons.mp (List.nodup_cons.mp ndA).2).2 sR2 mfr
    have upR := (sR3.to (List.nodup_cons.mp (s3.to (List.nodup_cons.mp (List.nodup_cons.mp ndA).2).2).1).2).2
    refine GAsubg (Sub.cons (Sub.cons s3)) ?_
    tm_at "g"
    obtain ⟨j1, rfl⟩ := Int.eq_ofNat_of_zero_le d0
    obtain ⟨j2, rfl⟩ := Int.eq_ofNat_of_zero_le e0
    obtain ⟨j3, rfl⟩ := Int.eq_ofNat_of_zero_le f1
    rename_i t1
    refine ⟨gz, _, by tm_at "g_mem", szL (show gz.length + 1 ≤ 16777216 by omega), by tm_at "g_swap", ?_⟩
    tm_at "g"
    refine ⟨_, _, gz ++ [V.ref t1], gs ++ [(j1, 1 + j2, 1 + j3, t)], (t1, HO.tup [V.int (j1 : Nat), V.int (1 + (j2 : Nat)), V.int (1 + (j3 : Nat)), V.ref fr]) :: R3, n6, m6, rfl, swap14, Sub.trans sR (Sub.trans sR3 Sub.drop), ?_, by rw [List.length_append, hl]; rfl, ?_, o0, by omega, o2⟩
    · exact (rp.imp fun v a z => gearMono _ _ _ _ (fun _ h => memS (upR _ h)) z).snoc ⟨t1, fr, rfl, mem0, memS m3'⟩
    · intro j g h
      rcases Nat.lt_or_ge j gs.length with hj | hj
      · rw [List.getElem?_append_left hj] at h
        exact gok j g h
      · rw [List.getElem?_append_right hj] at h
        have h1 := (List.getElem?_eq_some_iff.mp h).1
        simp only [List.length_cons, List.length_nil] at h1
        have ej : j = gs.length := by omega
        subst ej
        rw [Nat.sub_self] at h
        simp only [List.getElem?_cons_zero, Option.some.injEq] at h
        subst h
        exact ⟨by dsimp only; omega, by dsimp only; omega, by dsimp only; omega, by dsimp only; omega, by dsimp only; omega, tok⟩
  · rintro θ N ⟨u, v, gz, gs, R', n2, m2, rfl, sb2, sR, rp, hl, gok, a0, a1, a2⟩
    tm_at "g"
    exact ⟨_, sb2, q f0 gz gs R' n2 m2 sR rp (by simpa using hl) ⟨by simp at hl; omega, gok⟩ a0 (by simp at a1; omega) a2⟩
end
namespace Tx
open PySem NumText L2 TL
/-- the text of a number -/
abbrev nT (n : Nat) : Str := Str.ofString (toString ((n : Nat) : Int))
theorem num_nT {n l m : Nat} (h0 : l ≤ n) (h : n ≤ m) (hm : m ≤ 1000000000000) : numS (nT n) l m = some n := by
  have e : (numL n).length ≤ 13 := numL_len (by decide) (by omega)
  unfold numS
  rw [whole_num (by omega)]
  show (if l ≤ n ∧ n ≤ m then some n else none) = _
  rw [if_pos ⟨h0, h⟩]
theorem free_nT (n : Nat) : 32 ∉ tl (nT n) := by
  rw [show tl (nT n) = numL n from tl_num n]
  exact numL_free (by omega)
theorem len_nT {n : Nat} (h : n ≤ 1000000000000) : (nT n).length ≤ 13 := by
  rw [len_tl, show tl (nT n) = numL n from tl_num n]
  exact numL_len (by decide) (by omega)
theorem split_words {ws : List Str} (ne : ws ≠ []) (h : ∀ z ∈ ws, 32 ∉ tl z) : Txt.split (Txt.join (Str.ofString " ") ws) (Str.ofString " ") = ws := split_join (y := Str.ofString " ") (s := 32) (S := []) (by decide +kernel) (by decide +kernel) ne h
/-- joined by blanks: the signs -/
theorem join_sp : ∀ (a : Str) (r : List Str), tl (Txt.join (Str.ofString " ") (a :: r)) = tl a ++ r.flatMap fun z => 32 :: tl z
  | a, [] => by rw [join_eq, tl_join, List.map_cons, List.map_nil, List.flatMap_nil, List.append_nil]; rfl
  | a, b :: r => by
    have ih := join_sp b r
    rw [join_eq, tl_join] at ih ⊢
    show tl a ++ (tl (Str.ofString " ") ++ joinL (tl (Str.ofString " ")) ((b :: r).map tl)) = _
    rw [ih, show tl (Str.ofString " ") = [32] by decide +kernel, List.flatMap_cons, List.cons_append, List.nil_append, List.cons_append]
/-- joined by nothing -/
theorem join_no : ∀ r : List Str, tl (Txt.join Str.empty r) = r.flatMap tl
  | [] => by rw [join_eq, tl_join]; rfl
  | [a] => by
    rw [join_eq, tl_join, List.flatMap_cons, List.flatMap_nil, List.append_nil]; rfl
  | a :: b :: r => by
    have ih := join_no (b :: r)
    rw [join_eq, tl_join] at ih ⊢
    show tl a ++ (tl Str.empty ++ joinL (tl Str.empty) ((b :: r).map tl)) = _
    rw [ih, show tl Str.empty = [] from rfl, List.nil_append, List.flatMap_cons, List.flatMap_cons, List.flatMap_cons]
def gearW (g : GearD) : List Str := [Str.ofString ";", nT g.1, nT g.2.1, nT g.2.2.1, nT (low g.2.2.2).1, nT (low g.2.2.2).2]
def headW (p : Nat) (s : Fr) : List Str := [Str.ofString "train", nT p, nT (low s).1, nT (low s).2]
def trainW (d : TrD) : List Str := headW d.1 d.2.1 ++ d.2.2.flatMap gearW
def trT (d : TrD) : Str := Txt.join (Str.ofString " ") (trainW d)
/-- what __str__ puts together -/
def slT (t : Fr) : Str := Str.empty ++ nT t.1 ++ Str.ofString " " ++ nT t.2
def gT (g : GearD) (z : Str) : Str := Str.empty ++ Str.ofString " ; " ++ nT g.1 ++ Str.ofString " " ++ nT g.2.1 ++ Str.ofString " " ++ nT g.2.2.1 ++ Str.ofString " " ++ z
def hT (p : Nat) (z : Str) : Str := Str.empty ++ Str.ofString "train " ++ nT p ++ Str.ofString " " ++ z
theorem tl_sl (t : Fr) : tl (slT t) = tl (nT t.1) ++ 32 :: tl (nT t.2) := by
  unfold slT
  rw [tl_append, tl_append, tl_append, show tl (Str.empty) = [] from rfl, show tl (Str.ofString " ") = [32] by decide +kernel, List.nil_append, List.append_assoc]
  rfl
theorem tl_g (g : GearD) : tl (gT g (slT (low g.2.2.2))) = (gearW g).flatMap fun z => 32 :: tl z := by
  unfold gT gearW
  rw [tl_append, tl_append, tl_append, tl_append, tl_append, tl_append, tl_append, tl_append, tl_sl, show tl (Str.empty) = [] from rfl, show tl (Str.ofString " ; ") = [32, 59, 32] by decide +kernel, show tl (Str.ofString " ") = [32] by decide +kernel]
  simp only [List.flatMap_cons, List.flatMap_nil, List.nil_append, List.append_nil, List.append_assoc, show tl (Str.ofString ";") = [59] by decide +kernel]
  rfl
theorem trT_eq (d : TrD) : Txt.join Str.empty (hT d.1 (slT (low d.2.1)) :: d.2.2.map fun g => gT g (slT (low g.2.2.2))) = trT d := by
  refine ext_tl ?_
  rw [join_no]
  show _ = tl (Txt.join (Str.ofString " ") (Str.ofString "train" :: ([nT d.1, nT (low d.2.1).1, nT (low d.2.1).2] ++ d.2.2.flatMap gearW)))
  rw [join_sp, List.flatMap_cons]
  unfold hT
  rw [tl_append, tl_append, tl_append, tl_append, tl_sl, show tl (Str.empty) = [] from rfl, show tl (Str.ofString "train ") = tl (Str.ofString "train") ++ [32] by decide +kernel, show tl (Str.ofString " ") = [32] by decide +kernel]
  have eg : ∀ gs : List GearD, (gs.map fun g => gT g (slT (low g.2.2.2))).flatMap tl = (gs.flatMap gearW).flatMap fun z => 32 :: tl z := fun gs => by
    induction gs with
    | nil => rfl
    | cons g gs ih => rw [List.map_cons, List.flatMap_cons, List.flatMap_cons, List.flatMap_append, ih, tl_g]
  rw [eg]
  simp only [List.flatMap_append, List.flatMap_cons, List.flatMap_nil, List.nil_append, List.append_nil, List.append_assoc, List.cons_append]
theorem free_tr (d : TrD) : ∀ z ∈ trainW d, 32 ∉ tl z := fun z hz => by
  have k : ∀ (l : List Nat), z ∈ l.map nT → 32 ∉ tl z := fun l h => by
    obtain ⟨n, _, rfl⟩ := List.mem_map.mp h
    exact free_nT n
  rcases List.mem_append.mp hz with hz | hz
  · rcases List.mem_cons.mp hz with rfl | hz
    · decide +kernel
    · exact k [d.1, (low d.2.1).1, (low d.2.1).2] hz
  · obtain ⟨g, _, hz⟩ := List.mem_flatMap.mp hz
    rcases List.mem_cons.mp hz with rfl | hz
    · decide +kernel
    · exact k [g.1, g.2.1, g.2.2.1, (low g.2.2.2).1, (low g.2.2.2).2] hz
theorem split_tr (d : TrD) : Txt.split (trT d) (Str.ofString " ") = trainW d := split_words (fun h => by cases h) (free_tr d)
theorem gears_flat_len (gs : List GearD) : (gs.flatMap gearW).length = 6 * gs.length := by
  induction gs with
  | nil => rfl
  | cons g gs ih => rw [List.flatMap_cons, List.length_append, ih, List.length_cons, show (gearW g).length = 6 from rfl]; omega
theorem trainW_len (d : TrD) : (trainW d).length = 4 + 6 * d.2.2.length := by
  unfold trainW
  rw [List.length_append, gears_flat_len]
  rfl
/-- the words of gear i -/
theorem gear_word {gs : List GearD} {i : Nat} {g : GearD} (h : gs[i]? = some g) {j : Nat} (hj : j < 6) : (gs.flatMap gearW)[6 * i + j]? = (gearW g)[j]? := by
  induction gs generalizing i with
  | nil => simp at h
  | cons a gs ih =>
    rw [List.flatMap_cons]
    cases i with
    | zero =>
      rw [List.getElem?_cons_zero] at h
      cases h
      rw [Nat.mul_zero, Nat.zero_add, List.getElem?_append_left (by show j < 6; exact hj)]
    | succ i =>
      rw [List.getElem?_cons_succ] at h
      rw [List.getElem?_append_right (by show 6 ≤ _; omega), show (gearW a).length = 6 from rfl, show 6 * (i + 1) + j - 6 = 6 * i + j by omega]
      exact ih h
theorem train_word {d : TrD} {i : Nat} {g : GearD} (h : d.2.2[i]? = some g) {j : Nat} (hj : j < 6) : (trainW d)[4 + 6 * i + j]? = (gearW g)[j]? := by
  unfold trainW
  rw [List.getElem?_append_right (by show 4 ≤ _; omega), show (headW d.1 d.2.1).length = 4 from rfl, show 4 + 6 * i + j - 4 = 6 * i + j by omega]
  exact gear_word h hj
end Tx
section
open Tx TL
variable {P : Program} {w : World} {K : PySem.W.Frag} {mg : Str → Option Value} {base : Heap} {C : Addr}
theorem smI {x : Nat} (h : x ≤ 1000000000000) : ((x : Nat) : Int).natAbs < 2 ^ 1920 := by
  rw [Int.natAbs_natCast]
  exact Nat.lt_of_lt_of_le (show x < 2 ^ 100 by omega) (pw2 100 1920 (by decide))
theorem slT_len {t : Fr} (h1 : t.1 ≤ 1000000000000) (h2 : t.2 ≤ 1000000000000) : (slT t).length ≤ 30 := by
  have a := len_nT h1
  have b := len_nT h2
  rw [len_tl] at a b
  rw [len_tl, tl_sl, List.length_append, List.length_cons]
  omega
theorem gT_len {g : GearD} {z : Str} (h1 : g.1 ≤ 1000000000000) (h2 : g.2.1 ≤ 1000000000000) (h3 : g.2.2.1 ≤ 1000000000000) (hz : z.length ≤ 30) : (gT g z).length ≤ 100 := by
  have a := len_nT h1
  have b := len_nT h2
  have c := len_nT h3
  rw [len_tl] at a b c hz
  rw [len_tl]
  unfold gT
  rw [tl_append, tl_append, tl_append, tl_append, tl_append, tl_append, tl_append, tl_append, show tl (Str.empty) = [] from rfl, show tl (Str.ofString " ; ") = [32, 59, 32] by decide +kernel, show tl (Str.ofString " ") = [32] by decide +kernel]
  simp only [List.length_append, List.length_cons, List.length_nil]
  omega
theorem hT_len {p : Nat} {z : Str} (h1 : p ≤ 1000000000000) (hz : z.length ≤ 30) : (hT p z).length ≤ 100 := by
  have a := len_nT h1
  rw [len_tl] at a hz
  rw [len_tl]
  unfold hT
  rw [tl_append, tl_append, tl_append, tl_append, show tl (Str.empty) = [] from rfl, show tl (Str.ofString " ") = [32] by decide +kernel]
  have e : (tl (Str.ofString "train ")).length = 6 := by decide +kernel
  simp only [List.length_append, List.length_cons, List.length_nil]
  omega
def spTrStr (K : PySem.W.Frag) (C : Addr) : SpL := fun vs L Q _ => ∃ (v : V) (d : TrD), vs = [v] ∧ TrC K C ∧ TrAt C L v d ∧ TrOk d ∧ Q (.str (trT d)) L
theorem run_Train_str (B : Bi mg) {f : Addr} {fd : FuncData} (F : Fun K "__str__" "Train.__str__" s_Train_str f fd) : RunG P w K mg base CX0 1 f argsP (toSp (spTrStr K C)) := by
  refine run_plain F sc_Train_str argsP id id (fun _ _ r => r) (fun _ _ _ _ _ _ us hl => match us, hl with | [_], _ => rfl) (by decide) (by tm_at "g_len") ?_
  intro X f cdv A outer s H E0 L vs Q E hX nd hr h
  subst hX
  obtain ⟨v, ⟨p, sv, gs⟩, rfl, ⟨c, n1, n2, n3, n4⟩, ⟨a, dx, og, pp, sl, gz, pz, sz, rfl, ma, mg, rg, mp, rp, ms, rs⟩, ⟨p1, p2, s0, g6, gok⟩, q⟩ := h
  dsimp only at ma rg rp rs p1 p2 s0 g6 gok q
  have lg := rg.len
  have lp := rp.len
  have ls := rs.len
  have sb := slp_bnd s0 gok
  rw [per_len] at lp
  have lsf : (slpF sv gs).length = gs.length + 1 := by rw [slpF, List.length_cons, List.length_map]
  rw [lsf] at ls
  show GSs _ (defBody s_Train_str) (bodyD Q) [("self", some (.ref a)), ("slips", none), ("texts", none), ("top", none), ("bottom", none), ("gear", none), ("slip", none)] L
  refine gss_cons ?_
  refine gs_lcP2 (by tm_at "g_put") (by tm_at "g_put") (fun _ => by tm_at "g_put") (gi_rowO (o := .tup sz) (.inr rfl) ?_) (by decide) (show blkC N_Train_str (defScope s_Train_str) _ [(_, List.idxOf _ N_Train_str), (_, List.idxOf _ N_Train_str)] = true by decide +kernel)
  tm_at "g"
  refine ⟨ms, ?_⟩
  refine pure_row2 (pt := fun _ => true) (pg := fun i => .str (slT ((slpF sv gs).getD i (0, 0)))) ms (by omega) (fun i v hv => ?_) fun D => ?_
  · obtain ⟨t, ht, b, rfl, mb⟩ := rs.get hv
    have tb := sb t (List.mem_of_getElem? ht)
    have et : (slpF sv gs).getD i (0, 0) = t := by rw [List.getD_eq_getElem?_getD, ht]; rfl
    rw [et]
    refine ⟨b, _, _, rfl, mb, fun D4 acc s1 H1 C1 cl1 fp1 => ?_⟩
    refine gts_nil ⟨rfl, Sub.refl, fun _ s2 H2 C2 cl2 fp2 => ?_⟩
    refine ge_joined (gjs_int (n := 0) (Nat.le_refl _) (by decide) ?_)
    tm_at "g"
    refine ⟨smI (by omega), fun l1 => gjs_lit l1 (by decide) fun l2 => gjs_int l2 (by decide) ?_⟩
    tm_at "g"
    refine ⟨smI (by omega), fun l3 => gjs_nil ?_⟩
    exact ⟨rfl, Sub.refl⟩
  rw [show ((List.range sz.length).filter fun _ => true).map (fun i => V.str (slT ((slpF sv gs).getD i (0, 0)))) = ((slpF sv gs).map slT).map V.str by
    rw [ls, ← lsf, List.map_map]
    exact range_get fun i x h => by rw [List.getD_eq_getElem?_getD, h]; rfl]
  tm_at "g"
  refine gs_lcP2 (by tm_at "g_put") (by tm_at "g_put") (fun _ => by tm_at "g_put") (gi_zipM ?_ B.zip) (by decide) (show blkC N_Train_str (defScope s_Train_str) _ [(_, List.idxOf _ N_Train_str), (_, List.idxOf _ N_Train_str)] = true by decide +kernel)
  tm_at "g"
  refine ⟨D, ((slpF sv gs).map slT).map V.str, rfl, ?_⟩
  show GE _ _ _ _ _
  tm_at "g"
  refine ⟨fun H hH => sql hH mem0, fun qs => ?_⟩
  have ec : cutV (((slpF sv gs).map slT).map V.str) (some 1) none = gs.map fun g => V.str (slT (low g.2.2.2)) := by
    rw [show (1 : Int) = ((1 : Nat) : Int) from rfl, cut_from (by rw [List.length_map, List.length_map, lsf]; omega)]
    unfold slpF
    rw [List.map_cons, List.map_cons, List.drop_succ_cons, List.drop_zero, List.map_map, List.map_map]
    rfl
  rw [ec]
  tm_at "g"
  refine ⟨og, qs, gz, _, rfl, memS (memS mg), mem0, ?_⟩
  have lm : min gz.length (gs.map fun g => V.str (slT (low g.2.2.2))).length = gs.length := by rw [List.length_map, lg, Nat.min_self]
  refine pure_zipM (pt := fun _ => true) (pg := fun i => match gs[i]? with | some g => .str (gT g (slT (low g.2.2.2))) | none => .non) (memS (memS mg)) mem0 (by omega) (fun i x y hx hy => ?_) fun D2 => ?_
  · obtain ⟨g, hg, ga, gf, rfl, mga, mgf⟩ := rg.get hx
    rw [List.getElem?_map, hg] at hy
    cases hy
    obtain ⟨k1, k2, k3, k4, k5, k6⟩ := gok i g hg
    have i6 : i < 6 := Nat.lt_of_lt_of_le (List.getElem?_eq_some_iff.mp hg).1 g6
    have lo := low_bnd0 k6.2.1
    have t1 := k6.1
    have t2 := k6.2.2
    rw [hg]
    intro D4 acc s1 H1 C1 cl1 fp1
    refine gts_nil ⟨rfl, Sub.refl, fun _ s2 H2 C2 cl2 fp2 => ?_⟩
    refine ge_joined (gjs_lit (n := 0) (Nat.le_refl _) (by decide) fun l1 => gjs_int l1 (by decide) ?_)
    tm_at "g"
    refine ⟨smI (by omega), fun l2 => gjs_lit l2 (by decide) fun l3 => gjs_int l3 (by decide) ?_⟩
    tm_at "g"
    refine ⟨smI (by omega), fun l4 => gjs_lit l4 (by decide) fun l5 => gjs_int l5 (by decide) ?_⟩
    tm_at "g"
    refine ⟨smI (by omega), fun l6 => gjs_lit l6 (by decide) fun l7 => gjs_S (k := 30) l7 (by decide) ?_⟩
    tm_at "g"
    refine ⟨slT_len (by omega) (by omega), gjs_nil ?_⟩
    exact ⟨rfl, Sub.refl⟩
  rw [lm, show ((List.range gs.length).filter fun _ => true).map (fun i => match gs[i]? with | some g => V.str (gT g (slT (low g.2.2.2))) | none => V.non) = (gs.map fun g => gT g (slT (low g.2.2.2))).map V.str by
    rw [List.map_map]
    exact range_get fun i x h => by rw [h]; rfl]
  tm_at "g"
  refine ge_join ?_
  tm_at "g"
  have h0 : 0 < pz.length := by omega
  obtain ⟨y, hy, ya, eya, mya⟩ := rp.get (List.getElem?_eq_getElem h0)
  obtain rfl : (p, 1) = y := Option.some.inj (per_head.symm.trans hy)
  refine ge_joined (gjs_lit (n := 0) (Nat.le_refl _) (by decide) fun l1 => gjs_int l1 (by decide) ?_)
  tm_at "g"
  refine gi_tup (memS (memS (memS mp))) (atI_nat (j := 0) (by rw [List.getElem?_eq_getElem h0, eya])) ?_
  tm_at "g"
  refine ⟨smI (by omega), fun l2 => gjs_lit l2 (by decide) fun l3 => gjs_S (k := 30) l3 (by decide) ?_⟩
  tm_at "g"
  refine gi_lst (by tm_at "g_mem") (atI_nat (j := 0) (v := .str (slT (low sv))) rfl) ?_
  have lo := low_bnd0 (t := sv) s0.2.1
  have s1 := s0.1
  have s3 := s0.2.2
  have hl1 : (slT (low sv)).length ≤ 30 := slT_len (by omega) (by omega)
  refine ⟨_, rfl, hl1, gjs_nil ?_⟩
  tm_at "g"
  refine ⟨D2, (gs.map fun g => gT g (slT (low g.2.2.2))).map V.str, rfl, .inr mem0, ?_⟩
  tm_at "g"
  have sum : ∀ l : List GearD, (∀ g ∈ l, (gT g (slT (low g.2.2.2))).length ≤ 100) → ((l.map fun g => gT g (slT (low g.2.2.2))).map (·.length)).sum ≤ 100 * l.length := fun l => by
    induction l with
    | nil => intro _; exact Nat.le_refl _
    | cons g l ih =>
      intro hl
      rw [List.map_cons, List.map_cons, List.sum_cons, List.length_cons]
      have a := hl g List.mem_cons_self
      have b := ih fun x hx => hl x (List.mem_cons_of_mem _ hx)
      omega
  have sm := sum gs fun g gm => by
    obtain ⟨i, hi⟩ := List.mem_iff_getElem?.mp gm
    have hi6 : i < 6 := Nat.lt_of_lt_of_le (List.getElem?_eq_some_iff.mp hi).1 g6
    obtain ⟨k1, k2, k3, k4, k5, k6⟩ := gok i g hi
    have lo := low_bnd0 k6.2.1
    have t1 := k6.1
    have t2 := k6.2.2
    exact gT_len (by omega) (by omega) (by omega) (slT_len (by omega) (by omega))
  refine ⟨_, hT p (slT (low sv)) :: gs.map fun g => gT g (slT (low g.2.2.2)), rfl, by first | exact mem0 | (rw [List.append_nil]; exact mem0), ?_, ?_⟩
  · have hh := hT_len (p := p) (z := slT (low sv)) (by omega) hl1
    rw [List.map_cons, List.sum_cons, show (Str.ofString "").length = 0 from rfl, Nat.mul_zero]
    omega
  rw [show Txt.join (Str.ofString "") (hT p (slT (low sv)) :: gs.map fun g => gT g (slT (low g.2.2.2))) = trT (p, sv, gs) from trT_eq (p, sv, gs)]
  exact ⟨_, by tm_at "g_end", q⟩
end
namespace Tx
open PySem NumText L2 TL
def lowG (g : GearD) : GearD := (g.1, g.2.1, g.2.2.1, low g.2.2.2)
def lowD (d : TrD) : TrD := (d.1, low d.2.1, d.2.2.map lowG)
theorem per_low {p : Nat} {gs : List GearD} : perF p (gs.map lowG) = perF p gs := by
  have : ∀ (l : List GearD) (ps : List Fr), (l.map lowG).foldl stepP ps = l.foldl stepP ps := by
    intro l
    induction l with
    | nil => intro ps; rfl
    | cons g l ih => intro ps; rw [List.map_cons, List.foldl_cons, List.foldl_cons, ih]; rfl
  exact this gs _
theorem low_ok {t : Fr} (h : FrOk t) : FrOk (low t) := by
  obtain ⟨a, b, c⟩ := low_bnd0 h.2.1
  exact ⟨Nat.le_trans a h.1, b, Nat.le_trans c h.2.2⟩
theorem slp_lowD {s : Fr} {gs : List GearD} (hs : FrOk s) (hg : ∀ (i : Nat) (g : GearD), gs[i]? = some g → GearOk i g) : slpF (low s) (gs.map lowG) = slpF s gs := by
  unfold slpF
  rw [low_low hs.2.1, List.map_map]
  congr 1
  refine List.map_congr_left fun g hm => ?_
  obtain ⟨i, hi⟩ := List.mem_iff_getElem?.mp hm
  exact low_low (hg i g hi).2.2.2.2.2.2.1
theorem lowG_ok {i : Nat} {g : GearD} (h : GearOk i g) : GearOk i (lowG g) := ⟨h.1, h.2.1, h.2.2.1, h.2.2.2.1, h.2.2.2.2.1, low_ok h.2.2.2.2.2⟩
theorem gears_low {gs : List GearD} (h : GearsOk gs) : GearsOk (gs.map lowG) := ⟨by rw [List.length_map]; exact h.1, fun i g e => by
  rw [List.getElem?_map] at e
  obtain ⟨y, hy, rfl⟩ := Option.map_eq_some_iff.mp e
  exact lowG_ok (h.2 i y hy)⟩
theorem tr_low {d : TrD} (h : TrOk d) : TrOk (lowD d) := ⟨h.1, h.2.1, low_ok h.2.2.1, gears_low h.2.2.2⟩
theorem words_tr {d : TrD} (h : TrOk d) : Words (trainW d) := by
  refine ⟨by rw [trainW_len]; have := h.2.2.2.1; omega, fun z hz => ?_⟩
  obtain ⟨p1, p2, s0, g6, gok⟩ := h
  have k : ∀ (l : List Nat), (∀ n ∈ l, n ≤ 1000000000000) → z ∈ l.map nT → z.length ≤ 100000 := fun l hl h => by
    obtain ⟨n, hn, rfl⟩ := List.mem_map.mp h
    exact Nat.le_trans (len_nT (hl n hn)) (by decide)
  have k4 : ∀ (a b c : Nat), a ≤ 1000000000000 → b ≤ 1000000000000 → c ≤ 1000000000000 → ∀ n ∈ [a, b, c], n ≤ 1000000000000 := fun a b c h1 h2 h3 n hn => by
    simp only [List.mem_cons, List.not_mem_nil, or_false] at hn
    rcases hn with rfl | rfl | rfl <;> assumption
  have ls := low_ok s0
  rcases List.mem_append.mp hz with hz | hz
  · rcases List.mem_cons.mp hz with rfl | hz
    · decide
    · exact k [d.1, (low d.2.1).1, (low d.2.1).2] (k4 _ _ _ (by omega) (by have := ls.1; omega) (by have := ls.2.2; omega)) hz
  · obtain ⟨g, gm, hz⟩ := List.mem_flatMap.mp hz
    obtain ⟨i, hi⟩ := List.mem_iff_getElem?.mp gm
    have hi6 : i < 6 := Nat.lt_of_lt_of_le (List.getElem?_eq_some_iff.mp hi).1 g6
    obtain ⟨k1, k2, k3, k4', k5, k6⟩ := gok i g hi
    have lg := low_ok k6
    rcases List.mem_cons.mp hz with rfl | hz
    · decide
    · refine k [g.1, g.2.1, g.2.2.1, (low g.2.2.2).1, (low g.2.2.2).2] (fun n hn => ?_) hz
      have a1 := lg.1
      have a2 := lg.2.2
      simp only [List.mem_cons, List.not_mem_nil, or_false] at hn
      rcases hn with rfl | rfl | rfl | rfl | rfl <;> omega
theorem len_tr {d : TrD} (h : TrOk d) : (trT d).length ≤ 1000 := by
  obtain ⟨p1, p2, s0, g6, gok⟩ := h
  have ls := low_ok s0
  rw [← trT_eq, len_tl, join_no, List.flatMap_cons, List.length_append, ← len_tl]
  have h1 := hT_len (p := d.1) (z := slT (low d.2.1)) (by omega) (slT_len (by have := ls.1; omega) (by have := ls.2.2; omega))
  have h2 : ∀ l : List GearD, (∀ g ∈ l, (gT g (slT (low g.2.2.2))).length ≤ 100) → ((l.map fun g => gT g (slT (low g.2.2.2))).flatMap tl).length ≤ 100 * l.length := fun l => by
    induction l with
    | nil => intro _; exact Nat.le_refl _
    | cons g l ih =>
      intro hl
      rw [List.map_cons, List.flatMap_cons, List.length_append, ← len_tl, List.length_cons]
      have a := hl g List.mem_cons_self
      have b := ih fun x hx => hl x (List.mem_cons_of_mem _ hx)
      omega
  have h3 := h2 d.2.2 fun g gm => by
    obtain ⟨i, hi⟩ := List.mem_iff_getElem?.mp gm
    have hi6 : i < 6 := Nat.lt_of_lt_of_le (List.getElem?_eq_some_iff.mp hi).1 g6
    obtain ⟨k1, k2, k3, k4', k5, k6⟩ := gok i g hi
    have lg := low_ok k6
    exact gT_len (by omega) (by omega) (by omega) (slT_len (by have := lg.1; omega) (by have := lg.2.2; omega))
  omega
theorem numW_nT {ws : List Str} {i n l m : Nat} (h : ws[i]? = some (nT n)) (h0 : l ≤ n) (h1 : n ≤ m) (hm : m ≤ 1000000000000) : numW ws i l m = some n := by
  unfold numW
  rw [h]
  exact num_nT h0 h1 hm
end Tx
section
open Tx
variable {P : Program} {w : World} {K : PySem.W.Frag} {mg : Str → Option Value} {base : Heap} {C fI T0 Ct : Addr}
theorem gt_sub {X : Cx} {e : Expr} {η : En} {L M : Lg} {Q : Bool → Lg → Prop} (s : Sub M L) (h : GT X e η M Q) : GT X e η L Q := fun hN H hH => h hN H (s.has H hH)
theorem gt_nd {X : Cx} {e : Expr} {η : En} {L : Lg} {Q : Bool → Lg → Prop} (h : (L.map (·.1)).Nodup → GT X e η L Q) : GT X e η L Q := fun hN H hH => h hH.1 hN H hH
def spNeedWord : SpL := fun vs L Q _ => ∃ (r : Addr) (ws : List Str) (i : Nat) (z : Str), vs = [.ref r, .int i, .str z] ∧ (r, strsO ws) ∈ L ∧ ws[i]? = some z ∧ PyData.strOk z = true ∧ Q .non L
theorem fn_need_word (B : Bi mg) (F : Df K mg "need_word" s_need_word) : Fn P w K mg base CX0 "need_word" 1 spNeedWord := by
  refine fn_plain F sc_need_word (fun _ _ _ _ _ _ us hl => match us, hl with | [_, _, _], _ => rfl) (by decide) (by tm_at "g_len") ?_
  intro X f cdv A outer s H E0 L vs Q E hX nd hr h
  subst hX
  obtain ⟨r, ws, i, z, rfl, mr, hz, ok, q⟩ := h
  show GSs _ (defBody s_need_word) (bodyD Q) [("words", some (.ref r)), ("at", some (.int i)), ("word", some (.str z))] L
  refine gss_cons ?_
  tm_at "g"
  refine ⟨r, ws.map V.str, rfl, ?_⟩
  show GE _ _ _ _ _
  tm_at "g"
  show GE _ _ _ _ _
  tm_at "g"
  refine ⟨fun H hH => sql hH mr, fun q1 => ?_⟩
  rw [cut_one (v := .str z) (by rw [List.getElem?_map, hz]; rfl)]
  tm_at "g"
  refine go_neLS (ns := [z]) (ms := [z]) hr (memS mem0) mem0 rfl rfl (by simpa using ok) (by simpa using ok) ?_
  rw [decide_eq_true rfl]
  tm_at "g"
  exact ⟨_, Sub.trans Sub.drop Sub.drop, q⟩
def spFracAt : SpL := fun vs L Q _ => ∃ (r : Addr) (ws : List Str) (i : Nat) (t : Fr), vs = [.ref r, .int i] ∧ (r, strsO ws) ∈ L ∧ Words ws ∧ ws[i]? = some (nT t.1) ∧ ws[i + 1]? = some (nT t.2) ∧ FrOk t ∧ Nat.gcd t.1 t.2 = 1 ∧ ∀ f, Q (.ref f) ((f, frO t) :: L)
theorem fn_fraction_at (B : Bi mg) (F : Df K mg "fraction_at" s_fraction_at) (D1 : Fn P w K mg base (L2.CX P w) "number_at" 3 (spNumAt Ct)) (D2 : Fn P w K mg base CX0 "common" 3 (spStar spGcds)) {u1 : Value} (hM : mg "MOST_UNITS" = some u1) (rM : RelV (.int 1000000) u1) : Fn P w K mg base CX0 "fraction_at" 4 spFracAt := by
  refine fn_plain F sc_fraction_at (fun _ _ _ _ _ _ us hl => match us, hl with | [_, _], _ => rfl) (by decide) (by tm_at "g_len") ?_
  intro X f cdv A outer s H E0 L vs Q E hX nd hr h
  subst hX
  obtain ⟨r, ws, i, t, rfl, mr, wk, h1, h2, ⟨t1, t2, t3⟩, g1, q⟩ := h
  show GSs _ (defBody s_fraction_at) (bodyD Q) [("words", some (.ref r)), ("at", some (.int i)), ("top", none), ("bottom", none)] L
  refine gss_cons ?_
  tm_at "g"
  refine ge_call (El := NoX) D1 hr passN ?_
  tm_at "g"
  refine gv_con hM rM ?_
  tm_at "g"
  refine ⟨r, ws, i, 0, 1000000, rfl, mr, wk, fun n hn => ?_, fun hn => absurd (hn.symm.trans (numW_nT h1 (Nat.zero_le _) t1 (by decide))) (by simp)⟩
  obtain rfl : t.1 = n := Option.some.inj ((numW_nT h1 (Nat.zero_le _) t1 (by decide)).symm.trans hn)
  tm_at "g"
  refine ge_call (El := NoX) D1 hr passN ?_
  tm_at "g"
  refine gv_con hM rM ?_
  tm_at "g"
  refine ⟨r, ws, i + 1, 1, 1000000, rfl, mr, wk, fun n hn => ?_, fun hn => absurd (hn.symm.trans (numW_nT h2 t2 t3 (by decide))) (by simp)⟩
  obtain rfl : t.2 = n := Option.some.inj ((numW_nT h2 t2 t3 (by decide)).symm.trans hn)
  tm_at "g"
  refine ge_call (El := NoX) D2 hr passA ?_
  tm_at "g"
  have k9 : ∀ x : Nat, x ≤ 1000000 → ((x : Int).natAbs < 2 ^ 9000) := fun x hx => by
    rw [Int.natAbs_natCast]
    exact Nat.lt_of_lt_of_le (show x < 2 ^ 100 by omega) (pw2 100 9000 (by decide))
  refine ⟨szL (show 2 ≤ 16777216 by decide), fun p => ⟨p, [(t.1 : Int), (t.2 : Int)], L, rfl, rfl, fun n hn => ?_, ?_⟩⟩
  · simp only [List.mem_cons, List.not_mem_nil, or_false] at hn
    rcases hn with rfl | rfl
    · exact k9 _ t1
    · exact k9 _ t3
  rw [show gcds [(t.1 : Int), (t.2 : Int)] = Nat.gcd t.1 t.2 by simp [gcds], g1]
  tm_at "g"
  rw [show (!decide (((1 : Nat) : Int) = 1)) = false from rfl]
  tm_at "g"
  exact ⟨_, Sub.refl, q _⟩
def spReadTr (C : Addr) : SpL := fun vs L Q _ => ∃ d : TrD, vs = [.str (trT d)] ∧ TrOk d ∧ ∀ (x : V) (R : Lg), (∀ e ∈ L, e ∈ R) → TrAt C R x (lowD d) → Q x R
theorem fn_read_train (B : Bi mg) (F : Df K mg "read_train" s_read_train) (hC : mg "Train" = some (.ref C)) (tc : TrC K C) (M : Mk K C fI) (TI : TrI P w K mg base C fI T0)
    (D0 : Fn P w K mg base CX0 "words_of" 1 spWordsOf) (D1 : Fn P w K mg base CX0 "need_word" 1 spNeedWord) (D2 : Fn P w K mg base (L2.CX P w) "number_at" 3 (spNumAt Ct)) (D3 : Fn P w K mg base CX0 "fraction_at" 4 spFracAt) (D4 : Fn P w K mg base (L2.CX P w) "need_end" 3 (spNeedEnd Ct))
    {u1 u2 u3 : Value} (hM : mg "MOST_UNITS" = some u1) (rM : RelV (.int 1000000) u1) (hT : mg "MOST_TEETH" = some u2) (rT : RelV (.int 1000) u2) (hG : mg "MOST_GEARS" = some u3) (rG : RelV (.int 6) u3) : Fn P w K mg base CX0 "read_train" 7 (spReadTr C) := by
  refine fn_plain F sc_read_train (fun _ _ _ _ _ _ us hl => match us, hl with | [_], _ => rfl) (by decide) (by tm_at "g_len") ?_
  intro X f cdv A outer s H E0 L vs Q E hX nd hr h
  subst hX
  obtain ⟨d, rfl, ok, q⟩ := h
  obtain ⟨p1, p2, s0, g6, gok⟩ := id ok
  have wk := words_tr ok
  have ls := low_ok s0
  have wl := trainW_len d
  show GSs _ (defBody s_read_train) (bodyD Q) [("text", some (.str (trT d))), ("words", none), ("period", none), ("slip", none), ("gears", none), ("at", none), ("on", none), ("driving", none), ("driven", none)] L
  refine gss_cons ?_
  tm_at "g"
  refine ge_call (El := NoX) D0 hr passA ?_
  tm_at "g"
  refine ⟨trT d, rfl, Nat.le_trans (len_tr ok) (by decide), fun r => ?_⟩
  rw [split_tr]
  tm_at "g"
  refine ge_call (El := NoX) D1 hr passA ?_
  tm_at "g"
  refine ⟨r, trainW d, 0, Str.ofString "train", rfl, mem0, rfl, by decide +kernel, ?_⟩
  tm_at "g"
  refine ge_call (El := NoX) D2 hr passN ?_
  tm_at "g"
  refine gv_con hM rM ?_
  tm_at "g"
  have e1 : (trainW d)[1]? = some (nT d.1) := rfl
  refine ⟨r, trainW d, 1, 1, 1000000, rfl, mem0, wk, fun n hn => ?_, fun hn => absurd (hn.symm.trans (numW_nT e1 p1 p2 (by decide))) (by simp)⟩
  obtain rfl : d.1 = n := Option.some.inj ((numW_nT e1 p1 p2 (by decide)).symm.trans hn)
  tm_at "g"
  refine ge_call (El := NoX) D3 hr passA ?_
  tm_at "g"
  refine ⟨r, trainW d, 2, low d.2.1, rfl, mem0, wk, rfl, rfl, ls, gcd_low s0.2.1, fun sf => ?_⟩
  tm_at "g"
  rename_i go
  refine gs_while (fun m θ N => ∃ (i : Nat) (u1 u2 u3 : Option V) (gz : List V) (R' : Lg), θ = ([("text", some (.str (trT d))), ("words", some (.ref r)), ("period", some (.int (d.1 : Nat))), ("slip", some (.ref sf)), ("gears", some (.ref go)), ("at", some (.int ((4 + 6 * i : Nat) : Int))), ("on", u1), ("driving", u2), ("driven", u3)] : En) ∧ Sub ((go, HO.lst gz) :: R') N ∧ Sub ((sf, frO (low d.2.1)) :: (r, strsO (trainW d)) :: L) R' ∧ Reps (GearAt R') gz ((d.2.2.map lowG).take i) ∧ i ≤ d.2.2.length ∧ m = d.2.2.length - i) d.2.2.length ⟨0, none, none, none, [], _, rfl, Sub.refl, Sub.refl, .nil, Nat.zero_le _, rfl⟩ ?_
  rintro m θ N ⟨i, u1, u2, u3, gz, R', rfl, sb, sR, rg, il, rfl⟩
  refine gt_sub sb ?_
  refine gt_nd fun ndN => ?_
  have up := (sR.to (List.nodup_cons.mp ndN).2).2
  have mr : (r, strsO (trainW d)) ∈ R' := up _ (memS mem0)
  have lg := rg.len
  rw [List.length_take, List.length_map, Nat.min_eq_left il] at lg
  tm_at "g"
  rw [List.length_map, wl]
  refine ite_d (fun c => ?_) (fun c => ?_)
  · have hil : i < d.2.2.length := by omega
    obtain ⟨g, hg⟩ : ∃ g, d.2.2[i]? = some g := ⟨_, List.getElem?_eq_getElem hil⟩
    obtain ⟨k1, k2, k3, k4, k5, k6⟩ := gok i g hg
    have fg := low_ok k6
    tm_at "g"
    refine gv_con hG rG ?_
    tm_at "g"
    refine ite_d (fun c2 => ?_) (fun c2 => absurd c2 (by omega))
    tm_at "g"
    refine ge_call (El := NoX) D1 hr passA ?_
    tm_at "g"
    refine ⟨r, trainW d, 4 + 6 * i, Str.ofString ";", rfl, memS mr, train_word (j := 0) hg (by decide), by decide +kernel, ?_⟩
    tm_at "g"
    refine ge_call (El := NoX) D2 hr passN ?_
    tm_at "g"
    have w1 : (trainW d)[4 + 6 * i + 1]? = some (nT g.1) := train_word (j := 1) hg (by decide)
    have w2 : (trainW d)[4 + 6 * i + 2]? = some (nT g.2.1) := train_word (j := 2) hg (by decide)
    have w3 : (trainW d)[4 + 6 * i + 3]? = some (nT g.2.2.1) := train_word (j := 3) hg (by decide)
    have w4 : (trainW d)[4 + 6 * i + 4]? = some (nT (low g.2.2.2).1) := train_word (j := 4) hg (by decide)
    have w5 : (trainW d)[4 + 6 * i + 4 + 1]? = some (nT (low g.2.2.2).2) := train_word (j := 5) hg (by decide)
    have v1 := numW_nT (l := 0) (m := gz.length) w1 (Nat.zero_le _) (by omega) (by omega)
    have v2 := numW_nT (l := 1) (m := 1000) w2 k2 k3 (by decide)
    have v3 := numW_nT (l := 1) (m := 1000) w3 k4 k5 (by decide)
    refine ⟨r, trainW d, 4 + 6 * i + 1, 0, gz.length, rfl, memS mr, wk, fun n hn => ?_, fun hn => absurd (hn.symm.trans v1) (by simp)⟩
    obtain rfl : g.1 = n := Option.some.inj (v1.symm.trans hn)
    tm_at "g"
    refine ge_call (El := NoX) D2 hr passN ?_
    tm_at "g"
    refine gv_con hT rT ?_
    tm_at "g"
    refine ⟨r, trainW d, 4 + 6 * i + 2, 1, 1000, rfl, memS mr, wk, fun n hn => ?_, fun hn => absurd (hn.symm.trans v2) (by simp)⟩
    obtain rfl : g.2.1 = n := Option.some.inj (v2.symm.trans hn)
    tm_at "g"
    refine ge_call (El := NoX) D2 hr passN ?_
    tm_at "g"
    refine gv_con hT rT ?_
    tm_at "g"
    refine ⟨r, trainW d, 4 + 6 * i + 3, 1, 1000, rfl, memS mr, wk, fun n hn => ?_, fun hn => absurd (hn.symm.trans v3) (by simp)⟩
    obtain rfl : g.2.2.1 = n := Option.some.inj (v3.symm.trans hn)
    tm_at "g"
    refine ge_call (El := NoX) D3 hr passA ?_
    tm_at "g"
    refine ⟨r, trainW d, 4 + 6 * i + 4, low g.2.2.2, rfl, memS mr, wk, w4, w5, fg, gcd_low k6.2.1, fun f1 => ?_⟩
    tm_at "g"
    rename_i t1
    refine ⟨gz, _, by tm_at "g_mem", szL (show gz.length + 1 ≤ 16777216 by omega), by tm_at "g_swap", ?_⟩
    tm_at "g"
    refine ⟨d.2.2.length - (i + 1), by omega, i + 1, _, _, _, gz ++ [V.ref t1], (t1, HO.tup [V.int (g.1 : Nat), V.int (g.2.1 : Nat), V.int (g.2.2.1 : Nat), V.ref f1]) :: (f1, frO (low g.2.2.2)) :: R', rfl, ?_, Sub.trans sR (Sub.trans Sub.drop Sub.drop), ?_, hil, rfl⟩
    · exact Sub.perm (List.perm_middle (l₁ := [_, _])).symm
    · rw [List.take_succ, List.getElem?_map, hg]
      exact (rg.imp fun v a z => gearMono _ _ _ _ (fun _ h => memS (memS h)) z).snoc ⟨t1, f1, rfl, mem0, memS mem0⟩
  · have hie : i = d.2.2.length := by omega
    subst hie
    rw [List.take_of_length_le (by rw [List.length_map]; exact Nat.le_refl _)] at rg
    tm_at "g"
    refine ge_call (El := NoX) D4 hr passN ?_
    tm_at "g"
    refine ⟨r, trainW d, 4 + 6 * d.2.2.length, rfl, memS mr, fun _ => ?_, fun hn => absurd hn (by omega)⟩
    tm_at "g"
    refine ge_kwS2 hC M.kp (fun n _ => gf_make (args := argsK n ["slip"]) (El := NoX) M (TI.slip (n + 1)) (fun _ _ => rfl) hr passA) ?_
    tm_at "g"
    refine ⟨go, gz, rfl, .inr mem0, ?_⟩
    tm_at "g"
    have tl := tr_low ok
    refine fun x dx2 => ⟨[.ref x, .int (d.1 : Nat)], gz, [.ref sf], by simp, rfl, by simp, rfl, szL (by omega), True.intro, fun p' => ⟨x, dx2, p', d.1, .ref sf, low d.2.1, gz, d.2.2.map lowG, (dx2, .own x) :: (go, HO.lst gz) :: R', rfl, rfl, tc, ⟨sf, rfl, .inl (memS (memS (up _ mem0)))⟩, rg.imp fun v a z => gearMono _ _ _ _ (fun _ h => memS (memS h)) z, tl, fun og' pp' sl' N2 pz' sz' eog up2 mo mp' rp' ms' rs' => ⟨rfl, ?_⟩⟩⟩
    refine ⟨_, Sub.refl, q (.ref x) _ (fun e he => memS (up2 _ (memS (memS (up _ (memS (memS he))))))) ⟨x, dx2, og', pp', sl', gz, pz', sz', rfl, mem0, memS mo, rg.imp fun v a z => gearMono _ _ _ _ (fun _ h => memS (up2 _ (memS (memS h)))) z, memS mp', rp'.imp fun v a z => frMono _ _ _ _ (fun _ h => memS h) z, memS ms', rs'.imp fun v a z => frMono _ _ _ _ (fun _ h => memS h) z⟩⟩
theorem run_Train_read {f : Addr} {fd : FuncData} (F : Fun K "read" "Train.read" s_Train_read f fd) (args : List Value → Args)
    (hb : ∀ (kV doc pm : Value) (an : Option Addr) (cdv ct : Value) (us : List Value), us.length = 1 → bindArgs (PySem.W.fnOf "read" "Train.read" (defArgs s_Train_read) (defBody s_Train_read) (defScope s_Train_read) .none kV doc pm an cdv ct) (args us) = pure ((["text"] : List Str).zip us))
    (D1 : Fn P w K mg base CX0 "read_train" 7 (spReadTr C)) : RunG P w K mg base CX0 8 f args (toSp (spReadTr C)) := by
  refine run_plain F sc_Train_read args id id (fun _ _ r => r) hb (by decide) (by tm_at "g_len") ?_
  intro X f cdv A outer s H E0 L vs Q E hX nd hr h
  subst hX
  obtain ⟨d, rfl, ok, q⟩ := h
  show GSs _ (defBody s_Train_read) (bodyD Q) [("text", some (.str (trT d)))] L
  refine gss_cons ?_
  tm_at "g"
  refine ge_call (El := NoX) D1 hr passA ?_
  tm_at "g"
  exact ⟨d, rfl, ok, fun x R up t => ⟨_, Sub.refl, q x R up t⟩⟩
end
section
open Tx
variable {P : Program} {w : World} {K : PySem.W.Frag} {mg : Str → Option Value} {base : Heap} {C : Addr}
def spLawText : SpL := fun vs L Q _ => ∃ (p : Nat) (sf go : Addr) (sv : Fr) (gz : List V) (gs : List GearD), vs = [.int (p : Nat), .ref sf, .ref go] ∧ (sf, frO sv) ∈ L ∧ (go, HO.lst gz) ∈ L ∧ Reps (GearAt L) gz gs ∧ TrOk (p, sv, gs) ∧ Q (.str (trT (p, sv, gs))) L
theorem fn_law_text (B : Bi mg) (F : Df K mg "_law_text" s_law_text) (D1 : Fn P w K mg base CX0 "_law_lowest" 2 spLowest) : Fn P w K mg base CX0 "_law_text" 3 spLawText := by
  refine fn_plain F sc_law_text (fun _ _ _ _ _ _ us hl => match us, hl with | [_, _, _], _ => rfl) (by decide) (by tm_at "g_len") ?_
  intro X f cdv A outer s H E0 L vs Q E hX nd hr h
  subst hX
  obtain ⟨p, sf, go, sv, gz, gs, rfl, ms, mg', rg, ok, q⟩ := h
  obtain ⟨p1, p2, s0, g6, gok⟩ := id ok
  dsimp only at p1 p2 s0 g6 gok
  have lg := rg.len
  obtain ⟨s1, s2, s3⟩ := id s0
  show GSs _ (defBody s_law_text) (bodyD Q) [("_law_period_here", some (.int (p : Nat))), ("_law_slip", some (.ref sf)), ("_law_gears_here", some (.ref go)), ("_law_words", none), ("_law_on", none), ("_law_driving", none), ("_law_driven", none), ("_law_own", none), ("_law_part", none)] L
  refine gss_nd2 fun ndL => ?_
  refine gss_cons ?_
  tm_at "g"
  refine gc_strI (smI (by omega)) ?_
  tm_at "g"
  refine ge_lcP (by tm_at "g_put") (gi_tuple ?_) (show blkC N_law_text (defScope s_law_text) _ [(_, List.idxOf _ N_law_text)] = true by decide +kernel)
  tm_at "g"
  refine ge_call (El := NoX) D1 hr passA ?_
  tm_at "g"
  refine ⟨sv.1, sv.2, rfl, s2, small200 (by omega), small200 (by omega), fun t0 => ?_⟩
  tm_at "g"
  have lo := low_ok s0
  refine pure_rowA (val := fun n : Nat => V.int n) (as := [(low sv).1, (low sv).2]) (t := fun _ => true) (g := fun n => .str (nT n)) mem0 (by simp) (fun n hn D acc s1 H1 C1 cl1 fp1 => ?_) fun D => ?_
  · have hn2 : n ≤ 1000000 := by
      simp only [List.mem_cons, List.not_mem_nil, or_false] at hn
      rcases hn with rfl | rfl
      · exact lo.1
      · exact lo.2.2
    refine gts_nil ⟨rfl, Sub.refl, fun _ s2 H2 C2 cl2 fp2 => ?_⟩
    tm_at "g"
    refine gc_strI (smI (by omega)) ?_
    exact ⟨rfl, Sub.refl⟩
  rename_i z1
  refine go_cat (by tm_at "g_mem") mem0 (szL (by simp)) fun wl => ?_
  tm_at "g"
  refine gs_for (gi_list ?_)
  tm_at "g"
  refine ⟨fun i θ N => ∃ (u1 u2 u3 u4 : Option V) (wl : Addr), θ = ([("_law_period_here", some (.int (p : Nat))), ("_law_slip", some (.ref sf)), ("_law_gears_here", some (.ref go)), ("_law_words", some (.ref wl)), ("_law_on", u1), ("_law_driving", u2), ("_law_driven", u3), ("_law_own", u4), ("_law_part", none)] : En) ∧ (wl, strsO (headW p sv ++ (gs.take i).flatMap gearW)) ∈ N ∧ (∀ e ∈ L, e ∈ N), ⟨none, none, none, none, wl, rfl, mem0, fun e he => by repeat (first | exact he | with_reducible apply memS)⟩, fun i θ M _ nd ⟨_, _, _, _, _, _, _, up⟩ => up _ mg', ?_, ?_⟩
  · rintro i x E1 θ N hi ⟨hx, rfl⟩ ⟨u1, u2, u3, u4, wl, rfl, mw, up⟩
    obtain ⟨g, hg, ga, gf, rfl, mga, mgf⟩ := rg.get hx
    obtain ⟨k1, k2, k3, k4, k5, k6⟩ := gok i g hg
    have lo := low_ok k6
    obtain ⟨h1, h2, h3⟩ := id k6
    have hil : i < gs.length := (List.getElem?_eq_some_iff.mp hg).1
    dsimp only [List.nil_append]
    refine gg_tup (xs := [.int (g.1 : Nat), .int (g.2.1 : Nat), .int (g.2.2.1 : Nat), .ref gf]) (up _ mga) ?_
    tm_at "g"
    refine gc_strI (smI (by omega)) ?_
    tm_at "g"
    refine gc_strI (smI (by omega)) ?_
    tm_at "g"
    refine gc_strI (smI (by omega)) ?_
    tm_at "g"
    have lw : (headW p sv ++ (gs.take i).flatMap gearW).length = 4 + 6 * i := by rw [List.length_append, gears_flat_len, List.length_take, Nat.min_eq_left (by omega)]; rfl
    refine go_cat (memS mw) mem0 (szL (by rw [List.length_map, lw]; simp; omega)) fun w2 => ?_
    tm_at "g"
    refine ge_lcP (by tm_at "g_put") (gi_tuple ?_) (show blkC N_law_text (defScope s_law_text) _ [(_, List.idxOf _ N_law_text)] = true by decide +kernel)
    tm_at "g"
    refine ge_call (El := NoX) D1 hr passA ?_
    tm_at "g"
    have mgf2 := up _ mgf
    refine gi_tup (xs := [.int (g.2.2.2.1 : Nat), .int (g.2.2.2.2 : Nat)]) (by repeat (first | exact mgf2 | with_reducible apply memS)) (atI_nat (j := 0) rfl) ?_
    tm_at "g"
    refine ⟨g.2.2.2.1, g.2.2.2.2, rfl, h2, small200 (by omega), small200 (by omega), fun t0 => ?_⟩
    tm_at "g"
    refine pure_rowA (val := fun n : Nat => V.int n) (as := [(low g.2.2.2).1, (low g.2.2.2).2]) (t := fun _ => true) (g := fun n => .str (nT n)) mem0 (by simp) (fun n hn D acc s1 H1 C1 cl1 fp1 => ?_) fun D => ?_
    · have hn2 : n ≤ 1000000 := by
        simp only [List.mem_cons, List.not_mem_nil, or_false] at hn
        rcases hn with rfl | rfl
        · exact lo.1
        · exact lo.2.2
      refine gts_nil ⟨rfl, Sub.refl, fun _ s2 H2 C2 cl2 fp2 => ?_⟩
      tm_at "g"
      refine gc_strI (smI (by omega)) ?_
      exact ⟨rfl, Sub.refl⟩
    refine go_cat (by tm_at "g_mem") mem0 (szL (by simp only [List.length_append, List.length_map, lw]; simp; omega)) fun w3 => ?_
    tm_at "g"
    refine ⟨_, _, _, _, w3, rfl, ?_, fun e he => by repeat (first | exact up e he | with_reducible apply memS)⟩
    have e2 : (headW p sv ++ (gs.take (i + 1)).flatMap gearW).map V.str = ((headW p sv ++ (gs.take i).flatMap gearW).map V.str ++ [.str (Str.ofString ";"), .str (nT g.1), .str (nT g.2.1), .str (nT g.2.2.1)]) ++ [.str (nT (low g.2.2.2).1), .str (nT (low g.2.2.2).2)] := by
      rw [List.take_succ, hg]
      simp only [Option.toList_some, List.flatMap_append, List.flatMap_cons, List.flatMap_nil, List.append_nil, List.map_append, List.append_assoc]
      rfl
    rw [strsO, e2]
    exact mem0
  · rintro θ N ⟨u1, u2, u3, u4, wl, rfl, mw, up⟩
    have mw : (wl, strsO (headW p sv ++ (gs.take gz.length).flatMap gearW)) ∈ N := mw
    rw [List.take_of_length_le (by omega)] at mw
    tm_at "g"
    refine ge_join ?_
    tm_at "g"
    have wk := words_tr ok
    have sum : ∀ l : List Str, (∀ z ∈ l, z.length ≤ 100000) → (l.map (·.length)).sum ≤ 100000 * l.length := fun l => by
      induction l with
      | nil => intro _; exact Nat.le_refl _
      | cons g l ih =>
        intro hl
        rw [List.map_cons, List.sum_cons, List.length_cons]
        have a := hl g List.mem_cons_self
        have b := ih fun x hx => hl x (List.mem_cons_of_mem _ hx)
        omega
    have sm := sum _ wk.2
    have ln := trainW_len (p, sv, gs)
    refine ⟨?_, _, ⟨fun _ => ⟨ndL, up⟩⟩, q⟩
    show ((trainW (p, sv, gs)).map (·.length)).sum + (trainW (p, sv, gs)).length * 1 ≤ 16777216
    dsimp only at ln
    omega
end
theorem penOut {N : Lg} {p c : Addr} {u v : HO} (nd : (N.map (·.1)).Nodup) (hp : (p, u) ∈ N) (hc : (c, v) ∈ N) (ne : p ≠ c) : ∃ R0 : Lg, Sub ((p, u) :: (c, v) :: R0) N ∧ ∀ e ∈ N, e.1 ≠ p → e.1 ≠ c → e ∈ R0 := by
  refine ⟨N.filter fun e => decide (e.1 ≠ p) && decide (e.1 ≠ c), ⟨fun _ => ⟨?_, fun e he => ?_⟩⟩, fun e he h1 h2 => List.mem_filter.mpr ⟨he, by rw [decide_eq_true h1, decide_eq_true h2]; rfl⟩⟩
  · have h1 : ∀ e ∈ N.filter (fun e => decide (e.1 ≠ p) && decide (e.1 ≠ c)), e.1 ≠ p ∧ e.1 ≠ c := fun e he => by
      obtain ⟨_, h⟩ := List.mem_filter.mp he
      rw [Bool.and_eq_true] at h
      exact ⟨of_decide_eq_true h.1, of_decide_eq_true h.2⟩
    have h2 : ((N.filter fun e => decide (e.1 ≠ p) && decide (e.1 ≠ c)).map (·.1)).Nodup := (List.filter_sublist.map _).nodup nd
    refine List.nodup_cons.mpr ⟨fun hm => ?_, List.nodup_cons.mpr ⟨fun hm => ?_, h2⟩⟩
    · rcases List.mem_cons.mp hm with hm | hm
      · exact ne hm
      · obtain ⟨e, he, ee⟩ := List.mem_map.mp hm
        exact (h1 e he).1 ee
    · obtain ⟨e, he, ee⟩ := List.mem_map.mp hm
      exact (h1 e he).2 ee
  · rcases List.mem_cons.mp he with rfl | he
    · exact hp
    · rcases List.mem_cons.mp he with rfl | he
      · exact hc
      · exact (List.mem_filter.mp he).1
/-- what is kept where the pen is taken out: all but two lists -/
structure Kp (p c : Addr) (N R : Lg) : Prop where
  tup : ∀ a xs, (a, HO.tup xs) ∈ N → (a, HO.tup xs) ∈ R
  ins : ∀ a C dx fs, (a, HO.ins C dx fs) ∈ N → (a, HO.ins C dx fs) ∈ R
  lst : ∀ a xs, a ≠ p → a ≠ c → (a, HO.lst xs) ∈ N → (a, HO.lst xs) ∈ R
theorem kp_of {N R : Lg} {p c : Addr} {us vs : List V} (nd : (N.map (·.1)).Nodup) (hp : (p, HO.lst us) ∈ N) (hc : (c, HO.lst vs) ∈ N) (h : ∀ e ∈ N, e.1 ≠ p → e.1 ≠ c → e ∈ R) : Kp p c N R where
  tup := fun a xs m => h _ m (fun e => by dsimp only at e; subst e; cases uniqF nd hp m) fun e => by dsimp only at e; subst e; cases uniqF nd hc m
  ins := fun a C dx fs m => h _ m (fun e => by dsimp only at e; subst e; cases uniqF nd hp m) fun e => by dsimp only at e; subst e; cases uniqF nd hc m
  lst := fun a xs h1 h2 m => h _ m h1 h2
theorem Kp.fr {p c : Addr} {N R : Lg} (k : Kp p c N R) {zs : List V} {ts : List Fr} (h : Reps (FrAt N) zs ts) : Reps (FrAt R) zs ts := h.imp fun v t ⟨a, e, m⟩ => ⟨a, e, k.tup _ _ m⟩
theorem Kp.gear {p c : Addr} {N R : Lg} (k : Kp p c N R) {zs : List V} {ts : List GearD} (h : Reps (GearAt N) zs ts) : Reps (GearAt R) zs ts := h.imp fun v t ⟨a, f, e, m, m2⟩ => ⟨a, f, e, k.tup _ _ m, k.tup _ _ m2⟩
theorem Kp.tr {p c : Addr} {N R : Lg} (k : Kp p c N R) {C : Addr} {v : V} {d : TrD} (h : TrAt C N v d) : TrAt C R v d := by
  obtain ⟨a, dx, og, pp, sl, gz, pz, sz, e, h1, h2, r1, h3, r2, h4, r3⟩ := h
  exact ⟨a, dx, og, pp, sl, gz, pz, sz, e, k.ins _ _ _ _ h1, k.tup _ _ h2, k.gear r1, k.tup _ _ h3, k.fr r2, k.tup _ _ h4, k.fr r3⟩
/-- data of fractions -/
def frD (t : Fr) : PyData := P2 (frI t)
theorem dls_fr {L : Lg} : ∀ {zs : List V} {ts : List Fr}, Reps (FrAt L) zs ts → Dls L zs (ts.map frD)
  | _, _, .nil => dls_nil
  | _, _, .cons ⟨a, e, m⟩ r => by
    subst e
    exact dls_cons (dl_tup m (dls_cons dl_int (dls_cons dl_int dls_nil))) (dls_fr r)
theorem noD_fr : ∀ (ts : List Fr), PyData.hasDictAll (ts.map frD) = false
  | [] => by simp [PyData.hasDictAll]
  | t :: r => by
    have := noD_fr r
    simp [PyData.hasDictAll, frD, P2, PyData.hasDict, this]
theorem noD_frs (ts : List Fr) : (PyData.list (ts.map frD)).hasDict = false := by
  rw [PyData.hasDict]
  exact noD_fr ts
theorem noD_frt (ts : List Fr) : (PyData.tuple (ts.map frD)).hasDict = false := by
  rw [PyData.hasDict]
  exact noD_fr ts
def FrS (x : Fr) : Prop := x.1 ≤ 1000000000000000000000000 ∧ x.2 ≤ 1000000000000000000000000
theorem sh_fr {t : Fr} (h : FrS t) : Sh (frD t) 3849 1 := by
  have b : ∀ n : Nat, n ≤ 1000000000000000000000000 → ((n : Int)).natAbs < 2 ^ 1920 := fun n hn => by
    rw [Int.natAbs_natCast]
    exact Nat.lt_of_lt_of_le (show n < 2 ^ 100 by omega) (pw2 100 1920 (by decide))
  exact sh_tuple (n := 1921) (m := 2) (k := 0) (xs := [.int (t.1 : Nat), .int (t.2 : Nat)]) (fun y hy => by
    simp only [List.mem_cons, List.not_mem_nil, or_false] at hy
    rcases hy with rfl | rfl
    · exact sh_int (b _ h.1)
    · exact sh_int (b _ h.2)) (by simp)
theorem sh_frs {ts : List Fr} (h : ∀ x ∈ ts, FrS x) (hl : ts.length ≤ 7) : Sh (.list (ts.map frD)) 26960 2 := sh_list (n := 3849) (m := 7) (k := 1) (fun x hx => by
  obtain ⟨t, ht, rfl⟩ := List.mem_map.mp hx
  exact sh_fr (h t ht)) (by rw [List.length_map]; exact hl)
theorem sh_frt {ts : List Fr} (h : ∀ x ∈ ts, FrS x) (hl : ts.length ≤ 7) : Sh (.tuple (ts.map frD)) 26960 2 := sh_tuple (n := 3849) (m := 7) (k := 1) (fun x hx => by
  obtain ⟨t, ht, rfl⟩ := List.mem_map.mp hx
  exact sh_fr (h t ht)) (by rw [List.length_map]; exact hl)
def lastP (p : Nat) (gs : List GearD) (g : GearD) : Fr := low (((perF p gs).getD g.1 (0, 1)).1 * g.2.2.1, ((perF p gs).getD g.1 (0, 1)).2 * g.2.1)
theorem per_snoc {p : Nat} {gs : List GearD} {g : GearD} : perF p (gs ++ [g]) = perF p gs ++ [lastP p gs g] := by
  unfold perF
  rw [List.foldl_append]
  rfl
theorem slp_snoc {s : Fr} {gs : List GearD} {g : GearD} : slpF s (gs ++ [g]) = slpF s gs ++ [low g.2.2.2] := by
  unfold slpF
  rw [List.map_append]
  rfl
theorem snoc_inj {α : Type} {l : List α} {a b : α} : l ++ [a] = l ++ [b] ↔ a = b := ⟨fun h => by
  have := List.append_cancel_left h
  exact (List.cons.inj this).1, fun h => by rw [h]⟩
theorem due_iff {p : Nat} {s : Fr} {gs : List GearD} {g o : GearD} : (perF p (gs ++ [g]) = perF p (gs ++ [o]) ∧ slpF s (gs ++ [g]) = slpF s (gs ++ [o])) ↔ (lastP p gs o = lastP p gs g ∧ low o.2.2.2 = low g.2.2.2) := by
  rw [per_snoc, per_snoc, slp_snoc, slp_snoc, snoc_inj, snoc_inj]
  exact ⟨fun ⟨a, b⟩ => ⟨a.symm, b.symm⟩, fun ⟨a, b⟩ => ⟨a.symm, b.symm⟩⟩
theorem gok_snoc {gs : List GearD} {g o : GearD} (h : GearsOk (gs ++ [g])) (ho : GearOk gs.length o) : GearsOk (gs ++ [o]) := ⟨by have := h.1; rw [List.length_append] at this ⊢; exact this, fun i x hx => by
  rcases Nat.lt_or_ge i gs.length with hi | hi
  · rw [List.getElem?_append_left hi] at hx
    exact h.2 i x (by rw [List.getElem?_append_left hi]; exact hx)
  · rw [List.getElem?_append_right hi] at hx
    have h1 := (List.getElem?_eq_some_iff.mp hx).1
    simp only [List.length_cons, List.length_nil] at h1
    have e : i = gs.length := by omega
    subst e
    rw [Nat.sub_self] at hx
    cases hx
    exact ho⟩
section
variable {X : Cx} {L : Lg} {Q : QV} {p q : Addr} {t u : Fr} {j : Nat}
theorem go_eqFr (hr : RoomG j X.A) (m1 : (p, frO t) ∈ L) (m2 : (q, frO u) ∈ L) (h : Q (.bl (decide (t = u))) L) : GOp X (compareOp .Eq) (.ref p) (.ref q) L Q := by
  refine go_eqD hr.toRoom (d := frD t) (e := frD u) (dl_tup m1 (dls_cons dl_int (dls_cons dl_int dls_nil))) (dl_tup m2 (dls_cons dl_int (dls_cons dl_int dls_nil))) ?_ ?_ ?_
  · exact shapedT [_, _]
  · exact shapedT [_, _]
  · rw [show PyData.eqv (frD t) (frD u) = decide (frI t = frI u) from eqvP2 _ _, show decide (frI t = frI u) = decide (t = u) from decide_eq_decide.mpr ⟨fun e => by
      have e1 : ((t.1 : Nat) : Int) = u.1 := congrArg Prod.fst e
      have e2 : ((t.2 : Nat) : Int) = u.2 := congrArg Prod.snd e
      exact Prod.ext (by omega) (by omega), fun e => by rw [e]⟩]
    exact h
end
/-- the methods -/
structure TrM (P : Program) (w : World) (K : PySem.W.Frag) (mg : Str → Option Value) (base : Heap) (C fI T0 gA gE gL gI gG gQ pQ gT gS gR pR : Addr) (mR : Value) : Prop where
  S : TrS P w K mg base C fI T0 gA gE gL gI gS (fun _ _ => True) (fun _ _ => True)
  fl : PySem.W.findIn K (.ref C) "__len__" = some (some (.ref gL))
  fl2 : PySem.W.isFn K (.ref gL) = true
  RL : RunG P w K mg base CX0 1 gL argsP (toSp (spTrLen K C))
  fi : PySem.W.findIn K (.ref C) "__iter__" = some (some (.ref gI))
  fi2 : PySem.W.isFn K (.ref gI) = true
  RI : ∀ n, RunN n P w K mg base CX0 1 gI argsP (toSp (spIterT n (TrIt K C)))
  oi : OwnItem K C gG
  RG : RunG P w K mg base CX0 3 gG argsP (toSp (spTrItem K C))
  pa : PropOf K C "again" pQ gQ
  RQ : RunG P w K mg base CX0 4 gQ argsP (toSp (spTrAgain K C))
  ms : Meth K C "stands" gT
  RT : RunG P w K mg base CX0 5 gT argsP (toSp (spStands K C))
  oe : OwnEq K C gE
  nf : PySem.W.notFirst K C (.ref C) = true
  RE : RunG P w K mg base CX0 1 gE argsP (toSp (spTrEq K C))
  RN : RunG P w K mg base CX0 1 gE argsP (toSp (spTrNeq K C))
  nfs : PySem.W.notFirst K C (.type "str") = true
  kks : PySem.W.kitOne K (.type "str") (.ref C) = some false
  st : PySem.W.findIn K (.ref C) "__str__" = some (some (.ref gS))
  sf : PySem.W.isFn K (.ref gS) = true
  RS : RunG P w K mg base CX0 1 gS argsP (toSp (spTrStr K C))
  sr : CSta K C mR "read" pR gR
  RR : RunG P w K mg base CX0 8 gR argsP (toSp (spReadTr C))
  RRK : RunG P w K mg base CX0 8 gR (argsK 0 ["text"]) (toSp (spReadTr C))
section
variable {P : Program} {w : World} {K : PySem.W.Frag} {mg : Str → Option Value} {base : Heap} {C : Addr}
/-- a train made of gears one by one, by name its slip -/
theorem mk_slip {Q : QV} {L : Lg} {q k : Nat} {sf : Addr} {sv : Fr} {gz : List V} {gs : List GearD} {vals : List V} {E : XL} (tc : TrC K C) (ev : vals = .int (q : Nat) :: (gz ++ [.ref sf])) (ek : k = gz.length + 2) (ms : (sf, frO sv) ∈ L) (rg : Reps (GearAt L) gz gs) (ok : TrOk (q, sv, gs)) (h : ∀ (x : V) (R : Lg), (∀ e ∈ L, e ∈ R) → TrAt C R x (q, sv, gs) → Q x R) :
    InitSp C (fun vs L Q E => ∃ ws rest zs, vs = (ws ++ rest) ++ zs ∧ ws.length = 2 ∧ (ws ++ rest).length = k ∧ zs.length = 1 ∧ rest.length ≤ sizeLine ∧ True ∧ ∀ p, spTrainInit K C (ws ++ (zs ++ [.ref p])) ((p, .tup rest) :: L) Q E) Q E vals L := by
  subst ev ek
  have lg := rg.len
  have g6 := ok.2.2.2.1
  refine fun x dx2 => ⟨[.ref x, .int (q : Nat)], gz, [.ref sf], by simp, rfl, by simp, rfl, szL (by dsimp only at g6; omega), True.intro, fun p' => ⟨x, dx2, p', q, .ref sf, sv, gz, gs, (dx2, .own x) :: L, rfl, rfl, tc, ⟨sf, rfl, .inl (memS ms)⟩, rg.imp fun v a z => gearMono _ _ _ _ (fun _ h => memS h) z, ok, fun og' pp' sl' N2 pz' sz' eog up2 mo mp' rp' ms' rs' => ⟨rfl, ?_⟩⟩⟩
  exact h (.ref x) _ (fun e he => memS (up2 _ (memS he))) ⟨x, dx2, og', pp', sl', gz, pz', sz', rfl, mem0, memS mo, rg.imp fun v a z => gearMono _ _ _ _ (fun _ h => memS (up2 _ (memS h))) z, memS mp', rp'.imp fun v a z => frMono _ _ _ _ (fun _ h => memS h) z, memS ms', rs'.imp fun v a z => frMono _ _ _ _ (fun _ h => memS h) z⟩
end
section
variable {X : Cx} {L : Lg} {Q : QV} {j : Nat} {C fI T0 gA gE gL gI gG gQ pQ gT gS gR pR : Addr} {mR : Value} {v u : V} {d e : TrD}
theorem go_neTr (M : TrM X.prog X.w X.K X.mg X.base C fI T0 gA gE gL gI gG gQ pQ gT gS gR pR mR) (hr : RoomG j X.A) (h1 : TrAt C L v d) (h2 : TrAt C L u e) (q : Q (.bl (!decide (perF d.1 d.2.2 = perF e.1 e.2.2 ∧ slpF d.2.1 d.2.2 = slpF e.2.1 e.2.2))) L) (hj : 2 ≤ j := by decide) : GOp X (compareOp .NotEq) v u L Q := by
  obtain ⟨a, rfl, l1⟩ := h1.l
  obtain ⟨b, rfl, l2⟩ := h2.l
  obtain ⟨⟨_, _, _, _, _, _, _, m1, _⟩⟩ := id l1
  obtain ⟨⟨_, _, _, _, _, _, _, m2, _⟩⟩ := id l2
  exact go_neM (El := NoX) M.oe M.RE hr passA m1 m2 M.nf ⟨a, b, _, _, _, _, rfl, l1, l2, _, rfl, q⟩ hj
theorem go_eqTr (M : TrM X.prog X.w X.K X.mg X.base C fI T0 gA gE gL gI gG gQ pQ gT gS gR pR mR) (hr : RoomG j X.A) (h1 : TrAt C L v d) (h2 : TrAt C L u e) (q : Q (.bl (decide (perF d.1 d.2.2 = perF e.1 e.2.2 ∧ slpF d.2.1 d.2.2 = slpF e.2.1 e.2.2))) L) (hj : 1 ≤ j := by decide) : GOp X (compareOp .Eq) v u L Q := by
  obtain ⟨a, rfl, l1⟩ := h1.l
  obtain ⟨b, rfl, l2⟩ := h2.l
  obtain ⟨⟨_, _, _, _, _, _, _, m1, _⟩⟩ := id l1
  obtain ⟨⟨_, _, _, _, _, _, _, m2, _⟩⟩ := id l2
  exact go_eqM (El := NoX) M.oe M.RE hr passA m1 m2 M.nf ⟨a, b, _, _, _, _, rfl, l1, l2, _, rfl, q⟩ hj
end
theorem reps_snoc {α : Type} {R : V → α → Prop} {v : V} : ∀ {xs : List V} {as : List α}, Reps R (xs ++ [v]) as → ∃ bs b, as = bs ++ [b] ∧ Reps R xs bs ∧ R v b
  | [], _, .cons h .nil => ⟨[], _, rfl, .nil, h⟩
  | x :: xs, _, .cons h t => by
    obtain ⟨bs, b, e, r, k⟩ := reps_snoc (xs := xs) t
    subst e
    exact ⟨_ :: bs, b, rfl, .cons h r, k⟩
theorem at_snoc {xs : List V} {v : V} : atI (xs ++ [v]) (-1) = some v := by
  unfold atI ixN
  rw [List.length_append, List.length_singleton, if_neg (by omega), if_pos (by omega), show ((-1 : Int) + ((xs.length + 1 : Nat) : Int)).toNat = xs.length by omega]
  show (xs ++ [v])[xs.length]? = _
  rw [List.getElem?_append_right (Nat.le_refl _), Nat.sub_self]
  rfl
theorem low_two (t : Fr) : low (2 * t.1, 2 * t.2) = low t := by
  unfold low
  dsimp only
  rw [Nat.gcd_mul_left, Nat.mul_div_mul_left _ _ (by decide), Nat.mul_div_mul_left _ _ (by decide)]
section
variable {P : Program} {w : World} {K : PySem.W.Frag} {mg : Str → Option Value} {base : Heap} {C : Addr}
/-- a train without gears, by names -/
theorem mk_both {Q : QV} {L : Lg} {q : Nat} {sf : Addr} {sv : Fr} {E : XL} (tc : TrC K C) (ms : (sf, frO sv) ∈ L) (ok : TrOk (q, sv, [])) (h : ∀ (x : V) (R : Lg), (∀ e ∈ L, e ∈ R) → TrAt C R x (q, sv, []) → Q x R) :
    InitSp C (fun vs L Q E => ∃ ws rest zs, vs = (ws ++ rest) ++ zs ∧ ws.length = 1 ∧ (ws ++ rest).length = 1 ∧ zs.length = 2 ∧ rest.length ≤ sizeLine ∧ rest.length = 0 ∧ ∀ p, spTrainInit K C (ws ++ (zs ++ [.ref p])) ((p, .tup rest) :: L) Q E) Q E [.int (q : Nat), .ref sf] L := by
  refine fun x dx2 => ⟨[.ref x], [], [.int (q : Nat), .ref sf], rfl, rfl, rfl, rfl, szL (show 0 ≤ 16777216 by decide), rfl, fun p' => ⟨x, dx2, p', q, .ref sf, sv, [], [], (dx2, .own x) :: L, rfl, rfl, tc, ⟨sf, rfl, .inl (memS ms)⟩, .nil, ok, fun og' pp' sl' N2 pz' sz' eog up2 mo mp' rp' ms' rs' => ⟨rfl, ?_⟩⟩⟩
  exact h (.ref x) _ (fun e he => memS (up2 _ (memS he))) ⟨x, dx2, og', pp', sl', [], pz', sz', rfl, mem0, memS mo, .nil, memS mp', rp'.imp fun v a z => frMono _ _ _ _ (fun _ h => memS h) z, memS ms', rs'.imp fun v a z => frMono _ _ _ _ (fun _ h => memS h) z⟩
end
theorem reps_snocR {α : Type} {R : V → α → Prop} {b : α} : ∀ {as : List α} {zs : List V}, Reps R zs (as ++ [b]) → ∃ xs v, zs = xs ++ [v] ∧ Reps R xs as ∧ R v b
  | [], _, .cons h .nil => ⟨[], _, rfl, .nil, h⟩
  | a :: as, _, .cons h t => by
    obtain ⟨xs, v, e, r, k⟩ := reps_snocR (as := as) t
    subst e
    exact ⟨_ :: xs, v, rfl, .cons h r, k⟩
theorem ge_nd3 {X : Cx} {e : Expr} {η : En} {L : Lg} {Q : QV} (h : (L.map (·.1)).Nodup → GE X e η L Q) : GE X e η L Q := fun hN H hH => h hH.1 hN H hH
section
open Tx
variable {P : Program} {w : World} {K : PySem.W.Frag} {mg : Str → Option Value} {base : Heap} {C fI T0 gA gE gL gI gG gQ pQ gT gS gR pR : Addr} {mR : Value}
theorem trT_low {d : TrD} (h : TrOk d) : trT (lowD d) = trT d := by
  obtain ⟨p1, p2, s0, g6, gok⟩ := h
  have e : trainW (lowD d) = trainW d := by
    unfold trainW lowD headW
    dsimp only
    rw [low_low s0.2.1, List.flatMap_map]
    congr 1
    have : ∀ l : List GearD, (∀ g ∈ l, 1 ≤ g.2.2.2.2) → l.flatMap (fun a => gearW (lowG a)) = l.flatMap gearW := fun l => by
      induction l with
      | nil => intro _; rfl
      | cons g l ih =>
        intro hl
        rw [List.flatMap_cons, List.flatMap_cons, ih fun x hx => hl x (List.mem_cons_of_mem _ hx)]
        congr 1
        unfold gearW lowG
        dsimp only
        rw [low_low (hl g List.mem_cons_self)]
    refine this d.2.2 fun g gm => ?_
    obtain ⟨i, hi⟩ := List.mem_iff_getElem?.mp gm
    exact (gok i g hi).2.2.2.2.2.2.1
  unfold trT
  rw [e]
theorem gw_imp {X : Cx} {a : Expr} {η : En} {L : Lg} {Q Q' : Bool → Lg → Prop} (h : GW X a η L Q) (m : ∀ v L', Q v L' → Q' v L') : GW X a η L Q' := fun hN H hH => (h hN H hH).mono fun v _ ⟨L', h', q⟩ => ⟨L', h', m v L' q⟩
/-- _law_told_alike -/
def spTold (C : Addr) : SpL := fun vs L Q _ => ∃ (p c : Addr) (ns : List Int) (n m : Int) (R : Lg) (v : V) (tt sf go : Addr) (q : Nat) (sv : Fr) (gz : List V) (gs : List GearD), vs = [.ref p, v, .ref tt] ∧ Sub ((p, penO c n m) :: (c, celO ns) :: R) L ∧ ns.length ≤ 63 ∧ 0 ≤ n ∧ n + 10 ≤ 100000 ∧ 0 ≤ m ∧
  TrAt C R v (q, sv, gs) ∧ TrOk (q, sv, gs) ∧ (tt, HO.tup [.int (q : Nat), .ref sf, .ref go]) ∈ R ∧ (sf, frO sv) ∈ R ∧ (go, HO.lst gz) ∈ R ∧ Reps (GearAt R) gz gs ∧
  ∀ (R' : Lg) (n' m' : Int), Sub R R' → 0 ≤ n' → n' ≤ n + 10 → 0 ≤ m' → Q (.bl true) ((p, penO c n' m') :: (c, celO ns) :: R')
theorem fn_law_told_alike (B : Bi mg) (F : Df K mg "_law_told_alike" s_law_told_alike) (M : TrM P w K mg base C fI T0 gA gE gL gI gG gQ pQ gT gS gR pR mR)
    (D1 : Fn P w K mg base CX0 "_law_pick" 2 spPick) (D2 : Fn P w K mg base CX0 "_law_fraction" 3 spLawFraction) (D3 : Fn P w K mg base CX0 "_law_text" 3 spLawText) (D4 : Fn P w K mg base CX0 "_law_train" 9 (spLawTrain C)) (D5 : Fn P w K mg base CX0 "_law_periods" 3 spLawPeriods) (D6 : Fn P w K mg base CX0 "_law_lowest" 2 spLowest) : Fn P w K mg base CX0 "_law_told_alike" 10 (spTold C) := by
  refine fn_plain F sc_law_told_alike (fun _ _ _ _ _ _ us hl => match us, hl with | [_, _, _], _ => rfl) (by decide) (by tm_at "g_len") ?_
  intro X f cdv A outer s H E0 L vs Q E hX nd hr h
  subst hX
  obtain ⟨p, c, ns, n, m, R, v, tt, sf, go, q, sv, gz, gs, rfl, sb, h63, n0, n1, m0, ta, ok, mt, msf, mgo, rg, qq⟩ := h
  obtain ⟨q1, q2, s0, g6, gok⟩ := id ok
  dsimp only at q1 q2 s0 g6 gok
  obtain ⟨x, dx, og, pp, sl, gz2, pz, sz, rfl, mx, mog, rog, mpp, rpp, msl, rsl⟩ := id ta
  obtain ⟨s1, s2, s3⟩ := id s0
  refine (fun h => GSs.sub sb h) ?_
  show GSs _ (defBody s_law_told_alike) (bodyD Q) [("_law_pen_here", some (.ref p)), ("_law_train_here", some (.ref x)), ("_law_parts", some (.ref tt)), ("_law_period_here", none), ("_law_slip", none), ("_law_gears_here", none), ("_law_text_here", none), ("_law_on", none), ("_law_driving", none), ("_law_driven", none), ("_law_own", none), ("_law_some", none), ("_law_other", none), ("_law_due", none), ("_law_changed", none)] _
  refine gss_nd2 fun ndL => ?_
  refine gss_cons ?_
  tm_at "g"
  refine ge_call (El := NoX) D3 hr passA ?_
  tm_at "g"
  have lf : ∀ e ∈ R, e ∈ (p, penO c n m) :: (c, celO ns) :: R := fun e he => memS (memS he)
  refine ⟨q, sf, go, sv, gz, gs, rfl, lf _ msf, lf _ mgo, rg.imp fun v a z => gearMono _ _ _ _ lf z, ok, ?_⟩
  tm_at "g"
  refine gc_strM (El := NoX) M.st M.sf M.RS hr passA (lf _ mx) ⟨.ref x, (q, sv, gs), rfl, M.S.tc, trMono _ _ _ _ lf ta, ok, _, rfl, ?_⟩
  tm_at "g"
  refine go_neS rfl ?_
  tm_at "g"
  refine ge_sta M.sr (fun _ => gf_of (El := NoX) M.RR hr passA) ?_
  tm_at "g"
  refine gv_def M.S.hC ?_
  refine ⟨rfl, ?_⟩
  tm_at "g"
  refine ⟨(q, sv, gs), rfl, ok, fun y N1 up1 ty => ?_⟩
  have ta1 := trMono _ _ _ _ (fun e he => up1 e (lf e he)) ta
  obtain ⟨ax, ex, tlx⟩ := ta1.l
  cases ex
  obtain ⟨ay, rfl, tly⟩ := ty.l
  have ely : perF (lowD (q, sv, gs)).1 (lowD (q, sv, gs)).2.2 = perF q gs := per_low
  have esy : slpF (lowD (q, sv, gs)).2.1 (lowD (q, sv, gs)).2.2 = slpF sv gs := slp_lowD s0 gok
  rw [ely, esy] at tly
  tm_at "g"
  obtain ⟨⟨d1, o1, o2, o3, o4, o5, o6, my, _⟩⟩ := id tly
  refine go_neM (El := NoX) M.oe M.RE hr passA my (up1 _ (lf _ mx)) M.nf ⟨ay, x, _, _, _, _, rfl, tly, tlx, _, rfl, ?_⟩
  rw [decide_eq_true ⟨rfl, rfl⟩]
  tm_at "g"
  refine ge_staK M.sr (fun _ => gf_of (El := NoX) M.RRK hr passA) ?_
  tm_at "g"
  refine gv_def M.S.hC ?_
  refine ⟨rfl, ?_⟩
  tm_at "g"
  refine ⟨(q, sv, gs), rfl, ok, fun y2 N2 up2 ty2 => ?_⟩
  have ta2 := trMono _ _ _ _ up2 ta1
  obtain ⟨b2, d2, o21, o22, o23, o24, o25, o26, rfl, my2, _⟩ := id ty2
  tm_at "g"
  refine gc_strM (El := NoX) M.st M.sf M.RS hr passA my2 ⟨.ref b2, lowD (q, sv, gs), rfl, M.S.tc, ty2, tr_low ok, _, rfl, ?_⟩
  rw [trT_low ok]
  tm_at "g"
  refine go_neS rfl ?_
  tm_at "g"
  refine go_eqK (El := NoX) M.oe M.RN hr passA (up2 _ (up1 _ (lf _ mx))) .str M.nfs ⟨x, _, _, rfl, .str, M.kks, _, rfl, ?_⟩
  refine ⟨_, rfl, ite_f ?_⟩
  refine gss_nil ?_
  refine gss_cons ?_
  have up3 : ∀ e ∈ R, e ∈ N2 := fun e he => up2 _ (up1 _ (lf e he))
  have up4 : ∀ e ∈ (p, penO c n m) :: (c, celO ns) :: R, e ∈ N2 := fun e he => up2 _ (up1 _ he)
  have lg := rg.len
  clear my my2 tly ely esy ty ty2 ta1 ta2 tlx
  refine GS.cut (fun θ N => θ = ([("_law_pen_here", some (.ref p)), ("_law_train_here", some (.ref x)), ("_law_parts", some (.ref tt)), ("_law_period_here", some (.int (q : Nat))), ("_law_slip", some (.ref sf)), ("_law_gears_here", some (.ref go)), ("_law_text_here", some (.str (trT (q, sv, gs)))), ("_law_on", none), ("_law_driving", none), ("_law_driven", none), ("_law_own", none), ("_law_some", none), ("_law_other", none), ("_law_due", none), ("_law_changed", none)] : En) ∧ ∀ e ∈ N2, e ∈ N) ?_ ?_
  · have mgo2 := up3 _ mgo
    tm_at "g"
    refine ite_d (fun l2 => ?_) (fun l2 => ?_)
    · have rg2 := rg.imp fun v a z => gearMono _ _ _ _ up3 z
      obtain ⟨v1, v2, rfl⟩ : ∃ v1 v2, gz = [v1, v2] := by
        match gz, l2 with
        | [v1, v2], _ => exact ⟨v1, v2, rfl⟩
      tm_at "g"
      refine ge_kw (n := 3) M.S.hC M.S.M.kp (fun _ => gf_make (args := argsK 3 ["slip"]) (El := NoX) M.S.M (M.S.TI.slip 4) (fun _ _ => rfl) hr passA) ?_
      tm_at "g"
      refine ⟨rfl, mk_slip M.S.tc (sf := sf) (gz := [v1, v2]) rfl rfl (up3 _ msf) rg2 ok fun y N3 up5 ty => ?_⟩
      tm_at "g"
      refine go_neTr M hr ty (trMono _ _ _ _ (fun e he => up5 _ (up3 e he)) ta) ?_
      rw [decide_eq_true ⟨rfl, rfl⟩]
      tm_at "g"
      exact ⟨rfl, up5⟩
    · tm_at "g"
      exact ⟨rfl, fun _ h => h⟩
  rintro θ N ⟨rfl, up5⟩
  have up6 : ∀ e ∈ (p, penO c n m) :: (c, celO ns) :: R, e ∈ N := fun e he => up5 _ (up4 _ he)
  clear up1 up2 up3 up4 up5
  refine gss_cons ?_
  refine GS.cut (fun θ N2 => θ = ([("_law_pen_here", some (.ref p)), ("_law_train_here", some (.ref x)), ("_law_parts", some (.ref tt)), ("_law_period_here", some (.int (q : Nat))), ("_law_slip", some (.ref sf)), ("_law_gears_here", some (.ref go)), ("_law_text_here", some (.str (trT (q, sv, gs)))), ("_law_on", none), ("_law_driving", none), ("_law_driven", none), ("_law_own", none), ("_law_some", none), ("_law_other", none), ("_law_due", none), ("_law_changed", none)] : En) ∧ ∀ e ∈ N, e ∈ N2) ?_ ?_
  · have mgo2 := up6 _ (lf _ mgo)
    have rg2 := rg.imp fun v a z => gearMono _ _ _ _ (fun e he => up6 e (lf e he)) z
    refine gs_if ?_
    refine gt_w ?_
    refine gw_or ?_
    refine gt_w ?_
    refine gw_imp (Q := fun k N2 => k = false ∧ ∀ e ∈ N, e ∈ N2) ?_ ?_
    · tm_at "g"
      refine ite_d (fun l1 => ?_) (fun l1 => ?_)
      · obtain ⟨v1, rfl⟩ : ∃ v1, gz = [v1] := by
          match gz, l1 with
          | [v1], _ => exact ⟨v1, rfl⟩
        tm_at "g"
        refine ge_kw (n := 2) M.S.hC M.S.M.kp (fun _ => gf_make (args := argsK 2 ["slip"]) (El := NoX) M.S.M (M.S.TI.slip 3) (fun _ _ => rfl) hr passA) ?_
        tm_at "g"
        refine ⟨rfl, mk_slip M.S.tc (sf := sf) (gz := [v1]) rfl rfl (up6 _ (lf _ msf)) rg2 ok fun y N3 up5 ty => ?_⟩
        obtain ⟨b2, d2, o21, o22, o23, o24, o25, o26, rfl, my2, _⟩ := id ty
        tm_at "g"
        refine gc_strM (El := NoX) M.st M.sf M.RS hr passA my2 ⟨.ref b2, (q, sv, gs), rfl, M.S.tc, ty, ok, _, rfl, ?_⟩
        tm_at "g"
        refine go_neS rfl ?_
        tm_at "g"
        exact ⟨rfl, up5⟩
      · exact ⟨rfl, fun _ h => h⟩
    · rintro k N2 ⟨rfl, up7⟩
      refine ite_f ?_
      refine gw_or1 ?_
      tm_at "g"
      refine ge_call (El := NoX) D4 hr passA ?_
      tm_at "g"
      refine ⟨q, sf, go, sv, gz, gs, rfl, up7 _ (up6 _ (lf _ msf)), up7 _ mgo2, rg2.imp fun v a z => gearMono _ _ _ _ up7 z, ok, fun y N3 up8 ty => ?_⟩
      tm_at "g"
      refine go_neTr M hr (trMono _ _ _ _ (fun e he => up8 _ (up7 _ (up6 _ (lf e he)))) ta) ty ?_
      rw [decide_eq_true ⟨rfl, rfl⟩]
      tm_at "g"
      exact ⟨rfl, fun e he => up8 _ (up7 _ he)⟩
  rintro θ N2 ⟨rfl, up7⟩
  have up8 : ∀ e ∈ (p, penO c n m) :: (c, celO ns) :: R, e ∈ N2 := fun e he => up7 _ (up6 _ he)
  clear up6 up7
  have mgo2 := up8 _ (lf _ mgo)
  have rg2 := rg.imp fun v a z => gearMono _ _ _ _ (fun e he => up8 e (lf e he)) z
  have sub2 : Sub ((p, penO c n m) :: (c, celO ns) :: R) N2 := ⟨fun _ => ⟨ndL, up8⟩⟩
  refine gss_cons ?_
  rcases List.eq_nil_or_concat gz with rfl | ⟨gi, gv, egz⟩
  · obtain rfl : gs = [] := List.length_eq_zero_iff.mp lg.symm
    tm_at "g"
    refine go_eqLI (ns := []) (ms := []) hr (memS mgo2) mem0 rfl rfl ?_
    rw [decide_eq_true rfl]
    tm_at "g"
    refine gc_maxT (ns := [(sv.1 : Int), (sv.2 : Int)]) (by rfl) (memS (up8 _ (lf _ msf))) (Nat.zero_lt_succ _) fun r hr1 hr2 => ?_
    have r1 := hr2 _ List.mem_cons_self
    have r2 := hr2 _ (List.mem_cons_of_mem _ List.mem_cons_self)
    clear hr1 hr2
    tm_at "g"
    refine ite_d (fun hr5 => ?_) (fun _ => ?_)
    · tm_at "g"
      refine ge_kw0 M.S.hC M.S.M.kp (fun _ => gf_make (args := argsK 0 ["period", "slip"]) (El := NoX) M.S.M (M.S.TI.both 1) (fun _ _ => rfl) hr passA) ?_
      tm_at "g"
      refine gi_tup (xs := [.int (sv.1 : Nat), .int (sv.2 : Nat)]) (memS (up8 _ (lf _ msf))) (atI_nat (j := 0) rfl) ?_
      tm_at "g"
      refine go_mulS (.inr (by omega)) ?_
      tm_at "g"
      refine gi_tup (xs := [.int (sv.1 : Nat), .int (sv.2 : Nat)]) (memS (up8 _ (lf _ msf))) (atI_nat (j := 1) rfl) ?_
      tm_at "g"
      refine go_mulS (.inr (by omega)) ?_
      tm_at "g"
      rename_i p5
      have ok2 : TrOk (q, (2 * sv.1, 2 * sv.2), []) := ⟨q1, q2, ⟨by dsimp only; omega, by dsimp only; omega, by dsimp only; omega⟩, ⟨by simp, fun i g h => by simp at h⟩⟩
      refine mk_both M.S.tc (sf := p5) (sv := (2 * sv.1, 2 * sv.2)) mem0 ok2 fun y N3 up9 ty => ?_
      have up10 : ∀ e ∈ (p, penO c n m) :: (c, celO ns) :: R, e ∈ N3 := fun e he => up9 _ (by repeat (first | exact up8 e he | with_reducible apply memS))
      refine go_eqTr M hr (trMono _ _ _ _ (fun e he => up10 _ (lf e he)) ta) ty ?_
      have el : slpF sv [] = slpF (2 * sv.1, 2 * sv.2) [] := by
        unfold slpF
        rw [low_two]
      rw [decide_eq_true ⟨rfl, el⟩]
      exact ⟨_, ⟨fun _ => ⟨ndL, up10⟩⟩, qq R n m Sub.refl n0 (by omega) m0⟩
    · tm_at "g"
      exact ⟨_, Sub.trans sub2 Sub.drop, qq R n m Sub.refl n0 (by omega) m0⟩
  · refine GS.sub sub2 ?_
    rw [List.concat_eq_append] at egz
    subst egz
    obtain ⟨gi2, g, rfl, rgi, rgv⟩ := reps_snoc rg
    obtain ⟨ga, gf, rfl, mga, mgf⟩ := rgv
    obtain ⟨k1, k2, k3, k4, k5, k6⟩ := gok gi2.length g (by rw [List.getElem?_append_right (Nat.le_refl _), Nat.sub_self]; rfl)
    tm_at "g"
    refine go_eqLen hr (memS (lf _ mgo)) mem0 (by simp) ?_
    tm_at "g"
    refine gi_lst (memS (lf _ mgo)) at_snoc ?_
    refine gg_tup (xs := [.int (g.1 : Nat), .int (g.2.1 : Nat), .int (g.2.2.1 : Nat), .ref gf]) (memS (lf _ mga)) ?_
    tm_at "g"
    refine ge_call (El := NoX) D2 hr passA ?_
    tm_at "g"
    refine ⟨_, _, _, _, _, _, rfl, by tm_at "g_rot", h63, by omega, by omega, by omega, ?_⟩
    intro fr t R2 n2 m2 sR2 mfr tok o0 o1 o2
    tm_at "g"
    rename_i t1 t2 t3 sm
    refine ge_call (El := NoX) D1 hr passA ?_
    tm_at "g"
    refine go_divS (by decide) (by decide) ?_
    tm_at "g"
    refine go_divS (by decide) (by decide) ?_
    tm_at "g"
    rename_i t4 q4
    refine go_cat (by tm_at "g_mem") mem0 (szL (by simp)) fun q5 => ?_
    tm_at "g"
    tm_at "g_pk"
    intro kk6 x6 n9 m9 hx6 i0 i1 i2
    tm_at "g"
    refine ge_nd3 fun ndA => ?_
    have sA : Sub R2 ((q5, HO.lst ([V.ref t1, V.ref t2, V.ref t3] ++ [V.ref t4])) :: (q4, HO.lst [V.ref t4]) :: (t4, HO.tup [V.int (g.1 : Nat), V.int (1 + (g.2.1 : Int) / 2), V.int (1 + (g.2.2.1 : Int) / 2), V.ref gf]) :: (sm, HO.lst [V.ref t1, V.ref t2, V.ref t3]) :: (t3, HO.tup [V.int 0, V.int (g.2.1 : Nat), V.int (g.2.2.1 : Nat), V.ref gf]) :: (t2, HO.tup [V.int (g.1 : Nat), V.int (g.2.1 : Nat), V.int (g.2.2.1 : Nat), V.ref fr]) :: R2) := Sub.trans Sub.drop (Sub.trans Sub.drop (Sub.trans Sub.drop (Sub.trans Sub.drop (Sub.trans Sub.drop Sub.drop))))
    have m4 : (t4, HO.tup [V.int (g.1 : Nat), V.int (1 + (g.2.1 : Int) / 2), V.int (1 + (g.2.2.1 : Int) / 2), V.ref gf]) ∈ ((q5, HO.lst ([V.ref t1, V.ref t2, V.ref t3] ++ [V.ref t4])) :: (q4, HO.lst [V.ref t4]) :: (t4, HO.tup [V.int (g.1 : Nat), V.int (1 + (g.2.1 : Int) / 2), V.int (1 + (g.2.2.1 : Int) / 2), V.ref gf]) :: (sm, HO.lst [V.ref t1, V.ref t2, V.ref t3]) :: (t3, HO.tup [V.int 0, V.int (g.2.1 : Nat), V.int (g.2.2.1 : Nat), V.ref gf]) :: (t2, HO.tup [V.int (g.1 : Nat), V.int (g.2.1 : Nat), V.int (g.2.2.1 : Nat), V.ref fr]) :: R2) := memS (memS mem0)
    have m3 : (t3, HO.tup [V.int 0, V.int (g.2.1 : Nat), V.int (g.2.2.1 : Nat), V.ref gf]) ∈ ((q5, HO.lst ([V.ref t1, V.ref t2, V.ref t3] ++ [V.ref t4])) :: (q4, HO.lst [V.ref t4]) :: (t4, HO.tup [V.int (g.1 : Nat), V.int (1 + (g.2.1 : Int) / 2), V.int (1 + (g.2.2.1 : Int) / 2), V.ref gf]) :: (sm, HO.lst [V.ref t1, V.ref t2, V.ref t3]) :: (t3, HO.tup [V.int 0, V.int (g.2.1 : Nat), V.int (g.2.2.1 : Nat), V.ref gf]) :: (t2, HO.tup [V.int (g.1 : Nat), V.int (g.2.1 : Nat), V.int (g.2.2.1 : Nat), V.ref fr]) :: R2) := memS (memS (memS (memS mem0)))
    have m2' : (t2, HO.tup [V.int (g.1 : Nat), V.int (g.2.1 : Nat), V.int (g.2.2.1 : Nat), V.ref fr]) ∈ ((q5, HO.lst ([V.ref t1, V.ref t2, V.ref t3] ++ [V.ref t4])) :: (q4, HO.lst [V.ref t4]) :: (t4, HO.tup [V.int (g.1 : Nat), V.int (1 + (g.2.1 : Int) / 2), V.int (1 + (g.2.2.1 : Int) / 2), V.ref gf]) :: (sm, HO.lst [V.ref t1, V.ref t2, V.ref t3]) :: (t3, HO.tup [V.int 0, V.int (g.2.1 : Nat), V.int (g.2.2.1 : Nat), V.ref gf]) :: (t2, HO.tup [V.int (g.1 : Nat), V.int (g.2.1 : Nat), V.int (g.2.2.1 : Nat), V.ref fr]) :: R2) := memS (memS (memS (memS (memS mem0))))
    generalize ((q5, HO.lst ([V.ref t1, V.ref t2, V.ref t3] ++ [V.ref t4])) :: (q4, HO.lst [V.ref t4]) :: (t4, HO.tup [V.int (g.1 : Nat), V.int (1 + (g.2.1 : Int) / 2), V.int (1 + (g.2.2.1 : Int) / 2), V.ref gf]) :: (sm, HO.lst [V.ref t1, V.ref t2, V.ref t3]) :: (t3, HO.tup [V.int 0, V.int (g.2.1 : Nat), V.int (g.2.2.1 : Nat), V.ref gf]) :: (t2, HO.tup [V.int (g.1 : Nat), V.int (g.2.1 : Nat), V.int (g.2.2.1 : Nat), V.ref fr]) :: R2 : Lg) = R3 at sA m4 m3 m2' ndA ⊢
    have ndR3 := (List.nodup_cons.mp (List.nodup_cons.mp ndA).2).2
    have uA := (sA.to ndR3).2
    have uB := (sR2.to (sA.to ndR3).1).2
    have lR : ∀ e ∈ R, e ∈ R3 := fun e he => uA _ (uB _ (memS (memS he)))
    have m1 := uA _ (uB _ mem0)
    have sR3 : Sub R R3 := Sub.trans (Sub.trans Sub.drop Sub.drop) (Sub.trans sR2 sA)
    have mf3 := uA _ mfr
    have mgf3 := lR _ mgf
    obtain ⟨o, oat, ook⟩ : ∃ o : GearD, GearAt R3 x6 o ∧ GearOk gi2.length o := by
      have hm := List.mem_of_getElem? hx6
      clear hx6
      simp only [List.cons_append, List.nil_append, List.mem_cons, List.not_mem_nil, or_false] at hm
      rcases hm with rfl | rfl | rfl | rfl
      · exact ⟨(g.1, g.2.2.1, g.2.1, g.2.2.2), ⟨t1, gf, rfl, m1, mgf3⟩, k1, k4, k5, k2, k3, k6⟩
      · exact ⟨(g.1, g.2.1, g.2.2.1, t), ⟨t2, fr, rfl, m2', mf3⟩, k1, k2, k3, k4, k5, tok⟩
      · exact ⟨(0, g.2.1, g.2.2.1, g.2.2.2), ⟨t3, gf, rfl, m3, mgf3⟩, Nat.zero_le _, k2, k3, k4, k5, k6⟩
      · exact ⟨(g.1, 1 + g.2.1 / 2, 1 + g.2.2.1 / 2, g.2.2.2), ⟨t4, gf, rfl, m4, mgf3⟩, k1, by dsimp only; omega, by dsimp only; omega, by dsimp only; omega, by dsimp only; omega, k6⟩
    clear hx6 m1 m2' m3 m4 sA uA uB sR2 mfr
    obtain ⟨oa, of, rfl, moa, mof⟩ := id oat
    have gok2 := gok_snoc ⟨g6, gok⟩ ook
    have rgi3 := rgi.imp fun v a z => gearMono _ _ _ _ lR z
    have lgi := rgi.len
    have hg6 : gi2.length + 1 ≤ 6 := by rw [List.length_append] at g6; exact g6
    refine ge_call (El := NoX) D5 hr passA ?_
    tm_at "g"
    refine ⟨go, gi ++ [V.ref ga], rfl, ?_⟩
    show GE _ _ _ _ _
    tm_at "g"
    have mgo3 : (go, HO.lst (gi ++ [V.ref ga])) ∈ (p, penO c n9 m9) :: (c, celO ns) :: R3 := memS (memS (lR _ mgo))
    refine ⟨fun H hH => sql hH mgo3, fun s1 => ?_⟩
    rw [cut_front]
    tm_at "g"
    refine go_cat (by tm_at "g_mem") mem0 (szL (by rw [List.length_singleton]; omega)) fun s3 => ?_
    tm_at "g"
    refine ⟨q, s3, gi ++ [V.ref oa], gi2 ++ [o], rfl, mem0, (rgi3.imp fun v a z => gearMono _ _ _ _ (fun _ h => by repeat (first | exact h | with_reducible apply memS)) z).snoc (gearMono _ _ _ _ (fun _ h => by repeat (first | exact h | with_reducible apply memS)) oat), q1, q2, gok2, fun f1 pz1 N3 sN3 rp1 => ?_⟩
    rw [per_snoc] at rp1
    obtain ⟨xs1, v1, rfl, rx1, ⟨l1, rfl, ml1⟩⟩ := reps_snocR rp1
    tm_at "g"
    refine gi_lst mem0 at_snoc ?_
    tm_at "g"
    refine ge_nd3 fun ndB => ?_
    have uB := (sN3.to (List.nodup_cons.mp ndB).2).2
    have uC : ∀ e ∈ (p, penO c n9 m9) :: (c, celO ns) :: R3, e ∈ N3 := fun e he => uB _ (memS (memS (memS he)))
    refine ge_call (El := NoX) D5 hr passA ?_
    tm_at "g"
    refine ⟨q, go, gi ++ [V.ref ga], gi2 ++ [g], rfl, memS (uC _ mgo3), rg.imp fun v a z => gearMono _ _ _ _ (fun _ h => memS (uC _ (memS (memS (lR _ h))))) z, q1, q2, ⟨g6, gok⟩, fun f2 pz2 N4 sN4 rp2 => ?_⟩
    rw [per_snoc] at rp2
    obtain ⟨xs2, v2, rfl, rx2, ⟨l2, rfl, ml2⟩⟩ := reps_snocR rp2
    refine ge_nd3 fun ndC => ?_
    have uD := (sN4.to (List.nodup_cons.mp ndC).2).2
    have uE : ∀ e ∈ (p, penO c n9 m9) :: (c, celO ns) :: R3, e ∈ N4 := fun e he => uD _ (memS (uC _ he))
    tm_at "g"
    refine gi_lst mem0 at_snoc ?_
    tm_at "g"
    refine go_eqFr hr (memS (uD _ (memS ml1))) (memS ml2) ?_
    show GSs _ _ _ _ _
    refine gss_cons ?_
    refine GS.cut (fun θ N5 => θ = ([("_law_pen_here", some (.ref p)), ("_law_train_here", some (.ref x)), ("_law_parts", some (.ref tt)), ("_law_period_here", some (.int (q : Nat))), ("_law_slip", some (.ref sf)), ("_law_gears_here", some (.ref go)), ("_law_text_here", some (.str (trT (q, sv, gi2 ++ [g])))), ("_law_on", some (.int (g.1 : Nat))), ("_law_driving", some (.int (g.2.1 : Nat))), ("_law_driven", some (.int (g.2.2.1 : Nat))), ("_law_own", some (.ref gf)), ("_law_some", some (.ref sm)), ("_law_other", some (.ref oa)), ("_law_due", some (.bl (decide (lastP q gi2 o = lastP q gi2 g ∧ low o.2.2.2 = low g.2.2.2)))), ("_law_changed", none)] : En) ∧ ∀ e ∈ (p, penO c n9 m9) :: (c, celO ns) :: R3, e ∈ N5) ?_ ?_
    · tm_at "g"
      refine ite_d (fun e1 => ?_) (fun e1 => ?_)
      · obtain ⟨z1, z2, z3⟩ := ook.2.2.2.2.2
        obtain ⟨y1, y2, y3⟩ := k6
        tm_at "g"
        have moN : (oa, HO.tup [V.int (o.1 : Nat), V.int (o.2.1 : Nat), V.int (o.2.2.1 : Nat), V.ref of]) ∈ N4 := uE _ (memS (memS moa))
        have mfN : (of, HO.tup [V.int (o.2.2.2.1 : Nat), V.int (o.2.2.2.2 : Nat)]) ∈ N4 := uE _ (memS (memS mof))
        have mgN : (gf, HO.tup [V.int (g.2.2.2.1 : Nat), V.int (g.2.2.2.2 : Nat)]) ∈ N4 := uE _ (memS (memS mgf3))
        refine ge_call (El := NoX) D6 hr passA ?_
        tm_at "g"
        refine ⟨o.2.2.2.1, o.2.2.2.2, rfl, z2, small200 (by omega), small200 (by omega), fun w1 => ?_⟩
        tm_at "g"
        refine ge_call (El := NoX) D6 hr passA ?_
        tm_at "g"
        refine ⟨g.2.2.2.1, g.2.2.2.2, rfl, y2, small200 (by omega), small200 (by omega), fun w2 => ?_⟩
        tm_at "g"
        refine go_eqFr hr (memS mem0) mem0 ?_
        tm_at "g"
        rw [show decide (lastP q gi2 o = lastP q gi2 g ∧ low o.2.2.2 = low g.2.2.2) = decide (low o.2.2.2 = low g.2.2.2) from decide_eq_decide.mpr ⟨fun h => h.2, fun h => ⟨e1, h⟩⟩]
        exact ⟨rfl, fun e he => memS (memS (memS (uE e he)))⟩
      · tm_at "g"
        rw [decide_eq_false fun h => e1 h.1]
        exact ⟨rfl, fun e he => memS (uE e he)⟩
    rintro θ N5 ⟨rfl, uF⟩
    have mgo5 : (go, HO.lst (gi ++ [V.ref ga])) ∈ N5 := uF _ mgo3
    tm_at "g"
    refine ge_call (El := NoX) D4 hr passA ?_
    tm_at "g"
    refine ⟨go, gi ++ [V.ref ga], rfl, ?_⟩
    show GE _ _ _ _ _
    tm_at "g"
    refine ⟨fun H hH => sql hH mgo5, fun s1 => ?_⟩
    rw [cut_front]
    tm_at "g"
    refine go_cat (by tm_at "g_mem") mem0 (szL (by rw [List.length_singleton]; omega)) fun s3 => ?_
    tm_at "g"
    have l5 : ∀ e ∈ R3, e ∈ N5 := fun e he => uF _ (memS (memS he))
    refine ⟨q, sf, s3, sv, gi ++ [V.ref oa], gi2 ++ [o], rfl, by have := l5 _ (lR _ msf); repeat (first | exact this | with_reducible apply memS), mem0, (rgi3.imp fun v a z => gearMono _ _ _ _ (fun _ h => by have := l5 _ h; repeat (first | exact this | with_reducible apply memS)) z).snoc (gearMono _ _ _ _ (fun _ h => by have := l5 _ h; repeat (first | exact this | with_reducible apply memS)) oat), ⟨q1, q2, s0, gok2⟩, fun y N6 up6 ty => ?_⟩
    have u6 : ∀ e ∈ (p, penO c n9 m9) :: (c, celO ns) :: R3, e ∈ N6 := fun e he => up6 _ (by have := uF _ he; repeat (first | exact this | with_reducible apply memS))
    have ta6 := trMono _ _ _ _ (fun e he => u6 _ (memS (memS (lR e he)))) ta
    tm_at "g"
    refine gb_reprS B hr ?_
    tm_at "g"
    refine go_eqTr M hr ta6 ty ?_
    rw [show decide (perF (q, sv, gi2 ++ [g]).1 (q, sv, gi2 ++ [g]).2.2 = perF (q, sv, gi2 ++ [o]).1 (q, sv, gi2 ++ [o]).2.2 ∧ slpF (q, sv, gi2 ++ [g]).2.1 (q, sv, gi2 ++ [g]).2.2 = slpF (q, sv, gi2 ++ [o]).2.1 (q, sv, gi2 ++ [o]).2.2) = decide (lastP q gi2 o = lastP q gi2 g ∧ low o.2.2.2 = low g.2.2.2) from decide_eq_decide.mpr due_iff]
    refine ⟨_, _, _, rd_bl, sh_bl, by decide, szL (by decide), ?_⟩
    refine gb_reprS B hr ?_
    tm_at "g"
    refine ⟨_, _, _, rd_bl, sh_bl, by decide, szL (by decide), ?_⟩
    refine go_eqS rfl ?_
    tm_at "g"
    refine gb_reprS B hr ?_
    tm_at "g"
    refine go_neTr M hr ta6 ty ?_
    rw [show decide (perF (q, sv, gi2 ++ [g]).1 (q, sv, gi2 ++ [g]).2.2 = perF (q, sv, gi2 ++ [o]).1 (q, sv, gi2 ++ [o]).2.2 ∧ slpF (q, sv, gi2 ++ [g]).2.1 (q, sv, gi2 ++ [g]).2.2 = slpF (q, sv, gi2 ++ [o]).2.1 (q, sv, gi2 ++ [o]).2.2) = decide (lastP q gi2 o = lastP q gi2 g ∧ low o.2.2.2 = low g.2.2.2) from decide_eq_decide.mpr due_iff]
    refine ⟨_, _, _, rd_bl, sh_bl, by decide, szL (by decide), ?_⟩
    refine gb_reprS B hr ?_
    tm_at "g"
    refine ⟨_, _, _, rd_bl, sh_bl, by decide, szL (by decide), ?_⟩
    refine go_eqS rfl ?_
    exact ⟨_, ⟨fun _ => ⟨ndA, u6⟩⟩, qq R3 n9 m9 sR3 i0 (by omega) i2⟩
end
theorem lcms_ltb {b : Nat} {ns : List Int} (h : ∀ n ∈ ns, n.natAbs ≤ 2 ^ b) : ∀ i, lcms (ns.take i) ≤ 2 ^ (b * i)
  | 0 => by rw [List.take_zero]; exact Nat.le_refl _
  | i + 1 => by
    have ih := lcms_ltb h i
    cases e : ns[i]? with
    | none =>
      have hl : ns.length ≤ i := List.getElem?_eq_none_iff.mp e
      rw [List.take_of_length_le (by omega)]
      rw [List.take_of_length_le hl] at ih
      exact Nat.le_trans ih (Nat.pow_le_pow_right (by decide) (Nat.mul_le_mul_left _ (Nat.le_succ _)))
    | some n =>
      rw [lcms_more e]
      have h1 := h n (List.mem_of_getElem? e)
      have h2 : Nat.lcm (lcms (ns.take i)) n.natAbs ≤ lcms (ns.take i) * n.natAbs := Nat.div_le_self _ _
      have h3 : lcms (ns.take i) * n.natAbs ≤ 2 ^ (b * i) * 2 ^ b := Nat.mul_le_mul ih h1
      rw [← Nat.pow_add] at h3
      exact Nat.le_trans h2 h3
theorem lcms_le {b k : Nat} {ns : List Int} (h : ∀ n ∈ ns, n.natAbs ≤ 2 ^ b) (hl : ns.length ≤ k) : lcms ns ≤ 2 ^ (b * k) := by
  have := lcms_ltb h ns.length
  rw [List.take_length] at this
  exact Nat.le_trans this (Nat.pow_le_pow_right (by decide) (Nat.mul_le_mul_left _ hl))
theorem pw80 {x : Nat} (h : x ≤ 1000000000000000000000000) : x ≤ 2 ^ 80 := Nat.le_trans h (by decide)
theorem per_all {q : Nat} {gs : List GearD} (q1 : 1 ≤ q) (q2 : q ≤ 1000000) (ok : GearsOk gs) : ∀ x ∈ perF q gs, 1 ≤ x.1 ∧ x.1 ≤ 1000000000000000000000000 ∧ 1 ≤ x.2 ∧ x.2 ≤ 1000000000000000000 := fun x hx => per_small ok.1 (per_bnd q1 q2 gs.length gs rfl ok.2 x hx)
theorem st_bnd {v : Int} {ps : List Fr} (h : ∀ x ∈ ps, 1 ≤ x.1 ∧ x.1 ≤ 1000000000000000000000000 ∧ 1 ≤ x.2 ∧ x.2 ≤ 1000000000000000000) : ∀ y ∈ standF v ps, FrS y := fun y hy => by
  unfold standF at hy
  obtain ⟨x, hx, rfl⟩ := List.mem_map.mp hy
  obtain ⟨a1, a2, a3, a4⟩ := h x hx
  have z0 := Int.emod_nonneg (v * (x.2 : Int)) (show (x.1 : Int) ≠ 0 by omega)
  have z1 := Int.emod_lt_of_pos (v * (x.2 : Int)) (show 0 < (x.1 : Int) by omega)
  obtain ⟨b1, b2, b3⟩ := low_bnd0 (t := ((v * (x.2 : Int) % (x.1 : Int)).toNat, x.2)) a3
  dsimp only at b1 b3
  exact ⟨by omega, by omega⟩
/-- a number that may be shown -/
def Shw (i : Int) : Prop := i.natAbs < 2 ^ 1920
section
open Tx
variable {P : Program} {w : World} {K : PySem.W.Frag} {mg : Str → Option Value} {base : Heap} {C fI T0 gA gE gL gI gG gQ pQ gT gS gR pR : Addr} {mR : Value}
def spRight : SpL := fun vs L Q _ => ∃ (p c : Addr) (ns : List Int) (n m : Int) (R : Lg), vs = [.ref p] ∧ Sub ((p, penO c n m) :: (c, celO ns) :: R) L ∧ ns.length ≤ 63 ∧ 0 ≤ n ∧ n + 100 ≤ 100000 ∧ 0 ≤ m ∧
  ∀ (R' : Lg) (n' m' : Int), Sub R R' → 0 ≤ n' → n' ≤ n + 100 → 0 ≤ m' → Q (.bl true) ((p, penO c n' m') :: (c, celO ns) :: R')
theorem fn_law_right (B : Bi mg) (F : Df K mg "_law_right" s_law_right) (M : TrM P w K mg base C fI T0 gA gE gL gI gG gQ pQ gT gS gR pR mR)
    (D0 : Fn P w K mg base CX0 "_law_draw" 1 spDraw) (D0B : Fn P w K mg base CX0 "_law_draw" 1 spDrawB) (D1 : Fn P w K mg base CX0 "_law_period" 3 spLawPeriod) (D2 : Fn P w K mg base CX0 "_law_fraction" 3 spLawFraction) (D3 : Fn P w K mg base CX0 "_law_gears" 4 spLawGears) (D4 : Fn P w K mg base CX0 "_law_train" 9 (spLawTrain C)) (D5 : Fn P w K mg base CX0 "_law_periods" 3 spLawPeriods) (D6 : Fn P w K mg base CX0 "_law_lowest" 2 spLowest)
    (D7 : Fn P w K mg base CX0 "_law_multiple" 2 spLawMul) (D8 : Fn P w K mg base CX0 "_law_stands" 3 spLawStands) (D9 : Fn P w K mg base CX0 "_law_told_alike" 10 (spTold C)) : Fn P w K mg base CX0 "_law_right" 11 spRight := by
  refine fn_plain F sc_law_right (fun _ _ _ _ _ _ us hl => match us, hl with | [_], _ => rfl) (by decide) (by tm_at "g_len") ?_
  intro X f cdv A outer s H E0 L vs Q E hX nd hr h
  subst hX
  obtain ⟨p, c, ns, n, m, R, rfl, sb, h63, n0, n1, m0, qq⟩ := h
  refine (fun h => GSs.sub sb h) ?_
  show GSs _ (defBody s_law_right) (bodyD Q) [("_law_pen_here", some (.ref p)), ("_law_period_here", none), ("_law_slip", none), ("_law_many", none), ("_law_gears_here", none), ("_law_train_here", none), ("_law_periods_here", none), ("_law_slips", none), ("_law_again", none), ("_law_great", none), ("_law_value", none), ("_law_gear", none), ("_law_top", none), ("_law_bottom", none), ("_law_part", none), ("_law_at", none)] _
  refine gss_nd2 fun ndL => ?_
  refine gss_cons ?_
  tm_at "g"
  refine ge_call (El := NoX) D1 hr passA ?_
  tm_at "g"
  refine ⟨_, _, _, _, _, _, rfl, by tm_at "g_rot", h63, by omega, by omega, by omega, ?_⟩
  intro q R1 n1' m1 sR1 q1 q2 a0 a1 a2
  tm_at "g"
  refine ge_call (El := NoX) D2 hr passA ?_
  tm_at "g"
  refine ⟨_, _, _, _, _, _, rfl, by tm_at "g_rot", h63, by omega, by omega, by omega, ?_⟩
  intro sf sv R2 n2 m2 sR2 msf s0 b0 b1 b2
  tm_at "g"
  refine ge_call (El := NoX) D0 hr passA ?_
  tm_at "g"
  tm_at "g_dr"
  intro many n3 m3 d0 d1 c0 c1 c2
  tm_at "g"
  obtain ⟨k, rfl⟩ := Int.eq_ofNat_of_zero_le d0
  refine ge_call (El := NoX) D3 hr passA ?_
  tm_at "g"
  refine ⟨_, _, _, _, _, k, _, rfl, by omega, by tm_at "g_rot", h63, by omega, by omega, by omega, ?_⟩
  intro go gz gs R3 n4 m4 sR3 rg lgk gok e0 e1 e2
  tm_at "g"
  refine ge_nd3 fun ndG => ?_
  have uR3 := (sR3.to (List.nodup_cons.mp (List.nodup_cons.mp (List.nodup_cons.mp ndG).2).2).2).2
  have msf3 := uR3 _ msf
  have sR : Sub R R3 := Sub.trans sR1 (Sub.trans sR2 sR3)
  have ngp : go ≠ p := fun e => (List.nodup_cons.mp ndG).1 (by subst e; exact List.mem_cons_self)
  have ngc : go ≠ c := fun e => (List.nodup_cons.mp ndG).1 (by subst e; exact List.mem_cons_of_mem _ List.mem_cons_self)
  have npc : p ≠ c := fun e => (List.nodup_cons.mp (List.nodup_cons.mp ndG).2).1 (by subst e; exact List.mem_cons_self)
  have ok : TrOk (q, sv, gs) := ⟨q1, q2, s0, gok⟩
  have lg := rg.len
  have g6 := gok.1
  have pa := per_all q1 q2 gok
  have sla := slp_bnd s0 gok.2
  refine ge_call (El := NoX) D4 hr passA ?_
  tm_at "g"
  refine ⟨q, sf, go, sv, gz, gs, rfl, memS (memS (memS msf3)), mem0, rg.imp fun v a z => gearMono _ _ _ _ (fun _ h => memS (memS (memS h))) z, ok, fun x N1 up1 ta => ?_⟩
  tm_at "g"
  refine ge_call (El := NoX) D5 hr passA ?_
  tm_at "g"
  refine ⟨q, go, gz, gs, rfl, up1 _ mem0, rg.imp fun v a z => gearMono _ _ _ _ (fun _ h => up1 _ (memS (memS (memS h)))) z, q1, q2, gok, fun po pz N2 sN2 rp => ?_⟩
  show GA _ _ _ _ _
  refine GAndg fun ndN2 => ?_
  have up2 := (sN2.to (List.nodup_cons.mp ndN2).2).2
  have upA : ∀ e ∈ (go, HO.lst gz) :: (p, penO c n4 m4) :: (c, celO ns) :: R3, e ∈ N2 := fun e he => up2 _ (up1 _ he)
  have ta2 := trMono _ _ _ _ up2 ta
  have npo : ∀ b o, (b, o) ∈ N2 → po ≠ b := fun b o hb e => (List.nodup_cons.mp ndN2).1 (by subst e; exact List.mem_map.mpr ⟨_, hb, rfl⟩)
  have nop := npo p _ (upA _ (memS mem0))
  have noc := npo c _ (upA _ (memS (memS mem0)))
  clear npo sN2
  have msf5 : (sf, HO.tup [V.int (sv.1 : Nat), V.int (sv.2 : Nat)]) ∈ N2 := upA _ (memS (memS (memS msf3)))
  obtain ⟨s1, s2, s3⟩ := id s0
  have mgo5 := upA _ mem0
  have rg5 := rg.imp fun v a z => gearMono _ _ _ _ (fun _ h => upA _ (memS (memS (memS h)))) z
  tm_at "g"
  refine ge_call (El := NoX) D6 hr passA ?_
  tm_at "g"
  refine ⟨sv.1, sv.2, rfl, s2, small200 (by omega), small200 (by omega), fun t0 => ?_⟩
  tm_at "g"
  rename_i ty tz
  refine ge_lcR (by tm_at "g_put") (gi_list ?_) (show blkC N_law_right (defScope s_law_right) _ [(_, List.idxOf _ N_law_right)] = true by decide +kernel)
  tm_at "g"
  refine ⟨Fr, FrAt, fun i => (gs.map fun g => low g.2.2.2).getD i (0, 0), frMono, by show gz.length ≤ _; omega, fun M s => s _ (by have := mgo5; repeat (first | exact this | with_reducible apply memS)), ?_, ?_⟩
  · intro D i v E2 zs R9 hi it hR nd
    obtain ⟨hx, rfl⟩ := it
    obtain ⟨g, hg, ga, gf, rfl, mga, mgf⟩ := rg5.get hx
    obtain ⟨k1, k2, k3, k4, k5, y1, y2, y3⟩ := gok.2 i g hg
    have et : (gs.map fun g => low g.2.2.2).getD i (0, 0) = low g.2.2.2 := by
      rw [List.getD_eq_getElem?_getD, List.getElem?_map, hg]
      rfl
    dsimp only [List.nil_append]
    rw [et]
    intro s9 H9 C9 cl9 fp9
    have lift : ∀ e ∈ N2, e ∈ R9 := fun e he => hR _ (by have := he; repeat (first | exact this | with_reducible apply memS))
    have mgaR : (ga, HO.tup [V.int (g.1 : Nat), V.int (g.2.1 : Nat), V.int (g.2.2.1 : Nat), V.ref gf]) ∈ R9 := lift _ mga
    have mgfR : (gf, HO.tup [V.int (g.2.2.2.1 : Nat), V.int (g.2.2.2.2 : Nat)]) ∈ R9 := lift _ mgf
    tm_at "g"
    refine ge_call (El := NoX) D6 hr passA ?_
    tm_at "g"
    refine ⟨g.2.2.2.1, g.2.2.2.2, rfl, y2, small200 (by omega), small200 (by omega), fun t2 => ?_⟩
    exact ⟨(t2, frO (low g.2.2.2)) :: R9, Sub.perm (List.Perm.swap _ _ _), fun _ h => memS h, t2, rfl, mem0⟩
  · intro D zs R9 hR rz
    replace rz : Reps (FrAt R9) zs ((List.range gz.length).map fun i => (gs.map fun g => low g.2.2.2).getD i (0, 0)) := rz
    rw [show gz.length = (gs.map fun g => low g.2.2.2).length by rw [List.length_map, lg], range_dflt] at rz
    have lz := rz.len
    rw [List.length_map] at lz
    have upR9 : ∀ e ∈ N2, e ∈ R9 := fun e he => hR _ (by have := he; repeat (first | exact this | with_reducible apply memS))
    have mpo9 : (po, HO.lst pz) ∈ R9 := hR _ (by tm_at "g_mem")
    have mt09 : (t0, frO (low sv)) ∈ R9 := hR _ (by tm_at "g_mem")
    have mtz9 : (tz, HO.lst [V.ref t0]) ∈ R9 := hR _ (by tm_at "g_mem")
    have rp9 : Reps (FrAt R9) pz (perF q gs) := rp.imp fun v a z => frMono _ _ _ _ upR9 z
    have ta9 := trMono _ _ _ _ upR9 ta2
    refine go_cat (memS mtz9) mem0 (szL (by rw [List.length_singleton]; omega)) fun sl => ?_
    have rs9 : Reps (FrAt ((sl, HO.lst ([V.ref t0] ++ zs)) :: (D, HO.lst zs) :: R9)) ([V.ref t0] ++ zs) (slpF sv gs) := .cons ⟨t0, rfl, memS (memS mt09)⟩ (rz.imp fun v a z => frMono _ _ _ _ (fun _ h => memS (memS h)) z)
    have msl : (sl, HO.lst ([V.ref t0] ++ zs)) ∈ ((sl, HO.lst ([V.ref t0] ++ zs)) :: (D, HO.lst zs) :: R9) := mem0
    have up9 : ∀ e ∈ R9, e ∈ ((sl, HO.lst ([V.ref t0] ++ zs)) :: (D, HO.lst zs) :: R9) := fun e he => memS (memS he)
    show GSs _ _ _ _ _
    generalize ((sl, HO.lst ([V.ref t0] ++ zs)) :: (D, HO.lst zs) :: R9 : Lg) = LX at rs9 msl up9 ⊢
    clear rz hR mt09 mtz9
    obtain ⟨a, dx, og, pp, ss, gz2, pz2, sz2, rfl, mx, mog, rog, mpp, rpp, mss, rss⟩ := id ta9
    obtain ⟨cC, na1, na2, na3, na4⟩ := id M.S.tc
    have lp := rp9.len
    rw [per_len] at lp
    have lpp := rpp.len
    dsimp only at lpp
    rw [per_len] at lpp
    refine gss_cons ?_
    refine GS.cut (fun θ N => θ = ([("_law_pen_here", some (.ref p)), ("_law_period_here", some (.int (q : Nat))), ("_law_slip", some (.ref sf)), ("_law_many", some (.int (k : Nat))), ("_law_gears_here", some (.ref go)), ("_law_train_here", some (.ref a)), ("_law_periods_here", some (.ref po)), ("_law_slips", some (.ref sl)), ("_law_again", none), ("_law_great", none), ("_law_value", none), ("_law_gear", none), ("_law_top", none), ("_law_bottom", none), ("_law_part", none), ("_law_at", none)] : En) ∧ ∀ e ∈ LX, e ∈ N) ?_ ?_
    · have mxX := up9 _ mx
      tm_at "g"
      refine gb_reprS B hr ?_
      tm_at "g"
      have shA : Sh (.tuple [.tuple ((perF q gs).map frD), .tuple ((slpF sv gs).map frD)]) (26960 * 2 + 2 * 2 + 3) 3 := sh_tuple (n := 26960) (m := 2) (k := 2) (fun y hy => by
        simp only [List.mem_cons, List.not_mem_nil, or_false] at hy
        rcases hy with rfl | rfl
        · exact sh_frt (fun x hx => ⟨(pa x hx).2.1, Nat.le_trans (pa x hx).2.2.2 (by decide)⟩) (by rw [per_len]; omega)
        · exact sh_frt (fun x hx => ⟨Nat.le_trans (sla x hx).1 (by decide), Nat.le_trans (sla x hx).2.2 (by decide)⟩) (by rw [slpF, List.length_cons, List.length_map]; omega)) (by simp)
      have noA : (PyData.tuple [.tuple ((perF q gs).map frD), .tuple ((slpF sv gs).map frD)]).hasDict = false := by
        simp only [PyData.hasDict, PyData.hasDictAll, noD_fr, Bool.or_false]
      refine ⟨_, _, _, rd_dl (dl_tup mem0 (dls_cons (dl_tup (memS (up9 _ mpp)) (dls_fr (rpp.imp fun v a z => frMono _ _ _ _ (fun _ h => memS (up9 _ h)) z))) (dls_cons (dl_tup (memS (up9 _ mss)) (dls_fr (rss.imp fun v a z => frMono _ _ _ _ (fun _ h => memS (up9 _ h)) z))) dls_nil))) noA, shA, by decide, szL (by decide), ?_⟩
      refine gb_reprS B hr ?_
      have mpoX := up9 _ mpo9
      tm_at "g"
      refine gc_tupL (by tm_at "g_mem") fun e5 => ?_
      tm_at "g"
      refine gc_tupL (by tm_at "g_mem") fun e6 => ?_
      tm_at "g"
      have upB : ∀ e ∈ LX, e ∈ (e6, HO.tup ([V.ref t0] ++ zs)) :: (e5, HO.tup pz) :: LX := fun e he => memS (memS he)
      refine ⟨_, _, _, rd_dl (dl_tup mem0 (dls_cons (dl_tup (by tm_at "g_mem") (dls_fr (rp9.imp fun v a z => frMono _ _ _ _ (fun _ h => by have := up9 _ h; repeat (first | exact this | with_reducible apply memS)) z))) (dls_cons (dl_tup (by tm_at "g_mem") (dls_fr (rs9.imp fun v a z => frMono _ _ _ _ (fun _ h => by have := h; repeat (first | exact this | with_reducible apply memS)) z))) dls_nil))) noA, shA, by decide, szL (by decide), ?_⟩
      refine go_neS rfl ?_
      tm_at "g"
      refine gc_lenM (El := NoX) M.fl M.fl2 M.RL hr passA (by tm_at "g_mem") ⟨a, dx, og, pp, ss, _, pz2, rfl, by tm_at "g_mem", M.S.tc, by have := up9 _ mpp; repeat (first | exact this | with_reducible apply memS), ?_⟩
      refine ⟨_, rfl, by omega, by omega, ?_⟩
      tm_at "g"
      refine ite_n (fun h => absurd (by omega) h) (fun _ => ?_)
      tm_at "g"
      exact ⟨rfl, fun e he => by have := he; repeat (first | exact this | with_reducible apply memS)⟩
    rintro θ N4 ⟨rfl, u4⟩
    have u5 : ∀ e ∈ R9, e ∈ N4 := fun e he => u4 _ (up9 _ he)
    have mx4 := u5 _ mx
    have rp4 := rp9.imp fun v a z => frMono _ _ _ _ u5 z
    have rs4 := rs9.imp fun v a z => frMono _ _ _ _ u4 z
    have mpo4 := u5 _ mpo9
    have msl4 := u4 _ msl
    have pos4 : ∀ x ∈ perF q gs ++ slpF sv gs, 1 ≤ x.2 ∧ x.2 ≤ 1000000000000000000 := fun x hx => by
      rcases List.mem_append.mp hx with hx | hx
      · exact ⟨(pa x hx).2.2.1, (pa x hx).2.2.2⟩
      · exact ⟨(sla x hx).2.1, Nat.le_trans (sla x hx).2.2 (by decide)⟩
    have lsl : (slpF sv gs).length = gs.length + 1 := by rw [slpF, List.length_cons, List.length_map]
    have lall : (perF q gs ++ slpF sv gs).length ≤ 14 := by rw [List.length_append, per_len, lsl]; omega
    have bu : Shw ((unitF (q, sv, gs) : Nat) : Int) := by
      unfold Shw
      rw [Int.natAbs_natCast]
      refine Nat.lt_of_le_of_lt (lcms_le (b := 60) (k := 14) (fun n hn => ?_) (by rw [List.length_map]; exact lall)) (Nat.pow_lt_pow_right (by decide) (by decide))
      obtain ⟨x, hx, rfl⟩ := List.mem_map.mp hn
      rw [Int.natAbs_natCast]
      exact Nat.le_trans (pos4 x hx).2 (by decide)
    refine gss_cons ?_
    refine GS.cut (fun θ N => θ = ([("_law_pen_here", some (.ref p)), ("_law_period_here", some (.int (q : Nat))), ("_law_slip", some (.ref sf)), ("_law_many", some (.int (k : Nat))), ("_law_gears_here", some (.ref go)), ("_law_train_here", some (.ref a)), ("_law_periods_here", some (.ref po)), ("_law_slips", some (.ref sl)), ("_law_again", none), ("_law_great", none), ("_law_value", none), ("_law_gear", none), ("_law_top", none), ("_law_bottom", none), ("_law_part", none), ("_law_at", none)] : En) ∧ ∀ e ∈ N4, e ∈ N) ?_ ?_
    · tm_at "g"
      refine gb_reprS B hr ?_
      tm_at "g"
      refine ⟨_, _, _, rd_int, sh_int bu, by decide, szL (by decide), ?_⟩
      refine gb_reprS B hr ?_
      tm_at "g"
      refine ge_call (El := NoX) D7 hr passA ?_
      tm_at "g"
      refine ge_lcP2 (by tm_at "g_put") (fun _ => by tm_at "g_put") (gi_list ?_) (by decide) (show blkC N_law_right (defScope s_law_right) _ [(_, List.idxOf _ N_law_right), (_, List.idxOf _ N_law_right)] = true by decide +kernel)
      tm_at "g"
      refine go_cat (by tm_at "g_mem") (by tm_at "g_mem") (szL (by simp; omega)) fun qc => ?_
      tm_at "g"
      have ra := Reps.append rp4 rs4
      have lra := ra.len
      refine pure_list2 (pt := fun _ => true) (pg := fun i => .int (((perF q gs ++ slpF sv gs).getD i (0, 0)).2 : Nat)) mem0 (by rw [lra]; omega) (fun i v hv => ?_) fun D3 => ?_
      · obtain ⟨t, ht, b, rfl, mb⟩ := ra.get hv
        have et : (perF q gs ++ slpF sv gs).getD i (0, 0) = t := by rw [List.getD_eq_getElem?_getD, ht]; rfl
        rw [et]
        refine ⟨b, _, _, rfl, by repeat (first | exact mb | with_reducible apply memS), fun D4 acc s1 H1 C1 cl1 fp1 => ?_⟩
        refine gts_nil ⟨rfl, Sub.refl, fun _ s2 H2 C2 cl2 fp2 => ?_⟩
        tm_at "g"
        exact ⟨rfl, Sub.refl⟩
      rw [show ((List.range (pz ++ ([V.ref t0] ++ zs)).length).filter fun _ => true).map (fun i => V.int ((((perF q gs ++ slpF sv gs).getD i (0, 0)).2 : Nat) : Int)) = ((perF q gs ++ slpF sv gs).map fun x => ((x.2 : Nat) : Int)).map V.int by
        rw [lra, List.map_map]
        exact range_get fun i x h => by rw [List.getD_eq_getElem?_getD, h]; rfl]
      tm_at "g"
      refine ⟨D3, _, rfl, mem0, fun n hn => ?_, by rw [List.length_map]; omega, ?_⟩
      · obtain ⟨x, hx, rfl⟩ := List.mem_map.mp hn
        have z := pos4 x hx
        exact ⟨by omega, by rw [Int.natAbs_natCast]; exact small200 (by omega)⟩
      refine ⟨_, _, _, rd_int, sh_int bu, by decide, szL (by decide), ?_⟩
      refine go_neS rfl ?_
      tm_at "g"
      exact ⟨rfl, fun e he => by have := he; repeat (first | exact this | with_reducible apply memS)⟩
    rintro θ N5 ⟨rfl, u6⟩
    have u7 : ∀ e ∈ R9, e ∈ N5 := fun e he => u6 _ (u5 _ he)
    have ba : Shw ((againF (q, sv, gs) : Nat) : Int) := by
      unfold Shw
      rw [Int.natAbs_natCast]
      refine Nat.lt_of_le_of_lt (lcms_le (b := 80) (k := 7) (fun n hn => ?_) (by rw [List.length_map, per_len]; show gs.length + 1 ≤ 7; omega)) (Nat.pow_lt_pow_right (by decide) (by decide))
      obtain ⟨x, hx, rfl⟩ := List.mem_map.mp hn
      rw [Int.natAbs_natCast]
      exact pw80 (pa x hx).2.1
    have rp5 := rp9.imp fun v a z => frMono _ _ _ _ u7 z
    have mpo5 := u7 _ mpo9
    have mx5 := u7 _ mx
    have mpp5 := u7 _ mpp
    have rpp5 := rpp.imp fun v a z => frMono _ _ _ _ u7 z
    refine gss_cons ?_
    refine GS.cut (fun θ N => θ = ([("_law_pen_here", some (.ref p)), ("_law_period_here", some (.int (q : Nat))), ("_law_slip", some (.ref sf)), ("_law_many", some (.int (k : Nat))), ("_law_gears_here", some (.ref go)), ("_law_train_here", some (.ref a)), ("_law_periods_here", some (.ref po)), ("_law_slips", some (.ref sl)), ("_law_again", some (.int (againF (q, sv, gs) : Nat))), ("_law_great", none), ("_law_value", none), ("_law_gear", none), ("_law_top", none), ("_law_bottom", none), ("_law_part", none), ("_law_at", none)] : En) ∧ ∀ e ∈ N5, e ∈ N) ?_ ?_
    · tm_at "g"
      refine ge_call (El := NoX) D7 hr passA ?_
      tm_at "g"
      refine ge_lcP2 (by tm_at "g_put") (fun _ => by tm_at "g_put") (gi_list ?_) (by decide) (show blkC N_law_right (defScope s_law_right) _ [(_, List.idxOf _ N_law_right), (_, List.idxOf _ N_law_right)] = true by decide +kernel)
      tm_at "g"
      refine pure_list2 (pt := fun _ => true) (pg := fun i => .int (((perF q gs).getD i (0, 0)).1 : Nat)) mpo5 (by omega) (fun i v hv => ?_) fun D3 => ?_
      · obtain ⟨t, ht, b, rfl, mb⟩ := rp5.get hv
        have et : (perF q gs).getD i (0, 0) = t := by rw [List.getD_eq_getElem?_getD, ht]; rfl
        rw [et]
        refine ⟨b, _, _, rfl, mb, fun D4 acc s1 H1 C1 cl1 fp1 => ?_⟩
        refine gts_nil ⟨rfl, Sub.refl, fun _ s2 H2 C2 cl2 fp2 => ?_⟩
        tm_at "g"
        exact ⟨rfl, Sub.refl⟩
      rw [show ((List.range pz.length).filter fun _ => true).map (fun i => V.int ((((perF q gs).getD i (0, 0)).1 : Nat) : Int)) = ((perF q gs).map fun x => ((x.1 : Nat) : Int)).map V.int by
        rw [rp5.len, List.map_map]
        exact range_get fun i x h => by rw [List.getD_eq_getElem?_getD, h]; rfl]
      tm_at "g"
      refine ⟨D3, _, rfl, mem0, fun n hn => ?_, by rw [List.length_map, per_len]; omega, ?_⟩
      · obtain ⟨x, hx, rfl⟩ := List.mem_map.mp hn
        have z := pa x hx
        exact ⟨by omega, by rw [Int.natAbs_natCast]; exact small200 (by omega)⟩
      exact ⟨rfl, fun e he => memS he⟩
    rintro θ N6 ⟨rfl, u8⟩
    have u9 : ∀ e ∈ R9, e ∈ N6 := fun e he => u8 _ (u7 _ he)
    have mpo6 := u9 _ mpo9
    have mx6 := u9 _ mx
    have mpp6 := u9 _ mpp
    have rp6 := rp9.imp fun v a z => frMono _ _ _ _ u9 z
    have rpp6 := rpp.imp fun v a z => frMono _ _ _ _ u9 z
    have shP : Sh (.list ((perF q gs).map frD)) 26960 2 := sh_frs (fun x hx => ⟨(pa x hx).2.1, Nat.le_trans (pa x hx).2.2.2 (by decide)⟩) (by rw [per_len]; omega)
    refine gss_cons ?_
    refine GS.cut (fun θ N => θ = ([("_law_pen_here", some (.ref p)), ("_law_period_here", some (.int (q : Nat))), ("_law_slip", some (.ref sf)), ("_law_many", some (.int (k : Nat))), ("_law_gears_here", some (.ref go)), ("_law_train_here", some (.ref a)), ("_law_periods_here", some (.ref po)), ("_law_slips", some (.ref sl)), ("_law_again", some (.int (againF (q, sv, gs) : Nat))), ("_law_great", none), ("_law_value", none), ("_law_gear", none), ("_law_top", none), ("_law_bottom", none), ("_law_part", none), ("_law_at", none)] : En) ∧ ∀ e ∈ N6, e ∈ N) ?_ ?_
    · tm_at "g"
      refine gb_reprS B hr ?_
      tm_at "g"
      refine gat_prop (El := NoX) cC M.pa M.RQ hr passA mx6 ⟨a, dx, og, pp, ss, _, pz2, perF q gs, rfl, mx6, M.S.tc, mpp6, rpp6, by rw [per_len]; omega, fun x hx => ⟨(pa x hx).1, small200 (by have := pa x hx; omega)⟩, ?_⟩
      refine ⟨_, _, _, rd_int, sh_int ba, by decide, szL (by decide), ?_⟩
      refine gb_reprS B hr ?_
      tm_at "g"
      refine ⟨_, _, _, rd_int, sh_int ba, by decide, szL (by decide), ?_⟩
      refine go_neS rfl ?_
      tm_at "g"
      refine gb_reprS B hr ?_
      refine ge_lcR (by tm_at "g_put") (gi_own M.RI hr M.fi M.fi2 ?_) (show blkC N_law_right (defScope s_law_right) _ [(_, List.idxOf _ N_law_right)] = true by decide +kernel)
      tm_at "g"
      refine ⟨a, pp, dx, _, pz2, rfl, mx6, mpp6, ⟨dx, og, ss, _, M.S.tc, mx6⟩, Fr, FrAt, fun i => (perF q gs).getD i (0, 0), frMono, by show pz2.length ≤ _; omega, fun M s => s _ mpp6, ?_, ?_⟩
      · intro D i v E2 zs2 R8 hi it hR nd
        obtain ⟨hx, rfl⟩ := it
        obtain ⟨t, ht, b, rfl, mb⟩ := rpp6.get hx
        have et : (perF q gs).getD i (0, 0) = t := by rw [List.getD_eq_getElem?_getD, ht]; rfl
        dsimp only [List.nil_append]
        rw [et]
        intro s9 H9 C9 cl9 fp9
        tm_at "g"
        exact ⟨R8, Sub.refl, fun _ h => h, b, rfl, hR _ mb⟩
      · intro D zs2 R8 hR rz
        replace rz : Reps (FrAt R8) zs2 ((List.range pz2.length).map fun i => (perF q gs).getD i (0, 0)) := rz
        rw [show pz2.length = (perF q gs).length by rw [lpp, per_len], range_dflt] at rz
        refine ⟨_, _, _, rd_dl (dl_lst mem0 (dls_fr (rz.imp fun v a z => frMono _ _ _ _ (fun _ h => memS h) z))) (noD_frs _), shP, by decide, szL (by decide), ?_⟩
        refine gb_reprS B hr ?_
        tm_at "g"
        refine ⟨_, _, _, rd_dl (dl_lst (memS (hR _ mpo6)) (dls_fr (rp6.imp fun v a z => frMono _ _ _ _ (fun _ h => memS (hR _ h)) z))) (noD_frs _), shP, by decide, szL (by decide), ?_⟩
        refine go_neS rfl ?_
        tm_at "g"
        exact ⟨rfl, fun e he => memS (hR _ he)⟩
    rintro θ N7 ⟨rfl, u10⟩
    have u11 : ∀ e ∈ R9, e ∈ N7 := fun e he => u10 _ (u9 _ he)
    have mpo7 := u11 _ mpo9
    have mx7 := u11 _ mx
    have mpp7 := u11 _ mpp
    have rp7 := rp9.imp fun v a z => frMono _ _ _ _ u11 z
    have rpp7 := rpp.imp fun v a z => frMono _ _ _ _ u11 z
    refine gss_cons ?_
    refine GS.cut (fun θ N => θ = ([("_law_pen_here", some (.ref p)), ("_law_period_here", some (.int (q : Nat))), ("_law_slip", some (.ref sf)), ("_law_many", some (.int (k : Nat))), ("_law_gears_here", some (.ref go)), ("_law_train_here", some (.ref a)), ("_law_periods_here", some (.ref po)), ("_law_slips", some (.ref sl)), ("_law_again", some (.int (againF (q, sv, gs) : Nat))), ("_law_great", none), ("_law_value", none), ("_law_gear", none), ("_law_top", none), ("_law_bottom", none), ("_law_part", none), ("_law_at", none)] : En) ∧ ∀ e ∈ N7, e ∈ N) ?_ ?_
    · tm_at "g"
      refine gb_reprS B hr ?_
      refine ge_lcR (by tm_at "g_put") (gi_range1 ?_ B.range) (show blkC N_law_right (defScope s_law_right) _ [(_, List.idxOf _ N_law_right)] = true by decide +kernel)
      tm_at "g"
      refine ⟨⟨by omega, by omega⟩, Fr, FrAt, fun i => (perF q gs).getD i (0, 0), frMono, by show ((k : Int) + 1).toNat ≤ 1000000; omega, fun M s => True.intro, ?_, ?_⟩
      · intro D i v E2 zs2 R8 hi it hR nd
        obtain ⟨rfl, rfl⟩ := it
        dsimp only [List.nil_append] at hi ⊢
        have hi7 : i < pz2.length := by omega
        obtain ⟨t, ht, b, eb, mb⟩ := rpp7.get (List.getElem?_eq_getElem hi7)
        have et : (perF q gs).getD i (0, 0) = t := by rw [List.getD_eq_getElem?_getD, ht]; rfl
        rw [et]
        intro s9 H9 C9 cl9 fp9
        refine ge_ixM (El := NoX) M.oi M.RG hr passA ?_
        tm_at "g"
        refine ⟨a, dx, _, rfl, memS (hR _ mx7), a, dx, og, pp, ss, _, pz2, i, .ref b, rfl, memS (hR _ mx7), M.S.tc, memS (hR _ mpp7), by rw [List.getElem?_eq_getElem hi7, eb], ?_⟩
        exact ⟨R8, Sub.refl, fun _ h => h, b, rfl, hR _ mb⟩
      · intro D zs2 R8 hR rz
        replace rz : Reps (FrAt R8) zs2 ((List.range ((k : Int) + 1).toNat).map fun i => (perF q gs).getD i (0, 0)) := rz
        rw [show ((k : Int) + 1).toNat = (perF q gs).length by rw [per_len]; omega, range_dflt] at rz
        refine ⟨_, _, _, rd_dl (dl_lst mem0 (dls_fr (rz.imp fun v a z => frMono _ _ _ _ (fun _ h => memS h) z))) (noD_frs _), shP, by decide, szL (by decide), ?_⟩
        refine gb_reprS B hr ?_
        tm_at "g"
        refine ⟨_, _, _, rd_dl (dl_lst (memS (hR _ mpo7)) (dls_fr (rp7.imp fun v a z => frMono _ _ _ _ (fun _ h => memS (hR _ h)) z))) (noD_frs _), shP, by decide, szL (by decide), ?_⟩
        refine go_neS rfl ?_
        tm_at "g"
        exact ⟨rfl, fun e he => memS (hR _ he)⟩
    rintro θ N8 ⟨rfl, u12⟩
    have u13 : ∀ e ∈ R9, e ∈ N8 := fun e he => u12 _ (u11 _ he)
    clear u12 u11 u10 u9 u8 u7 u6 u5 mpo7 mx7 mpp7 rp7 rpp7 mpo6 mx6 mpp6 rp6 rpp6 mpo5 mx5 mpp5 rp5 rpp5 mx4 rp4 rs4 mpo4 msl4
    refine gss_nd2 fun nd8 => ?_
    have mp8 : (p, penO c n4 m4) ∈ N8 := u13 _ (upR9 _ (upA _ (memS mem0)))
    have mc8 : (c, celO ns) ∈ N8 := u13 _ (upR9 _ (upA _ (memS (memS mem0))))
    obtain ⟨R0, sb0, k0⟩ := penOut nd8 mp8 mc8 npc
    have kp := kp_of nd8 mp8 mc8 k0
    refine (fun h => GSs.sub sb0 h) ?_
    have ta0 : TrAt C R0 (.ref a) (q, sv, gs) := kp.tr (trMono _ _ _ _ u13 ta9)
    have mpo0 : (po, HO.lst pz) ∈ R0 := kp.lst _ _ nop noc (u13 _ mpo9)
    have rp0 : Reps (FrAt R0) pz (perF q gs) := kp.fr (rp9.imp fun v a z => frMono _ _ _ _ u13 z)
    have mgo0 : (go, HO.lst gz) ∈ R0 := kp.lst _ _ ngp ngc (u13 _ (upR9 _ (upA _ mem0)))
    have rg0 : Reps (GearAt R0) gz gs := kp.gear (rg.imp fun v a z => gearMono _ _ _ _ (fun _ h => u13 _ (upR9 _ (upA _ (memS (memS (memS h)))))) z)
    have msf0 : (sf, frO sv) ∈ R0 := kp.tup _ _ (u13 _ (upR9 _ msf5))
    have sRR0 : Sub R R0 := by
      refine ⟨fun nd0 => ⟨(List.nodup_cons.mp (List.nodup_cons.mp ndL).2).2, fun e he => ?_⟩⟩
      have h3 := (sR.to (List.nodup_cons.mp (List.nodup_cons.mp (List.nodup_cons.mp ndG).2).2).2).2 e he
      refine k0 e (u13 _ (upR9 _ (upA _ (memS (memS (memS h3)))))) (fun z => ?_) fun z => ?_
      · exact (List.nodup_cons.mp ndL).1 (List.mem_cons_of_mem _ (List.mem_map.mpr ⟨e, he, z⟩))
      · exact (List.nodup_cons.mp (List.nodup_cons.mp ndL).2).1 (List.mem_map.mpr ⟨e, he, z⟩)
    refine gss_cons ?_
    tm_at "g"
    refine ge_call (El := NoX) D0B hr passA ?_
    tm_at "g"
    refine go_powL (r := 1000000000000000000000000000000000000000000000000000000000000) ⟨by decide, by decide, by decide⟩ (by decide +kernel) ?_
    tm_at "g"
    refine ⟨p, c, ns, n4, m4, _, R0, rfl, Sub.refl, h63, by decide, by decide +kernel, by omega, by omega, by omega, ?_⟩
    intro d1 n5 m5 _ _ f0 f1 f2
    tm_at "g"
    refine ge_call (El := NoX) D0B hr passA ?_
    tm_at "g"
    refine go_powL (r := 1000000000000000000000000000000000000000000000000000000000000) ⟨by decide, by decide, by decide⟩ (by decide +kernel) ?_
    tm_at "g"
    refine ⟨p, c, ns, n5, m5, _, R0, rfl, Sub.refl, h63, by decide, by decide +kernel, by omega, by omega, by omega, ?_⟩
    intro d2 n6 m6 _ _ g0 g1 g2
    tm_at "g"
    refine gs_for (gi_list ?_)
    tm_at "g"
    refine ge_call (El := NoX) D0 hr passA ?_
    tm_at "g"
    tm_at "g_dr"
    intro d3 n7 m7 d30 d31 h0 h1 h2
    tm_at "g"
    refine ge_call (El := NoX) D0 hr passA ?_
    tm_at "g"
    tm_at "g_dr"
    intro d4 n8 m8 d40 d41 i0 i1 i2
    tm_at "g"
    refine go_mulS (.inl (by decide)) ?_
    tm_at "g"
    rename_i vl
    refine ⟨fun i θ N => ∃ u : Option V, θ = ([("_law_pen_here", some (.ref p)), ("_law_period_here", some (.int (q : Nat))), ("_law_slip", some (.ref sf)), ("_law_many", some (.int (k : Nat))), ("_law_gears_here", some (.ref go)), ("_law_train_here", some (.ref a)), ("_law_periods_here", some (.ref po)), ("_law_slips", some (.ref sl)), ("_law_again", some (.int (againF (q, sv, gs) : Nat))), ("_law_great", some (.int (d1 - d2))), ("_law_value", u), ("_law_gear", none), ("_law_top", none), ("_law_bottom", none), ("_law_part", none), ("_law_at", none)] : En) ∧ ∀ e ∈ (vl, HO.lst [V.int d3, V.int (d1 - d2), V.int (-1 - d4), V.int (againF (q, sv, gs) : Nat), V.int (-2 * (againF (q, sv, gs) : Nat)), V.int ((againF (q, sv, gs) : Nat) + 1)]) :: (p, penO c n8 m8) :: (c, celO ns) :: R0, e ∈ N, ⟨none, rfl, fun _ h => h⟩, fun i θ M _ nd ⟨_, _, up⟩ => up _ mem0, ?_, ?_⟩
    · rintro i x E1 θ N hi ⟨hx, rfl⟩ ⟨u, rfl, uN⟩
      obtain ⟨z, rfl⟩ : ∃ z : Int, x = V.int z := by
        have hm := List.mem_of_getElem? hx
        simp only [List.mem_cons, List.not_mem_nil, or_false] at hm
        rcases hm with h | h | h | h | h | h <;> exact ⟨_, h⟩
      dsimp only [List.nil_append]
      refine gg_name (by tm_at "g_pv") ?_
      have u0 : ∀ e ∈ R0, e ∈ N := fun e he => uN _ (memS (memS (memS he)))
      obtain ⟨a', dx', og', pp', ss', gz3, pz3, sz3, ea, mx', mog', rog', mpp', rpp', mss', rss'⟩ := id ta0
      cases ea
      have shS := sh_frt (st_bnd (v := z) pa) (by unfold standF; rw [List.length_map, per_len]; omega)
      tm_at "g"
      refine gb_reprS B hr ?_
      refine ge_meth (El := NoX) M.RT M.ms cC hr passA ?_
      tm_at "g"
      refine ⟨a, dx', _, rfl, u0 _ mx', rfl, ?_⟩
      tm_at "g"
      refine ⟨a, dx', og', pp', ss', _, pz3, perF q gs, z, rfl, u0 _ mx', M.S.tc, u0 _ mpp', rpp'.imp fun v a z => frMono _ _ _ _ u0 z, by rw [per_len]; omega, pa, fun t1 zs1 R5 up5 rz1 => ?_⟩
      refine ⟨_, _, _, rd_dl (dl_tup mem0 (dls_fr (rz1.imp fun v a z => frMono _ _ _ _ (fun _ h => memS h) z))) (noD_frt _), shS, by decide, szL (by decide), ?_⟩
      refine gb_reprS B hr ?_
      tm_at "g"
      refine ge_call (El := NoX) D8 hr passA ?_
      tm_at "g"
      refine ⟨po, pz, perF q gs, z, rfl, memS (up5 _ (u0 _ mpo0)), rp0.imp fun v a z => frMono _ _ _ _ (fun _ h => memS (up5 _ (u0 _ h))) z, by rw [per_len]; omega, pa, fun t2 zs2 R6 up6 rz2 => ?_⟩
      refine ⟨_, _, _, rd_dl (dl_tup mem0 (dls_fr (rz2.imp fun v a z => frMono _ _ _ _ (fun _ h => memS h) z))) (noD_frt _), shS, by decide, szL (by decide), ?_⟩
      refine go_neS rfl ?_
      tm_at "g"
      exact fun e he => memS (up6 _ (memS (up5 _ (uN e he))))
    · rintro θ N ⟨u, rfl, uN⟩
      refine gss_nd2 fun ndN => ?_
      have mp9 : (p, penO c n8 m8) ∈ N := uN _ (memS mem0)
      have mc9 : (c, celO ns) ∈ N := uN _ (memS (memS mem0))
      obtain ⟨R7, sb7, k7⟩ := penOut ndN mp9 mc9 npc
      have kp7 := kp_of ndN mp9 mc9 k7
      have u0 : ∀ e ∈ R0, e ∈ N := fun e he => uN _ (memS (memS (memS he)))
      refine (fun h => GSs.sub sb7 h) ?_
      refine gss_cons ?_
      tm_at "g"
      refine ge_call (El := NoX) D9 hr passA ?_
      tm_at "g"
      rename_i tt
      have sRR7 : Sub R R7 := by
        refine ⟨fun nd7 => ⟨(List.nodup_cons.mp (List.nodup_cons.mp ndL).2).2, fun e he => ?_⟩⟩
        have h0 := (sRR0.to (List.nodup_cons.mp (List.nodup_cons.mp (sb0.to nd8).1).2).2).2 e he
        refine k7 e (u0 _ h0) (fun z => ?_) fun z => ?_
        · exact (List.nodup_cons.mp ndL).1 (List.mem_cons_of_mem _ (List.mem_map.mpr ⟨e, he, z⟩))
        · exact (List.nodup_cons.mp (List.nodup_cons.mp ndL).2).1 (List.mem_map.mpr ⟨e, he, z⟩)
      refine ⟨p, c, ns, n8, m8, (tt, HO.tup [V.int (q : Nat), V.ref sf, V.ref go]) :: R7, .ref a, tt, sf, go, q, sv, gz, gs, rfl, Sub.perm (List.perm_middle (l₁ := [_, _])), h63, by omega, by omega, by omega, trMono _ _ _ _ (fun _ h => memS h) (kp7.tr (trMono _ _ _ _ u0 ta0)), ok, mem0, memS (kp7.tup _ _ (u0 _ msf0)), memS (kp7.lst _ _ ngp ngc (u0 _ mgo0)), (kp7.gear (rg0.imp fun v a z => gearMono _ _ _ _ u0 z)).imp fun v a z => gearMono _ _ _ _ (fun _ h => memS h) z, fun R' n' m' sR' j0 j1 j2 => ?_⟩
      exact ⟨_, Sub.refl, qq R' n' m' (Sub.trans sRR7 (Sub.trans Sub.drop sR')) j0 (by omega) j2⟩
end
section
open Tx
variable {P : Program} {w : World} {K : PySem.W.Frag} {mg : Str → Option Value} {base : Heap} {C fI T0 gA gE gL gI gG gQ pQ gT gS gR pR : Addr} {mR : Value}
def toldT : PyData := .list [.tuple [frD (10, 1), frD (15, 2)], .int 4, .tuple [frD (2, 1), frD (7, 1)], .int 30, .tuple [frD (0, 1)], .int 1, .int 7, .tuple [frD (6, 1)]]
theorem run_none {f : Addr} (TI : TrI P w K mg base C f T0) : RunG P w K mg base CX0 5 f argsP (toSp fun vs L Q E => ∃ ws rest zs, vs = (ws ++ rest) ++ zs ∧ ws.length = 2 ∧ (ws ++ rest).length = 2 ∧ zs.length = 0 ∧ rest.length ≤ sizeLine ∧ True ∧ ∀ p, spTrainInit K C (ws ++ ([.ref T0] ++ [.ref p])) ((p, .tup rest) :: L) Q E) := fun A outer s H us vs Q E hr e0 r hs => by
  have z := TI.none 2 A outer s H us vs Q E hr e0 r hs
  have hl : us.length = 2 := by
    rw [← r.length]
    obtain ⟨_, _, _, _, ⟨ws, rest, zs, rfl, h1, h2, h3, _⟩, _⟩ := hs
    rw [List.length_append, h2, h3]
  match us, hl, z with
  | [u1, u2], _, z => exact z
theorem mk_none {Q : QV} {L : Lg} {q : Nat} {E : XL} (tc : TrC K C) (t0 : TupK K T0 [.int 0, .int 1]) (ok : TrOk (q, (0, 1), [])) (h : ∀ (x : V) (R : Lg), (∀ e ∈ L, e ∈ R) → TrAt C R x (q, (0, 1), []) → Q x R) :
    InitSp C (fun vs L Q E => ∃ ws rest zs, vs = (ws ++ rest) ++ zs ∧ ws.length = 2 ∧ (ws ++ rest).length = 2 ∧ zs.length = 0 ∧ rest.length ≤ sizeLine ∧ True ∧ ∀ p, spTrainInit K C (ws ++ ([.ref T0] ++ [.ref p])) ((p, .tup rest) :: L) Q E) Q E [.int (q : Nat)] L := by
  refine fun x dx2 => ⟨[.ref x, .int (q : Nat)], [], [], rfl, rfl, rfl, rfl, szL (show 0 ≤ 16777216 by decide), True.intro, fun p' => ⟨x, dx2, p', q, .ref T0, (0, 1), [], [], (dx2, .own x) :: L, rfl, rfl, tc, ⟨T0, rfl, .inr t0⟩, .nil, ok, fun og' pp' sl' N2 pz' sz' eog up2 mo mp' rp' ms' rs' => ⟨rfl, ?_⟩⟩⟩
  exact h (.ref x) _ (fun e he => memS (up2 _ (memS he))) ⟨x, dx2, og', pp', sl', [], pz', sz', rfl, mem0, memS mo, .nil, memS mp', rp'.imp fun v a z => frMono _ _ _ _ (fun _ h => memS h) z, memS ms', rs'.imp fun v a z => frMono _ _ _ _ (fun _ h => memS h) z⟩
theorem law_body (B : Bi mg) (A0 : Fn P w K mg base CX0 "_law_pen" 1 (fun vs L Q _ => ∃ (a : Addr) (ns : List Int), vs = [.ref a] ∧ InL K L a (ns.map V.int) ∧ ∀ p c ms, ms.length ≤ 63 → Q (.ref p) ((p, penO c 0 0) :: (c, celO ms) :: L)))
    (A1 : Fn P w K mg base CX0 "_law_right" 11 spRight) (M : TrM P w K mg base C fI T0 gA gE gL gI gG gQ pQ gT gS gR pR mR) (tk0 : TupK K T0 [.int 0, .int 1]) : BodyOf P w K mg base N_law "law" s_law 12 (spLaw K (tabsL [])) := by
  intro X f cdv A outer s H E0 L vs Q E hX nd hr h
  subst hX
  obtain ⟨a, ns, M0, rfl, rfl, hi, -, q⟩ := h
  obtain ⟨cC, na1, na2, na3, na4⟩ := id M.S.tc
  show GSs _ (defBody s_law) (bodyD Q) [("_law_script", some (.ref a)), ("_law_pen_here", none), ("_law_lap", none), ("_law_ten", none), ("_law_one", none), ("_law_told", none)] _
  refine gss_cons ?_
  tm_at "g"
  refine ge_call (El := NoX) A0 hr passA ?_
  tm_at "g"
  refine ⟨a, ns, rfl, hi, fun p c ms h63 => ?_⟩
  tm_at "g"
  refine gs_for (gi_range1 ?_ B.range)
  tm_at "g"
  refine ⟨by decide, fun i θ N => ∃ u n m R, θ = ([("_law_script", some (.ref a)), ("_law_pen_here", some (.ref p)), ("_law_lap", u), ("_law_ten", none), ("_law_one", none), ("_law_told", none)] : En) ∧ G.Sub ((p, penO c n m) :: (c, celO ms) :: R) N ∧ 0 ≤ n ∧ n ≤ 100 * (i : Int) ∧ 0 ≤ m, ⟨none, 0, 0, _, rfl, Sub.refl, by decide, by decide, by decide⟩, fun _ _ _ _ _ _ => True.intro, ?_, ?_⟩
  · rintro i x E1 θ N hi ⟨rfl, rfl⟩ ⟨u, n, m, R, rfl, sb, n0, n1, m0⟩
    have hi : i < 6 := hi
    dsimp only [List.nil_append]
    refine gg_name (by tm_at "g_pv") ?_
    tm_at "g"
    refine ge_call (El := NoX) A1 hr passA ?_
    tm_at "g"
    refine ⟨p, c, ms, n, m, R, rfl, sb, h63, n0, by omega, m0, fun R' n' m' sR a0 a1 a2 => ?_⟩
    tm_at "g"
    exact ⟨_, n', m', R', rfl, Sub.refl, a0, by omega, a2⟩
  · rintro θ N ⟨u, n, m, R, rfl, sb, n0, n1, m0⟩
    clear sb
    tm_at "g"
    refine ge_kw (n := 2) M.S.hC M.S.M.kp (fun _ => gf_make (args := argsK 2 ["slip"]) (El := NoX) M.S.M (M.S.TI.slip 3) (fun _ _ => rfl) hr passA) ?_
    tm_at "g"
    rename_i f1 g1 f2
    refine ⟨rfl, mk_slip M.S.tc (sf := f2) (sv := (1, 4)) (gz := [.ref g1]) (gs := [(0, 4, 3, (0, 1))]) rfl rfl mem0 (.cons ⟨g1, f1, rfl, memS mem0, memS (memS mem0)⟩ .nil) ⟨by decide, by decide, ⟨by decide, by decide, by decide⟩, ⟨by decide, fun i g h => by
      match i, h with
      | 0, h => cases h; exact ⟨by decide, by decide, by decide, by decide, by decide, by decide, by decide, by decide⟩
      | i + 1, h => simp at h⟩⟩ fun y1 N1 up1 ty1 => ?_⟩
    tm_at "g"
    refine ge_callF M.S.hC M.S.M.kp (fun _ => gf_make (El := NoX) M.S.M (run_none M.S.TI) (fun _ _ => rfl) hr passA) ?_
    tm_at "g"
    refine mk_none M.S.tc tk0 ⟨by decide, by decide, ⟨by decide, by decide, by decide⟩, ⟨by decide, fun i g h => by simp at h⟩⟩ fun y2 N2 up2 ty2 => ?_
    have ty3 := trMono _ _ _ _ up2 ty1
    clear ty1
    have e1 : perF 10 [(0, 4, 3, (0, 1))] = [(10, 1), (15, 2)] := by decide +kernel
    have e2 : unitF (10, (1, 4), [(0, 4, 3, (0, 1))]) = 4 := by decide +kernel
    have e3 : againF (10, (1, 4), [(0, 4, 3, (0, 1))]) = 30 := by decide +kernel
    have e4 : perF 7 [] = [(7, 1)] := rfl
    have e5 : slpF (0, 1) [] = [(0, 1)] := by decide +kernel
    have e6 : unitF (7, (0, 1), []) = 1 := by decide +kernel
    have e7 : againF (7, (0, 1), []) = 7 := by decide +kernel
    obtain ⟨a1, dx1, og1, pp1, ss1, gz1, pz1, sz1, rfl, mx1, mog1, rog1, mpp1, rpp1, mss1, rss1⟩ := ty3
    obtain ⟨a2, dx2, og2, pp2, ss2, gz2, pz2, sz2, rfl, mx2, mog2, rog2, mpp2, rpp2, mss2, rss2⟩ := ty2
    dsimp only at rpp1 rss1 rpp2 rss2
    rw [e1] at rpp1
    rw [e2] at mx1
    rw [e4] at rpp2
    rw [e5] at rss2
    rw [e6] at mx2
    tm_at "g"
    have b1 : ∀ x ∈ [((10, 1) : Fr), (15, 2)], 1 ≤ x.1 ∧ x.1 ≤ 1000000000000000000000000 ∧ 1 ≤ x.2 ∧ x.2 ≤ 1000000000000000000 := by decide
    have b2 : ∀ x ∈ [((7, 1) : Fr)], 1 ≤ x.1 ∧ x.1 ≤ 1000000000000000000000000 ∧ 1 ≤ x.2 ∧ x.2 ≤ 1000000000000000000 := by decide
    refine ge_meth (El := NoX) M.RT M.ms cC hr passA ?_
    tm_at "g"
    refine ⟨a1, dx1, _, rfl, mx1, rfl, ?_⟩
    tm_at "g"
    refine ⟨a1, dx1, og1, pp1, ss1, _, pz1, _, 22, rfl, mx1, M.S.tc, mpp1, rpp1, by decide, b1, fun t1 zs1 R5 up5 rz1 => ?_⟩
    rw [show standF 22 [(10, 1), (15, 2)] = [(2, 1), (7, 1)] by decide +kernel] at rz1
    have u5 : ∀ e ∈ N2, e ∈ (t1, HO.tup zs1) :: R5 := fun e he => memS (up5 e he)
    have mx1' := u5 _ mx1
    have mx2' := u5 _ mx2
    tm_at "g"
    refine gat_prop (El := NoX) cC M.pa M.RQ hr passA mx1' ⟨a1, dx1, og1, pp1, ss1, _, pz1, _, rfl, mx1', M.S.tc, u5 _ mpp1, rpp1.imp fun v a z => frMono _ _ _ _ u5 z, by decide, fun x hx => ⟨(b1 x hx).1, small200 (by have := b1 x hx; omega)⟩, ?_⟩
    rw [show lcms (([((10, 1) : Fr), (15, 2)]).map fun x => (x.1 : Int)) = 30 by decide +kernel]
    tm_at "g"
    refine gat_prop (El := NoX) cC M.pa M.RQ hr passA mx2' ⟨a2, dx2, og2, pp2, ss2, _, pz2, _, rfl, mx2', M.S.tc, u5 _ mpp2, rpp2.imp fun v a z => frMono _ _ _ _ u5 z, by decide, fun x hx => ⟨(b2 x hx).1, small200 (by have := b2 x hx; omega)⟩, ?_⟩
    rw [show lcms (([((7, 1) : Fr)]).map fun x => (x.1 : Int)) = 7 by decide +kernel]
    tm_at "g"
    refine ge_meth (El := NoX) M.RT M.ms cC hr passA ?_
    tm_at "g"
    refine ⟨a2, dx2, _, rfl, mx2', rfl, ?_⟩
    tm_at "g"
    refine ⟨a2, dx2, og2, pp2, ss2, _, pz2, _, -1, rfl, mx2', M.S.tc, u5 _ mpp2, rpp2.imp fun v a z => frMono _ _ _ _ u5 z, by decide, b2, fun t2 zs2 R6 up6 rz2 => ?_⟩
    rw [show standF (-1) [(7, 1)] = [(6, 1)] by decide +kernel] at rz2
    have u6 : ∀ e ∈ N2, e ∈ (t2, HO.tup zs2) :: R6 := fun e he => memS (up6 _ (u5 e he))
    have mt1 : (t1, HO.tup zs1) ∈ (t2, HO.tup zs2) :: R6 := memS (up6 _ mem0)
    tm_at "g"
    rename_i h0 c1 c2 C1 c3 c4 C2 c5 C3 c6 C4 hL
    have u7 : ∀ e ∈ (t2, HO.tup zs2) :: R6, e ∈ (hL, HO.lst [V.ref C1, V.int 4, V.ref C2, V.int 30, V.ref C3, V.int 1, V.int 7, V.ref C4]) :: (C4, HO.tup [V.ref c6]) :: (c6, HO.tup [V.int 6, V.int 1]) :: (C3, HO.tup [V.ref c5]) :: (c5, HO.tup [V.int 0, V.int 1]) :: (C2, HO.tup [V.ref c3, V.ref c4]) :: (c4, HO.tup [V.int 7, V.int 1]) :: (c3, HO.tup [V.int 2, V.int 1]) :: (C1, HO.tup [V.ref c1, V.ref c2]) :: (c2, HO.tup [V.int 15, V.int 2]) :: (c1, HO.tup [V.int 10, V.int 1]) :: (h0, HO.lst [V.ref pp1, V.int (4 : Nat), V.ref t1, V.int (30 : Nat), V.ref ss2, V.int (1 : Nat), V.int (7 : Nat), V.ref t2]) :: (t2, HO.tup zs2) :: R6 := fun e he => by
      have := he
      iterate 12 apply memS
      exact this
    have frE : ∀ {a : Addr} {i j : Int} {L : Lg}, (a, HO.tup [V.int i, V.int j]) ∈ L → Dl L (V.ref a) (.tuple [.int i, .int j]) := fun h => dl_tup h (dls_cons dl_int (dls_cons dl_int dls_nil))
    refine go_eqD hr.toRoom (d := toldT) (e := toldT) (dl_lst (p := h0) (by tm_at "g_mem") ?_) (dl_lst mem0 ?_) (by decide +kernel) (by decide +kernel) ?_
    · refine dls_cons (dl_tup (u7 _ (u6 _ mpp1)) (dls_fr (rpp1.imp fun v a z => frMono _ _ _ _ (fun _ h => u7 _ (u6 _ h)) z))) (dls_cons dl_int (dls_cons (dl_tup (u7 _ mt1) (dls_fr (rz1.imp fun v a z => frMono _ _ _ _ (fun _ h => u7 _ (memS (up6 _ (memS h)))) z))) (dls_cons dl_int (dls_cons (dl_tup (u7 _ (u6 _ mss2)) (dls_fr (rss2.imp fun v a z => frMono _ _ _ _ (fun _ h => u7 _ (u6 _ h)) z))) (dls_cons dl_int (dls_cons dl_int (dls_cons (dl_tup (u7 _ mem0) (dls_fr (rz2.imp fun v a z => frMono _ _ _ _ (fun _ h => u7 _ (memS h)) z))) dls_nil)))))))
    · refine dls_cons (dl_tup (xs := [V.ref c1, V.ref c2]) (by tm_at "g_mem") (dls_cons (frE (i := 10) (j := 1) (by tm_at "g_mem")) (dls_cons (frE (i := 15) (j := 2) (by tm_at "g_mem")) dls_nil))) (dls_cons dl_int (dls_cons (dl_tup (xs := [V.ref c3, V.ref c4]) (by tm_at "g_mem") (dls_cons (frE (i := 2) (j := 1) (by tm_at "g_mem")) (dls_cons (frE (i := 7) (j := 1) (by tm_at "g_mem")) dls_nil))) (dls_cons dl_int (dls_cons (dl_tup (xs := [V.ref c5]) (by tm_at "g_mem") (dls_cons (frE (i := 0) (j := 1) (by tm_at "g_mem")) dls_nil)) (dls_cons dl_int (dls_cons dl_int (dls_cons (dl_tup (xs := [V.ref c6]) (by tm_at "g_mem") (dls_cons (frE (i := 6) (j := 1) (by tm_at "g_mem")) dls_nil)) dls_nil)))))))
    rw [show PyData.eqv toldT toldT = true by decide +kernel]
    exact ⟨_, Sub.refl, q _⟩
end
theorem all_mk {l : PySem.W.OpenLaw} {q : Program} {w : World} {K : PySem.W.Frag} {h : Heap} {mg : Str → Option Value} {fa : Addr} {f0 f1 f2 f3 f4 f5 f6 f7 f8 f9 f10 f11 f12 f13 f14 f15 f16 f17 f18 f19 f20 f21 f22 f23 f24 f25 f26 f27 f28 f29 f30 f31 f32 : Addr} (X : K.In h) (G : h.Ns mainGlobals mg) (hfa : mg "law" = some (.ref fa))
    {od0 an0 od1 an1 od2 an2 od3 an3 od4 an4 od5 an5 od6 an6 od7 an7 od8 an8 od9 an9 od10 an10 od11 an11 od12 an12 od13 an13 od14 an14 od15 an15 od16 an16 od17 an17 od18 an18 od19 an19 od20 an20 od21 an21 od22 an22 od23 an23 od24 an24 od25 an25 od26 an26 od27 an27 od28 an28 od29 an29 od30 an30 od31 an31 od32 an32 : Option Addr} {sl0 sl1 sl2 sl3 sl4 sl5 sl6 sl7 sl8 sl9 sl10 sl11 sl12 sl13 sl14 sl15 sl16 sl17 sl18 sl19 sl20 sl21 sl22 sl23 sl24 sl25 sl26 sl27 sl28 sl29 sl30 sl31 sl32 : Array (Option Value)} {oc0 kV0 dc0 pm0 cd0 ct0 oc1 kV1 dc1 pm1 cd1 ct1 oc2 kV2 dc2 pm2 cd2 ct2 oc3 kV3 dc3 pm3 cd3 ct3 oc4 kV4 dc4 pm4 cd4 ct4 oc5 kV5 dc5 pm5 cd5 ct5 oc6 kV6 dc6 pm6 cd6 ct6 oc7 kV7 dc7 pm7 cd7 ct7 oc8 kV8 dc8 pm8 cd8 ct8 oc9 kV9 dc9 pm9 cd9 ct9 oc10 kV10 dc10 pm10 cd10 ct10 oc11 kV11 dc11 pm11 cd11 ct11 oc12 kV12 dc12 pm12 cd12 ct12 oc13 kV13 dc13 pm13 cd13 ct13 oc14 kV14 dc14 pm14 cd14 ct14 oc15 kV15 dc15 pm15 cd15 ct15 oc16 kV16 dc16 pm16 cd16 ct16 oc17 kV17 dc17 pm17 cd17 ct17 oc18 kV18 dc18 pm18 cd18 ct18 oc19 kV19 dc19 pm19 cd19 ct19 oc20 kV20 dc20 pm20 cd20 ct20 oc21 kV21 dc21 pm21 cd21 ct21 oc22 kV22 dc22 pm22 cd22 ct22 oc23 kV23 dc23 pm23 cd23 ct23 oc24 kV24 dc24 pm24 cd24 ct24 oc25 kV25 dc25 pm25 cd25 ct25 oc26 kV26 dc26 pm26 cd26 ct26 oc27 kV27 dc27 pm27 cd27 ct27 oc28 kV28 dc28 pm28 cd28 ct28 oc29 kV29 dc29 pm29 cd29 ct29 oc30 kV30 dc30 pm30 cd30 ct30 oc31 kV31 dc31 pm31 cd31 ct31 oc32 kV32 dc32 pm32 cd32 ct32 : Value}
    (a0 : PySem.W.nsIn K mainGlobals "is_whole" = some (some (.ref f0))) (l0 : K.lookup f0 = some ⟨oc0, od0, .func (PySem.W.fnOf "is_whole" "is_whole" (defArgs s_is_whole) (defBody s_is_whole) (defScope s_is_whole) .none kV0 dc0 pm0 an0 cd0 ct0), sl0⟩) (c0 : PySem.W.codeIn K cd0 "is_whole" = true) (k0 : PySem.W.keepIn K (.ref f0) = true)
    (a1 : PySem.W.nsIn K mainGlobals "need_whole" = some (some (.ref f1))) (l1 : K.lookup f1 = some ⟨oc1, od1, .func (PySem.W.fnOf "need_whole" "need_whole" (defArgs s_need_whole) (defBody s_need_whole) (defScope s_need_whole) .none kV1 dc1 pm1 an1 cd1 ct1), sl1⟩) (c1 : PySem.W.codeIn K cd1 "need_whole" = true) (k1 : PySem.W.keepIn K (.ref f1) = true)
    (a2 : PySem.W.nsIn K mainGlobals "need_above" = some (some (.ref f2))) (l2 : K.lookup f2 = some ⟨oc2, od2, .func (PySem.W.fnOf "need_above" "need_above" (defArgs s_need_above) (defBody s_need_above) (defScope s_need_above) .none kV2 dc2 pm2 an2 cd2 ct2), sl2⟩) (c2 : PySem.W.codeIn K cd2 "need_above" = true) (k2 : PySem.W.keepIn K (.ref f2) = true)
    (a3 : PySem.W.nsIn K mainGlobals "divisor_of" = some (some (.ref f3))) (l3 : K.lookup f3 = some ⟨oc3, od3, .func (PySem.W.fnOf "divisor_of" "divisor_of" (defArgs s_divisor_of) (defBody s_divisor_of) (defScope s_divisor_of) .none kV3 dc3 pm3 an3 cd3 ct3), sl3⟩) (c3 : PySem.W.codeIn K cd3 "divisor_of" = true) (k3 : PySem.W.keepIn K (.ref f3) = true)
    (a4 : PySem.W.nsIn K mainGlobals "common" = some (some (.ref f4))) (l4 : K.lookup f4 = some ⟨oc4, od4, .func (PySem.W.fnOf "common" "common" (defArgs s_common) (defBody s_common) (defScope s_common) .none kV4 dc4 pm4 an4 cd4 ct4), sl4⟩) (c4 : PySem.W.codeIn K cd4 "common" = true) (k4 : PySem.W.keepIn K (.ref f4) = true)
    (a5 : PySem.W.nsIn K mainGlobals "multiple" = some (some (.ref f5))) (l5 : K.lookup f5 = some ⟨oc5, od5, .func (PySem.W.fnOf "multiple" "multiple" (defArgs s_multiple) (defBody s_multiple) (defScope s_multiple) .none kV5 dc5 pm5 an5 cd5 ct5), sl5⟩) (c5 : PySem.W.codeIn K cd5 "multiple" = true) (k5 : PySem.W.keepIn K (.ref f5) = true)
    (a6 : PySem.W.nsIn K mainGlobals "whole_of" = some (some (.ref f6))) (l6 : K.lookup f6 = some ⟨oc6, od6, .func (PySem.W.fnOf "whole_of" "whole_of" (defArgs s_whole_of) (defBody s_whole_of) (defScope s_whole_of) .none kV6 dc6 pm6 an6 cd6 ct6), sl6⟩) (c6 : PySem.W.codeIn K cd6 "whole_of" = true) (k6 : PySem.W.keepIn K (.ref f6) = true)
    (a7 : PySem.W.nsIn K mainGlobals "number_at" = some (some (.ref f7))) (l7 : K.lookup f7 = some ⟨oc7, od7, .func (PySem.W.fnOf "number_at" "number_at" (defArgs s_number_at) (defBody s_number_at) (defScope s_number_at) .none kV7 dc7 pm7 an7 cd7 ct7), sl7⟩) (c7 : PySem.W.codeIn K cd7 "number_at" = true) (k7 : PySem.W.keepIn K (.ref f7) = true)
    (a8 : PySem.W.nsIn K mainGlobals "need_word" = some (some (.ref f8))) (l8 : K.lookup f8 = some ⟨oc8, od8, .func (PySem.W.fnOf "need_word" "need_word" (defArgs s_need_word) (defBody s_need_word) (defScope s_need_word) .none kV8 dc8 pm8 an8 cd8 ct8), sl8⟩) (c8 : PySem.W.codeIn K cd8 "need_word" = true) (k8 : PySem.W.keepIn K (.ref f8) = true)
    (a9 : PySem.W.nsIn K mainGlobals "words_of" = some (some (.ref f9))) (l9 : K.lookup f9 = some ⟨oc9, od9, .func (PySem.W.fnOf "words_of" "words_of" (defArgs s_words_of) (defBody s_words_of) (defScope s_words_of) .none kV9 dc9 pm9 an9 cd9 ct9), sl9⟩) (c9 : PySem.W.codeIn K cd9 "words_of" = true) (k9 : PySem.W.keepIn K (.ref f9) = true)
    (a10 : PySem.W.nsIn K mainGlobals "need_end" = some (some (.ref f10))) (l10 : K.lookup f10 = some ⟨oc10, od10, .func (PySem.W.fnOf "need_end" "need_end" (defArgs s_need_end) (defBody s_need_end) (defScope s_need_end) .none kV10 dc10 pm10 an10 cd10 ct10), sl10⟩) (c10 : PySem.W.codeIn K cd10 "need_end" = true) (k10 : PySem.W.keepIn K (.ref f10) = true)
    (a11 : PySem.W.nsIn K mainGlobals "is_between" = some (some (.ref f11))) (l11 : K.lookup f11 = some ⟨oc11, od11, .func (PySem.W.fnOf "is_between" "is_between" (defArgs s_is_between) (defBody s_is_between) (defScope s_is_between) .none kV11 dc11 pm11 an11 cd11 ct11), sl11⟩) (c11 : PySem.W.codeIn K cd11 "is_between" = true) (k11 : PySem.W.keepIn K (.ref f11) = true)
    (a12 : PySem.W.nsIn K mainGlobals "is_fraction" = some (some (.ref f12))) (l12 : K.lookup f12 = some ⟨oc12, od12, .func (PySem.W.fnOf "is_fraction" "is_fraction" (defArgs s_is_fraction) (defBody s_is_fraction) (defScope s_is_fraction) .none kV12 dc12 pm12 an12 cd12 ct12), sl12⟩) (c12 : PySem.W.codeIn K cd12 "is_fraction" = true) (k12 : PySem.W.keepIn K (.ref f12) = true)
    (a13 : PySem.W.nsIn K mainGlobals "lowest" = some (some (.ref f13))) (l13 : K.lookup f13 = some ⟨oc13, od13, .func (PySem.W.fnOf "lowest" "lowest" (defArgs s_lowest) (defBody s_lowest) (defScope s_lowest) .none kV13 dc13 pm13 an13 cd13 ct13), sl13⟩) (c13 : PySem.W.codeIn K cd13 "lowest" = true) (k13 : PySem.W.keepIn K (.ref f13) = true)
    (a14 : PySem.W.nsIn K mainGlobals "need_gear" = some (some (.ref f14))) (l14 : K.lookup f14 = some ⟨oc14, od14, .func (PySem.W.fnOf "need_gear" "need_gear" (defArgs s_need_gear) (defBody s_need_gear) (defScope s_need_gear) .none kV14 dc14 pm14 an14 cd14 ct14), sl14⟩) (c14 : PySem.W.codeIn K cd14 "need_gear" = true) (k14 : PySem.W.keepIn K (.ref f14) = true)
    (a15 : PySem.W.nsIn K mainGlobals "fraction_at" = some (some (.ref f15))) (l15 : K.lookup f15 = some ⟨oc15, od15, .func (PySem.W.fnOf "fraction_at" "fraction_at" (defArgs s_fraction_at) (defBody s_fraction_at) (defScope s_fraction_at) .none kV15 dc15 pm15 an15 cd15 ct15), sl15⟩) (c15 : PySem.W.codeIn K cd15 "fraction_at" = true) (k15 : PySem.W.keepIn K (.ref f15) = true)
    (a16 : PySem.W.nsIn K mainGlobals "read_train" = some (some (.ref f16))) (l16 : K.lookup f16 = some ⟨oc16, od16, .func (PySem.W.fnOf "read_train" "read_train" (defArgs s_read_train) (defBody s_read_train) (defScope s_read_train) .none kV16 dc16 pm16 an16 cd16 ct16), sl16⟩) (c16 : PySem.W.codeIn K cd16 "read_train" = true) (k16 : PySem.W.keepIn K (.ref f16) = true)
    (a17 : PySem.W.nsIn K mainGlobals "_law_pen" = some (some (.ref f17))) (l17 : K.lookup f17 = some ⟨oc17, od17, .func (PySem.W.fnOf "_law_pen" "_law_pen" (defArgs s_law_pen) (defBody s_law_pen) (defScope s_law_pen) .none kV17 dc17 pm17 an17 cd17 ct17), sl17⟩) (c17 : PySem.W.codeIn K cd17 "_law_pen" = true) (k17 : PySem.W.keepIn K (.ref f17) = true)
    (a18 : PySem.W.nsIn K mainGlobals "_law_draw" = some (some (.ref f18))) (l18 : K.lookup f18 = some ⟨oc18, od18, .func (PySem.W.fnOf "_law_draw" "_law_draw" (defArgs s_law_draw) (defBody s_law_draw) (defScope s_law_draw) .none kV18 dc18 pm18 an18 cd18 ct18), sl18⟩) (c18 : PySem.W.codeIn K cd18 "_law_draw" = true) (k18 : PySem.W.keepIn K (.ref f18) = true)
    (a19 : PySem.W.nsIn K mainGlobals "_law_pick" = some (some (.ref f19))) (l19 : K.lookup f19 = some ⟨oc19, od19, .func (PySem.W.fnOf "_law_pick" "_law_pick" (defArgs s_law_pick) (defBody s_law_pick) (defScope s_law_pick) .none kV19 dc19 pm19 an19 cd19 ct19), sl19⟩) (c19 : PySem.W.codeIn K cd19 "_law_pick" = true) (k19 : PySem.W.keepIn K (.ref f19) = true)
    (a20 : PySem.W.nsIn K mainGlobals "_law_shared" = some (some (.ref f20))) (l20 : K.lookup f20 = some ⟨oc20, od20, .func (PySem.W.fnOf "_law_shared" "_law_shared" (defArgs s_law_shared) (defBody s_law_shared) (defScope s_law_shared) .none kV20 dc20 pm20 an20 cd20 ct20), sl20⟩) (c20 : PySem.W.codeIn K cd20 "_law_shared" = true) (k20 : PySem.W.keepIn K (.ref f20) = true)
    (a21 : PySem.W.nsIn K mainGlobals "_law_lowest" = some (some (.ref f21))) (l21 : K.lookup f21 = some ⟨oc21, od21, .func (PySem.W.fnOf "_law_lowest" "_law_lowest" (defArgs s_law_lowest) (defBody s_law_lowest) (defScope s_law_lowest) .none kV21 dc21 pm21 an21 cd21 ct21), sl21⟩) (c21 : PySem.W.codeIn K cd21 "_law_lowest" = true) (k21 : PySem.W.keepIn K (.ref f21) = true)
    (a22 : PySem.W.nsIn K mainGlobals "_law_multiple" = some (some (.ref f22))) (l22 : K.lookup f22 = some ⟨oc22, od22, .func (PySem.W.fnOf "_law_multiple" "_law_multiple" (defArgs s_law_multiple) (defBody s_law_multiple) (defScope s_law_multiple) .none kV22 dc22 pm22 an22 cd22 ct22), sl22⟩) (c22 : PySem.W.codeIn K cd22 "_law_multiple" = true) (k22 : PySem.W.keepIn K (.ref f22) = true)
    (a23 : PySem.W.nsIn K mainGlobals "_law_periods" = some (some (.ref f23))) (l23 : K.lookup f23 = some ⟨oc23, od23, .func (PySem.W.fnOf "_law_periods" "_law_periods" (defArgs s_law_periods) (defBody s_law_periods) (defScope s_law_periods) .none kV23 dc23 pm23 an23 cd23 ct23), sl23⟩) (c23 : PySem.W.codeIn K cd23 "_law_periods" = true) (k23 : PySem.W.keepIn K (.ref f23) = true)
    (a24 : PySem.W.nsIn K mainGlobals "_law_train" = some (some (.ref f24))) (l24 : K.lookup f24 = some ⟨oc24, od24, .func (PySem.W.fnOf "_law_train" "_law_train" (defArgs s_law_train) (defBody s_law_train) (defScope s_law_train) .none kV24 dc24 pm24 an24 cd24 ct24), sl24⟩) (c24 : PySem.W.codeIn K cd24 "_law_train" = true) (k24 : PySem.W.keepIn K (.ref f24) = true)
    (a25 : PySem.W.nsIn K mainGlobals "_law_fraction" = some (some (.ref f25))) (l25 : K.lookup f25 = some ⟨oc25, od25, .func (PySem.W.fnOf "_law_fraction" "_law_fraction" (defArgs s_law_fraction) (defBody s_law_fraction) (defScope s_law_fraction) .none kV25 dc25 pm25 an25 cd25 ct25), sl25⟩) (c25 : PySem.W.codeIn K cd25 "_law_fraction" = true) (k25 : PySem.W.keepIn K (.ref f25) = true)
    (a26 : PySem.W.nsIn K mainGlobals "_law_gears" = some (some (.ref f26))) (l26 : K.lookup f26 = some ⟨oc26, od26, .func (PySem.W.fnOf "_law_gears" "_law_gears" (defArgs s_law_gears) (defBody s_law_gears) (defScope s_law_gears) .none kV26 dc26 pm26 an26 cd26 ct26), sl26⟩) (c26 : PySem.W.codeIn K cd26 "_law_gears" = true) (k26 : PySem.W.keepIn K (.ref f26) = true)
    (a27 : PySem.W.nsIn K mainGlobals "_law_period" = some (some (.ref f27))) (l27 : K.lookup f27 = some ⟨oc27, od27, .func (PySem.W.fnOf "_law_period" "_law_period" (defArgs s_law_period) (defBody s_law_period) (defScope s_law_period) .none kV27 dc27 pm27 an27 cd27 ct27), sl27⟩) (c27 : PySem.W.codeIn K cd27 "_law_period" = true) (k27 : PySem.W.keepIn K (.ref f27) = true)
    (a28 : PySem.W.nsIn K mainGlobals "_law_text" = some (some (.ref f28))) (l28 : K.lookup f28 = some ⟨oc28, od28, .func (PySem.W.fnOf "_law_text" "_law_text" (defArgs s_law_text) (defBody s_law_text) (defScope s_law_text) .none kV28 dc28 pm28 an28 cd28 ct28), sl28⟩) (c28 : PySem.W.codeIn K cd28 "_law_text" = true) (k28 : PySem.W.keepIn K (.ref f28) = true)
    (a29 : PySem.W.nsIn K mainGlobals "_law_stands" = some (some (.ref f29))) (l29 : K.lookup f29 = some ⟨oc29, od29, .func (PySem.W.fnOf "_law_stands" "_law_stands" (defArgs s_law_stands) (defBody s_law_stands) (defScope s_law_stands) .none kV29 dc29 pm29 an29 cd29 ct29), sl29⟩) (c29 : PySem.W.codeIn K cd29 "_law_stands" = true) (k29 : PySem.W.keepIn K (.ref f29) = true)
    (a30 : PySem.W.nsIn K mainGlobals "_law_right" = some (some (.ref f30))) (l30 : K.lookup f30 = some ⟨oc30, od30, .func (PySem.W.fnOf "_law_right" "_law_right" (defArgs s_law_right) (defBody s_law_right) (defScope s_law_right) .none kV30 dc30 pm30 an30 cd30 ct30), sl30⟩) (c30 : PySem.W.codeIn K cd30 "_law_right" = true) (k30 : PySem.W.keepIn K (.ref f30) = true)
    (a31 : PySem.W.nsIn K mainGlobals "_law_told_alike" = some (some (.ref f31))) (l31 : K.lookup f31 = some ⟨oc31, od31, .func (PySem.W.fnOf "_law_told_alike" "_law_told_alike" (defArgs s_law_told_alike) (defBody s_law_told_alike) (defScope s_law_told_alike) .none kV31 dc31 pm31 an31 cd31 ct31), sl31⟩) (c31 : PySem.W.codeIn K cd31 "_law_told_alike" = true) (k31 : PySem.W.keepIn K (.ref f31) = true)
    (a32 : PySem.W.nsIn K mainGlobals "law" = some (some (.ref f32))) (l32 : K.lookup f32 = some ⟨oc32, od32, .func (PySem.W.fnOf "law" "law" (defArgs s_law) (defBody s_law) (defScope s_law) .none kV32 dc32 pm32 an32 cd32 ct32), sl32⟩) (c32 : PySem.W.codeIn K cd32 "law" = true) (k32 : PySem.W.keepIn K (.ref f32) = true)
    (z0 : PySem.W.nsIn K mainGlobals "len" = some none) (z1 : PySem.W.nsIn K mainGlobals "int" = some none) (z2 : PySem.W.nsIn K mainGlobals "abs" = some none) (z3 : PySem.W.nsIn K mainGlobals "min" = some none) (z4 : PySem.W.nsIn K mainGlobals "max" = some none) (z5 : PySem.W.nsIn K mainGlobals "range" = some none) (z6 : PySem.W.nsIn K mainGlobals "isinstance" = some none) (z7 : PySem.W.nsIn K mainGlobals "list" = some none) (z8 : PySem.W.nsIn K mainGlobals "tuple" = some none) (z9 : PySem.W.nsIn K mainGlobals "bool" = some none) (z10 : PySem.W.nsIn K mainGlobals "str" = some none) (z11 : PySem.W.nsIn K mainGlobals "repr" = some none) (z12 : PySem.W.nsIn K mainGlobals "sum" = some none) (z13 : PySem.W.nsIn K mainGlobals "sorted" = some none) (z14 : PySem.W.nsIn K mainGlobals "any" = some none) (z15 : PySem.W.nsIn K mainGlobals "all" = some none) (z16 : PySem.W.nsIn K mainGlobals "enumerate" = some none) (z17 : PySem.W.nsIn K mainGlobals "zip" = some none) (z18 : PySem.W.nsIn K mainGlobals "ValueError" = some none) (z19 : PySem.W.nsIn K mainGlobals "LookupError" = some none) (z20 : PySem.W.nsIn K mainGlobals "reversed" = some none) (z21 : PySem.W.nsIn K mainGlobals "set" = some none) (z22 : PySem.W.nsIn K mainGlobals "dict" = some none) (z23 : PySem.W.nsIn K mainGlobals "iter" = some none) (z24 : PySem.W.nsIn K mainGlobals "next" = some none) (z25 : PySem.W.nsIn K mainGlobals "type" = some none) (zs : PySem.W.nsIn K mainGlobals "super" = some none) (op : PySem.W.nsIn K cStatics "thirdparty.any" = some none)
    (g1 : PySem.W.specialIn K (.builtin "object.__class__") "__get__" = some (some (.builtin "getset_descriptor.__get__"))) (g2 : PySem.W.takesIn K (.builtin "object.__class__") = some true) (g3 : (l.prog.main.scope.names.lookup ("super" : Str)).isSome = false)
    {C_0 fI_0 c_0 cc_0 N_0 : Addr} {nm_0 qn_0 fl_0 : Str} {bs_0 bm_0 sub_0 : List Value} {sn_0 : List Str} {ab_0 : Bool} {col_0 : Option Bool} {k0_0 k1_0 k2_0 k3_0 k5_0 : Option Value} {oc_0 kV_0 doc_0 pm_0 ct_0 cl_0 ccl_0 : Value} {dd_0 od_0 an_0 cld_0 cdd_0 : Option Addr} {osl_0 csl_0 ccs_0 : Array (Option Value)} {vs_0 : Array Value} {tf_0 : Tok} {cd_0 : ClassData}
    (E_0 : ErrFacts l.prog K "BadNumber" "BadNumber.__init__" s_BadNumber_init C_0 fI_0 c_0 cc_0 nm_0 qn_0 N_0 bs_0 bm_0 sn_0 sub_0 ab_0 col_0 dd_0 k0_0 k1_0 k2_0 k3_0 k5_0 oc_0 kV_0 doc_0 pm_0 ct_0 cl_0 ccl_0 od_0 an_0 cld_0 cdd_0 osl_0 csl_0 ccs_0 vs_0 fl_0 tf_0 cd_0)
    (e0_0 : PySem.W.findIn K (.ref C_0) "value" = some none)
    {C_1 fI_1 c_1 cc_1 N_1 : Addr} {nm_1 qn_1 fl_1 : Str} {bs_1 bm_1 sub_1 : List Value} {sn_1 : List Str} {ab_1 : Bool} {col_1 : Option Bool} {k0_1 k1_1 k2_1 k3_1 k5_1 : Option Value} {oc_1 kV_1 doc_1 pm_1 ct_1 cl_1 ccl_1 : Value} {dd_1 od_1 an_1 cld_1 cdd_1 : Option Addr} {osl_1 csl_1 ccs_1 : Array (Option Value)} {vs_1 : Array Value} {tf_1 : Tok} {cd_1 : ClassData}
    (E_1 : ErrFacts l.prog K "BadValue" "BadValue.__init__" s_BadValue_init C_1 fI_1 c_1 cc_1 nm_1 qn_1 N_1 bs_1 bm_1 sn_1 sub_1 ab_1 col_1 dd_1 k0_1 k1_1 k2_1 k3_1 k5_1 oc_1 kV_1 doc_1 pm_1 ct_1 cl_1 ccl_1 od_1 an_1 cld_1 cdd_1 osl_1 csl_1 ccs_1 vs_1 fl_1 tf_1 cd_1)
    (e1_0 : PySem.W.findIn K (.ref C_1) "value" = some none)
    {C_2 fI_2 c_2 cc_2 N_2 : Addr} {nm_2 qn_2 fl_2 : Str} {bs_2 bm_2 sub_2 : List Value} {sn_2 : List Str} {ab_2 : Bool} {col_2 : Option Bool} {k0_2 k1_2 k2_2 k3_2 k5_2 : Option Value} {oc_2 kV_2 doc_2 pm_2 ct_2 cl_2 ccl_2 : Value} {dd_2 od_2 an_2 cld_2 cdd_2 : Option Addr} {osl_2 csl_2 ccs_2 : Array (Option Value)} {vs_2 : Array Value} {tf_2 : Tok} {cd_2 : ClassData}
    (E_2 : ErrFacts l.prog K "BadGear" "BadGear.__init__" s_BadGear_init C_2 fI_2 c_2 cc_2 nm_2 qn_2 N_2 bs_2 bm_2 sn_2 sub_2 ab_2 col_2 dd_2 k0_2 k1_2 k2_2 k3_2 k5_2 oc_2 kV_2 doc_2 pm_2 ct_2 cl_2 ccl_2 od_2 an_2 cld_2 cdd_2 osl_2 csl_2 ccs_2 vs_2 fl_2 tf_2 cd_2)
    (e2_0 : PySem.W.findIn K (.ref C_2) "at" = some none)
    {C_3 fI_3 c_3 cc_3 N_3 : Addr} {nm_3 qn_3 fl_3 : Str} {bs_3 bm_3 sub_3 : List Value} {sn_3 : List Str} {ab_3 : Bool} {col_3 : Option Bool} {k0_3 k1_3 k2_3 k3_3 k5_3 : Option Value} {oc_3 kV_3 doc_3 pm_3 ct_3 cl_3 ccl_3 : Value} {dd_3 od_3 an_3 cld_3 cdd_3 : Option Addr} {osl_3 csl_3 ccs_3 : Array (Option Value)} {vs_3 : Array Value} {tf_3 : Tok} {cd_3 : ClassData}
    (E_3 : ErrFacts l.prog K "BadText" "BadText.__init__" s_BadText_init C_3 fI_3 c_3 cc_3 nm_3 qn_3 N_3 bs_3 bm_3 sn_3 sub_3 ab_3 col_3 dd_3 k0_3 k1_3 k2_3 k3_3 k5_3 oc_3 kV_3 doc_3 pm_3 ct_3 cl_3 ccl_3 od_3 an_3 cld_3 cdd_3 osl_3 csl_3 ccs_3 vs_3 fl_3 tf_3 cd_3)
    (e3_0 : PySem.W.findIn K (.ref C_3) "line" = some none)
    (e3_1 : PySem.W.findIn K (.ref C_3) "word" = some none)
    {C_4 fI_4 c_4 cc_4 N_4 : Addr} {nm_4 qn_4 fl_4 : Str} {bs_4 bm_4 sub_4 : List Value} {sn_4 : List Str} {ab_4 : Bool} {col_4 : Option Bool} {k0_4 k1_4 k2_4 k3_4 k5_4 : Option Value} {oc_4 kV_4 doc_4 pm_4 ct_4 cl_4 ccl_4 : Value} {dd_4 od_4 an_4 cld_4 cdd_4 : Option Addr} {osl_4 csl_4 ccs_4 : Array (Option Value)} {vs_4 : Array Value} {tf_4 : Tok} {cd_4 : ClassData}
    (E_4 : ErrFacts l.prog K "NoPlace" "NoPlace.__init__" s_NoPlace_init C_4 fI_4 c_4 cc_4 nm_4 qn_4 N_4 bs_4 bm_4 sn_4 sub_4 ab_4 col_4 dd_4 k0_4 k1_4 k2_4 k3_4 k5_4 oc_4 kV_4 doc_4 pm_4 ct_4 cl_4 ccl_4 od_4 an_4 cld_4 cdd_4 osl_4 csl_4 ccs_4 vs_4 fl_4 tf_4 cd_4)
    (e4_0 : PySem.W.findIn K (.ref C_4) "at" = some none)
    {C_5 fI_5 c_5 cc_5 N_5 : Addr} {nm_5 qn_5 fl_5 : Str} {bs_5 bm_5 sub_5 : List Value} {sn_5 : List Str} {ab_5 : Bool} {col_5 : Option Bool} {k0_5 k1_5 k2_5 k3_5 k5_5 : Option Value} {oc_5 kV_5 doc_5 pm_5 ct_5 cl_5 ccl_5 : Value} {dd_5 od_5 an_5 cld_5 cdd_5 : Option Addr} {osl_5 csl_5 ccs_5 : Array (Option Value)} {vs_5 : Array Value} {tf_5 : Tok} {cd_5 : ClassData}
    (E_5 : ErrFacts l.prog K "TooMany" "TooMany.__init__" s_TooMany_init C_5 fI_5 c_5 cc_5 nm_5 qn_5 N_5 bs_5 bm_5 sn_5 sub_5 ab_5 col_5 dd_5 k0_5 k1_5 k2_5 k3_5 k5_5 oc_5 kV_5 doc_5 pm_5 ct_5 cl_5 ccl_5 od_5 an_5 cld_5 cdd_5 osl_5 csl_5 ccs_5 vs_5 fl_5 tf_5 cd_5)
    (e5_0 : PySem.W.findIn K (.ref C_5) "what" = some none)
    (e5_1 : PySem.W.findIn K (.ref C_5) "most" = some none)
    {D_0 : Addr} (d0 : PySem.W.nsIn K mainGlobals "ReachError" = some (some (.ref D_0)))
    {O_Train : Addr} (oa_Train : PySem.W.nsIn K mainGlobals "Train" = some (some (.ref O_Train)))
    (ob_Train : PySem.W.plainGet K O_Train Str.empty = true)
    (oc_Train : PySem.W.hasDictIn K O_Train = true)
    (od_Train : PySem.W.plainOver K O_Train = true)
    (oe_Train : PySem.W.findIn K (.ref O_Train) "__setattr__" = some (some (.builtin "object.__setattr__")))
    (of_Train : PySem.W.keepIn K (.ref O_Train) = true)
    (og_Train : PySem.W.plainGet K O_Train "__class__" = true)
    (oh_Train : PySem.W.findIn K (.ref O_Train) "__class__" = some (some (.builtin "object.__class__")))
    (oi_Train : PySem.W.mroIn K O_Train (.type "object") = some true)
    {m_Train_init : Addr} (ma_Train_init : PySem.W.findIn K (.ref O_Train) "__init__" = some (some (.ref m_Train_init)))
    {voc_Train_init vdc_Train_init vpm_Train_init vcd_Train_init vct_Train_init : Value} {vod_Train_init van_Train_init : Option Addr} {vsl_Train_init : Array (Option Value)} {vD_Train_init : Addr} (ml_Train_init : K.lookup m_Train_init = some ⟨voc_Train_init, vod_Train_init, .func (PySem.W.fnOf "__init__" "Train.__init__" (defArgs s_Train_init) (defBody s_Train_init) (defScope s_Train_init) .none (.ref vD_Train_init) vdc_Train_init vpm_Train_init van_Train_init vcd_Train_init vct_Train_init), vsl_Train_init⟩)
    (mc_Train_init : PySem.W.codeIn K vcd_Train_init "Train.__init__" = true)
    (mk_Train_init : PySem.W.keepIn K (.ref m_Train_init) = true)
    (mi_Train_init : PySem.W.isFn K (.ref m_Train_init) = true)
    {vu0_Train_init : Value} (mn0_Train_init : PySem.W.nsIn K vD_Train_init "slip" = some (some vu0_Train_init))
    (mw0_Train_init : RelV (.ref T0) vu0_Train_init)
    {zo_T0 : Value} {zd_T0 : Option Addr} {zi_T0 : Array Value} {zn_T0 : Nat} {zs_T0 : Array (Option Value)} (zl_T0 : K.lookup T0 = some ⟨zo_T0, zd_T0, .seq zi_T0 zn_T0, zs_T0⟩)
    (zc_T0 : zo_T0 = .type "tuple")
    {zu0_T0 zu1_T0 : Value} (zt_T0 : zi_T0.toList = [zu0_T0, zu1_T0])
    (zw0_T0 : RelV (.int 0) zu0_T0)
    (zw1_T0 : RelV (.int 1) zu1_T0)
    (ka_Train : PySem.W.makesIn K O_Train = true)
    (kb_Train : PySem.W.findIn K (.ref O_Train) "__init__" = some (some (.ref m_Train_init)))
    {m_Train_len : Addr} (ma_Train_len : PySem.W.findIn K (.ref O_Train) "__len__" = some (some (.ref m_Train_len)))
    {voc_Train_len vkV_Train_len vdc_Train_len vpm_Train_len vcd_Train_len vct_Train_len : Value} {vod_Train_len van_Train_len : Option Addr} {vsl_Train_len : Array (Option Value)} (ml_Train_len : K.lookup m_Train_len = some ⟨voc_Train_len, vod_Train_len, .func (PySem.W.fnOf "__len__" "Train.__len__" (defArgs s_Train_len) (defBody s_Train_len) (defScope s_Train_len) .none vkV_Train_len vdc_Train_len vpm_Train_len van_Train_len vcd_Train_len vct_Train_len), vsl_Train_len⟩)
    (mc_Train_len : PySem.W.codeIn K vcd_Train_len "Train.__len__" = true)
    (mk_Train_len : PySem.W.keepIn K (.ref m_Train_len) = true)
    (mi_Train_len : PySem.W.isFn K (.ref m_Train_len) = true)
    {m_Train_iter : Addr} (ma_Train_iter : PySem.W.findIn K (.ref O_Train) "__iter__" = some (some (.ref m_Train_iter)))
    {voc_Train_iter vkV_Train_iter vdc_Train_iter vpm_Train_iter vcd_Train_iter vct_Train_iter : Value} {vod_Train_iter van_Train_iter : Option Addr} {vsl_Train_iter : Array (Option Value)} (ml_Train_iter : K.lookup m_Train_iter = some ⟨voc_Train_iter, vod_Train_iter, .func (PySem.W.fnOf "__iter__" "Train.__iter__" (defArgs s_Train_iter) (defBody s_Train_iter) (defScope s_Train_iter) .none vkV_Train_iter vdc_Train_iter vpm_Train_iter van_Train_iter vcd_Train_iter vct_Train_iter), vsl_Train_iter⟩)
    (mc_Train_iter : PySem.W.codeIn K vcd_Train_iter "Train.__iter__" = true)
    (mk_Train_iter : PySem.W.keepIn K (.ref m_Train_iter) = true)
    (mi_Train_iter : PySem.W.isFn K (.ref m_Train_iter) = true)
    {m_Train_getitem : Addr} (ma_Train_getitem : PySem.W.findIn K (.ref O_Train) "__getitem__" = some (some (.ref m_Train_getitem)))
    {voc_Train_getitem vkV_Train_getitem vdc_Train_getitem vpm_Train_getitem vcd_Train_getitem vct_Train_getitem : Value} {vod_Train_getitem van_Train_getitem : Option Addr} {vsl_Train_getitem : Array (Option Value)} (ml_Train_getitem : K.lookup m_Train_getitem = some ⟨voc_Train_getitem, vod_Train_getitem, .func (PySem.W.fnOf "__getitem__" "Train.__getitem__" (defArgs s_Train_getitem) (defBody s_Train_getitem) (defScope s_Train_getitem) .none vkV_Train_getitem vdc_Train_getitem vpm_Train_getitem van_Train_getitem vcd_Train_getitem vct_Train_getitem), vsl_Train_getitem⟩)
    (mc_Train_getitem : PySem.W.codeIn K vcd_Train_getitem "Train.__getitem__" = true)
    (mk_Train_getitem : PySem.W.keepIn K (.ref m_Train_getitem) = true)
    (mi_Train_getitem : PySem.W.isFn K (.ref m_Train_getitem) = true)
    {m_Train_stands : Addr} (ma_Train_stands : PySem.W.findIn K (.ref O_Train) "stands" = some (some (.ref m_Train_stands)))
    {voc_Train_stands vkV_Train_stands vdc_Train_stands vpm_Train_stands vcd_Train_stands vct_Train_stands : Value} {vod_Train_stands van_Train_stands : Option Addr} {vsl_Train_stands : Array (Option Value)} (ml_Train_stands : K.lookup m_Train_stands = some ⟨voc_Train_stands, vod_Train_stands, .func (PySem.W.fnOf "stands" "Train.stands" (defArgs s_Train_stands) (defBody s_Train_stands) (defScope s_Train_stands) .none vkV_Train_stands vdc_Train_stands vpm_Train_stands van_Train_stands vcd_Train_stands vct_Train_stands), vsl_Train_stands⟩)
    (mc_Train_stands : PySem.W.codeIn K vcd_Train_stands "Train.stands" = true)
    (mk_Train_stands : PySem.W.keepIn K (.ref m_Train_stands) = true)
    (mi_Train_stands : PySem.W.isFn K (.ref m_Train_stands) = true)
    {m_Train_add : Addr} (ma_Train_add : PySem.W.findIn K (.ref O_Train) "__add__" = some (some (.ref m_Train_add)))
    {voc_Train_add vkV_Train_add vdc_Train_add vpm_Train_add vcd_Train_add vct_Train_add : Value} {vod_Train_add van_Train_add : Option Addr} {vsl_Train_add : Array (Option Value)} (ml_Train_add : K.lookup m_Train_add = some ⟨voc_Train_add, vod_Train_add, .func (PySem.W.fnOf "__add__" "Train.__add__" (defArgs s_Train_add) (defBody s_Train_add) (defScope s_Train_add) .none vkV_Train_add vdc_Train_add vpm_Train_add van_Train_add vcd_Train_add vct_Train_add), vsl_Train_add⟩)
    (mc_Train_add : PySem.W.codeIn K vcd_Train_add "Train.__add__" = true)
    (mk_Train_add : PySem.W.keepIn K (.ref m_Train_add) = true)
    (mi_Train_add : PySem.W.isFn K (.ref m_Train_add) = true)
    {m_Train_eq : Addr} (ma_Train_eq : PySem.W.findIn K (.ref O_Train) "__eq__" = some (some (.ref m_Train_eq)))
    {voc_Train_eq vkV_Train_eq vdc_Train_eq vpm_Train_eq vcd_Train_eq vct_Train_eq : Value} {vod_Train_eq van_Train_eq : Option Addr} {vsl_Train_eq : Array (Option Value)} (ml_Train_eq : K.lookup m_Train_eq = some ⟨voc_Train_eq, vod_Train_eq, .func (PySem.W.fnOf "__eq__" "Train.__eq__" (defArgs s_Train_eq) (defBody s_Train_eq) (defScope s_Train_eq) .none vkV_Train_eq vdc_Train_eq vpm_Train_eq van_Train_eq vcd_Train_eq vct_Train_eq), vsl_Train_eq⟩)
    (mc_Train_eq : PySem.W.codeIn K vcd_Train_eq "Train.__eq__" = true)
    (mk_Train_eq : PySem.W.keepIn K (.ref m_Train_eq) = true)
    (mi_Train_eq : PySem.W.isFn K (.ref m_Train_eq) = true)
    {m_Train_str : Addr} (ma_Train_str : PySem.W.findIn K (.ref O_Train) "__str__" = some (some (.ref m_Train_str)))
    {voc_Train_str vkV_Train_str vdc_Train_str vpm_Train_str vcd_Train_str vct_Train_str : Value} {vod_Train_str van_Train_str : Option Addr} {vsl_Train_str : Array (Option Value)} (ml_Train_str : K.lookup m_Train_str = some ⟨voc_Train_str, vod_Train_str, .func (PySem.W.fnOf "__str__" "Train.__str__" (defArgs s_Train_str) (defBody s_Train_str) (defScope s_Train_str) .none vkV_Train_str vdc_Train_str vpm_Train_str van_Train_str vcd_Train_str vct_Train_str), vsl_Train_str⟩)
    (mc_Train_str : PySem.W.codeIn K vcd_Train_str "Train.__str__" = true)
    (mk_Train_str : PySem.W.keepIn K (.ref m_Train_str) = true)
    (mi_Train_str : PySem.W.isFn K (.ref m_Train_str) = true)
    {mq_Train_again : Addr} (ma_Train_again : PySem.W.findIn K (.ref O_Train) "again" = some (some (.ref mq_Train_again)))
    {m_Train_again : Addr} {mr_Train_again : List Value} (mb_Train_again : PySem.W.recIn K mq_Train_again "property" = some (.ref m_Train_again :: mr_Train_again))
    {voc_Train_again vkV_Train_again vdc_Train_again vpm_Train_again vcd_Train_again vct_Train_again : Value} {vod_Train_again van_Train_again : Option Addr} {vsl_Train_again : Array (Option Value)} (ml_Train_again : K.lookup m_Train_again = some ⟨voc_Train_again, vod_Train_again, .func (PySem.W.fnOf "again" "Train.again" (defArgs s_Train_again) (defBody s_Train_again) (defScope s_Train_again) .none vkV_Train_again vdc_Train_again vpm_Train_again van_Train_again vcd_Train_again vct_Train_again), vsl_Train_again⟩)
    (mc_Train_again : PySem.W.codeIn K vcd_Train_again "Train.again" = true)
    (mk_Train_again : PySem.W.keepIn K (.ref m_Train_again) = true)
    (mi_Train_again : PySem.W.isFn K (.ref m_Train_again) = true)
    {pp_Train_again : Addr} (pa_Train_again : PySem.W.findIn K (.ref O_Train) "again" = some (some (.ref pp_Train_again)))
    (pb_Train_again : PySem.W.specialIn K (.ref pp_Train_again) "__get__" = some (some (.builtin "property.__get__")))
    (pc_Train_again : PySem.W.takesIn K (.ref pp_Train_again) = some true)
    {pr_Train_again : List Value} (pd_Train_again : PySem.W.recIn K pp_Train_again "property" = some (.ref m_Train_again :: pr_Train_again))
    {mq_Train_read : Addr} (ma_Train_read : PySem.W.findIn K (.ref O_Train) "read" = some (some (.ref mq_Train_read)))
    {m_Train_read : Addr} {mr_Train_read : List Value} (mb_Train_read : PySem.W.recIn K mq_Train_read "staticmethod" = some (.ref m_Train_read :: mr_Train_read))
    {voc_Train_read vkV_Train_read vdc_Train_read vpm_Train_read vcd_Train_read vct_Train_read : Value} {vod_Train_read van_Train_read : Option Addr} {vsl_Train_read : Array (Option Value)} (ml_Train_read : K.lookup m_Train_read = some ⟨voc_Train_read, vod_Train_read, .func (PySem.W.fnOf "read" "Train.read" (defArgs s_Train_read) (defBody s_Train_read) (defScope s_Train_read) .none vkV_Train_read vdc_Train_read vpm_Train_read van_Train_read vcd_Train_read vct_Train_read), vsl_Train_read⟩)
    (mc_Train_read : PySem.W.codeIn K vcd_Train_read "Train.read" = true)
    (mk_Train_read : PySem.W.keepIn K (.ref m_Train_read) = true)
    (mi_Train_read : PySem.W.isFn K (.ref m_Train_read) = true)
    (ta_Train_read : PySem.W.readsIn K O_Train (.type "type") = true)
    (tb_Train_read : PySem.W.specialIn K (.ref O_Train) "__getattribute__" = some (some (.builtin "type.__getattribute__")))
    (tc_Train_read : PySem.W.findCls K (.ref O_Train) (.type "type") "read" = some (.get (.builtin "staticmethod.__get__") (.ref mq_Train_read) .none (.ref O_Train)))
    (xa_Train_stands : PySem.W.findIn K (.ref O_Train) "stands" = some (some (.ref m_Train_stands)))
    (qa_Train : PySem.W.findIn K (.ref O_Train) "__eq__" = some (some (.ref m_Train_eq)))
    (qb_Train : PySem.W.findIn K (.ref O_Train) "__ne__" = some (some (.builtin "object.__ne__")))
    (ua_Train : PySem.W.selfFirst K O_Train = true)
    (ub_Train_add : PySem.W.findIn K (.ref O_Train) "__add__" = some (some (.ref m_Train_add)))
    (uc_Train_add_tuple : PySem.W.findIn K (.ref O_Train) "__radd__" = some none)
    {ud0_Train_add_tuple : Option Value} (ud_Train_add_tuple : PySem.W.findIn K (.type "tuple") "__add__" = some ud0_Train_add_tuple)
    {ue0_Train_add_tuple : Option Value} (ue_Train_add_tuple : PySem.W.findIn K (.type "tuple") "__radd__" = some ue0_Train_add_tuple)
    (uf_Train_tuple : PySem.W.subIn K (.type "tuple") (.ref O_Train) = some false)
    (no_Train_own_gears : PySem.W.findIn K (.ref O_Train) "own_gears" = some none)
    (no_Train_periods : PySem.W.findIn K (.ref O_Train) "periods" = some none)
    (no_Train_slips : PySem.W.findIn K (.ref O_Train) "slips" = some none)
    (no_Train_unit : PySem.W.findIn K (.ref O_Train) "unit" = some none)
    {u_MOST_UNITS : Value} (ga_MOST_UNITS : PySem.W.nsIn K mainGlobals "MOST_UNITS" = some (some u_MOST_UNITS))
    (r_MOST_UNITS : RelV (.int 1000000) u_MOST_UNITS)
    {u_MOST_TEETH : Value} (ga_MOST_TEETH : PySem.W.nsIn K mainGlobals "MOST_TEETH" = some (some u_MOST_TEETH))
    (r_MOST_TEETH : RelV (.int 1000) u_MOST_TEETH)
    {u_MOST_GEARS : Value} (ga_MOST_GEARS : PySem.W.nsIn K mainGlobals "MOST_GEARS" = some (some u_MOST_GEARS))
    (r_MOST_GEARS : RelV (.int 6) u_MOST_GEARS)
    {u_FIGURES : Value} (ga_FIGURES : PySem.W.nsIn K mainGlobals "FIGURES" = some (some u_FIGURES))
    (r_FIGURES : RelV (.str "0123456789") u_FIGURES)
    {u_MOST_FIGURES : Value} (ga_MOST_FIGURES : PySem.W.nsIn K mainGlobals "MOST_FIGURES" = some (some u_MOST_FIGURES))
    (r_MOST_FIGURES : RelV (.int 120) u_MOST_FIGURES)
    (xkk : PySem.W.kitOne K (.ref O_Train) (.ref O_Train) = some true)
    (xnf : PySem.W.notFirst K O_Train (.ref O_Train) = true)
    (xnfs : PySem.W.notFirst K O_Train (.type "str") = true)
    (xkks : PySem.W.kitOne K (.type "str") (.ref O_Train) = some false)
    (xfi : PySem.W.fnIn K m_Train_getitem = true) :
    LawG q l.prog w K 13 mg fa := by
  have e := hfa.symm.trans (PySem.W.mg_of X G a32)
  cases e
  have B : Bi mg := ⟨PySem.W.mg_none_of X G z0, PySem.W.mg_none_of X G z1, PySem.W.mg_none_of X G z2, PySem.W.mg_none_of X G z3, PySem.W.mg_none_of X G z4, PySem.W.mg_none_of X G z5, PySem.W.mg_none_of X G z6, PySem.W.mg_none_of X G z7, PySem.W.mg_none_of X G z8, PySem.W.mg_none_of X G z9, PySem.W.mg_none_of X G z10, PySem.W.mg_none_of X G z11, PySem.W.mg_none_of X G z12, PySem.W.mg_none_of X G z13, PySem.W.mg_none_of X G z14, PySem.W.mg_none_of X G z15, PySem.W.mg_none_of X G z16, PySem.W.mg_none_of X G z17, PySem.W.mg_none_of X G z18, PySem.W.mg_none_of X G z19, PySem.W.mg_none_of X G z20, PySem.W.mg_none_of X G z21, PySem.W.mg_none_of X G z22, PySem.W.mg_none_of X G z23, PySem.W.mg_none_of X G z24, PySem.W.mg_none_of X G z25⟩
  have F_is_whole : Df K mg "is_whole" s_is_whole := ⟨_, _, PySem.W.mg_of X G a0, fun_mk l0 c0 k0⟩
  have F_need_whole : Df K mg "need_whole" s_need_whole := ⟨_, _, PySem.W.mg_of X G a1, fun_mk l1 c1 k1⟩
  have F_need_above : Df K mg "need_above" s_need_above := ⟨_, _, PySem.W.mg_of X G a2, fun_mk l2 c2 k2⟩
  have F_divisor_of : Df K mg "divisor_of" s_divisor_of := ⟨_, _, PySem.W.mg_of X G a3, fun_mk l3 c3 k3⟩
  have F_common : Df K mg "common" s_common := ⟨_, _, PySem.W.mg_of X G a4, fun_mk l4 c4 k4⟩
  have F_multiple : Df K mg "multiple" s_multiple := ⟨_, _, PySem.W.mg_of X G a5, fun_mk l5 c5 k5⟩
  have F_whole_of : Df K mg "whole_of" s_whole_of := ⟨_, _, PySem.W.mg_of X G a6, fun_mk l6 c6 k6⟩
  have F_number_at : Df K mg "number_at" s_number_at := ⟨_, _, PySem.W.mg_of X G a7, fun_mk l7 c7 k7⟩
  have F_need_word : Df K mg "need_word" s_need_word := ⟨_, _, PySem.W.mg_of X G a8, fun_mk l8 c8 k8⟩
  have F_words_of : Df K mg "words_of" s_words_of := ⟨_, _, PySem.W.mg_of X G a9, fun_mk l9 c9 k9⟩
  have F_need_end : Df K mg "need_end" s_need_end := ⟨_, _, PySem.W.mg_of X G a10, fun_mk l10 c10 k10⟩
  have F_is_between : Df K mg "is_between" s_is_between := ⟨_, _, PySem.W.mg_of X G a11, fun_mk l11 c11 k11⟩
  have F_is_fraction : Df K mg "is_fraction" s_is_fraction := ⟨_, _, PySem.W.mg_of X G a12, fun_mk l12 c12 k12⟩
  have F_lowest : Df K mg "lowest" s_lowest := ⟨_, _, PySem.W.mg_of X G a13, fun_mk l13 c13 k13⟩
  have F_need_gear : Df K mg "need_gear" s_need_gear := ⟨_, _, PySem.W.mg_of X G a14, fun_mk l14 c14 k14⟩
  have F_fraction_at : Df K mg "fraction_at" s_fraction_at := ⟨_, _, PySem.W.mg_of X G a15, fun_mk l15 c15 k15⟩
  have F_read_train : Df K mg "read_train" s_read_train := ⟨_, _, PySem.W.mg_of X G a16, fun_mk l16 c16 k16⟩
  have F_law_pen : Df K mg "_law_pen" s_law_pen := ⟨_, _, PySem.W.mg_of X G a17, fun_mk l17 c17 k17⟩
  have F_law_draw : Df K mg "_law_draw" s_law_draw := ⟨_, _, PySem.W.mg_of X G a18, fun_mk l18 c18 k18⟩
  have F_law_pick : Df K mg "_law_pick" s_law_pick := ⟨_, _, PySem.W.mg_of X G a19, fun_mk l19 c19 k19⟩
  have F_law_shared : Df K mg "_law_shared" s_law_shared := ⟨_, _, PySem.W.mg_of X G a20, fun_mk l20 c20 k20⟩
  have F_law_lowest : Df K mg "_law_lowest" s_law_lowest := ⟨_, _, PySem.W.mg_of X G a21, fun_mk l21 c21 k21⟩
  have F_law_multiple : Df K mg "_law_multiple" s_law_multiple := ⟨_, _, PySem.W.mg_of X G a22, fun_mk l22 c22 k22⟩
  have F_law_periods : Df K mg "_law_periods" s_law_periods := ⟨_, _, PySem.W.mg_of X G a23, fun_mk l23 c23 k23⟩
  have F_law_train : Df K mg "_law_train" s_law_train := ⟨_, _, PySem.W.mg_of X G a24, fun_mk l24 c24 k24⟩
  have F_law_fraction : Df K mg "_law_fraction" s_law_fraction := ⟨_, _, PySem.W.mg_of X G a25, fun_mk l25 c25 k25⟩
  have F_law_gears : Df K mg "_law_gears" s_law_gears := ⟨_, _, PySem.W.mg_of X G a26, fun_mk l26 c26 k26⟩
  have F_law_period : Df K mg "_law_period" s_law_period := ⟨_, _, PySem.W.mg_of X G a27, fun_mk l27 c27 k27⟩
  have F_law_text : Df K mg "_law_text" s_law_text := ⟨_, _, PySem.W.mg_of X G a28, fun_mk l28 c28 k28⟩
  have F_law_stands : Df K mg "_law_stands" s_law_stands := ⟨_, _, PySem.W.mg_of X G a29, fun_mk l29 c29 k29⟩
  have F_law_right : Df K mg "_law_right" s_law_right := ⟨_, _, PySem.W.mg_of X G a30, fun_mk l30 c30 k30⟩
  have F_law_told_alike : Df K mg "_law_told_alike" s_law_told_alike := ⟨_, _, PySem.W.mg_of X G a31, fun_mk l31 c31 k31⟩
  have FL := fun_mk (st := s_law) l32 c32 k32
  have A : ErrAll l.prog K mg := ⟨g3, op, PySem.W.mg_none_of X G zs, g1, g2⟩
  refine ⟨[], List.nodup_nil, fun p hp => absurd hp (List.not_mem_nil)
  , fun base hK hG hT => ?_⟩
  have T_BadNumber : ErrT l.prog w K mg base "BadNumber" C_0 ["value"] := err_mk1 "value" X G A E_0 e0_0 sc_BadNumber_init rfl rfl rfl rfl (fun _ => rfl) (fun _ => rfl) (fun _ => ⟨_, rfl⟩) (fun _ => rfl) (by decide) (by decide) (fun us hl => match us, hl with | [_, _], _ => rfl)
  have T_BadValue : ErrT l.prog w K mg base "BadValue" C_1 ["value"] := err_mk1 "value" X G A E_1 e1_0 sc_BadValue_init rfl rfl rfl rfl (fun _ => rfl) (fun _ => rfl) (fun _ => ⟨_, rfl⟩) (fun _ => rfl) (by decide) (by decide) (fun us hl => match us, hl with | [_, _], _ => rfl)
  have T_BadGear : ErrT l.prog w K mg base "BadGear" C_2 ["at"] := err_mk1 "at" X G A E_2 e2_0 sc_BadGear_init rfl rfl rfl rfl (fun _ => rfl) (fun _ => rfl) (fun _ => ⟨_, rfl⟩) (fun _ => rfl) (by decide) (by decide) (fun us hl => match us, hl with | [_, _], _ => rfl)
  have T_BadText : ErrT l.prog w K mg base "BadText" C_3 ["line", "word"] := err_mk2 "line" "word" X G A E_3 e3_0 e3_1 sc_BadText_init rfl rfl rfl rfl (fun _ => rfl) (fun _ => rfl) (fun _ => ⟨_, rfl⟩) (fun _ => rfl) (fun _ => rfl) (by decide) (by decide) (by decide) (by decide) (fun us hl => match us, hl with | [_, _, _], _ => rfl)
  have T_NoPlace : ErrT l.prog w K mg base "NoPlace" C_4 ["at"] := err_mk1 "at" X G A E_4 e4_0 sc_NoPlace_init rfl rfl rfl rfl (fun _ => rfl) (fun _ => rfl) (fun _ => ⟨_, rfl⟩) (fun _ => rfl) (by decide) (by decide) (fun us hl => match us, hl with | [_, _], _ => rfl)
  have T_TooMany : ErrT l.prog w K mg base "TooMany" C_5 ["what", "most"] := err_mk2 "what" "most" X G A E_5 e5_0 e5_1 sc_TooMany_init rfl rfl rfl rfl (fun _ => rfl) (fun _ => rfl) (fun _ => ⟨_, rfl⟩) (fun _ => rfl) (fun _ => rfl) (by decide) (by decide) (by decide) (by decide) (fun us hl => match us, hl with | [_, _, _], _ => rfl)
  have G_ReachError : mg "ReachError" = some (.ref D_0) := PySem.W.mg_of X G d0
  have G_Train : mg "Train" = some (.ref O_Train) := PySem.W.mg_of X G oa_Train
  have c_Train : L2.Cls K O_Train := ⟨ob_Train, oc_Train, od_Train, oe_Train⟩
  have t_Train : OwnT K O_Train := ⟨og_Train, oc_Train, oh_Train, g1, g2, oi_Train⟩
  have FK_Train_init : FunK K "__init__" "Train.__init__" s_Train_init [("slip", .ref T0)] m_Train_init := funk_mk (st := s_Train_init) ml_Train_init mc_Train_init mk_Train_init (.cons mn0_Train_init mw0_Train_init (.nil))
  have tk_T0 : TupK K T0 [.int 0, .int 1] := ⟨_, _, _, zl_T0, zc_T0, rfl, by rw [← Array.length_toList, zt_T0]; exact szL (Nat.le_of_ble_eq_true rfl), by rw [zt_T0]; exact .cons zw0_T0 (.cons zw1_T0 (.nil))⟩
  have mk_Train : Mk K O_Train m_Train_init := ⟨ka_Train, kb_Train, mi_Train_init, of_Train⟩
  have FM_Train_len := fun_mk (st := s_Train_len) ml_Train_len mc_Train_len mk_Train_len
  have FM_Train_iter := fun_mk (st := s_Train_iter) ml_Train_iter mc_Train_iter mk_Train_iter
  have FM_Train_getitem := fun_mk (st := s_Train_getitem) ml_Train_getitem mc_Train_getitem mk_Train_getitem
  have FM_Train_stands := fun_mk (st := s_Train_stands) ml_Train_stands mc_Train_stands mk_Train_stands
  have FM_Train_add := fun_mk (st := s_Train_add) ml_Train_add mc_Train_add mk_Train_add
  have FM_Train_eq := fun_mk (st := s_Train_eq) ml_Train_eq mc_Train_eq mk_Train_eq
  have FM_Train_str := fun_mk (st := s_Train_str) ml_Train_str mc_Train_str mk_Train_str
  have FM_Train_again := fun_mk (st := s_Train_again) ml_Train_again mc_Train_again mk_Train_again
  have pr_Train_again : PropOf K O_Train "again" pp_Train_again m_Train_again := ⟨pa_Train_again, pb_Train_again, pc_Train_again, ⟨_, pd_Train_again⟩⟩
  have FM_Train_read := fun_mk (st := s_Train_read) ml_Train_read mc_Train_read mk_Train_read
  have sta_Train_read : CSta K O_Train (.type "type") "read" mq_Train_read m_Train_read := ⟨⟨ta_Train_read, tb_Train_read⟩, tc_Train_read, ⟨_, mb_Train_read⟩, mk_Train_read⟩
  have me_Train_stands : Meth K O_Train "stands" m_Train_stands := ⟨xa_Train_stands, mi_Train_stands, mk_Train_stands⟩
  have oe_Train : OwnEq K O_Train m_Train_eq := ⟨qa_Train, mi_Train_eq, qb_Train, oi_Train⟩
  have bo_Train_add : OwnBin K O_Train "add" m_Train_add := ⟨ua_Train, ub_Train_add, mi_Train_add⟩
  have bt_Train_add_tuple : BinT K O_Train "add" "tuple" := ⟨uc_Train_add_tuple, ⟨_, ud_Train_add_tuple⟩, ⟨_, ue_Train_add_tuple⟩, uf_Train_tuple⟩
  have g_MOST_UNITS := PySem.W.mg_of X G ga_MOST_UNITS
  have g_MOST_TEETH := PySem.W.mg_of X G ga_MOST_TEETH
  have g_MOST_GEARS := PySem.W.mg_of X G ga_MOST_GEARS
  have g_FIGURES := PySem.W.mg_of X G ga_FIGURES
  have g_MOST_FIGURES := PySem.W.mg_of X G ga_MOST_FIGURES
  have D_whole := fn_is_wholeI (P := l.prog) (w := w) (base := base) B F_is_whole
  have D_nw := fn_need_wholeI (P := l.prog) (w := w) (base := base) F_need_whole D_whole
  have D_nab := fn_need_above B F_need_above D_whole
  have D_div := fn_divisor_of (P := l.prog) (w := w) (base := base) B F_divisor_of
  have D_com := fn_commonI B F_common D_nw D_div
  have D_mul := fn_multiple B F_multiple D_nab D_div
  have D_bet := fn_is_between F_is_between D_whole
  have D_fra := fn_is_fraction B F_is_fraction D_bet g_MOST_UNITS r_MOST_UNITS
  have D_low := fn_lowest B F_lowest D_com
  have D_ng := fn_need_gear B F_need_gear D_bet D_fra g_MOST_TEETH r_MOST_TEETH
  have tc : TrC K O_Train := ⟨c_Train, no_Train_own_gears, no_Train_periods, no_Train_slips, no_Train_unit⟩
  have TI := trI_of FK_Train_init (body_Train_init (C := O_Train) B D_bet D_fra D_low D_ng D_mul g_MOST_UNITS r_MOST_UNITS g_MOST_GEARS r_MOST_GEARS)
  have R_len := run_Train_len (P := l.prog) (w := w) (base := base) (C := O_Train) B FM_Train_len
  have R_it := fun n => run_Train_iter (P := l.prog) (w := w) (base := base) (C := O_Train) B FM_Train_iter n
  have R_gi := run_Train_getitem (C := O_Train) B FM_Train_getitem D_bet
  have R_ag := run_Train_again (C := O_Train) B FM_Train_again D_mul
  have R_st := run_Train_stands (C := O_Train) B FM_Train_stands D_whole D_low
  have R_eq := run_Train_eq (P := l.prog) (w := w) (base := base) B FM_Train_eq G_Train tc t_Train xkk
  have R_ne := run_Train_neq (P := l.prog) (w := w) (base := base) B FM_Train_eq G_Train
  have R_add := run_Train_add B FM_Train_add G_Train tc mk_Train TI
  have R_str := run_Train_str (P := l.prog) (w := w) (base := base) (C := O_Train) B FM_Train_str
  have D_wof := fn_whole_of (P := l.prog) (w := w) (base := base) B F_whole_of g_FIGURES r_FIGURES g_MOST_FIGURES r_MOST_FIGURES
  have D_nat := fn_number_at B F_number_at D_wof T_BadText
  have D_ne := fn_need_end F_need_end B T_BadText
  have D_wo := fn_words_of (P := l.prog) (w := w) (base := base) B F_words_of
  have D_nwd := fn_need_word (P := l.prog) (w := w) (base := base) B F_need_word
  have D_fat := fn_fraction_at B F_fraction_at D_nat D_com g_MOST_UNITS r_MOST_UNITS
  have D_rt := fn_read_train B F_read_train G_Train tc mk_Train TI D_wo D_nwd D_nat D_fat D_ne g_MOST_UNITS r_MOST_UNITS g_MOST_TEETH r_MOST_TEETH g_MOST_GEARS r_MOST_GEARS
  have R_r := run_Train_read FM_Train_read argsP (fun _ _ _ _ _ _ us hl => match us, hl with | [_], _ => rfl) D_rt
  have R_rk := run_Train_read FM_Train_read (argsK 0 ["text"]) (fun _ _ _ _ _ _ us hl => match us, hl with | [_], _ => rfl) D_rt
  have S : TrS l.prog w K mg base O_Train m_Train_init T0 m_Train_add m_Train_eq m_Train_len m_Train_iter m_Train_str (fun _ _ => True) (fun _ _ => True) := ⟨G_Train, tc, t_Train, xkk, mk_Train, TI, bo_Train_add, bt_Train_add_tuple, R_add⟩
  have MM : TrM l.prog w K mg base O_Train m_Train_init T0 m_Train_add m_Train_eq m_Train_len m_Train_iter m_Train_getitem m_Train_again pp_Train_again m_Train_stands m_Train_str m_Train_read mq_Train_read (.type "type") := ⟨S, ma_Train_len, mi_Train_len, R_len, ma_Train_iter, mi_Train_iter, R_it, ⟨ma_Train_getitem, mi_Train_getitem, xfi⟩, R_gi, pr_Train_again, R_ag, me_Train_stands, R_st, oe_Train, xnf, R_eq, R_ne, xnfs, xkks, ma_Train_str, mi_Train_str, R_str, sta_Train_read, R_r, R_rk⟩
  have D_pen := fn_law_pen (P := l.prog) (w := w) (base := base) B F_law_pen
  have D_draw := fn_law_draw (P := l.prog) (w := w) (base := base) B F_law_draw
  have D_drawB := fn_law_drawB (P := l.prog) (w := w) (base := base) B F_law_draw
  have D_pick := fn_law_pick B F_law_pick D_draw
  have L_sh := fn_law_shared (P := l.prog) (w := w) (base := base) B F_law_shared
  have L_low := fn_law_lowest B F_law_lowest L_sh
  have L_mul := fn_law_multiple B F_law_multiple L_sh
  have L_per := fn_law_periods B F_law_periods L_low
  have L_tr := fn_law_train B F_law_train S
  have L_fr := fn_law_fraction B F_law_fraction D_draw D_pick
  have L_ge := fn_law_gears B F_law_gears D_draw D_pick L_fr
  have L_pd := fn_law_period B F_law_period D_draw D_pick
  have L_tx := fn_law_text B F_law_text L_low
  have L_st := fn_law_stands B F_law_stands L_low
  have L_ta := fn_law_told_alike B F_law_told_alike MM D_pick L_fr L_tx L_tr L_per L_low
  have L_ri := fn_law_right B F_law_right MM D_draw D_drawB L_pd L_fr L_ge L_tr L_per L_low L_mul L_st L_ta
  exact (fn_entry FL sc_law (fun _ _ _ _ _ _ us hl => match us, hl with | [_], _ => rfl) (by decide) (by tm_at "g_len") (law_body B D_pen L_ri MM tk_T0)).mono (by decide)
theorem walk {l : PySem.W.OpenLaw} {q : Program} {loose : List Str} {XP : (Str → Option Value) → Heap → Prop} {YP : World → Heap → Prop} {d : DefRec} {K : Params → PySem.W.Frag} (hn : l.most = some 63) (hdf : d.params.defaults = [])
    (hY : ∀ (w : World) (h : Heap), YP w h → (K w.params).In h)
    (F : ∀ (w : World) (mg : Str → Option Value) (fa : Addr) (h : Heap), (K w.params).In h → h.Ns mainGlobals mg → mg d.name = some (.ref fa) → LawG q l.prog w (K w.params) 13 mg fa) : PySem.W.WalkO q loose XP YP l.row.toRowW d [] (fun f vs => PySem.call f vs) :=
  walkG (n := 63) hn (by decide) hdf ⟨rfl, by decide, by decide⟩ hY F
end T
open PySem PySem.W PyProof.Rows G in
set_option maxRecDepth 100000 in
set_option maxHeartbeats 0 in
theorem PySem.Challenge.cw_wheelreach_k74_trains_made_and_read_holds : PySem.Challenge.rw_wheelreach_k74_trains_made_and_read.Holds := by
  refine T.headT ?_
  k_fill
  refine T.walk (l := PySem.Challenge.rw_wheelreach_k74_trains_made_and_read) rfl rfl (fun w h Y => by first | exact PySem.W.kIn_of Y | exact PySem.W.km_in_of Y) ?F
  case F =>
    intro w mg fa h KX G hmg
    refine' T.all_mk KX G hmg ?a0 ?l0 ?c0 ?k0 ?a1 ?l1 ?c1 ?k1 ?a2 ?l2 ?c2 ?k2 ?a3 ?l3 ?c3 ?k3 ?a4 ?l4 ?c4 ?k4 ?a5 ?l5 ?c5 ?k5 ?a6 ?l6 ?c6 ?k6 ?a7 ?l7 ?c7 ?k7 ?a8 ?l8 ?c8 ?k8 ?a9 ?l9 ?c9 ?k9 ?a10 ?l10 ?c10 ?k10 ?a11 ?l11 ?c11 ?k11 ?a12 ?l12 ?c12 ?k12 ?a13 ?l13 ?c13 ?k13 ?a14 ?l14 ?c14 ?k14 ?a15 ?l15 ?c15 ?k15 ?a16 ?l16 ?c16 ?k16 ?a17 ?l17 ?c17 ?k17 ?a18 ?l18 ?c18 ?k18 ?a19 ?l19 ?c19 ?k19 ?a20 ?l20 ?c20 ?k20 ?a21 ?l21 ?c21 ?k21 ?a22 ?l22 ?c22 ?k22 ?a23 ?l23 ?c23 ?k23 ?a24 ?l24 ?c24 ?k24 ?a25 ?l25 ?c25 ?k25 ?a26 ?l26 ?c26 ?k26 ?a27 ?l27 ?c27 ?k27 ?a28 ?l28 ?c28 ?k28 ?a29 ?l29 ?c29 ?k29 ?a30 ?l30 ?c30 ?k30 ?a31 ?l31 ?c31 ?k31 ?a32 ?l32 ?c32 ?k32 ?z0 ?z1 ?z2 ?z3 ?z4 ?z5 ?z6 ?z7 ?z8 ?z9 ?z10 ?z11 ?z12 ?z13 ?z14 ?z15 ?z16 ?z17 ?z18 ?z19 ?z20 ?z21 ?z22 ?z23 ?z24 ?z25 ?zs ?op ?g1 ?g2 ?g3 ?E_0 ?e0_0 ?E_1 ?e1_0 ?E_2 ?e2_0 ?E_3 ?e3_0 ?e3_1 ?E_4 ?e4_0 ?E_5 ?e5_0 ?e5_1 ?d0 ?oa_Train ?ob_Train ?oc_Train ?od_Train ?oe_Train ?of_Train ?og_Train ?oh_Train ?oi_Train ?ma_Train_init ?ml_Train_init ?mc_Train_init ?mk_Train_init ?mi_Train_init ?mn0_Train_init ?mw0_Train_init ?zl_T0 ?zc_T0 ?zt_T0 ?zw0_T0 ?zw1_T0 ?ka_Train ?kb_Train ?ma_Train_len ?ml_Train_len ?mc_Train_len ?mk_Train_len ?mi_Train_len ?ma_Train_iter ?ml_Train_iter ?mc_Train_iter ?mk_Train_iter ?mi_Train_iter ?ma_Train_getitem ?ml_Train_getitem ?mc_Train_getitem ?mk_Train_getitem ?mi_Train_getitem ?ma_Train_stands ?ml_Train_stands ?mc_Train_stands ?mk_Train_stands ?mi_Train_stands ?ma_Train_add ?ml_Train_add ?mc_Train_add ?mk_Train_add ?mi_Train_add ?ma_Train_eq ?ml_Train_eq ?mc_Train_eq ?mk_Train_eq ?mi_Train_eq ?ma_Train_str ?ml_Train_str ?mc_Train_str ?mk_Train_str ?mi_Train_str ?ma_Train_again ?mb_Train_again ?ml_Train_again ?mc_Train_again ?mk_Train_again ?mi_Train_again ?pa_Train_again ?pb_Train_again ?pc_Train_again ?pd_Train_again ?ma_Train_read ?mb_Train_read ?ml_Train_read ?mc_Train_read ?mk_Train_read ?mi_Train_read ?ta_Train_read ?tb_Train_read ?tc_Train_read ?xa_Train_stands ?qa_Train ?qb_Train ?ua_Train ?ub_Train_add ?uc_Train_add_tuple ?ud_Train_add_tuple ?ue_Train_add_tuple ?uf_Train_tuple ?no_Train_own_gears ?no_Train_periods ?no_Train_slips ?no_Train_unit ?ga_MOST_UNITS ?r_MOST_UNITS ?ga_MOST_TEETH ?r_MOST_TEETH ?ga_MOST_GEARS ?r_MOST_GEARS ?ga_FIGURES ?r_FIGURES ?ga_MOST_FIGURES ?r_MOST_FIGURES ?xkk ?xnf ?xnfs ?xkks ?xfi
    (case a0 => k_is)
    (case l0 => k_is)
    (case c0 => k_is)
    (case k0 => k_is)
    (case a1 => k_is)
    (case l1 => k_is)
    (case c1 => k_is)
    (case k1 => k_is)
    (case a2 => k_is)
    (case l2 => k_is)
    (case c2 => k_is)
    (case k2 => k_is)
    (case a3 => k_is)
    (case l3 => k_is)
    (case c3 => k_is)
    (case k3 => k_is)
    (case a4 => k_is)
    (case l4 => k_is)
    (case c4 => k_is)
    (case k4 => k_is)
    (case a5 => k_is)
    (case l5 => k_is)
    (case c5 => k_is)
    (case k5 => k_is)
    (case a6 => k_is)
    (case l6 => k_is)
    (case c6 => k_is)
    (case k6 => k_is)
    (case a7 => k_is)
    (case l7 => k_is)
    (case c7 => k_is)
    (case k7 => k_is)
    (case a8 => k_is)
    (case l8 => k_is)
    (case c8 => k_is)
    (case k8 => k_is)
    (case a9 => k_is)
    (case l9 => k_is)
    (case c9 => k_is)
    (case k9 => k_is)
    (case a10 => k_is)
    (case l10 => k_is)
    (case c10 => k_is)
    (case k10 => k_is)
    (case a11 => k_is)
    (case l11 => k_is)
    (case c11 => k_is)
    (case k11 => k_is)
    (case a12 => k_is)
    (case l12 => k_is)
    (case c12 => k_is)
    (case k12 => k_is)
    (case a13 => k_is)
    (case l13 => k_is)
    (case c13 => k_is)
    (case k13 => k_is)
    (case a14 => k_is)
    (case l14 => k_is)
    (case c14 => k_is)
    (case k14 => k_is)
    (case a15 => k_is)
    (case l15 => k_is)
    (case c15 => k_is)
    (case k15 => k_is)
    (case a16 => k_is)
    (case l16 => k_is)
    (case c16 => k_is)
    (case k16 => k_is)
    (case a17 => k_is)
    (case l17 => k_is)
    (case c17 => k_is)
    (case k17 => k_is)
    (case a18 => k_is)
    (case l18 => k_is)
    (case c18 => k_is)
    (case k18 => k_is)
    (case a19 => k_is)
    (case l19 => k_is)
    (case c19 => k_is)
    (case k19 => k_is)
    (case a20 => k_is)
    (case l20 => k_is)
    (case c20 => k_is)
    (case k20 => k_is)
    (case a21 => k_is)
    (case l21 => k_is)
    (case c21 => k_is)
    (case k21 => k_is)
    (case a22 => k_is)
    (case l22 => k_is)
    (case c22 => k_is)
    (case k22 => k_is)
    (case a23 => k_is)
    (case l23 => k_is)
    (case c23 => k_is)
    (case k23 => k_is)
    (case a24 => k_is)
    (case l24 => k_is)
    (case c24 => k_is)
    (case k24 => k_is)
    (case a25 => k_is)
    (case l25 => k_is)
    (case c25 => k_is)
    (case k25 => k_is)
    (case a26 => k_is)
    (case l26 => k_is)
    (case c26 => k_is)
    (case k26 => k_is)
    (case a27 => k_is)
    (case l27 => k_is)
    (case c27 => k_is)
    (case k27 => k_is)
    (case a28 => k_is)
    (case l28 => k_is)
    (case c28 => k_is)
    (case k28 => k_is)
    (case a29 => k_is)
    (case l29 => k_is)
    (case c29 => k_is)
    (case k29 => k_is)
    (case a30 => k_is)
    (case l30 => k_is)
    (case c30 => k_is)
    (case k30 => k_is)
    (case a31 => k_is)
    (case l31 => k_is)
    (case c31 => k_is)
    (case k31 => k_is)
    (case a32 => k_is)
    (case l32 => k_is)
    (case c32 => k_is)
    (case k32 => k_is)
    (case z0 => k_is)
    (case z1 => k_is)
    (case z2 => k_is)
    (case z3 => k_is)
    (case z4 => k_is)
    (case z5 => k_is)
    (case z6 => k_is)
    (case z7 => k_is)
    (case z8 => k_is)
    (case z9 => k_is)
    (case z10 => k_is)
    (case z11 => k_is)
    (case z12 => k_is)
    (case z13 => k_is)
    (case z14 => k_is)
    (case z15 => k_is)
    (case z16 => k_is)
    (case z17 => k_is)
    (case z18 => k_is)
    (case z19 => k_is)
    (case z20 => k_is)
    (case z21 => k_is)
    (case z22 => k_is)
    (case z23 => k_is)
    (case z24 => k_is)
    (case z25 => k_is)
    (case zs => k_is)
    (case op => k_is)
    (case g1 => k_is)
    (case g2 => k_is)
    (case g3 => rfl)
    (case E_0 => (refine' ErrFacts.mk ?y_a1 ?y_a2 ?y_a3 ?y_a4 ?y_a5 ?y_a6 ?y_a7 ?y_a8 ?y_a9 ?y_b1 ?y_b2 ?y_b3 ?y_b4 ?y_b5 ?y_b6 ?y_b7 ?y_b8 ?y_b9 ?y_c1 ?y_c2 ?y_c3 ?y_c4 ?y_c5 ?y_c6; (case y_a1 => k_is); (case y_a2 => k_is); (case y_a3 => rfl); (case y_a4 => k_is); (case y_a5 => k_is); (case y_a6 => k_is); (case y_a7 => k_is); (case y_a8 => k_is); (case y_a9 => k_is); (case y_b1 => first | kernel_rfl | rfl | decide +kernel); (case y_b2 => k_is); (case y_b3 => k_is); (case y_b4 => k_is); (case y_b5 => k_is); (case y_b6 => k_is); (case y_b7 => k_is); (case y_b8 => rfl); (case y_b9 => rfl); (case y_c1 => k_is); (case y_c2 => k_is); (case y_c3 => k_is); (case y_c4 => k_is); (case y_c5 => k_is); (case y_c6 => k_is)))
    (case e0_0 => k_is)
    (case E_1 => (refine' ErrFacts.mk ?y_a1 ?y_a2 ?y_a3 ?y_a4 ?y_a5 ?y_a6 ?y_a7 ?y_a8 ?y_a9 ?y_b1 ?y_b2 ?y_b3 ?y_b4 ?y_b5 ?y_b6 ?y_b7 ?y_b8 ?y_b9 ?y_c1 ?y_c2 ?y_c3 ?y_c4 ?y_c5 ?y_c6; (case y_a1 => k_is); (case y_a2 => k_is); (case y_a3 => rfl); (case y_a4 => k_is); (case y_a5 => k_is); (case y_a6 => k_is); (case y_a7 => k_is); (case y_a8 => k_is); (case y_a9 => k_is); (case y_b1 => first | kernel_rfl | rfl | decide +kernel); (case y_b2 => k_is); (case y_b3 => k_is); (case y_b4 => k_is); (case y_b5 => k_is); (case y_b6 => k_is); (case y_b7 => k_is); (case y_b8 => rfl); (case y_b9 => rfl); (case y_c1 => k_is); (case y_c2 => k_is); (case y_c3 => k_is); (case y_c4 => k_is); (case y_c5 => k_is); (case y_c6 => k_is)))
    (case e1_0 => k_is)
    (case E_2 => (refine' ErrFacts.mk ?y_a1 ?y_a2 ?y_a3 ?y_a4 ?y_a5 ?y_a6 ?y_a7 ?y_a8 ?y_a9 ?y_b1 ?y_b2 ?y_b3 ?y_b4 ?y_b5 ?y_b6 ?y_b7 ?y_b8 ?y_b9 ?y_c1 ?y_c2 ?y_c3 ?y_c4 ?y_c5 ?y_c6; (case y_a1 => k_is); (case y_a2 => k_is); (case y_a3 => rfl); (case y_a4 => k_is); (case y_a5 => k_is); (case y_a6 => k_is); (case y_a7 => k_is); (case y_a8 => k_is); (case y_a9 => k_is); (case y_b1 => first | kernel_rfl | rfl | decide +kernel); (case y_b2 => k_is); (case y_b3 => k_is); (case y_b4 => k_is); (case y_b5 => k_is); (case y_b6 => k_is); (case y_b7 => k_is); (case y_b8 => rfl); (case y_b9 => rfl); (case y_c1 => k_is); (case y_c2 => k_is); (case y_c3 => k_is); (case y_c4 => k_is); (case y_c5 => k_is); (case y_c6 => k_is)))
    (case e2_0 => k_is)
    (case E_3 => (refine' ErrFacts.mk ?y_a1 ?y_a2 ?y_a3 ?y_a4 ?y_a5 ?y_a6 ?y_a7 ?y_a8 ?y_a9 ?y_b1 ?y_b2 ?y_b3 ?y_b4 ?y_b5 ?y_b6 ?y_b7 ?y_b8 ?y_b9 ?y_c1 ?y_c2 ?y_c3 ?y_c4 ?y_c5 ?y_c6; (case y_a1 => k_is); (case y_a2 => k_is); (case y_a3 => rfl); (case y_a4 => k_is); (case y_a5 => k_is); (case y_a6 => k_is); (case y_a7 => k_is); (case y_a8 => k_is); (case y_a9 => k_is); (case y_b1 => first | kernel_rfl | rfl | decide +kernel); (case y_b2 => k_is); (case y_b3 => k_is); (case y_b4 => k_is); (case y_b5 => k_is); (case y_b6 => k_is); (case y_b7 => k_is); (case y_b8 => rfl); (case y_b9 => rfl); (case y_c1 => k_is); (case y_c2 => k_is); (case y_c3 => k_is); (case y_c4 => k_is); (case y_c5 => k_is); (case y_c6 => k_is)))
    (case e3_0 => k_is)
    (case e3_1 => k_is)
    (case E_4 => (refine' ErrFacts.mk ?y_a1 ?y_a2 ?y_a3 ?y_a4 ?y_a5 ?y_a6 ?y_a7 ?y_a8 ?y_a9 ?y_b1 ?y_b2 ?y_b3 ?y_b4 ?y_b5 ?y_b6 ?y_b7 ?y_b8 ?y_b9 ?y_c1 ?y_c2 ?y_c3 ?y_c4 ?y_c5 ?y_c6; (case y_a1 => k_is); (case y_a2 => k_is); (case y_a3 => rfl); (case y_a4 => k_is); (case y_a5 => k_is); (case y_a6 => k_is); (case y_a7 => k_is); (case y_a8 => k_is); (case y_a9 => k_is); (case y_b1 => first | kernel_rfl | rfl | decide +kernel); (case y_b2 => k_is); (case y_b3 => k_is); (case y_b4 => k_is); (case y_b5 => k_is); (case y_b6 => k_is); (case y_b7 => k_is); (case y_b8 => rfl); (case y_b9 => rfl); (case y_c1 => k_is); (case y_c2 => k_is); (case y_c3 => k_is); (case y_c4 => k_is); (case y_c5 => k_is); (case y_c6 => k_is)))
    (case e4_0 => k_is)
    (case E_5 => (refine' ErrFacts.mk ?y_a1 ?y_a2 ?y_a3 ?y_a4 ?y_a5 ?y_a6 ?y_a7 ?y_a8 ?y_a9 ?y_b1 ?y_b2 ?y_b3 ?y_b4 ?y_b5 ?y_b6 ?y_b7 ?y_b8 ?y_b9 ?y_c1 ?y_c2 ?y_c3 ?y_c4 ?y_c5 ?y_c6; (case y_a1 => k_is); (case y_a2 => k_is); (case y_a3 => rfl); (case y_a4 => k_is); (case y_a5 => k_is); (case y_a6 => k_is); (case y_a7 => k_is); (case y_a8 => k_is); (case y_a9 => k_is); (case y_b1 => first | kernel_rfl | rfl | decide +kernel); (case y_b2 => k_is); (case y_b3 => k_is); (case y_b4 => k_is); (case y_b5 => k_is); (case y_b6 => k_is); (case y_b7 => k_is); (case y_b8 => rfl); (case y_b9 => rfl); (case y_c1 => k_is); (case y_c2 => k_is); (case y_c3 => k_is); (case y_c4 => k_is); (case y_c5 => k_is); (case y_c6 => k_is)))
    (case e5_0 => k_is)
    (case e5_1 => k_is)
    (case d0 => k_is)
    (case oa_Train => k_is)
    (case ob_Train => k_is)
    (case oc_Train => k_is)
    (case od_Train => k_is)
    (case oe_Train => k_is)
    (case of_Train => k_is)
    (case og_Train => k_is)
    (case oh_Train => k_is)
    (case oi_Train => k_is)
    (case ma_Train_init => k_is)
    (case ml_Train_init => k_is)
    (case mc_Train_init => k_is)
    (case mk_Train_init => k_is)
    (case mi_Train_init => k_is)
    (case mn0_Train_init => k_is)
    (case mw0_Train_init => first | exact rfl | exact ⟨_, rfl⟩)
    (case zl_T0 => k_is)
    (case zc_T0 => rfl)
    (case zt_T0 => rfl)
    (case zw0_T0 => first | exact rfl | exact ⟨_, rfl⟩)
    (case zw1_T0 => first | exact rfl | exact ⟨_, rfl⟩)
    (case ka_Train => k_is)
    (case kb_Train => k_is)
    (case ma_Train_len => k_is)
    (case ml_Train_len => k_is)
    (case mc_Train_len => k_is)
    (case mk_Train_len => k_is)
    (case mi_Train_len => k_is)
    (case ma_Train_iter => k_is)
    (case ml_Train_iter => k_is)
    (case mc_Train_iter => k_is)
    (case mk_Train_iter => k_is)
    (case mi_Train_iter => k_is)
    (case ma_Train_getitem => k_is)
    (case ml_Train_getitem => k_is)
    (case mc_Train_getitem => k_is)
    (case mk_Train_getitem => k_is)
    (case mi_Train_getitem => k_is)
    (case ma_Train_stands => k_is)
    (case ml_Train_stands => k_is)
    (case mc_Train_stands => k_is)
    (case mk_Train_stands => k_is)
    (case mi_Train_stands => k_is)
    (case ma_Train_add => k_is)
    (case ml_Train_add => k_is)
    (case mc_Train_add => k_is)
    (case mk_Train_add => k_is)
    (case mi_Train_add => k_is)
    (case ma_Train_eq => k_is)
    (case ml_Train_eq => k_is)
    (case mc_Train_eq => k_is)
    (case mk_Train_eq => k_is)
    (case mi_Train_eq => k_is)
    (case ma_Train_str => k_is)
    (case ml_Train_str => k_is)
    (case mc_Train_str => k_is)
    (case mk_Train_str => k_is)
    (case mi_Train_str => k_is)
    (case ma_Train_again => k_is)
    (case mb_Train_again => k_is)
    (case ml_Train_again => k_is)
    (case mc_Train_again => k_is)
    (case mk_Train_again => k_is)
    (case mi_Train_again => k_is)
    (case pa_Train_again => k_is)
    (case pb_Train_again => k_is)
    (case pc_Train_again => k_is)
    (case pd_Train_again => k_is)
    (case ma_Train_read => k_is)
    (case mb_Train_read => k_is)
    (case ml_Train_read => k_is)
    (case mc_Train_read => k_is)
    (case mk_Train_read => k_is)
    (case mi_Train_read => k_is)
    (case ta_Train_read => first | k_is | kernel_rfl | rfl | decide +kernel)
    (case tb_Train_read => first | k_is | kernel_rfl | rfl | decide +kernel)
    (case tc_Train_read => first | kernel_rfl | rfl | k_is)
    (case xa_Train_stands => k_is)
    (case qa_Train => k_is)
    (case qb_Train => k_is)
    (case ua_Train => first | k_is | kernel_rfl | rfl | decide +kernel)
    (case ub_Train_add => k_is)
    (case uc_Train_add_tuple => k_is)
    (case ud_Train_add_tuple => k_is)
    (case ue_Train_add_tuple => k_is)
    (case uf_Train_tuple => first | k_is | kernel_rfl | rfl | decide +kernel)
    (case no_Train_own_gears => k_is)
    (case no_Train_periods => k_is)
    (case no_Train_slips => k_is)
    (case no_Train_unit => k_is)
    (case ga_MOST_UNITS => k_is)
    (case r_MOST_UNITS => first | exact rfl | exact ⟨_, rfl⟩)
    (case ga_MOST_TEETH => k_is)
    (case r_MOST_TEETH => first | exact rfl | exact ⟨_, rfl⟩)
    (case ga_MOST_GEARS => k_is)
    (case r_MOST_GEARS => first | exact rfl | exact ⟨_, rfl⟩)
    (case ga_FIGURES => k_is)
    (case r_FIGURES => first | exact rfl | exact ⟨_, rfl⟩)
    (case ga_MOST_FIGURES => k_is)
    (case r_MOST_FIGURES => first | exact rfl | exact ⟨_, rfl⟩)
    (case xkk => first | kts_exm | kit_is | k_is | decide +kernel)
    (case xnf => first | kts_exm | kit_is | k_is | decide +kernel)
    (case xnfs => first | kts_exm | kit_is | k_is | decide +kernel)
    (case xkks => first | kts_exm | kit_is | k_is | decide +kernel)
    (case xfi => first | kts_exm | kit_is | k_is | decide +kernel)
