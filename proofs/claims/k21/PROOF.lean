import PyProof.Rows.All
import Wide.All
import OpenK.AllK
import Wide.FinOn
import HandS.ForMost
import HandS.ForExc
import HandS.Wide
import HandS.Star
import HandS.IsInst
import HandS.Style
import HandS.Flow
import HandS.Lambda
import HandS.EndTab
import HandS.Nested
import HandS.Comp
import HandS.ExcInit
import HandS.ExcField
import HandS.ExcOwn
import HandS.ExcIs
import KE.KExcSuper
import HandS.Walk
import HandS.Zip
import HandS.Rev
import HandS.Iter
import HandS.RaiseMore
import PyProof.Rows.NestShow
import HandS.CallLocal
import PyProof.ReprLen
import PyProof.Rows.ReprItems
import PyProof.Rows.RegStrFacts
import HandS.MakeKw
import HandS.MakeKwOnly
import HandS.Property
import KE.KSuper
import PyProof.InstEq
import HandS.SortInts
import KE.GoesMore
import KE.DataMinMax
import HandS.SlotsOwn
import HandS.ClsMeth
import HandS.FStr
import HandS.SetFor
import KE.KCallOwn
import HandS.ExcValue
import HandS.SortRule
import HandS.New0
import HandS.IterVal
import OpenK.KMeth
import KE.KOwnIter
import HandS.DictSub
import KE.KOpsOwn
import KE.KStar
import KE.GoesZip
import KE.GoesEnum
import PyProof.LongRange
import PyProof.NoPylong
import HandS.OwnEq
import KE.OsRunLaw
import OpenK.KOps
import HandS.ListEq
import HandS.Conv
import PySem.Challenge.RW_wheelreach_k21_whole_far_members_of_join
set_option Elab.async false
set_option linter.all false
set_option maxRecDepth 100000
set_option maxHeartbeats 4000000
namespace T
set_option maxHeartbeats 0
section
open PySem PySem.W PySem.Calls PyProof.Rows HeadRun
theorem splitRun {α β γ : Type} {o : Option α} {f : α → β} {g : α → γ} {a : β} {b : γ} (h1 : o.map f = some a) (h2 : o.map g = some b) : o.map (fun s => (f s, g s)) = some (a, b) := by
  cases o with
  | none => cases h1
  | some s =>
    have e1 : f s = a := Option.some.inj h1
    have e2 : g s = b := Option.some.inj h2
    rw [← e1, ← e2]
    rfl
theorem joinRun {α β γ : Type} {o : Option α} {f : α → β × γ} {a : β} {b : γ} (h1 : o.map (fun s => (f s).1) = some a) (h2 : o.map (fun s => (f s).2) = some b) : o.map f = some (a, b) := by
  cases o with
  | none => cases h1
  | some s =>
    have e1 : (f s).1 = a := Option.some.inj h1
    have e2 : (f s).2 = b := Option.some.inj h2
    rw [← e1, ← e2]
    rfl
theorem viaRun {α β : Type} {o : Option α} {f g : α → β} {a c : β} (h : o.map f = some a) (e1 : f = g) (e2 : a = c) : o.map g = some c := e1 ▸ e2 ▸ h
def keepAt : List Nat → List Stmt → List Stmt
  | [], _ => []
  | i :: is, l => match l.drop i with | s :: _ => s :: keepAt is l | [] => []
def qv : Program := { (PySem.Challenge.rw_wheelreach_k21_whole_far_members_of_join).row.prog with main := { (Program.main (PySem.Challenge.rw_wheelreach_k21_whole_far_members_of_join).row.prog) with body := keepAt [0, 2, 3, 4, 5, 6, 7, 8, 10, 11, 12, 13, 14, 15, 16, 18, 19, 20, 21, 22, 23, 24, 25, 26, 27, 28, 29, 30, 31, 32, 33, 35, 36, 37, 38, 39, 40, 41, 42, 43, 44, 45, 46, 47, 48, 49, 50, 51, 52, 54, 56, 57, 58, 59, 60, 61, 62, 63, 64, 66, 67, 68, 69, 70, 71, 72, 73, 74] (Module.body (Program.main (PySem.Challenge.rw_wheelreach_k21_whole_far_members_of_join).row.prog)) } }
theorem runA (w : World) (os : OsState) : (endF (stepQ (denQ tabQ) (PySem.Challenge.rw_wheelreach_k21_whole_far_members_of_join).row.prog w) 12652 (PySem.Challenge.rw_wheelreach_k21_whole_far_members_of_join).row.prog w os).map (fun s => looksF (PySem.Challenge.rw_wheelreach_k21_whole_far_members_of_join).row.prog (boot_heap w.params) s.abs) = some true := by kernel_rfl
theorem runP0 (w : World) (os : OsState) : (endF (stepQ (denQ tabQ) (PySem.Challenge.rw_wheelreach_k21_whole_far_members_of_join).row.prog w) 12652 (PySem.Challenge.rw_wheelreach_k21_whole_far_members_of_join).row.prog w os).map (fun s => (seenQ qv [Str.ofString "MOST_PERIOD", Str.ofString "MOST_TIMES", Str.ofString "Lot", Str.ofString "Paper", Str.ofString "Join"] (importedModules (Module.body (Program.main (PySem.Challenge.rw_wheelreach_k21_whole_far_members_of_join).row.prog))) (fun s => xlAt qv [(Str.ofString "MOST_PERIOD", WData.int 10000000000000000000000000000000000000000000000000000000000000000000000000000000000000000000000000000), (Str.ofString "MOST_TIMES", WData.int 1000000000000000000000000000000)] s && recOk [] s) s.abs).1) = some (expectedOf qv) := by kernel_rfl
theorem runP1 (w : World) (os : OsState) : (endF (stepQ (denQ tabQ) (PySem.Challenge.rw_wheelreach_k21_whole_far_members_of_join).row.prog w) 12652 (PySem.Challenge.rw_wheelreach_k21_whole_far_members_of_join).row.prog w os).map (fun s => (seenQ qv [Str.ofString "MOST_PERIOD", Str.ofString "MOST_TIMES", Str.ofString "Lot", Str.ofString "Paper", Str.ofString "Join"] (importedModules (Module.body (Program.main (PySem.Challenge.rw_wheelreach_k21_whole_far_members_of_join).row.prog))) (fun s => xlAt qv [(Str.ofString "MOST_PERIOD", WData.int 10000000000000000000000000000000000000000000000000000000000000000000000000000000000000000000000000000), (Str.ofString "MOST_TIMES", WData.int 1000000000000000000000000000000)] s && recOk [] s) s.abs).2.1) = some bltViewBooted := by kernel_rfl
theorem runP2 (w : World) (os : OsState) : (endF (stepQ (denQ tabQ) (PySem.Challenge.rw_wheelreach_k21_whole_far_members_of_join).row.prog w) 12652 (PySem.Challenge.rw_wheelreach_k21_whole_far_members_of_join).row.prog w os).map (fun s => (seenQ qv [Str.ofString "MOST_PERIOD", Str.ofString "MOST_TIMES", Str.ofString "Lot", Str.ofString "Paper", Str.ofString "Join"] (importedModules (Module.body (Program.main (PySem.Challenge.rw_wheelreach_k21_whole_far_members_of_join).row.prog))) (fun s => xlAt qv [(Str.ofString "MOST_PERIOD", WData.int 10000000000000000000000000000000000000000000000000000000000000000000000000000000000000000000000000000), (Str.ofString "MOST_TIMES", WData.int 1000000000000000000000000000000)] s && recOk [] s) s.abs).2.2.1) = some true := by kernel_rfl
theorem runP3 (w : World) (os : OsState) : (endF (stepQ (denQ tabQ) (PySem.Challenge.rw_wheelreach_k21_whole_far_members_of_join).row.prog w) 12652 (PySem.Challenge.rw_wheelreach_k21_whole_far_members_of_join).row.prog w os).map (fun s => (seenQ qv [Str.ofString "MOST_PERIOD", Str.ofString "MOST_TIMES", Str.ofString "Lot", Str.ofString "Paper", Str.ofString "Join"] (importedModules (Module.body (Program.main (PySem.Challenge.rw_wheelreach_k21_whole_far_members_of_join).row.prog))) (fun s => xlAt qv [(Str.ofString "MOST_PERIOD", WData.int 10000000000000000000000000000000000000000000000000000000000000000000000000000000000000000000000000000), (Str.ofString "MOST_TIMES", WData.int 1000000000000000000000000000000)] s && recOk [] s) s.abs).2.2.2.1) = some true := by kernel_rfl
theorem runP4 (w : World) (os : OsState) : (endF (stepQ (denQ tabQ) (PySem.Challenge.rw_wheelreach_k21_whole_far_members_of_join).row.prog w) 12652 (PySem.Challenge.rw_wheelreach_k21_whole_far_members_of_join).row.prog w os).map (fun s => (seenQ qv [Str.ofString "MOST_PERIOD", Str.ofString "MOST_TIMES", Str.ofString "Lot", Str.ofString "Paper", Str.ofString "Join"] (importedModules (Module.body (Program.main (PySem.Challenge.rw_wheelreach_k21_whole_far_members_of_join).row.prog))) (fun s => xlAt qv [(Str.ofString "MOST_PERIOD", WData.int 10000000000000000000000000000000000000000000000000000000000000000000000000000000000000000000000000000), (Str.ofString "MOST_TIMES", WData.int 1000000000000000000000000000000)] s && recOk [] s) s.abs).2.2.2.2.1) = some (pinGoodD (drecsOf qv)) := by kernel_rfl
theorem runP5 (w : World) (os : OsState) : (endF (stepQ (denQ tabQ) (PySem.Challenge.rw_wheelreach_k21_whole_far_members_of_join).row.prog w) 12652 (PySem.Challenge.rw_wheelreach_k21_whole_far_members_of_join).row.prog w os).map (fun s => (seenQ qv [Str.ofString "MOST_PERIOD", Str.ofString "MOST_TIMES", Str.ofString "Lot", Str.ofString "Paper", Str.ofString "Join"] (importedModules (Module.body (Program.main (PySem.Challenge.rw_wheelreach_k21_whole_far_members_of_join).row.prog))) (fun s => xlAt qv [(Str.ofString "MOST_PERIOD", WData.int 10000000000000000000000000000000000000000000000000000000000000000000000000000000000000000000000000000), (Str.ofString "MOST_TIMES", WData.int 1000000000000000000000000000000)] s && recOk [] s) s.abs).2.2.2.2.2.1) = some (plainGoodE qv (looseW qv [Str.ofString "MOST_PERIOD", Str.ofString "MOST_TIMES", Str.ofString "Lot", Str.ofString "Paper", Str.ofString "Join"])) := by kernel_rfl
theorem runP6 (w : World) (os : OsState) : (endF (stepQ (denQ tabQ) (PySem.Challenge.rw_wheelreach_k21_whole_far_members_of_join).row.prog w) 12652 (PySem.Challenge.rw_wheelreach_k21_whole_far_members_of_join).row.prog w os).map (fun s => (seenQ qv [Str.ofString "MOST_PERIOD", Str.ofString "MOST_TIMES", Str.ofString "Lot", Str.ofString "Paper", Str.ofString "Join"] (importedModules (Module.body (Program.main (PySem.Challenge.rw_wheelreach_k21_whole_far_members_of_join).row.prog))) (fun s => xlAt qv [(Str.ofString "MOST_PERIOD", WData.int 10000000000000000000000000000000000000000000000000000000000000000000000000000000000000000000000000000), (Str.ofString "MOST_TIMES", WData.int 1000000000000000000000000000000)] s && recOk [] s) s.abs).2.2.2.2.2.2.1) = some (plainGoodD qv [Str.ofString "MOST_PERIOD", Str.ofString "MOST_TIMES", Str.ofString "Lot", Str.ofString "Paper", Str.ofString "Join"]) := by kernel_rfl
theorem runP7 (w : World) (os : OsState) : (endF (stepQ (denQ tabQ) (PySem.Challenge.rw_wheelreach_k21_whole_far_members_of_join).row.prog w) 12652 (PySem.Challenge.rw_wheelreach_k21_whole_far_members_of_join).row.prog w os).map (fun s => (seenQ qv [Str.ofString "MOST_PERIOD", Str.ofString "MOST_TIMES", Str.ofString "Lot", Str.ofString "Paper", Str.ofString "Join"] (importedModules (Module.body (Program.main (PySem.Challenge.rw_wheelreach_k21_whole_far_members_of_join).row.prog))) (fun s => xlAt qv [(Str.ofString "MOST_PERIOD", WData.int 10000000000000000000000000000000000000000000000000000000000000000000000000000000000000000000000000000), (Str.ofString "MOST_TIMES", WData.int 1000000000000000000000000000000)] s && recOk [] s) s.abs).2.2.2.2.2.2.2.1) = some (wideGood qv) := by kernel_rfl
theorem runP8 (w : World) (os : OsState) : (endF (stepQ (denQ tabQ) (PySem.Challenge.rw_wheelreach_k21_whole_far_members_of_join).row.prog w) 12652 (PySem.Challenge.rw_wheelreach_k21_whole_far_members_of_join).row.prog w os).map (fun s => (seenQ qv [Str.ofString "MOST_PERIOD", Str.ofString "MOST_TIMES", Str.ofString "Lot", Str.ofString "Paper", Str.ofString "Join"] (importedModules (Module.body (Program.main (PySem.Challenge.rw_wheelreach_k21_whole_far_members_of_join).row.prog))) (fun s => xlAt qv [(Str.ofString "MOST_PERIOD", WData.int 10000000000000000000000000000000000000000000000000000000000000000000000000000000000000000000000000000), (Str.ofString "MOST_TIMES", WData.int 1000000000000000000000000000000)] s && recOk [] s) s.abs).2.2.2.2.2.2.2.2) = some (clsGoodW qv [Str.ofString "MOST_PERIOD", Str.ofString "MOST_TIMES", Str.ofString "Lot", Str.ofString "Paper", Str.ofString "Join"]) := by kernel_rfl
theorem runS (w : World) (os : OsState) : (endF (stepQ (denQ tabQ) (PySem.Challenge.rw_wheelreach_k21_whole_far_members_of_join).row.prog w) 12652 (PySem.Challenge.rw_wheelreach_k21_whole_far_members_of_join).row.prog w os).map (fun s => (seenQ qv [Str.ofString "MOST_PERIOD", Str.ofString "MOST_TIMES", Str.ofString "Lot", Str.ofString "Paper", Str.ofString "Join"] (importedModules (Module.body (Program.main (PySem.Challenge.rw_wheelreach_k21_whole_far_members_of_join).row.prog))) (fun s => xlAt qv [(Str.ofString "MOST_PERIOD", WData.int 10000000000000000000000000000000000000000000000000000000000000000000000000000000000000000000000000000), (Str.ofString "MOST_TIMES", WData.int 1000000000000000000000000000000)] s && recOk [] s) s.abs)) = some ((expectedOf qv), bltViewBooted, true, true, (pinGoodD (drecsOf qv)), (plainGoodE qv (looseW qv [Str.ofString "MOST_PERIOD", Str.ofString "MOST_TIMES", Str.ofString "Lot", Str.ofString "Paper", Str.ofString "Join"])), (plainGoodD qv [Str.ofString "MOST_PERIOD", Str.ofString "MOST_TIMES", Str.ofString "Lot", Str.ofString "Paper", Str.ofString "Join"]), (wideGood qv), (clsGoodW qv [Str.ofString "MOST_PERIOD", Str.ofString "MOST_TIMES", Str.ofString "Lot", Str.ofString "Paper", Str.ofString "Join"])) := (joinRun (runP0 w os) (joinRun (runP1 w os) (joinRun (runP2 w os) (joinRun (runP3 w os) (joinRun (runP4 w os) (joinRun (runP5 w os) (joinRun (runP6 w os) (joinRun (runP7 w os) (runP8 w os)))))))))
end
section
local macro_rules | `(tactic| k_head) => `(tactic| k_headL)
local macro_rules | `(tactic| kernel_rfl) => `(tactic| ((with_reducible refine T.splitRun (T.runA _ _) ?_); (with_reducible refine T.splitRun ?_ ?_); (with_reducible refine T.viaRun (T.runS _ _) ?_ ?_); kernel_rfl; kernel_rfl; kernel_rfl))
open PySem PySem.W PyProof.Rows
open_top headT for PySem.Challenge.rw_wheelreach_k21_whole_far_members_of_join
end
end T
set_option Elab.async false
set_option linter.all false
set_option maxRecDepth 100000
set_option maxHeartbeats 4000000
namespace G
open PySem PySem.Spec PyProof.Rows L2
abbrev En := List (Str × Option V)
abbrev Lg := List (Addr × HO)
def names (η : En) : List Str := η.map (·.1)
def vals (η : En) : L2.St := η.map (·.2)
/-- the mark of a code object's table in a ledger: what stands in it are code objects named q -/
def tabM (q : Str) : HO := .tbl #[.str q 0]
/-- what an entry says -/
def holds (H : Hp) (a : Addr) : HO → Prop
  | .tbl m => ∃ q, HO.tbl m = tabM q ∧ LamX.TabS H a q
  | o => H a = some o
/-- neither a table nor a thing told by a predicate -/
def plain : HO → Bool
  | .tbl _ => false
  | .ext _ => false
  | _ => true
def notab : HO → Bool
  | .tbl _ => false
  | _ => true
theorem holds_of {H : Hp} {a : Addr} {o : HO} (n : notab o = true) (h : H a = some o) : holds H a o := by
  cases o <;> first | exact h | cases n
theorem holds_get {H : Hp} {a : Addr} {o : HO} (n : notab o = true) (h : holds H a o) : H a = some o := by
  cases o <;> first | exact h | cases n
theorem holds_tab' {H : Hp} {a : Addr} {q : Str} (h : LamX.TabS H a q) : holds H a (tabM q) := ⟨q, rfl, h⟩
theorem plain_notab {o : HO} (h : plain o = true) : notab o = true := by
  cases o <;> first | rfl | cases h
theorem holds_some {H : Hp} {a : Addr} {o : HO} (h : holds H a o) : ∃ u, H a = some u := by
  cases o with
  | tbl m =>
    obtain ⟨q, _, ps, e, _⟩ := h
    exact ⟨_, e⟩
  | _ => exact ⟨_, h⟩
theorem holds_grow {H H' : Hp} {a : Addr} {o : HO} (g : ∀ b u, H b = some u → H' b = some u) (h : holds H a o) : holds H' a o := by
  cases o with
  | tbl m =>
    obtain ⟨q, e, t⟩ := h
    exact ⟨q, e, t.ext g⟩
  | _ => exact g _ _ h
theorem holds_upd {H : Hp} {a p : Addr} {o u v : HO} (e : H p = some u) (n : plain u = true) (ne : a ≠ p) (h : holds H a o) : holds (upd H p v) a o := by
  cases o with
  | tbl m =>
    obtain ⟨q, em, ps, e1, t2, t3⟩ := h
    refine ⟨q, em, ps, by rw [upd_ne ne]; exact e1, t2, fun pos cv hc => ?_⟩
    obtain ⟨c, e2, e3⟩ := t3 pos cv hc
    refine ⟨c, e2, ?_⟩
    rw [upd_ne fun z => ?_]
    · exact e3
    · rw [z, e] at e3
      rw [Option.some.inj e3] at n
      cases n
  | _ => exact (upd_ne ne).trans h
def Has (H : Hp) (L : Lg) : Prop := (L.map (·.1)).Nodup ∧ ∀ e ∈ L, holds H e.1 e.2
inductive At (x : Str) (v : V) : En → Prop
  | here {η : En} : At x v ((x, some v) :: η)
  | there {e : Str × Option V} {η : En} : At x v η → At x v (e :: η)
inductive Put (x : Str) (v : V) : En → En → Prop
  | here {o : Option V} {η : En} : Put x v ((x, o) :: η) ((x, some v) :: η)
  | there {e : Str × Option V} {η θ : En} : Put x v η θ → Put x v (e :: η) (e :: θ)
theorem At.idx {x : Str} {v : V} {η : En} (h : At x v η) : ∃ i : Nat, (names η)[i]? = some x ∧ (vals η)[i]? = some (some v) := by
  induction h with
  | here => exact ⟨0, rfl, rfl⟩
  | there _ ih =>
    obtain ⟨i, a, b⟩ := ih
    exact ⟨i + 1, a, b⟩
theorem Put.idx {x : Str} {v : V} {η θ : En} (h : Put x v η θ) : ∃ i : Nat, (names η)[i]? = some x ∧ vals θ = (vals η).set i (some v) ∧ names θ = names η := by
  induction h with
  | here => exact ⟨0, rfl, rfl, rfl⟩
  | there _ ih =>
    obtain ⟨i, a, b, c⟩ := ih
    refine ⟨i + 1, a, ?_, ?_⟩
    · show _ :: vals _ = _ :: (vals _).set i (some v)
      rw [b] <;> rfl
    · show _ :: names _ = _ :: names _
      rw [c] <;> rfl
/-- the environment with x set, as a function of what is put -/
inductive PutF (x : Str) : En → (V → En) → Prop
  | here {o : Option V} {η : En} : PutF x ((x, o) :: η) (fun v => (x, some v) :: η)
  | there {e : Str × Option V} {η : En} {f : V → En} : PutF x η f → PutF x (e :: η) (fun v => e :: f v)
theorem PutF.idx {x : Str} {η : En} {f : V → En} (h : PutF x η f) : ∃ i : Nat, (names η)[i]? = some x ∧ ∀ v, vals (f v) = (vals η).set i (some v) ∧ names (f v) = names η := by
  induction h with
  | here => exact ⟨0, rfl, fun _ => ⟨rfl, rfl⟩⟩
  | there _ ih =>
    obtain ⟨i, a, b⟩ := ih
    refine ⟨i + 1, a, fun v => ⟨?_, ?_⟩⟩
    · show _ :: vals _ = _ :: (vals _).set i (some v)
      rw [(b v).1] <;> rfl
    · show _ :: names _ = _ :: names _
      rw [(b v).2] <;> rfl
theorem Has.nil {H : Hp} : Has H [] := ⟨List.nodup_nil, fun _ h => absurd h (by simp)⟩
theorem Has.get {H : Hp} {L : Lg} {a : Addr} {o : HO} (h : Has H L) (m : (a, o) ∈ L) (n : notab o = true := by rfl) : H a = some o := holds_get n (h.2 (a, o) m)
theorem Has.out {H : Hp} {L : Lg} {p : Addr} (h : Has H L) (n : H p = none) : p ∉ L.map (·.1) := fun m => by
  obtain ⟨e, he, rfl⟩ := List.mem_map.mp m
  obtain ⟨u, z⟩ := holds_some (h.2 e he)
  rw [z] at n
  cases n
theorem Has.newB {H H' : Hp} {L : Lg} {p : Addr} {o : HO} (h : Has H L) (n : H p = none) (g : ∀ b u, H b = some u → H' b = some u) (x : holds H' p o) : Has H' ((p, o) :: L) := by
  refine ⟨List.nodup_cons.mpr ⟨h.out n, h.1⟩, fun e m => ?_⟩
  rcases List.mem_cons.mp m with rfl | m
  · exact x
  · exact holds_grow g (h.2 e m)
theorem updGrow {H : Hp} {p : Addr} {o : HO} (n : H p = none) : ∀ b u, H b = some u → upd H p o b = some u := fun b u e => (upd_ne (ne_of_none e n)).trans e
theorem Has.new {H : Hp} {L : Lg} {p : Addr} {o : HO} (h : Has H L) (n : H p = none) (t : notab o = true := by rfl) : Has (upd H p o) ((p, o) :: L) := h.newB n (updGrow n) (holds_of t upd_same)
/-- one entry replaced by another of its address -/
inductive Swap (p : Addr) (o : HO) : Lg → Lg → Prop
  | here {u : HO} {L : Lg} (pl : plain u = true := by rfl) : Swap p o ((p, u) :: L) ((p, o) :: L)
  | there {e : Addr × HO} {L M : Lg} : Swap p o L M → Swap p o (e :: L) (e :: M)
theorem Swap.was {p : Addr} {o : HO} {L M : Lg} (s : Swap p o L M) : ∃ u, plain u = true ∧ (p, u) ∈ L := by
  induction s with
  | here pl => exact ⟨_, pl, List.mem_cons_self⟩
  | there _ ih =>
    obtain ⟨u, a, b⟩ := ih
    exact ⟨u, a, List.mem_cons_of_mem _ b⟩
theorem Swap.fst {p : Addr} {o : HO} {L M : Lg} (s : Swap p o L M) : M.map (·.1) = L.map (·.1) ∧ p ∈ L.map (·.1) := by
  induction s with
  | here => exact ⟨rfl, List.mem_cons_self⟩
  | there _ ih => exact ⟨by rw [List.map_cons, List.map_cons, ih.1], List.mem_cons_of_mem _ ih.2⟩
theorem Swap.mem {p : Addr} {o : HO} {L M : Lg} (s : Swap p o L M) (nd : (L.map (·.1)).Nodup) : ∀ e ∈ M, e = (p, o) ∨ (e ∈ L ∧ e.1 ≠ p) := by
  induction s with
  | here =>
    intro e m
    rcases List.mem_cons.mp m with rfl | m
    · exact .inl rfl
    · have n := (List.nodup_cons.mp nd).1
      exact .inr ⟨List.mem_cons_of_mem _ m, fun z => n (List.mem_map.mpr ⟨e, m, z⟩)⟩
  | there s ih =>
    intro e m
    have n := List.nodup_cons.mp nd
    rcases List.mem_cons.mp m with rfl | m
    · exact .inr ⟨List.mem_cons_self, fun z => n.1 (by have q := s.fst.2; rw [← z] at q; exact q)⟩
    · rcases ih n.2 e m with q | ⟨q, r⟩
      · exact .inl q
      · exact .inr ⟨List.mem_cons_of_mem _ q, r⟩
theorem Has.swap {H : Hp} {L M : Lg} {p : Addr} {o : HO} (h : Has H L) (s : Swap p o L M) (t : notab o = true := by rfl) : Has (upd H p o) M := by
  obtain ⟨u, pl, mu⟩ := s.was
  refine ⟨by rw [s.fst.1]; exact h.1, fun e m => ?_⟩
  rcases s.mem h.1 e m with rfl | ⟨q, r⟩
  · exact holds_of t upd_same
  · exact holds_upd (h.get mu (plain_notab pl)) pl r (h.2 e q)
/-- M is told by L -/
structure Sub (M L : Lg) : Prop where
  to : (L.map (·.1)).Nodup → (M.map (·.1)).Nodup ∧ ∀ e ∈ M, e ∈ L
theorem Sub.has {M L : Lg} (s : Sub M L) (H : Hp) (h : Has H L) : Has H M := ⟨(s.to h.1).1, fun e m => h.2 e ((s.to h.1).2 e m)⟩
instance {M L : Lg} : CoeFun (Sub M L) (fun _ => ∀ H, Has H L → Has H M) := ⟨Sub.has⟩
theorem Sub.refl {L : Lg} : Sub L L := ⟨fun h => ⟨h, fun _ h => h⟩⟩
theorem Sub.trans {L M N : Lg} (a : Sub N M) (b : Sub M L) : Sub N L := ⟨fun h => ⟨(a.to (b.to h).1).1, fun e m => (b.to h).2 e ((a.to (b.to h).1).2 e m)⟩⟩
theorem Sub.drop {L : Lg} {e : Addr × HO} : Sub L (e :: L) := ⟨fun h => ⟨(List.nodup_cons.mp h).2, fun _ m => List.mem_cons_of_mem _ m⟩⟩
theorem Sub.cons {L M : Lg} {e : Addr × HO} (s : Sub M L) : Sub (e :: M) (e :: L) := by
  refine ⟨fun h => ?_⟩
  obtain ⟨n, h⟩ := List.nodup_cons.mp h
  obtain ⟨a, b⟩ := s.to h
  refine ⟨List.nodup_cons.mpr ⟨fun m => ?_, a⟩, fun u m => ?_⟩
  · obtain ⟨u, hu, eu⟩ := List.mem_map.mp m
    exact n (List.mem_map.mpr ⟨u, b u hu, eu⟩)
  · rcases List.mem_cons.mp m with rfl | m
    · exact List.mem_cons_self
    · exact List.mem_cons_of_mem _ (b u m)
theorem Sub.append {L M : Lg} (s : Sub M L) : ∀ {E : Lg}, Sub (E ++ M) (E ++ L)
  | [] => s
  | _ :: E => Sub.cons (Sub.append s (E := E))
theorem Sub.dropE {L : Lg} : ∀ {E : Lg}, Sub L (E ++ L)
  | [] => Sub.refl
  | _ :: E => (Sub.dropE (E := E)).trans Sub.drop
theorem Sub.perm {L M : Lg} (p : M.Perm L) : Sub M L := ⟨fun h => ⟨(p.map _).nodup_iff.mpr h, fun e m => p.mem_iff.mp m⟩⟩
theorem Sub.sublist {L M : Lg} (p : M.Sublist L) : Sub M L := ⟨fun h => ⟨(p.map _).nodup h, fun e m => p.subset m⟩⟩
theorem Swap.ex {p : Addr} {o u : HO} (pl : plain u = true) : ∀ {L : Lg}, (p, u) ∈ L → ∃ M, Swap p o L M
  | e :: L, m => by
    rcases List.mem_cons.mp m with z | m
    · subst z
      exact ⟨_, .here pl⟩
    · obtain ⟨M, s⟩ := Swap.ex (o := o) pl m
      exact ⟨_, .there s⟩
theorem Swap.keep {p : Addr} {o : HO} {L M : Lg} (s : Swap p o L M) {e : Addr × HO} (h : e ∈ L) (n : e.1 ≠ p) : e ∈ M := by
  induction s with
  | here _ =>
    rcases List.mem_cons.mp h with z | h
    · subst z
      exact absurd rfl n
    · exact List.mem_cons_of_mem _ h
  | there _ ih =>
    rcases List.mem_cons.mp h with z | h
    · subst z
      exact List.mem_cons_self
    · exact List.mem_cons_of_mem _ (ih h)
theorem Swap.got {p : Addr} {o : HO} {L M : Lg} (s : Swap p o L M) : (p, o) ∈ M := by
  induction s with
  | here _ => exact List.mem_cons_self
  | there _ ih => exact List.mem_cons_of_mem _ ih
/-- one entry changed below what is known -/
theorem Sub.swap {p : Addr} {o u : HO} {L M N : Lg} (s : Sub ((p, u) :: L) M) (w : Swap p o M N) : Sub ((p, o) :: L) N := by
  refine ⟨fun h => ?_⟩
  rw [w.fst.1] at h
  obtain ⟨a, b⟩ := s.to h
  refine ⟨a, fun e m => ?_⟩
  rcases List.mem_cons.mp m with rfl | m
  · exact w.got
  · refine w.keep (b e (List.mem_cons_of_mem _ m)) fun z => (List.nodup_cons.mp a).1 ?_
    exact List.mem_map.mpr ⟨e, m, z⟩
abbrev QV := V → Lg → Prop
def up (Q : QV) : VK := fun v H => ∃ L, Has H L ∧ Q v L
def upB (Q : Bool → Lg → Prop) : Bool → Hp → Prop := fun b H => ∃ L, Has H L ∧ Q b L
def upA (Q : List V → Lg → Prop) : List V → Hp → Prop := fun vs H => ∃ L, Has H L ∧ Q vs L
def WE (X : Cx) (e : Expr) : TE := fun σ H Q => ∀ pins s, Inv X pins σ H s → wpAny (model X.prog X.w) X.A (eval e X.env) (EP X pins σ Q) X.xe s
def WT (X : Cx) (e : Expr) : TT := fun σ H Q => ∀ pins s, Inv X pins σ H s → wpAny (model X.prog X.w) X.A (isTrue e X.env (eval e X.env)) (TP X pins σ Q) X.xe s
def WW (X : Cx) (e : Expr) : TT := fun σ H Q => ∀ whole pins s, Inv X pins σ H s → wpAny (model X.prog X.w) X.A (isTrue e X.env whole) (TP X pins σ Q) X.xe s
def WA (X : Cx) (es : List Expr) : TA := fun σ H Q => ∀ pos pins s, Inv X pins σ H s → wpAny (model X.prog X.w) X.A (spliced (backTo pos (starEach es X.env))) (AP X pins σ Q) X.xe s
def WS (X : Cx) (st : Stmt) : TS := fun D σ H => ∀ pins s, Inv X pins σ H s → wpAny (model X.prog X.w) X.A (exec st X.env) (SP X pins D) X.xe s
def WSs (X : Cx) (st : List Stmt) : TS := fun D σ H => ∀ pins s, Inv X pins σ H s → wpAny (model X.prog X.w) X.A (execs st X.env) (SP X pins D) X.xe s
def WG (X : Cx) (tg : Expr) : TG := fun v σ H Q => ∀ pins s u, Inv X pins σ H s → RelV v u → wpAny (model X.prog X.w) X.A (assign tg X.env u) (fun _ s' => ∃ σ' H', Inv X pins σ' H' s' ∧ Q σ' H') X.xe s
def WGs (X : Cx) (ts : List Expr) : TGs := fun vs σ H Q => ∀ pins s us, Inv X pins σ H s → Vals vs us → wpAny (model X.prog X.w) X.A (assignInOrder ((assignEach ts X.env).map (·.2)) us) (fun _ s' => ∃ σ' H', Inv X pins σ' H' s' ∧ Q σ' H') X.xe s
section
variable {X : Cx} {e : Expr} {σ : L2.St} {H : Hp}
theorem pe_W : PE X e (WE X e) := ⟨fun pins s _ _ _ I h => h pins s I⟩
theorem pt_W : PT X e (WT X e) := ⟨fun pins s _ _ _ I h => h pins s I⟩
theorem pw_W : PW X e (WW X e) := ⟨fun u pins s _ _ _ I h => h u pins s I⟩
theorem pa_W {es : List Expr} : PA X es (WA X es) := ⟨fun pos pins s _ _ _ I h => h pos pins s I⟩
theorem ps_W {st : Stmt} : PS X st (WS X st) := ⟨fun pins s _ _ _ I h => h pins s I⟩
theorem pss_W {st : List Stmt} : PSs X st (WSs X st) := ⟨fun pins s _ _ _ I h => h pins s I⟩
theorem pg_W : PG X e (WG X e) := ⟨fun pins s _ _ _ u _ I r h => h pins s u I r⟩
theorem pgs_W {es : List Expr} : PGs X es (WGs X es) := ⟨fun pins s _ _ _ us _ I r h => h pins s us I r⟩
theorem WE.of {t : TE} {Q : VK} (h : PE X e t) (q : t σ H Q) : WE X e σ H Q := fun pins s I => h.run pins s σ H Q I q
theorem WT.of {t : TT} {Q : Bool → Hp → Prop} (h : PT X e t) (q : t σ H Q) : WT X e σ H Q := fun pins s I => h.run pins s σ H Q I q
theorem WW.of {t : TT} {Q : Bool → Hp → Prop} (h : PW X e t) (q : t σ H Q) : WW X e σ H Q := fun u pins s I => h.run u pins s σ H Q I q
theorem WA.of {es : List Expr} {t : TA} {Q : List V → Hp → Prop} (h : PA X es t) (q : t σ H Q) : WA X es σ H Q := fun pos pins s I => h.run pos pins s σ H Q I q
theorem WS.of {st : Stmt} {t : TS} {D : Ends} (h : PS X st t) (q : t D σ H) : WS X st D σ H := fun pins s I => h.run pins s σ H D I q
theorem WSs.of {st : List Stmt} {t : TS} {D : Ends} (h : PSs X st t) (q : t D σ H) : WSs X st D σ H := fun pins s I => h.run pins s σ H D I q
theorem WG.of {t : TG} {v : V} {Q : L2.St → Hp → Prop} (h : PG X e t) (q : t v σ H Q) : WG X e v σ H Q := fun pins s u I r => h.run pins s σ H v u Q I r q
theorem WGs.of {es : List Expr} {t : TGs} {vs : List V} {Q : L2.St → Hp → Prop} (h : PGs X es t) (q : t vs σ H Q) : WGs X es vs σ H Q := fun pins s us I r => h.run pins s σ H vs us Q I r q
theorem WE.mono {Q Q' : VK} (h : WE X e σ H Q) (m : ∀ v H', Q v H' → Q' v H') : WE X e σ H Q' := fun pins s I =>
  thn (h pins s I) fun _ _ ⟨v, H', J, r, q⟩ => ⟨v, H', J, r, m v H' q⟩
theorem WT.mono {Q Q' : Bool → Hp → Prop} (h : WT X e σ H Q) (m : ∀ v H', Q v H' → Q' v H') : WT X e σ H Q' := fun pins s I =>
  thn (h pins s I) fun _ _ ⟨H', J, q⟩ => ⟨H', J, m _ H' q⟩
theorem WW.mono {Q Q' : Bool → Hp → Prop} (h : WW X e σ H Q) (m : ∀ v H', Q v H' → Q' v H') : WW X e σ H Q' := fun u pins s I =>
  thn (h u pins s I) fun _ _ ⟨H', J, q⟩ => ⟨H', J, m _ H' q⟩
theorem WA.mono {es : List Expr} {Q Q' : List V → Hp → Prop} (h : WA X es σ H Q) (m : ∀ v H', Q v H' → Q' v H') : WA X es σ H Q' := fun pos pins s I =>
  thn (h pos pins s I) fun _ _ ⟨v, H', J, r, q⟩ => ⟨v, H', J, r, m v H' q⟩
theorem WG.mono {v : V} {Q Q' : L2.St → Hp → Prop} (h : WG X e v σ H Q) (m : ∀ v H', Q v H' → Q' v H') : WG X e v σ H Q' := fun pins s u I r =>
  thn (h pins s u I r) fun _ _ ⟨v, H', J, q⟩ => ⟨v, H', J, m v H' q⟩
theorem WGs.mono {es : List Expr} {vs : List V} {Q Q' : L2.St → Hp → Prop} (h : WGs X es vs σ H Q) (m : ∀ v H', Q v H' → Q' v H') : WGs X es vs σ H Q' := fun pins s u I r =>
  thn (h pins s u I r) fun _ _ ⟨v, H', J, q⟩ => ⟨v, H', J, m v H' q⟩
end
def GE (X : Cx) (e : Expr) (η : En) (L : Lg) (Q : QV) : Prop := X.N = names η → ∀ H, Has H L → WE X e (vals η) H (up Q)
def GT (X : Cx) (e : Expr) (η : En) (L : Lg) (Q : Bool → Lg → Prop) : Prop := X.N = names η → ∀ H, Has H L → WT X e (vals η) H (upB Q)
def GW (X : Cx) (e : Expr) (η : En) (L : Lg) (Q : Bool → Lg → Prop) : Prop := X.N = names η → ∀ H, Has H L → WW X e (vals η) H (upB Q)
def GA (X : Cx) (es : List Expr) (η : En) (L : Lg) (Q : List V → Lg → Prop) : Prop := X.N = names η → ∀ H, Has H L → WA X es (vals η) H (upA Q)
/-- what is wanted behind a statement -/
structure GD where
  nx : En → Lg → Prop
  rt : QV
  bk : En → Lg → Prop
  ct : En → Lg → Prop
def upS (X : Cx) (Q : En → Lg → Prop) : L2.St → Hp → Prop := fun σ H => ∃ η L, X.N = names η ∧ σ = vals η ∧ Has H L ∧ Q η L
def GD.ends (X : Cx) (D : GD) : Ends := { nx := upS X D.nx, rt := up D.rt, bk := upS X D.bk, ct := upS X D.ct }
def GS (X : Cx) (st : Stmt) (D : GD) (η : En) (L : Lg) : Prop := X.N = names η → ∀ H, Has H L → WS X st (D.ends X) (vals η) H
def GSs (X : Cx) (st : List Stmt) (D : GD) (η : En) (L : Lg) : Prop := X.N = names η → ∀ H, Has H L → WSs X st (D.ends X) (vals η) H
def GG (X : Cx) (tg : Expr) (v : V) (η : En) (L : Lg) (Q : En → Lg → Prop) : Prop := X.N = names η → ∀ H, Has H L → WG X tg v (vals η) H (upS X Q)
def GGs (X : Cx) (ts : List Expr) (vs : List V) (η : En) (L : Lg) (Q : En → Lg → Prop) : Prop := X.N = names η → ∀ H, Has H L → WGs X ts vs (vals η) H (upS X Q)
/-- an operator, a call, a subscript by values -/
def GOp (X : Cx) (f : Value → Value → Sem Value) (x y : V) (L : Lg) (Q : QV) : Prop := ∀ pins s σ H v u, Has H L → Inv X pins σ H s → RelV x v → RelV y u → wpAny (model X.prog X.w) X.A (f v u) (EP X pins σ (up Q)) X.xe s
def GUn (X : Cx) (f : Value → Sem Value) (x : V) (L : Lg) (Q : QV) : Prop := ∀ pins s σ H v, Has H L → Inv X pins σ H s → RelV x v → wpAny (model X.prog X.w) X.A (f v) (EP X pins σ (up Q)) X.xe s
def GC (X : Cx) (f : Value) (xs : List V) (L : Lg) (Q : QV) : Prop := ∀ pins s σ H us, Has H L → Inv X pins σ H s → Vals xs us → wpAny (model X.prog X.w) X.A (call f us) (EP X pins σ (up Q)) X.xe s
section
variable {X : Cx} {L : Lg} {Q : QV} {x y : V}
theorem GOp.of {f : Value → Value → Sem Value} {r : R2} (h : OpR X f r) (q : ∀ H, Has H L → r x y H (up Q)) : GOp X f x y L Q := fun pins s σ H v u hH I rv ru => h pins s σ H x y v u _ I rv ru (q H hH)
theorem GUn.of {f : Value → Sem Value} {r : V → Hp → VK → Prop} (h : UnR X f r) (q : ∀ H, Has H L → r x H (up Q)) : GUn X f x L Q := fun pins s σ H v hH I rv => h pins s σ H x v _ I rv (q H hH)
theorem GC.of {f : Value} {xs : List V} {r : List V → Hp → VK → Prop} (h : CallR X f r) (q : ∀ H, Has H L → r xs H (up Q)) : GC X f xs L Q := fun pins s σ H us hH I rv => h pins s σ H xs us _ I rv (q H hH)
end
section
variable {X : Cx} {η : En} {L : Lg} {Q : QV} {a b c e : Expr} {pos : Pos}
theorem ge_var {x : Str} {v : V} (h : At x v η) (q : Q v L) (hv : Vis X.env.scope x := by first | exact Or.inl rfl | exact Or.inr (Or.inl rfl) | exact Or.inr (Or.inr rfl))
    (hd : (x == ("__debug__" : Str)) = false := by decide) (hcd : (x == ("__classdict__" : Str)) = false := by decide) : GE X (.Name x pos) η L Q := fun hN H hH => by
  obtain ⟨i, h1, h2⟩ := h.idx
  exact WE.of (pe_var (i := i) (by rw [hN]; exact h1) hv hd hcd) ⟨v, h2, L, hH, q⟩
theorem ge_con {v : V} (p : PE X e (tC v)) (q : Q v L) : GE X e η L Q := fun _ H hH => WE.of p ⟨L, hH, q⟩
theorem ge_int {i : Int} {j} (q : Q (.int i) L) : GE X (.Constant (.int i) j pos) η L Q := ge_con pe_int q
theorem ge_bl {i : Bool} {j} (q : Q (.bl i) L) : GE X (.Constant (.bool i) j pos) η L Q := ge_con pe_bl q
theorem ge_non {j} (q : Q .non L) : GE X (.Constant .none j pos) η L Q := ge_con pe_non q
theorem ge_str {x : Str} {j} (q : Q (.str x) L) : GE X (.Constant (.str x) j pos) η L Q := ge_con pe_str q
/-- what is known may be cut -/
theorem GE.nd (h : GE X e η L fun v L1 => (L1.map (·.1)).Nodup → Q v L1) : GE X e η L Q := fun hN H hH => (h hN H hH).mono fun v _ ⟨L', h', q⟩ => ⟨L', h', q h'.1⟩
theorem GE.sub {M : Lg} (s : Sub M L) (h : GE X e η M Q) : GE X e η L Q := fun hN H hH => h hN H (s H hH)
theorem GT.sub {M : Lg} {Q : Bool → Lg → Prop} (s : Sub M L) (h : GT X e η M Q) : GT X e η L Q := fun hN H hH => h hN H (s H hH)
theorem GE.imp {Q' : QV} (h : GE X e η L Q) (m : ∀ v L', Q v L' → Q' v L') : GE X e η L Q' := fun hN H hH => (h hN H hH).mono fun v _ ⟨L', h', q⟩ => ⟨L', h', m v L' q⟩
theorem GA.imp {es : List Expr} {Q Q' : List V → Lg → Prop} (h : GA X es η L Q) (m : ∀ v L', Q v L' → Q' v L') : GA X es η L Q' := fun hN H hH => (h hN H hH).mono fun v _ ⟨L', h', q⟩ => ⟨L', h', m v L' q⟩
theorem GT.imp {Q Q' : Bool → Lg → Prop} (h : GT X e η L Q) (m : ∀ v L', Q v L' → Q' v L') : GT X e η L Q' := fun hN H hH => (h hN H hH).mono fun v _ ⟨L', h', q⟩ => ⟨L', h', m v L' q⟩
/-- then -/
theorem GE.then {Q' : VK} (h : GE X a η L Q) (hN : X.N = names η) {H : Hp} (hH : Has H L) (m : ∀ v L1 H1, Has H1 L1 → Q v L1 → Q' v H1) : WE X a (vals η) H Q' := (h hN H hH).mono fun v H1 ⟨L1, h1, q1⟩ => m v L1 H1 h1 q1
theorem GA.then {es : List Expr} {Q : List V → Lg → Prop} {Q' : List V → Hp → Prop} (h : GA X es η L Q) (hN : X.N = names η) {H : Hp} (hH : Has H L) (m : ∀ v L1 H1, Has H1 L1 → Q v L1 → Q' v H1) : WA X es (vals η) H Q' := (h hN H hH).mono fun v H1 ⟨L1, h1, q1⟩ => m v L1 H1 h1 q1
theorem GT.then {Q : Bool → Lg → Prop} {Q' : Bool → Hp → Prop} (h : GT X a η L Q) (hN : X.N = names η) {H : Hp} (hH : Has H L) (m : ∀ v L1 H1, Has H1 L1 → Q v L1 → Q' v H1) : WT X a (vals η) H Q' := (h hN H hH).mono fun v H1 ⟨L1, h1, q1⟩ => m v L1 H1 h1 q1
theorem GW.then {Q : Bool → Lg → Prop} {Q' : Bool → Hp → Prop} (h : GW X a η L Q) (hN : X.N = names η) {H : Hp} (hH : Has H L) (m : ∀ v L1 H1, Has H1 L1 → Q v L1 → Q' v H1) : WW X a (vals η) H Q' := (h hN H hH).mono fun v H1 ⟨L1, h1, q1⟩ => m v L1 H1 h1 q1
theorem ge_bin {op : Operator} (h : GE X a η L fun x L1 => GE X b η L1 fun y L2 => GOp X (binaryOp op) x y L2 Q) : GE X (.BinOp a op b pos) η L Q := fun hN H hH =>
  WE.of (pe_op (r := fun x y H' Q' => ∀ pins s σ v u, Inv X pins σ H' s → RelV x v → RelV y u → wpAny (model X.prog X.w) X.A (binaryOp op v u) (EP X pins σ Q') X.xe s)
    (fun pins s σ H' x y v u Q' I r1 r2 q => q pins s σ v u I r1 r2) pe_W pe_W)
    (h.then hN hH fun _ _ _ h1 q1 => q1.then hN h1 fun _ _ _ h2 q2 => fun pins s σ v u I r1 r2 => q2 pins s σ _ v u h2 I r1 r2)
theorem ge_un {op : UnaryOp} (h : GE X a η L fun x L1 => GUn X (unaryOp op) x L1 Q) : GE X (.UnaryOp op a pos) η L Q := fun hN H hH =>
  WE.of (pe_un (r := fun x H' Q' => ∀ pins s σ v, Inv X pins σ H' s → RelV x v → wpAny (model X.prog X.w) X.A (unaryOp op v) (EP X pins σ Q') X.xe s)
    (fun pins s σ H' x v Q' I r1 q => q pins s σ v I r1) pe_W)
    (h.then hN hH fun _ _ _ h1 q1 => fun pins s σ v I r1 => q1 pins s σ _ v h1 I r1)
theorem ge_cmp {op : CmpOp} (h : GE X a η L fun x L1 => GE X b η L1 fun y L2 => GOp X (compareOp op) x y L2 Q) (hm : behindInMarks op b = false := by rfl) : GE X (.Compare a [op] [b] pos) η L Q := fun hN H hH =>
  WE.of (pe_cmpR (r := fun x y H' Q' => ∀ pins s σ v u, Inv X pins σ H' s → RelV x v → RelV y u → wpAny (model X.prog X.w) X.A (compareOp op v u) (EP X pins σ Q') X.xe s)
    (fun pins s σ H' x y v u Q' I r1 r2 q => q pins s σ v u I r1 r2) pe_W pe_W hm)
    (h.then hN hH fun _ _ _ h1 q1 => q1.then hN h1 fun _ _ _ h2 q2 => fun pins s σ v u I r1 r2 => q2 pins s σ _ v u h2 I r1 r2)
theorem ge_one {op : BoolOp} (h : GE X a η L Q) : GE X (.BoolOp op [a] pos) η L Q := fun hN H hH => WE.of (pe_one pe_W) (h hN H hH)
theorem ge_and {rest : List Expr} (h : GE X a η L fun x L1 => ∃ k, x = .bl k ∧ if k = true then GE X (.BoolOp .And (b :: rest) pos) η L1 Q else Q (.bl false) L1) : GE X (.BoolOp .And (a :: b :: rest) pos) η L Q := fun hN H hH =>
  WE.of (pe_and pe_W pe_W) (h.then hN hH fun x L1 H1 h1 ⟨k, e1, q1⟩ => ⟨k, e1, by
    cases k with
    | true => exact q1 hN H1 h1
    | false => exact ⟨L1, h1, q1⟩⟩)
theorem ge_or {rest : List Expr} (h : GE X a η L fun x L1 => ∃ k, x = .bl k ∧ if k = true then Q (.bl true) L1 else GE X (.BoolOp .Or (b :: rest) pos) η L1 Q) : GE X (.BoolOp .Or (a :: b :: rest) pos) η L Q := fun hN H hH =>
  WE.of (pe_or pe_W pe_W) (h.then hN hH fun x L1 H1 h1 ⟨k, e1, q1⟩ => ⟨k, e1, by
    cases k with
    | true => exact ⟨L1, h1, q1⟩
    | false => exact q1 hN H1 h1⟩)
theorem ge_not (h : GE X a η L fun x L1 => ∃ k, x = .bl k ∧ Q (.bl (!k)) L1) : GE X (.UnaryOp .Not a pos) η L Q := fun hN H hH =>
  WE.of (pe_not pe_W) (h.then hN hH fun x L1 H1 h1 ⟨k, e1, q1⟩ => ⟨k, e1, L1, h1, q1⟩)
theorem ge_if (h : GT X c η L fun k L1 => if k = true then GE X a η L1 Q else GE X b η L1 Q) : GE X (.IfExp c a b pos) η L Q := fun hN H hH =>
  WE.of (pe_ifExp pt_W pe_W pe_W) (h.then hN hH fun k L1 H1 h1 q1 => by
    cases k with
    | true => exact q1 hN H1 h1
    | false => exact q1 hN H1 h1)
theorem ga_nil {Q : List V → Lg → Prop} (q : Q [] L) : GA X [] η L Q := fun _ H hH => WA.of pa_nil ⟨L, hH, q⟩
theorem ga_cons {es : List Expr} {Q : List V → Lg → Prop} (h : GE X e η L fun x L1 => GA X es η L1 fun xs L2 => Q (x :: xs) L2) (hs : starEach (e :: es) X.env = (false, eval e X.env) :: starEach es X.env := by rfl) : GA X (e :: es) η L Q := fun hN H hH =>
  WA.of (pa_cons pe_W pa_W hs) (h.then hN hH fun _ _ _ h1 q1 => q1.then hN h1 fun _ L2 _ h2 q2 => ⟨L2, h2, q2⟩)
theorem ge_tup {es : List Expr} {x1} (h : GA X es η L fun xs L1 => xs.length ≤ sizeLine ∧ ∀ p, Q (.ref p) ((p, .tup xs) :: L1)) : GE X (.Tuple es x1 pos) η L Q := fun hN H hH =>
  WE.of (pe_tup pa_W) (h.then hN hH fun xs L1 H1 h1 ⟨z, q1⟩ => ⟨z, fun p hp => ⟨_, h1.new hp, q1 p⟩⟩)
theorem ge_lst {es : List Expr} (h : GA X es η L fun xs L1 => xs.length ≤ sizeLine ∧ ∀ p, Q (.ref p) ((p, .lst xs) :: L1)) : GE X (.List es pos) η L Q := fun hN H hH =>
  WE.of (pe_lst pa_W) (h.then hN hH fun xs L1 H1 h1 ⟨z, q1⟩ => ⟨z, fun p hp => ⟨_, h1.new hp, q1 p⟩⟩)
/-- a subscript by values -/
def GIx (X : Cx) (x y : V) (L : Lg) (Q : QV) : Prop := ∀ (value slice : Expr) pins s σ H v u, Has H L → Inv X pins σ H s → RelV x v → RelV y u → subscripted slice false v u = operate [v, u] (getItem v u) → wpAny (model X.prog X.w) X.A (subscriptTail value slice v u) (EP X pins σ (up Q)) X.xe s
theorem GIx.of {x y : V} {r : R2} (h : IxR X r) (q : ∀ H, Has H L → r x y H (up Q)) : GIx X x y L Q := fun value slice pins s σ H v u hH I rv ru hs => h value slice pins s σ H x y v u _ I rv ru (q H hH) hs
theorem ge_ix (h : GE X a η L fun x L1 => GE X b η L1 fun y L2 => GIx X x y L2 Q) (hs : PlainIx b := by exact fun _ _ => rfl) : GE X (.Subscript a b pos) η L Q := fun hN H hH =>
  WE.of (pe_ix (r := fun x y H' Q' => ∀ (value slice : Expr) pins s σ v u, Inv X pins σ H' s → RelV x v → RelV y u → subscripted slice false v u = operate [v, u] (getItem v u) → wpAny (model X.prog X.w) X.A (subscriptTail value slice v u) (EP X pins σ Q') X.xe s)
    (fun value slice pins s σ H' x y v u Q' I r1 r2 q z => q value slice pins s σ v u I r1 r2 z) pe_W pe_W hs)
    (h.then hN hH fun _ _ _ h1 q1 => q1.then hN h1 fun _ _ _ h2 q2 => fun value slice pins s σ v u I r1 r2 z => q2 value slice pins s σ _ v u h2 I r1 r2 z)
end
section
variable {X : Cx} {η : En} {L : Lg} {Q : Bool → Lg → Prop} {a b c e : Expr} {pos : Pos}
theorem gt_cmp {op : CmpOp} (h : GE X a η L fun x L1 => GE X b η L1 fun y L2 => GOp X (compareOp op) x y L2 fun z L3 => ∃ k, z = .bl k ∧ Q k L3) (hm : behindInMarks op b = false := by rfl) : GT X (.Compare a [op] [b] pos) η L Q := fun hN H hH =>
  WT.of (pt_cmpR (r := fun x y H' Q' => ∀ pins s σ v u, Inv X pins σ H' s → RelV x v → RelV y u → wpAny (model X.prog X.w) X.A (compareOp op v u) (EP X pins σ Q') X.xe s)
    (fun pins s σ H' x y v u Q' I r1 r2 q => q pins s σ v u I r1 r2) pe_W pe_W hm)
    (h.then hN hH fun _ _ _ h1 q1 => q1.then hN h1 fun _ _ _ h2 q2 => fun pins s σ v u I r1 r2 =>
      thn (q2 pins s σ _ v u h2 I r1 r2) fun _ _ ⟨z, H3, J, r3, L3, h3, k, ek, q3⟩ => ⟨z, H3, J, r3, k, ek, L3, h3, q3⟩)
theorem gt_val (h : GE X a η L fun x L1 => ∃ k, x = .bl k ∧ Q k L1) (he : ∀ whole, isTrue a X.env whole = (do let v ← whole; standAt a.pos; holding [v] (truthy v)) := by intro _; rfl) : GT X a η L Q := fun hN H hH =>
  WT.of (pt_val pe_W he) (h.then hN hH fun _ L1 _ h1 ⟨k, e1, q1⟩ => ⟨k, e1, L1, h1, q1⟩)
theorem gt_w {op : BoolOp} {es : List Expr} (h : GW X (.BoolOp op es pos) η L Q) : GT X (.BoolOp op es pos) η L Q := fun hN H hH => WT.of pw_W.pt (h hN H hH)
theorem gw_and1 (h : GT X a η L Q) : GW X (.BoolOp .And [a] pos) η L Q := fun hN H hH => WW.of (pw_and1 pt_W) (h hN H hH)
theorem gw_or1 (h : GT X a η L Q) : GW X (.BoolOp .Or [a] pos) η L Q := fun hN H hH => WW.of (pw_or1 pt_W) (h hN H hH)
theorem gw_and {rest : List Expr} (h : GT X a η L fun k L1 => if k = true then GW X (.BoolOp .And (b :: rest) pos) η L1 Q else Q false L1) : GW X (.BoolOp .And (a :: b :: rest) pos) η L Q := fun hN H hH =>
  WW.of (pw_and pt_W pw_W) (h.then hN hH fun k L1 H1 h1 q1 => by
    cases k with
    | true => exact q1 hN H1 h1
    | false => exact ⟨L1, h1, q1⟩)
theorem gw_or {rest : List Expr} (h : GT X a η L fun k L1 => if k = true then Q true L1 else GW X (.BoolOp .Or (b :: rest) pos) η L1 Q) : GW X (.BoolOp .Or (a :: b :: rest) pos) η L Q := fun hN H hH =>
  WW.of (pw_or pt_W pw_W) (h.then hN hH fun k L1 H1 h1 q1 => by
    cases k with
    | true => exact ⟨L1, h1, q1⟩
    | false => exact q1 hN H1 h1)
theorem gt_not (h : GT X a η L fun k L1 => Q (!k) L1) : GT X (.UnaryOp .Not a pos) η L Q := fun hN H hH =>
  WT.of (pt_not pt_W) (h.then hN hH fun k L1 H1 h1 q1 => ⟨L1, h1, q1⟩)
end
theorem mem0 {α : Type} {a : α} {l : List α} : a ∈ a :: l := List.mem_cons_self
theorem memS {α : Type} {a b : α} {l : List α} (h : a ∈ l) : a ∈ b :: l := List.mem_cons_of_mem _ h
theorem sql {K : PySem.W.Frag} {H : Hp} {L : Lg} {p : Addr} {xs : List V} (h : Has H L) (m : (p, HO.lst xs) ∈ L) : SqL K H p xs := SqL.of (h.get m)
theorem sqt {K : PySem.W.Frag} {H : Hp} {L : Lg} {p : Addr} {xs : List V} (h : Has H L) (m : (p, HO.tup xs) ∈ L) : SqT K H p xs := SqT.of (h.get m)
section
variable {X : Cx} {L : Lg} {Q : QV} {x y : V} {i j : Int} {p q : Addr} {xs ys : List V} {v : V}
theorem go_add (h : Q (.int (i + j)) L) : GOp X (binaryOp .Add) (.int i) (.int j) L Q := GOp.of op_add fun H hH => ⟨i, j, rfl, rfl, L, hH, h⟩
theorem go_sub (h : Q (.int (i - j)) L) : GOp X (binaryOp .Sub) (.int i) (.int j) L Q := GOp.of op_sub fun H hH => ⟨i, j, rfl, rfl, L, hH, h⟩
theorem go_mul (c : CMulW i j) (h : Q (.int (i * j)) L) : GOp X (binaryOp .Mult) (.int i) (.int j) L Q := GOp.of op_mulW fun H hH => ⟨i, j, rfl, rfl, c, L, hH, h⟩
theorem go_mulS (c : (-(2 ^ 64) < i ∧ i < 2 ^ 64) ∨ (-(2 ^ 64) < j ∧ j < 2 ^ 64)) (h : Q (.int (i * j)) L) : GOp X (binaryOp .Mult) (.int i) (.int j) L Q := GOp.of op_mul fun H hH => ⟨i, j, rfl, rfl, c, L, hH, h⟩
theorem go_mod (c : 0 < j) (h : Q (.int (i % j)) L) : GOp X (binaryOp .Mod) (.int i) (.int j) L Q := GOp.of op_modN fun H hH => ⟨i, j, rfl, rfl, by omega, L, hH, by
  show Q (.int (i.fmod j)) L
  rw [Int.fmod_eq_emod_of_nonneg i (by omega)]
  exact h⟩
theorem go_div (c : 0 < j) (d : j.natAbs < 2 ^ 9000) (h : Q (.int (i / j)) L) : GOp X (binaryOp .FloorDiv) (.int i) (.int j) L Q := GOp.of op_fdivW fun H hH => ⟨i, j, rfl, rfl, wide_div c d (by decide) (by decide), L, hH, h⟩
theorem go_pow (c : CPow i j) (h : Q (.int (i ^ j.toNat)) L) : GOp X (binaryOp .Pow) (.int i) (.int j) L Q := GOp.of op_pow fun H hH => ⟨i, j, rfl, rfl, c, L, hH, h⟩
theorem go_lt (h : Q (.bl (decide (i < j))) L) : GOp X (compareOp .Lt) (.int i) (.int j) L Q := GOp.of op_lt fun H hH => ⟨i, j, rfl, rfl, L, hH, h⟩
theorem go_le (h : Q (.bl (decide (i ≤ j))) L) : GOp X (compareOp .LtE) (.int i) (.int j) L Q := GOp.of op_le fun H hH => ⟨i, j, rfl, rfl, L, hH, h⟩
theorem go_gt (h : Q (.bl (decide (j < i))) L) : GOp X (compareOp .Gt) (.int i) (.int j) L Q := GOp.of op_gt fun H hH => ⟨i, j, rfl, rfl, L, hH, h⟩
theorem go_ge (h : Q (.bl (decide (j ≤ i))) L) : GOp X (compareOp .GtE) (.int i) (.int j) L Q := GOp.of op_ge fun H hH => ⟨i, j, rfl, rfl, L, hH, h⟩
theorem dec_int : decide (V.int i = V.int j) = decide (i = j) := by
  by_cases e : i = j
  · rw [e, decide_eq_true rfl, decide_eq_true rfl]
  · rw [decide_eq_false e, decide_eq_false fun z => e (V.int.inj z)]
theorem go_eq (h : Q (.bl (decide (i = j))) L) : GOp X (compareOp .Eq) (.int i) (.int j) L Q := GOp.of op_eq fun H hH => ⟨rfl, L, hH, by rw [dec_int]; exact h⟩
theorem go_ne (h : Q (.bl (!decide (i = j))) L) : GOp X (compareOp .NotEq) (.int i) (.int j) L Q := GOp.of op_ne fun H hH => ⟨rfl, L, hH, by rw [dec_int]; exact h⟩
theorem go_isN (h : Q (.bl (decide (x = .non))) L) : GOp X (compareOp .Is) x .non L Q := GOp.of op_isN fun H hH => ⟨rfl, L, hH, h⟩
theorem go_notN (h : Q (.bl (!decide (x = .non))) L) : GOp X (compareOp .IsNot) x .non L Q := GOp.of op_notN fun H hH => ⟨rfl, L, hH, h⟩
/-- data, told by the ledger -/
def Dl (L : Lg) (v : V) (d : PyData) : Prop := ∀ K H, Has H L → Dp K H v d
def Dls (L : Lg) (vs : List V) (ds : List PyData) : Prop := ∀ K H, Has H L → DpAll K H vs ds
theorem dl_int : Dl L (.int i) (.int i) := fun _ _ _ => .int i
theorem dl_lst {ds : List PyData} (m : (p, HO.lst xs) ∈ L) (h : Dls L xs ds) : Dl L (.ref p) (.list ds) := fun K H hH => .lst (sql hH m) (h K H hH)
theorem dl_tup {ds : List PyData} (m : (p, HO.tup xs) ∈ L) (h : Dls L xs ds) : Dl L (.ref p) (.tuple ds) := fun K H hH => .tup (sqt hH m) (h K H hH)
theorem dls_nil : Dls L [] [] := fun _ _ _ => .nil
theorem dls_cons {d : PyData} {ds : List PyData} (a : Dl L v d) (h : Dls L xs ds) : Dls L (v :: xs) (d :: ds) := fun K H hH => .cons (a K H hH) (h K H hH)
theorem dls_ints : ∀ {ns : List Int}, Dls L (ns.map V.int) (ns.map PyData.int)
  | [] => dls_nil
  | _ :: _ => dls_cons dl_int dls_ints
theorem go_eqD {k : Nat} {d e : PyData} (hr : Room k X.A) (a : Dl L x d) (b : Dl L y e) (s1 : SeqAt.shaped d = true) (s2 : SeqAt.shaped e = true) (h : Q (.bl (PyData.eqv d e)) L) : GOp X (compareOp .Eq) x y L Q := GOp.of (op_eqD hr.units) fun H hH => ⟨d, e, a _ H hH, b _ H hH, s1, s2, L, hH, h⟩
theorem go_neD {k : Nat} {d e : PyData} (hr : Room k X.A) (a : Dl L x d) (b : Dl L y e) (s1 : SeqAt.shaped d = true) (s2 : SeqAt.shaped e = true) (h : Q (.bl (!PyData.eqv d e)) L) : GOp X (compareOp .NotEq) x y L Q := GOp.of (op_neD hr.units) fun H hH => ⟨d, e, a _ H hH, b _ H hH, s1, s2, L, hH, h⟩
theorem gi_lst (m : (p, HO.lst xs) ∈ L) (e : atI xs i = some v) (h : Q v L) : GIx X (.ref p) (.int i) L Q := GIx.of ix_list fun H hH => ⟨p, xs, i, v, rfl, rfl, sql hH m, e, L, hH, h⟩
theorem gi_tup (m : (p, HO.tup xs) ∈ L) (e : atI xs i = some v) (h : Q v L) : GIx X (.ref p) (.int i) L Q := GIx.of ix_tup fun H hH => ⟨p, xs, i, v, rfl, rfl, sqt hH m, e, L, hH, h⟩
theorem gc_lenL (m : (p, HO.lst xs) ∈ L) (h : Q (.int (xs.length : Int)) L) : GC X (.builtin "len") [.ref p] L Q := GC.of call_len_seq fun H hH => ⟨p, xs, rfl, .inl (sql hH m), L, hH, h⟩
theorem gc_lenT (m : (p, HO.tup xs) ∈ L) (h : Q (.int (xs.length : Int)) L) : GC X (.builtin "len") [.ref p] L Q := GC.of call_len_seq fun H hH => ⟨p, xs, rfl, .inr (sqt hH m), L, hH, h⟩
theorem gc_int (h : Q (.int i) L) : GC X (.type "int") [.int i] L Q := GC.of call_int1 fun H hH => .inl ⟨i, rfl, L, hH, h⟩
theorem gc_intB {k : Bool} (h : Q (.int (if k then 1 else 0)) L) : GC X (.type "int") [.bl k] L Q := GC.of call_int1 fun H hH => .inr ⟨k, rfl, L, hH, h⟩
theorem gc_abs (h : Q (.int (i.natAbs : Int)) L) : GC X (.builtin "abs") [.int i] L Q := GC.of call_abs fun H hH => ⟨i, rfl, L, hH, by
  have e : (if i < 0 then -i else i) = (i.natAbs : Int) := by split <;> omega
  rw [e]
  exact h⟩
theorem gc_min2 (hc : X.calm = true) (h : Q (.int (if j < i then j else i)) L) : GC X (.builtin "min") [.int i, .int j] L Q := GC.of (call_min2 hc) fun H hH => ⟨i, j, rfl, L, hH, h⟩
theorem gc_list (m : (p, HO.lst xs) ∈ L) (h : ∀ q, Q (.ref q) ((q, .lst xs) :: L)) : GC X (.type "list") [.ref p] L Q := GC.of call_list_of fun H hH => ⟨p, xs, rfl, .inl (sql hH m), fun l hl => ⟨_, hH.new hl, h l⟩⟩
/-- isinstance against a built-in class -/
theorem gc_isi {T c : String} {b : Bool} (ty : ∀ H, Has H L → TyX X.K H x (.type T)) (k : kitB T c = some b) (h : Q (.bl b) L) : GC X (.builtin "isinstance") [x, .ty c] L Q :=
  GC.of call_isi fun H hH => ⟨x, .ty c, .type T, .type c, b, rfl, .ty c, ty H hH, kit_ty k, L, hH, h⟩
end
section
variable {X : Cx} {η : En} {L : Lg} {Q : QV} {e : Expr} {es : List Expr} {pos p : Pos} {x : Str}
theorem ge_B {id : String} (hm : X.mg x = none) (hv : bootBuiltins x = some (.builtin id)) (h : GA X (e :: es) η L fun xs L1 => GC X (.builtin id) xs L1 Q) (hg : Gl X x := by rfl) (hn : x ≠ "__name__" := by decide) (hdb : (x == ("__debug__" : Str)) = false := by decide)
    (he : starEach (e :: es) X.env = (false, eval e X.env) :: starEach es X.env := by rfl) (hpl : (backTo pos (starEach es X.env)).any (·.1) = false := by rfl) : GE X (.Call (.Name x p) (e :: es) [] pos) η L Q := fun hN H hH =>
  WE.of (pe_callB (r := fun xs H' Q' => ∀ pins s σ us, Inv X pins σ H' s → Vals xs us → wpAny (model X.prog X.w) X.A (call (.builtin id) us) (EP X pins σ Q') X.xe s)
    (fun pins s σ H' xs us Q' I r q => q pins s σ us I r) hg hm hv pa_W hn hdb he hpl)
    (h.then hN hH fun _ _ _ h1 q1 => fun pins s σ us I r => q1 pins s σ _ us h1 I r)
theorem ge_Y {T : String} (hm : X.mg x = none) (hv : bootBuiltins x = some (.type T)) (h : GA X (e :: es) η L fun xs L1 => GC X (.type T) xs L1 Q) (hg : Gl X x := by rfl) (hn : x ≠ "__name__" := by decide) (hdb : (x == ("__debug__" : Str)) = false := by decide)
    (he : starEach (e :: es) X.env = (false, eval e X.env) :: starEach es X.env := by rfl) (hpl : (backTo pos (starEach es X.env)).any (·.1) = false := by rfl) : GE X (.Call (.Name x p) (e :: es) [] pos) η L Q := fun hN H hH =>
  WE.of (pe_callTy (r := fun xs H' Q' => ∀ pins s σ us, Inv X pins σ H' s → Vals xs us → wpAny (model X.prog X.w) X.A (call (.type T) us) (EP X pins σ Q') X.xe s)
    (fun pins s σ H' xs us Q' I r q => q pins s σ us I r) hg hm hv pa_W hn hdb he hpl)
    (h.then hN hH fun _ _ _ h1 q1 => fun pins s σ us I r => q1 pins s σ _ us h1 I r)
/-- the name of a built-in class as a value -/
theorem ge_tyName {T : String} (hm : X.mg x = none) (hv : bootBuiltins x = some (.type T)) (q : Q (.ty T) L) (hg : Gl X x := by rfl) (hn : x ≠ "__name__" := by decide) (hdb : (x == ("__debug__" : Str)) = false := by decide) : GE X (.Name x pos) η L Q :=
  ge_con (pe_bltn (v := .ty T) hg hm hv rfl hn hdb) q
/-- the built-ins are no names of the module -/
structure Bi (mg : Str → Option Value) : Prop where
  len : mg "len" = none
  int : mg "int" = none
  abs : mg "abs" = none
  min : mg "min" = none
  max : mg "max" = none
  range : mg "range" = none
  isinstance : mg "isinstance" = none
  list : mg "list" = none
  tuple : mg "tuple" = none
  bool : mg "bool" = none
  str : mg "str" = none
  repr : mg "repr" = none
  sum : mg "sum" = none
  sorted : mg "sorted" = none
  any : mg "any" = none
  all : mg "all" = none
  enumerate : mg "enumerate" = none
  zip : mg "zip" = none
  ValueError : mg "ValueError" = none
  LookupError : mg "LookupError" = none
  reversed : mg "reversed" = none
  b_set : mg "set" = none
  dict : mg "dict" = none
  iter : mg "iter" = none
  next : mg "next" = none
  b_type : mg "type" = none
theorem bt_len : bootBuiltins "len" = some (.builtin "len") := by decide +kernel
theorem bt_abs : bootBuiltins "abs" = some (.builtin "abs") := by decide +kernel
theorem bt_min : bootBuiltins "min" = some (.builtin "min") := by decide +kernel
theorem bt_isinstance : bootBuiltins "isinstance" = some (.builtin "isinstance") := by decide +kernel
theorem bt_int : bootBuiltins "int" = some (.type "int") := by decide +kernel
theorem bt_bool : bootBuiltins "bool" = some (.type "bool") := by decide +kernel
theorem bt_list : bootBuiltins "list" = some (.type "list") := by decide +kernel
theorem bt_tuple : bootBuiltins "tuple" = some (.type "tuple") := by decide +kernel
theorem bt_ValueError : bootBuiltins "ValueError" = some (.type "ValueError") := by decide +kernel
theorem bt_LookupError : bootBuiltins "LookupError" = some (.type "LookupError") := by decide +kernel
theorem bt_str : bootBuiltins "str" = some (.type "str") := by decide +kernel
end
section
variable {X : Cx} {η : En} {L : Lg} {e a b c tg : Expr} {pos : Pos} {st : Stmt} {rest body : List Stmt} {D : GD} {v : V}
theorem GG.then {Q : En → Lg → Prop} {Q' : L2.St → Hp → Prop} (h : GG X tg v η L Q) (hN : X.N = names η) {H : Hp} (hH : Has H L) (m : ∀ θ L1 H1, X.N = names θ → Has H1 L1 → Q θ L1 → Q' (vals θ) H1) : WG X tg v (vals η) H Q' := (h hN H hH).mono fun σ' H1 ⟨θ, L1, n1, es, h1, q1⟩ => by
  rw [es]
  exact m θ L1 H1 n1 h1 q1
theorem GGs.then {ts : List Expr} {vs : List V} {Q : En → Lg → Prop} {Q' : L2.St → Hp → Prop} (h : GGs X ts vs η L Q) (hN : X.N = names η) {H : Hp} (hH : Has H L) (m : ∀ θ L1 H1, X.N = names θ → Has H1 L1 → Q θ L1 → Q' (vals θ) H1) : WGs X ts vs (vals η) H Q' := (h hN H hH).mono fun σ' H1 ⟨θ, L1, n1, es, h1, q1⟩ => by
  rw [es]
  exact m θ L1 H1 n1 h1 q1
theorem gg_name {x : Str} {θ : En} {Q : En → Lg → Prop} (p : Put x v η θ) (q : Q θ L) (hn : X.N.Nodup := by assumption) (hx : Loc X.env.scope x := by first | exact Or.inl rfl | exact Or.inr rfl) (hf : X.fn x = true ∨ X.env.scope.names.lookup x = some .local := by first | exact .inl rfl | exact .inr rfl) : GG X (.Name x pos) v η L Q := fun hN H hH => by
  obtain ⟨i, h1, h2, h3⟩ := p.idx
  refine WG.of (pg_name (i := i) hn (by rw [hN]; exact h1) hx hf) ?_
  show upS X Q ((vals η).set i (some v)) H
  exact ⟨θ, L, by rw [h3]; exact hN, h2.symm, hH, q⟩
theorem ggs_nil {Q : En → Lg → Prop} (q : Q η L) : GGs X [] [] η L Q := fun hN H hH => WGs.of pgs_nil ⟨rfl, η, L, hN, rfl, hH, q⟩
theorem ggs_cons {ts : List Expr} {vs : List V} {Q : En → Lg → Prop} (h : GG X e v η L fun θ L1 => GGs X ts vs θ L1 Q)
    (hs : (assignEach (e :: ts) X.env).map (·.2) = assign e X.env :: (assignEach ts X.env).map (·.2) := by rfl) : GGs X (e :: ts) (v :: vs) η L Q := fun hN H hH =>
  WGs.of (pgs_cons pg_W pgs_W hs) ⟨v, vs, rfl, h.then hN hH fun θ L1 H1 n1 h1 q1 => q1 n1 H1 h1⟩
theorem gg_tup {es : List Expr} {k : Nat} {p : Addr} {xs : List V} {Q : En → Lg → Prop} (m : (p, HO.tup xs) ∈ L) (h : GGs X es xs η L Q) (hl : xs.length = es.length := by rfl) (hc : X.calm = true := by rfl)
    (hn : (assignEach es X.env).length = es.length := by rfl) (hst : (assignEach es X.env).findIdx? (·.1) = none := by rfl) : GG X (.Tuple es k pos) (.ref p) η L Q := fun hN H hH =>
  WG.of (pg_tup hc pgs_W hn hst) ⟨p, xs, rfl, sqt hH m, hl, h hN H hH⟩
/-- o[i] = v, by values -/
def GSt (X : Cx) (o i v : V) (L : Lg) (Q : Lg → Prop) : Prop := ∀ pins s σ H ov iv u, Has H L → Inv X pins σ H s → RelV o ov → RelV i iv → RelV v u →
  wpAny (model X.prog X.w) X.A (setItem ov iv u) (fun _ s' => ∃ H', Inv X pins σ H' s' ∧ ∃ L', Has H' L' ∧ Q L') X.xe s
theorem gst_lst {p : Addr} {xs : List V} {k : Int} {j : Nat} {M : Lg} {Q : Lg → Prop} (m : (p, HO.lst xs) ∈ L) (hi : ixN xs.length k = some j) (sw : Swap p (.lst (xs.set j v)) L M) (q : Q M) : GSt X (.ref p) (.int k) v L Q :=
  fun pins s σ H ov iv u hH I r1 r2 r3 => (show PSet X rSetL from set_list) pins s σ H (.ref p) (.int k) v ov iv u _ I r1 r2 r3 ⟨p, xs, k, j, rfl, rfl, hH.get m, hi, M, hH.swap sw, q⟩
theorem gst_30 {p : Addr} {a b c : V} {M : Lg} {Q : Lg → Prop} (m : (p, HO.lst [a, b, c]) ∈ L) (sw : Swap p (.lst [v, b, c]) L M) (q : Q M) : GSt X (.ref p) (.int 0) v L Q := gst_lst (j := 0) m rfl sw q
theorem gst_31 {p : Addr} {a b c : V} {M : Lg} {Q : Lg → Prop} (m : (p, HO.lst [a, b, c]) ∈ L) (sw : Swap p (.lst [a, v, c]) L M) (q : Q M) : GSt X (.ref p) (.int 1) v L Q := gst_lst (j := 1) m rfl sw q
theorem gst_32 {p : Addr} {a b c : V} {M : Lg} {Q : Lg → Prop} (m : (p, HO.lst [a, b, c]) ∈ L) (sw : Swap p (.lst [a, b, v]) L M) (q : Q M) : GSt X (.ref p) (.int 2) v L Q := gst_lst (j := 2) m rfl sw q
theorem gg_sub {o i : Expr} {Q : En → Lg → Prop} (h : GE X o η L fun x L1 => GE X i η L1 fun y L2 => GSt X x y v L2 fun L3 => Q η L3)
    (ha : ∀ v, assign (.Subscript o i pos) X.env v = (do
      let ov ← holding [v] (eval o X.env)
      let iv ← holding [v, ov] (eval i X.env)
      standAt pos
      holding [v, ov, iv] (setItem ov iv v)
      release [v, ov, iv] []) := by intro _; rfl) : GG X (.Subscript o i pos) v η L Q := fun hN H hH =>
  WG.of (pg_sub (t := fun x y z H' Q' => ∀ pins s σ ov iv u, Inv X pins σ H' s → RelV x ov → RelV y iv → RelV z u → wpAny (model X.prog X.w) X.A (setItem ov iv u) (fun _ s' => ∃ H'', Inv X pins σ H'' s' ∧ Q' H'') X.xe s)
    pe_W pe_W (fun pins s σ H' x y z ov iv u Q' I r1 r2 r3 q => q pins s σ ov iv u I r1 r2 r3) ha)
    (h.then hN hH fun _ _ _ h1 q1 => q1.then hN h1 fun _ _ _ h2 q2 => fun pins s σ ov iv u I r1 r2 r3 =>
      thn (q2 pins s σ _ ov iv u h2 I r1 r2 r3) fun _ _ ⟨H3, J, L3, h3, q3⟩ => ⟨H3, J, η, L3, hN, rfl, h3, q3⟩)
theorem GS.run {σ : L2.St} {H : Hp} (h : GS X st D η L) (hN : X.N = names η) (hH : Has H L) : WS X st (D.ends X) (vals η) H := h hN H hH
theorem SPm {pins : List (Addr × Obj)} {D D' : Ends} {f : Flow} {s : Shared} (h : SP X pins D f s) (nx : ∀ σ H, D.nx σ H → D'.nx σ H) (rt : ∀ v H, D.rt v H → D'.rt v H) (bk : ∀ σ H, D.bk σ H → D'.bk σ H) (ct : ∀ σ H, D.ct σ H → D'.ct σ H) : SP X pins D' f s := by
  cases f with
  | next => obtain ⟨σ', H', I, q⟩ := h; exact ⟨σ', H', I, nx _ _ q⟩
  | brk => obtain ⟨σ', H', I, q⟩ := h; exact ⟨σ', H', I, bk _ _ q⟩
  | cont => obtain ⟨σ', H', I, q⟩ := h; exact ⟨σ', H', I, ct _ _ q⟩
  | ret u => obtain ⟨v, σ', H', I, r, q⟩ := h; exact ⟨v, σ', H', I, r, rt _ _ q⟩
theorem WS.mono {σ : L2.St} {H : Hp} {D D' : Ends} (h : WS X st D σ H) (nx : ∀ σ H, D.nx σ H → D'.nx σ H) (rt : ∀ v H, D.rt v H → D'.rt v H) (bk : ∀ σ H, D.bk σ H → D'.bk σ H) (ct : ∀ σ H, D.ct σ H → D'.ct σ H) : WS X st D' σ H :=
  fun pins s I => thn (h pins s I) fun _ _ z => SPm z nx rt bk ct
theorem WSs.mono {σ : L2.St} {H : Hp} {D D' : Ends} {sts : List Stmt} (h : WSs X sts D σ H) (nx : ∀ σ H, D.nx σ H → D'.nx σ H) (rt : ∀ v H, D.rt v H → D'.rt v H) (bk : ∀ σ H, D.bk σ H → D'.bk σ H) (ct : ∀ σ H, D.ct σ H → D'.ct σ H) : WSs X sts D' σ H :=
  fun pins s I => thn (h pins s I) fun _ _ z => SPm z nx rt bk ct
theorem gss_nil (q : D.nx η L) : GSs X [] D η L := fun hN H hH => WSs.of pss_nil ⟨η, L, hN, rfl, hH, q⟩
theorem gss_cons (h : GS X st { D with nx := fun θ L1 => GSs X rest D θ L1 } η L) : GSs X (st :: rest) D η L := fun hN H hH =>
  WSs.of (pss_cons ps_W pss_W) ((h hN H hH).mono (fun σ1 H1 ⟨θ, L1, n1, es, h1, q1⟩ => by
    rw [es]
    exact q1 n1 H1 h1) (fun _ _ z => z) (fun _ _ z => z) fun _ _ z => z)
theorem GS.cut (M : En → Lg → Prop) {Q : En → Lg → Prop} (h : GS X st { D with nx := M } η L) (k : ∀ θ L1, M θ L1 → Q θ L1) (e : D.nx = Q := by rfl) : GS X st D η L := fun hN H hH =>
  (h hN H hH).mono (fun σ1 H1 ⟨θ, L1, n1, es, h1, q1⟩ => ⟨θ, L1, n1, es, h1, by rw [e]; exact k θ L1 q1⟩) (fun _ _ z => z) (fun _ _ z => z) fun _ _ z => z
theorem GSs.sub {M : Lg} {sts : List Stmt} (s : Sub M L) (h : GSs X sts D η M) : GSs X sts D η L := fun hN H hH => h hN H (s H hH)
theorem GS.sub {M : Lg} (s : Sub M L) (h : GS X st D η M) : GS X st D η L := fun hN H hH => h hN H (s H hH)
theorem gs_pass (q : D.nx η L) : GS X (.Pass pos) D η L := fun hN H hH => WS.of ps_pass ⟨η, L, hN, rfl, hH, q⟩
theorem gs_break (q : D.bk η L) : GS X (.Break pos) D η L := fun hN H hH => WS.of ps_break ⟨η, L, hN, rfl, hH, q⟩
theorem gs_continue (q : D.ct η L) : GS X (.Continue pos) D η L := fun hN H hH => WS.of ps_continue ⟨η, L, hN, rfl, hH, q⟩
theorem gs_expr (h : GE X e η L fun _ L1 => D.nx η L1) (hs : swapsWith e none pos.line X.env = pure false := by rfl) : GS X (.Expr e pos) D η L := fun hN H hH =>
  WS.of (ps_expr pe_W hs) (h.then hN hH fun _ L1 H1 h1 q1 => ⟨η, L1, hN, rfl, h1, q1⟩)
theorem gs_ret (h : GE X e η L D.rt) : GS X (.Return (some e) pos) D η L := fun hN H hH => WS.of (ps_ret pe_W) (h hN H hH)
theorem gs_retN (q : D.rt .non L) : GS X (.Return none pos) D η L := fun hN H hH => WS.of ps_retN ⟨L, hH, q⟩
theorem gs_if {p q : List Stmt} (h : GT X c η L fun k L1 => if k = true then GSs X p D η L1 else GSs X q D η L1) : GS X (.If c p q pos) D η L := fun hN H hH =>
  WS.of (ps_if pt_W pss_W pss_W) (h.then hN hH fun k L1 H1 h1 q1 => by
    cases k with
    | true => exact q1 hN H1 h1
    | false => exact q1 hN H1 h1)
/-- x = e, x a name of the def's own -/
theorem gs_set {x : Str} {f : V → En} {pos' : Pos} (p : PutF x η f) (h : GE X e η L fun v L1 => D.nx (f v) L1) (hn : X.N.Nodup := by assumption) (hx : Loc X.env.scope x := by first | exact Or.inl rfl | exact Or.inr rfl)
    (hs : swapsWith e (some (.Name x pos')) pos.line X.env = pure false := by rfl) (hf : X.fn x = true ∨ X.env.scope.names.lookup x = some .local := by first | exact .inl rfl | exact .inr rfl) : GS X (.Assign [.Name x pos'] e pos) D η L := fun hN H hH => by
  obtain ⟨i, h1, h2⟩ := p.idx
  refine WS.of (ps_set (i := i) hn (by rw [hN]; exact h1) hx pe_W hs hf) (h.then hN hH fun v L1 H1 g1 q1 => ?_)
  show upS X D.nx ((vals η).set i (some v)) H1
  exact ⟨f v, L1, by rw [(h2 v).2]; exact hN, (h2 v).1.symm, g1, q1⟩
/-- x op= y, by values -/
def GIp (X : Cx) (op : Operator) (x y : V) (L : Lg) (Q : QV) : Prop := ∀ pins s σ H v u, Has H L → Inv X pins σ H s → RelV x v → RelV y u → wpAny (model X.prog X.w) X.A (inplaceOp op v u) (EP X pins σ (up Q)) X.xe s
theorem gp_add {i j : Int} {Q : QV} (h : Q (.int (i + j)) L) : GIp X .Add (.int i) (.int j) L Q := fun pins s σ H v u hH I r1 r2 => (show PIp X .Add (ipI fun i j => i + j) from ip_add) pins s σ H _ _ v u _ I r1 r2 ⟨i, j, rfl, rfl, L, hH, h⟩
theorem gp_sub {i j : Int} {Q : QV} (h : Q (.int (i - j)) L) : GIp X .Sub (.int i) (.int j) L Q := fun pins s σ H v u hH I r1 r2 => (show PIp X .Sub (ipI fun i j => i - j) from ip_sub) pins s σ H _ _ v u _ I r1 r2 ⟨i, j, rfl, rfl, L, hH, h⟩
/-- x op= e -/
theorem gs_aug {x : Str} {y : V} {f : V → En} {pos' : Pos} {op : Operator} (r : At x y η) (p : PutF x η f)
    (h : GE X e η L fun z L1 => GIp X op y z L1 fun w L2 => D.nx (f w) L2)
    (hn : X.N.Nodup := by assumption) (hx : Loc X.env.scope x := by first | exact Or.inl rfl | exact Or.inr rfl) (hf : X.fn x = true ∨ X.env.scope.names.lookup x = some .local := by first | exact .inl rfl | exact .inr rfl) : GS X (.AugAssign (.Name x pos') op e pos) D η L := fun hN H hH => by
  obtain ⟨i, h1, h2⟩ := p.idx
  obtain ⟨j, g1, g2⟩ := r.idx
  have ij : i = j := by
    have h1' : X.N[i]? = some x := by rw [hN]; exact h1
    have g1' : X.N[j]? = some x := by rw [hN]; exact g1
    obtain ⟨a1, a2⟩ := List.getElem?_eq_some_iff.mp h1'
    obtain ⟨b1, b2⟩ := List.getElem?_eq_some_iff.mp g1'
    exact (List.getElem_inj hn).mp (a2.trans b2.symm)
  subst ij
  refine WS.of (ps_aug (i := i) (ti := fun a b H' Q' => ∀ pins s σ v u, Inv X pins σ H' s → RelV a v → RelV b u → wpAny (model X.prog X.w) X.A (inplaceOp op v u) (EP X pins σ Q') X.xe s) hn (by rw [hN]; exact h1) hx pe_W
    (fun pins s σ H' a b v u Q' I r1 r2 q => q pins s σ v u I r1 r2) hf) ⟨y, g2, ?_⟩
  refine h.then hN hH fun z L1 H1 k1 q1 => fun pins s σ v u I r1 r2 => ?_
  refine thn (q1 pins s σ H1 v u k1 I r1 r2) fun w _ ⟨x', H2, J, r3, L2, k2, q2⟩ => ⟨x', H2, J, r3, ?_⟩
  show upS X D.nx ((vals η).set i (some x')) H2
  exact ⟨f x', L2, by rw [(h2 x').2]; exact hN, (h2 x').1.symm, k2, q2⟩
/-- a, b = x, y (both written) -/
theorem gs_par {x y : Str} {f : V → En} {g : V → V → En} {px py pt pos : Pos} {kt k2 pt2} (p : PutF x η f) (q : ∀ v, PutF y (f v) (g v)) (h : GA X [a, b] η L fun vs L1 => ∃ v w, vs = [v, w] ∧ D.nx (g v w) L1)
    (hw : swappedStores [.Tuple [.Name x px, .Name y py] kt pt] (.Tuple [a, b] k2 pt2) X.env = pure (some [x, y]) := by rfl) (hxy : x ≠ y := by decide +kernel) (hn : X.N.Nodup := by assumption) (hc : X.calm = true := by rfl)
    (hx : X.env.scope.names.lookup x = some .local := by rfl) (hy : X.env.scope.names.lookup y = some .local := by rfl)
    (hs : swapsWithSole [.Tuple [.Name x px, .Name y py] kt pt] (.Tuple [a, b] k2 pt2) pos.line X.env = pure false := by rfl) :
    GS X (.Assign [.Tuple [.Name x px, .Name y py] kt pt] (.Tuple [a, b] k2 pt2) pos) D η L := fun hN H hH => by
  obtain ⟨i, h1, h2⟩ := p.idx
  obtain ⟨j, g1⟩ : ∃ j : Nat, ∀ v, (names (f v))[j]? = some y ∧ ∀ w, vals (g v w) = (vals (f v)).set j (some w) ∧ names (g v w) = names (f v) := by
    obtain ⟨j, k1, k2⟩ := (q .non).idx
    refine ⟨j, fun v => ?_⟩
    obtain ⟨j', m1, m2⟩ := (q v).idx
    have e : j = j' := by
      rw [(h2 .non).2] at k1
      rw [(h2 v).2] at m1
      have k1' : X.N[j]? = some y := by rw [hN]; exact k1
      have m1' : X.N[j']? = some y := by rw [hN]; exact m1
      obtain ⟨a1, a2⟩ := List.getElem?_eq_some_iff.mp k1'
      obtain ⟨b1, b2⟩ := List.getElem?_eq_some_iff.mp m1'
      exact (List.getElem_inj hn).mp (a2.trans b2.symm)
    subst e
    exact ⟨m1, m2⟩
  have hi : X.N[i]? = some x := by rw [hN]; exact h1
  have hj : X.N[j]? = some y := by
    have z := (g1 .non).1
    rw [(h2 .non).2] at z
    rw [hN]
    exact z
  have hij : i ≠ j := fun e => hxy (by rw [e, hj] at hi; exact (Option.some.inj hi).symm)
  refine WS.of (ps_par (i := i) (j := j) hc hn hi hj hij hx hy pa_W hw hs) (h.then hN hH fun vs L1 H1 k1 ⟨v, w, e1, q1⟩ => ⟨v, w, e1, ?_⟩)
  show upS X D.nx (((vals η).set i (some v)).set j (some w)) H1
  refine ⟨g v w, L1, ?_, ?_, k1, q1⟩
  · rw [((g1 v).2 w).2, (h2 v).2]
    exact hN
  · rw [((g1 v).2 w).1, (h2 v).1]
end
section
variable {X : Cx} {η : En} {L : Lg} {e a b c tg iter : Expr} {pos : Pos} {body : List Stmt} {D : GD}
theorem gs_asg (h : GE X e η L fun v L1 => GG X tg v η L1 D.nx) (hs : swapsWithSole [tg] e pos.line X.env = pure false := by rfl) (hw : swappedStores [tg] e X.env = pure none := by rfl)
    (h1 : (assignEach [tg] X.env).map (·.2) = [assign tg X.env] := by rfl) : GS X (.Assign [tg] e pos) D η L := fun hN H hH =>
  WS.of (ps_asg pe_W pg_W hs hw h1) (h.then hN hH fun v L1 H1 k1 q1 => q1 hN H1 k1)
/-- a loop's invariant: Pv by the turn -/
structure LoopBy (X : Cx) (tg : Expr) (body : List Stmt) (D : GD) (item : Nat → V → Prop) (n : Nat) (η : En) (L : Lg) (Pv : Nat → En → Lg → Prop) : Prop where
  h0 : Pv 0 η L
  hs : ∀ i x θ M, i < n → item i x → Pv i θ M → GG X tg x θ M fun θ' M' => GSs X body { nx := Pv (i + 1), rt := D.rt, bk := D.nx, ct := Pv (i + 1) } θ' M'
  hd : ∀ θ M, Pv n θ M → D.nx θ M
/-- one turn, as the library's loops ask it -/
theorem turn {item : Nat → V → Prop} {n : Nat} {Pv : Nat → En → Lg → Prop} (l : LoopBy X tg body D item n η L Pv) {i : Nat} {x : V} {σ : L2.St} {H : Hp} (hi : i < n) (hx : item i x) (p : upS X (Pv i) σ H) :
    WG X tg x σ H fun σ2 H2 => WSs X body { D.ends X with nx := upS X (Pv (i + 1)), ct := upS X (Pv (i + 1)), bk := (D.ends X).nx } σ2 H2 := by
  obtain ⟨θ, M, n1, es, h1, q1⟩ := p
  rw [es]
  exact (l.hs i x θ M hi hx q1).then n1 h1 fun θ' M' H2 n2 h2 q2 => q2 n2 H2 h2
/-- while: the word Pv with its measure as a part -/
theorem gs_while (Pv : Nat → En → Lg → Prop) (m0 : Nat) (h0 : Pv m0 η L)
    (hs : ∀ m θ M, Pv m θ M → GT X c θ M fun k M1 => if k = true then GSs X body { nx := fun θ' M' => ∃ m', m' < m ∧ Pv m' θ' M', rt := D.rt, bk := D.nx, ct := fun θ' M' => ∃ m', m' < m ∧ Pv m' θ' M' } θ M1 else D.nx θ M1)
    (hp : PassesOwn (model X.prog X.w) X.A X.env X.xe := by first | exact PassesOwn.never | exact passes_of rfl | assumption) : GS X (.While c body [] pos) D η L := fun hN H hH =>
  WS.of (ps_while hp pt_W pss_W) ⟨fun m => upS X (Pv m), ⟨m0, η, L, hN, rfl, hH, h0⟩, fun m σ H1 ⟨θ, M, n1, es, h1, q1⟩ => by
    rw [es]
    refine (hs m θ M q1).then n1 h1 fun k M1 H2 h2 q2 => ?_
    cases k with
    | true =>
      refine ⟨upS X fun θ' M' => ∃ m', m' < m ∧ Pv m' θ' M', fun σ' H' ⟨θ', M', n', e', h', m', hlt, q'⟩ => ⟨m', hlt, θ', M', n', e', h', q'⟩, ?_⟩
      exact q2 n1 H2 h2
    | false => exact ⟨θ, M1, n1, rfl, h2, q2⟩⟩
end
abbrev XL := Value → Option Addr → Lg → Prop
abbrev SpL := List V → Lg → QV → XL → Prop
/-- a promise over ledgers, as the library's -/
def toSp (sp : SpL) : Sp := fun vs H Q E => ∃ L Ql El, Has H L ∧ sp vs L Ql El ∧ (∀ v L' H', Has H' L' → Ql v L' → Q v H') ∧ ∀ c d L' H', Has H' L' → El c d L' → E c d H'
section
variable {P : Program} {w : World} {K : PySem.W.Frag} {mg : Str → Option Value} {base : Heap}
/-- the def x of the text as it stands behind the top -/
def Df (K : PySem.W.Frag) (mg : Str → Option Value) (x : Str) (st : Stmt) : Prop := ∃ f fd, mg x = some (.ref f) ∧ Fun K x x st f fd
/-- room for calls, and no repr that is under way -/
structure RoomG (k : Nat) (A : Around) : Prop extends Room k A where
  gd : A.guards = some []
theorem RoomG.mono {j k : Nat} {A : Around} (r : RoomG k A) (h : j ≤ k) : RoomG j A := ⟨r.toRoom.mono h, r.gd⟩
/-- what is at f keeps its promise; args: how the call's values are handed over -/
def RunG (P : Program) (w : World) (K : PySem.W.Frag) (mg : Str → Option Value) (base : Heap) (CX : CXT) (k : Nat) (f : Addr) (args : List Value → Args) (sp : Sp) : Prop :=
  ∀ (A : Around) (outer : List Env) (s : Shared) (H : Hp) (us : List Value) (vs : List V) (Q : VK) (E : XK), RoomG k A → Env0 P w K mg base A outer s H → Vals vs us → sp vs H Q E → codeAny (model P w) A (.call (.ref f) (args us)) (CR CX outer P w H s Q E) s
abbrev argsP : List Value → Args := fun us => ⟨us, []⟩
theorem RunG.imp {CX : CXT} {k : Nat} {f : Addr} {args : List Value → Args} {sp sp' : Sp} (F : RunG P w K mg base CX k f args sp) (h : ∀ vs H Q E, sp' vs H Q E → sp vs H Q E) : RunG P w K mg base CX k f args sp' := fun A outer s H us vs Q E hr e0 r hs => F A outer s H us vs Q E hr e0 r (h _ _ _ _ hs)
theorem RunG.mono {CX : CXT} {j k : Nat} {f : Addr} {args : List Value → Args} {sp : Sp} (F : RunG P w K mg base CX j f args sp) (h : j ≤ k) : RunG P w K mg base CX k f args sp := fun A outer s H us vs Q E hr => F A outer s H us vs Q E (hr.mono h)
/-- the def x keeps its promise -/
def FnA (P : Program) (w : World) (K : PySem.W.Frag) (mg : Str → Option Value) (base : Heap) (CX : CXT) (x : Str) (k : Nat) (args : List Value → Args) (sp : SpL) : Prop := ∃ f, mg x = some (.ref f) ∧ PySem.W.keepIn K (.ref f) = true ∧ RunG P w K mg base CX k f args (toSp sp)
abbrev Fn (P : Program) (w : World) (K : PySem.W.Frag) (mg : Str → Option Value) (base : Heap) (CX : CXT) (x : Str) (k : Nat) (sp : SpL) : Prop := FnA P w K mg base CX x k argsP sp
/-- what is left over may be dropped -/
def drp (Q : QV) : QV := fun v L => ∃ M, Sub M L ∧ Q v M
def bodyD (Q : QV) : GD := { nx := fun _ L => drp Q .non L, rt := drp Q, bk := fun _ _ => False, ct := fun _ _ => False }
def begun (N : List Str) (vs : List V) : En := N.zip (L2.start N vs)
theorem names_begun {N : List Str} {vs : List V} (h : vs.length ≤ N.length) : names (begun N vs) = N ∧ vals (begun N vs) = L2.start N vs := by
  have l : (L2.start N vs).length = N.length := by
    unfold L2.start
    rw [List.length_append, List.length_map, List.length_replicate]
    omega
  unfold names vals begun
  exact ⟨List.map_fst_zip (Nat.le_of_eq l.symm), List.map_snd_zip (Nat.le_of_eq l)⟩
/-- where the body of such a def stands -/
def cx0 (P : Program) (w : World) (K : PySem.W.Frag) (mg : Str → Option Value) (base : Heap) (N : List Str) (x : Str) (sc : Scope) (f : Addr) (cdv : Value) (A : Around) (outer : List Env) (s : Shared) (H : Hp) (E0 : XK) : Cx := (cxOf CX0 P w K mg base N x sc f cdv A outer s H E0).nox
/-- what a body shows, as the library wants it -/
theorem body_end {X : Cx} {st : List Stmt} {vs : List V} {H : Hp} {Q : VK} {Ql : QV} (hl : vs.length ≤ X.N.length) (hq : ∀ v L' H', Has H' L' → Ql v L' → Q v H') {L : Lg} (hH : Has H L) (h : GSs X st (bodyD Ql) (begun X.N vs) L) :
    WSs X st { nx := fun _ H' => Q .non H', rt := Q } (L2.start X.N vs) H := by
  have z := h (by rw [(names_begun hl).1] <;> rfl) H hH
  rw [(names_begun hl).2] at z
  refine z.mono (fun σ H' hh => ?_) (fun v H' hh => ?_) (fun _ _ hh => ?_) (fun _ _ hh => ?_)
  · obtain ⟨θ, M, _, _, h', M', sb, q⟩ := hh
    exact hq _ M' H' (sb _ h') q
  · obtain ⟨M, h', M', sb, q⟩ := hh
    exact hq _ M' H' (sb _ h') q
  · obtain ⟨_, _, _, _, _, q⟩ := hh
    exact q.elim
  · obtain ⟨_, _, _, _, _, q⟩ := hh
    exact q.elim
theorem guard_deeper {A : Around} {e : Env} (h : A.guards = some []) : (A.deeper e).guards = some [] := h
/-- what a promise's body is shown of -/
abbrev BodyOf (P : Program) (w : World) (K : PySem.W.Frag) (mg : Str → Option Value) (base : Heap) (N : List Str) (q : Str) (st : Stmt) (k : Nat) (sp : SpL) : Prop :=
  ∀ (X : Cx) (f : Addr) (cdv : Value) (A : Around) (outer : List Env) (s : Shared) (H : Hp) (E0 : XK) (L : Lg) (vs : List V) (Q : QV) (E : XL), X = cx0 P w K mg base N q (defScope st) f cdv A outer s H E0 → X.N.Nodup → RoomG k X.A → sp vs L Q E → GSs X (defBody st) (bodyD Q) (begun N vs) L
theorem run_plain {x q : Str} {st : Stmt} {f : Addr} {fd : FuncData} {N ps : List Str} {k : Nat} {sp : SpL} (F : Fun K x q st f fd) (S : FnScope N ps (defScope st)) (args : List Value → Args) (pmV : List V → List V) (pmU : List Value → List Value) (hpm : ∀ vs us, Vals vs us → Vals (pmV vs) (pmU us))
    (hb : ∀ (kV doc pm : Value) (an : Option Addr) (cdv ct : Value) (us : List Value), (pmU us).length = ps.length → bindArgs (PySem.W.fnOf x q (defArgs st) (defBody st) (defScope st) .none kV doc pm an cdv ct) (args us) = pure (ps.zip (pmU us)))
    (hl : ps.length ≤ N.length) (len : ∀ vs L Q E, sp vs L Q E → vs.length = ps.length) (body : BodyOf P w K mg base N q st k sp) : RunG P w K mg base CX0 (k + 1) f args (fun vs => toSp sp (pmV vs)) := by
  obtain ⟨oc, od, kV, doc, pm, an, cdv, ct, osl, rfl, lk, hcd⟩ := F.ex
  intro A outer s H us vs Q E hr e0 r hsp
  obtain ⟨L, Ql, El, hH, h, hq, _⟩ := hsp
  have hn : (pmV vs).length = ps.length := len _ L Ql El h
  have r2 := hpm vs us r
  have hlv : (pmV vs).length ≤ N.length := by
    rw [hn]
    exact hl
  exact LamX.run_ofS (CX := CX0) lk hcd S hr.toRoom e0 (.of_eq (hb kV doc pm an cdv ct us (by rw [← r2.length]; exact hn))) r2 hn fun hr2 =>
    ⟨WSs _ (defBody st), PSs.nox pss_W, body_end (X := cx0 P w K mg base N q (defScope st) f cdv A outer s H E) hlv hq hH (body _ f cdv A outer s H E L (pmV vs) Ql El rfl S.nd ⟨hr2, guard_deeper hr.gd⟩ h)⟩
/-- THE RULE for a def that lets no exception out -/
theorem fn_plain {x : Str} {st : Stmt} {N ps : List Str} {k : Nat} {sp : SpL} (F : Df K mg x st) (S : FnScope N ps (defScope st))
    (hb : ∀ (kV doc pm : Value) (an : Option Addr) (cdv ct : Value) (us : List Value), us.length = ps.length → bindArgs (PySem.W.fnOf x x (defArgs st) (defBody st) (defScope st) .none kV doc pm an cdv ct) ⟨us, []⟩ = pure (ps.zip us))
    (hl : ps.length ≤ N.length) (len : ∀ vs L Q E, sp vs L Q E → vs.length = ps.length) (body : BodyOf P w K mg base N x st k sp) : Fn P w K mg base CX0 x (k + 1) sp := by
  obtain ⟨f, fd, hm, F⟩ := F
  exact ⟨f, hm, F.kp, run_plain F S argsP id id (fun _ _ r => r) hb hl len body⟩
end
def NoX : XL := fun _ _ _ => False
def upX (E : XL) : XK := fun c d H => ∃ L, Has H L ∧ E c d L
section
variable {X : Cx} {η : En} {L : Lg} {Q : QV} {El : XL} {CX : CXT} {x : Str} {j k : Nat} {sp : SpL} {e o : Expr} {es : List Expr} {pos p apos : Pos}
theorem passA {E : XK} : Passes CX0 X E := fun _ _ _ _ _ _ _ h => h.elim
theorem up_sp {vs : List V} {H : Hp} (hH : Has H L) (h : sp vs L Q El) : toSp sp vs H (up Q) (upX El) := ⟨L, Q, El, hH, h, fun _ L' _ h' q => ⟨L', h', q⟩, fun _ _ L' _ h' q => ⟨L', h', q⟩⟩
/-- a call that got its values -/
theorem run_G {pins : List (Addr × Obj)} {σ : L2.St} {H : Hp} {s : Shared} {f : Addr} {args : List Value → Args} {us : List Value} {vs : List V} {sp : Sp} {E : XK} {Q : VK} (F : RunG X.prog X.w X.K X.mg X.base CX k f args sp) (hr : RoomG k X.A) (hx : Passes CX X E) (I : Inv X pins σ H s) (r : Vals vs us) (h : sp vs H Q E) :
    wpAny (model X.prog X.w) X.A (call (.ref f) (args us).pos (args us).kw) (EP X pins σ Q) X.xe s := by
  refine wpAny_call (codeAny_mono (F X.A X.stack s H us vs Q E hr I.env0 r h) fun r' s' hq => ?_)
  cases r' with
  | error e => exact hx pins σ H s e s' I hq
  | ok fl =>
    cases fl with
    | ret u => exact I.after hq
    | next => exact hq.elim
    | brk => exact hq.elim
    | cont => exact hq.elim
theorem ge_call (F : Fn X.prog X.w X.K X.mg X.base CX x k sp) (hr : RoomG j X.A) (hx : Passes CX X (upX El)) (h : GA X (e :: es) η L fun vs L1 => sp vs L1 Q El) (hjk : k ≤ j := by decide) (hg : Gl X x := by rfl) (hd : (x == ("__debug__" : Str)) = false := by decide)
    (he : starEach (e :: es) X.env = (false, eval e X.env) :: starEach es X.env := by rfl) (hpl : (backTo pos (starEach es X.env)).any (·.1) = false := by rfl) : GE X (.Call (.Name x p) (e :: es) [] pos) η L Q := fun hN H hH pins s I => by
  obtain ⟨f, hm, hk, F⟩ := F
  refine wpAny_Call_Name_kw (ld_glob I hg hm ?_ hd)
  refine PySem.W.callWith_K (h₀ := X.base) I.ok.mod.kin hk ?_ he hpl
  refine thn (h hN H hH pos pins s I) fun us s1 ⟨vs, H1, J, r, L1, h1, q⟩ => ⟨J.kIn, ?_⟩
  exact run_G (args := argsP) F (hr.mono hjk) hx J r (up_sp h1 q)
/-- xs.append(e) -/
theorem ge_append (h : GE X o η L fun v L1 => ∃ l zs, v = .ref l ∧ (l, HO.lst zs) ∈ L1 ∧ GE X e η L1 fun y L2 => ∃ xs M, (l, HO.lst xs) ∈ L2 ∧ xs.length < sizeLine ∧ Swap l (.lst (xs ++ [y])) L2 M ∧ Q .non M)
    (hbase : attributeBase o "append" X.env (eval o X.env) = eval o X.env := by rfl)
    (hfew : ((backTo pos (starEach [e] X.env)).all (fun x => !x.1) && (backToKw pos (keywordEach [] X.env)).all (fun x => x.1.isSome)
      && decide ([e].length + ([] : List Keyword).length + (if ([] : List Keyword).isEmpty then 0 else 1) < 30)) = true := by rfl)
    (hline : (apos.endLine == pos.line) = true := by rfl) (hs : starEach [e] X.env = (false, eval e X.env) :: starEach [] X.env := by rfl) : GE X (.Call (.Attribute o "append" apos) [e] [] pos) η L Q := fun hN H hH =>
  WE.of (pe_bm PySem.F.plainAttrs_list PySem.F.slot_list_append PySem.F.type_list_append mt_append pe_W (pa_cons pe_W pa_nil hs) hbase hfew hline hs rfl) (h.then hN hH fun v L1 H1 k1 ⟨l, zs, ev, m, q⟩ => by
    subst ev
    exact ⟨.inl ⟨rfl, zs, sql k1 m⟩, q.then hN k1 fun y L2 H2 k2 ⟨xs, M, m2, z, sw, q2⟩ => ⟨l, xs, y, rfl, rfl, k2.get m2, z, M, k2.swap sw, q2⟩⟩)
/-- a slice with both ends left out, or written -/
def GPart (X : Cx) (o : Option Expr) (η : En) (L : Lg) (Q : Option Int → Lg → Prop) : Prop := match o with
  | none => Q none L
  | some e => GE X e η L fun v L1 => ∃ i, v = .int i ∧ Q (some i) L1
def WPart (X : Cx) (o : Option Expr) : TO := match o with
  | none => tNoPart
  | some e => tPart (WE X e)
theorem po_W {o : Option Expr} : PO X o (WPart X o) := by
  cases o with
  | none => exact po_none
  | some e => exact po_some pe_W
theorem GPart.then {o : Option Expr} {Q : Option Int → Lg → Prop} {Q' : Option Int → Hp → Prop} (h : GPart X o η L Q) (hN : X.N = names η) {H : Hp} (hH : Has H L) (m : ∀ v L1 H1, Has H1 L1 → Q v L1 → Q' v H1) : WPart X o (vals η) H Q' := by
  cases o with
  | none => exact m none L H hH h
  | some e => exact GE.then h hN hH fun v L1 H1 h1 ⟨i, ei, q⟩ => ⟨i, ei, m _ L1 H1 h1 q⟩
def InL (K : PySem.W.Frag) (L : Lg) (p : Addr) (xs : List V) : Prop := ∀ H, Has H L → SqL K H p xs
theorem ge_sliceL {lo hi : Option Expr} {p2 : Pos} (h : GE X e η L fun v L1 => ∃ p xs, v = .ref p ∧ GPart X lo η L1 fun i L2 => GPart X hi η L2 fun j L3 => InL X.K L3 p xs ∧ ∀ q, Q (.ref q) ((q, .lst (cutV xs i j)) :: L3)) : GE X (.Subscript e (.Slice lo hi none p2) pos) η L Q := fun hN H hH =>
  WE.of (pe_slice sl_list pe_W po_W po_W) (h.then hN hH fun v L1 H1 k1 ⟨p, xs, ev, q⟩ => q.then hN k1 fun i L2 H2 k2 q2 => q2.then hN k2 fun j L3 H3 k3 ⟨m, q3⟩ => ⟨p, xs, ev, m H3 k3, fun r hr => ⟨_, k3.new hr, q3 r⟩⟩)
end
/-- def f(*v) -/
def spStar (sp : SpL) : SpL := fun vs L Q E => vs.length ≤ sizeLine ∧ ∀ p, sp [.ref p] ((p, .tup vs) :: L) Q E
theorem bind_star0 {B : List Value → Sem (List (Str × Value))} {pv : Str} (h0 : B [] = (newTuple [] >>= fun t => pure [(pv, t)])) (h1 : ∀ r rs, B (r :: rs) = (newTuple (r :: rs) >>= fun t => pure [(pv, t)])) :
    ∀ us rest : List Value, us.length = ([] : List Str).length → B (us ++ rest) = (newTuple rest >>= fun t => pure (([] : List Str).zip us ++ [(pv, t)]))
  | [], [], _ => h0
  | [], r :: rs, _ => h1 r rs
section
variable {P : Program} {w : World} {K : PySem.W.Frag} {mg : Str → Option Value} {base : Heap}
/-- values, then a tuple of the rest -/
theorem run_starred {x q pv : Str} {st : Stmt} {f : Addr} {fd : FuncData} {N ps : List Str} {k : Nat} {sp : SpL} (F : Fun K x q st f fd) (S : FnScope N (ps ++ [pv]) (defScope st))
    (hb : ∀ (kV doc pm : Value) (an : Option Addr) (cdv ct : Value) (us rest : List Value), us.length = ps.length → bindArgs (PySem.W.fnOf x q (defArgs st) (defBody st) (defScope st) .none kV doc pm an cdv ct) ⟨us ++ rest, []⟩ = (newTuple rest >>= fun t => pure (ps.zip us ++ [(pv, t)])))
    (hl : ps.length + 1 ≤ N.length) (body : BodyOf P w K mg base N q st k sp) (len : ∀ vs L Q E, sp vs L Q E → vs.length = ps.length + 1) : RunG P w K mg base CX0 (k + 1) f argsP (toSp fun vs L Q E => ∃ ws rest, vs = ws ++ rest ∧ ws.length = ps.length ∧ rest.length ≤ sizeLine ∧ ∀ p, sp (ws ++ [.ref p]) ((p, .tup rest) :: L) Q E) := by
  obtain ⟨oc, od, kV, doc, pm, an, cdv, ct, osl, rfl, lk, hcd⟩ := F.ex
  intro A outer s H us vs Q E hr e0 r hsp
  obtain ⟨L, Ql, El, hH, ⟨ws, rest, ev, hlw, hz, hs⟩, hq, _⟩ := hsp
  subst ev
  obtain ⟨u1, u2, eu, r1, r2⟩ := StX.vals_split r
  subst eu
  have hn : H s.heap.objs.size = none := e0.hok.fresh (Nat.le_refl _)
  have hl1 : u1.length = ps.length := by
    rw [← r1.length]
    exact hlw
  have hl2 : u2.length ≤ sizeLine := by
    rw [← r2.length]
    exact hz
  refine StX.run_bnd (CX := CX0) lk hcd S hr.toRoom e0 (G := fun xs H2 => ∃ p, H p = none ∧ xs = ws ++ [V.ref p] ∧ H2 = upd H p (.tup rest)) (fun A' Ex Q' h => ?_) fun s2 H2 xs ⟨p, hp, ex, eH⟩ hr' => ?_
  · rw [show bindArgs _ (argsP (u1 ++ u2)) = _ from hb kV doc pm an cdv ct u1 u2 hl1]
    refine wpAny_bind (wpAny_newTuple (wpAny_pure ?_) hl2)
    have new : ObjOk P w (upd H s.heap.objs.size (.tup rest)) (s.heap.push ({ cls := .type "tuple", data := .seq u2.toArray } : Obj)) s.heap.objs.size (.tup rest) := ⟨hz, u2, r2, ⟨_, Heap.get?_push_size _ rfl, rfl, _, rfl⟩⟩
    have un := StX.un_laid (fs := frs outer) (s := s) (o := ({ cls := .type "tuple", data := .seq u2.toArray } : Obj)) (u := .tup rest) hn
    have z := h _ _ (ws ++ [V.ref s.heap.objs.size]) (u1 ++ [Value.ref s.heap.objs.size]) (StX.env0_laid e0 new) un rfl (fun _ _ z => z.elim) (r1.append (.cons rfl .nil)) (by rw [List.length_append, List.length_append, hlw] <;> rfl) ⟨_, hn, rfl, rfl⟩
    rw [List.zip_append hl1.symm] at z
    exact z
  · subst ex eH
    have hlv : (ws ++ [V.ref p]).length ≤ N.length := by
      rw [List.length_append, hlw]
      exact hl
    exact ⟨WSs _ (defBody st), PSs.nox pss_W, body_end (X := cx0 P w K mg base N q (defScope st) f cdv A outer s2 (upd H p (.tup rest)) E) hlv hq (hH.new hp) (body _ f cdv A outer s2 _ E _ _ Ql El rfl S.nd ⟨hr', guard_deeper hr.gd⟩ (hs p))⟩
theorem fn_starred {x pv : Str} {st : Stmt} {N : List Str} {k : Nat} {sp : SpL} (F : Df K mg x st) (S : FnScope N [pv] (defScope st))
    (h0 : ∀ (kV doc pm : Value) (an : Option Addr) (cdv ct : Value), bindArgs (PySem.W.fnOf x x (defArgs st) (defBody st) (defScope st) .none kV doc pm an cdv ct) ⟨[], []⟩ = (newTuple [] >>= fun t => pure [(pv, t)]))
    (h1 : ∀ (kV doc pm : Value) (an : Option Addr) (cdv ct : Value) (r : Value) (rs : List Value), bindArgs (PySem.W.fnOf x x (defArgs st) (defBody st) (defScope st) .none kV doc pm an cdv ct) ⟨r :: rs, []⟩ = (newTuple (r :: rs) >>= fun t => pure [(pv, t)]))
    (hl : 1 ≤ N.length) (len : ∀ vs L Q E, sp vs L Q E → vs.length = 1) (body : BodyOf P w K mg base N x st k sp) : Fn P w K mg base CX0 x (k + 1) (spStar sp) := by
  obtain ⟨f, fd, hm, F⟩ := F
  refine ⟨f, hm, F.kp, (run_starred (ps := []) F S (fun kV doc pm an cdv ct => bind_star0 (B := fun us => bindArgs (PySem.W.fnOf x x (defArgs st) (defBody st) (defScope st) .none kV doc pm an cdv ct) ⟨us, []⟩) (h0 kV doc pm an cdv ct) (h1 kV doc pm an cdv ct)) hl body len).imp fun vs H Q E ⟨L, Ql, El, hH, h, hq, he⟩ => ⟨L, Ql, El, hH, ⟨[], vs, rfl, rfl, h.1, h.2⟩, hq, he⟩⟩
end
inductive Knd (L : Lg) : V → String → Prop
  | non : Knd L .non "NoneType"
  | bl {b : Bool} : Knd L (.bl b) "bool"
  | int {i : Int} : Knd L (.int i) "int"
  | str {x : Str} : Knd L (.str x) "str"
  | lst {p : Addr} {xs : List V} (m : (p, HO.lst xs) ∈ L) : Knd L (.ref p) "list"
  | tup {p : Addr} {xs : List V} (m : (p, HO.tup xs) ∈ L) : Knd L (.ref p) "tuple"
  | dct {p : Addr} {kvs : List (Key × V)} (m : (p, HO.dK kvs) ∈ L) : Knd L (.ref p) "dict"
theorem Knd.ty {K : PySem.W.Frag} {L : Lg} {x : V} {T : String} (k : Knd L x T) (H : Hp) (hH : Has H L) : TyX K H x (.type T) := by
  cases k with
  | non => exact .base .non
  | bl => exact .base (.bl _)
  | int => exact .base (.int _)
  | str => exact .base (.str _)
  | lst m => exact .base (.lst (hH.get m))
  | tup m => exact .base (.tup (hH.get m))
  | dct m => exact .base (.dK (hH.get m))
theorem Knd.sub {L M : Lg} {x : V} {T : String} (k : Knd L x T) (s : ∀ e ∈ L, e ∈ M) : Knd M x T := by
  cases k with
  | non => exact .non
  | bl => exact .bl
  | int => exact .int
  | str => exact .str
  | lst m => exact .lst (s _ m)
  | tup m => exact .tup (s _ m)
  | dct m => exact .dct (s _ m)
theorem kb_int_int : kitB "int" "int" = some true := by decide +kernel
theorem kb_int_bool : kitB "int" "bool" = some false := by decide +kernel
theorem kb_tuple_tuple : kitB "tuple" "tuple" = some true := by decide +kernel
section
variable {X : Cx} {L : Lg} {Q : QV} {x : V} {T c : String} {b : Bool}
theorem gc_isK (k : Knd L x T) (e : kitB T c = some b) (h : Q (.bl b) L) : GC X (.builtin "isinstance") [x, .ty c] L Q := gc_isi (fun H hH => k.ty H hH) e h
end
theorem sz1 : 1 ≤ sizeLine := by decide +kernel
theorem sz2 : 2 ≤ sizeLine := by decide +kernel
theorem sz3 : 3 ≤ sizeLine := by decide +kernel
theorem sz_le {n : Nat} (h : n ≤ 1000) : n ≤ sizeLine := Nat.le_trans h (by decide +kernel)
theorem sz_lt {n : Nat} (h : n < 1000) : n < sizeLine := Nat.lt_of_lt_of_le h (by decide +kernel)
theorem Sub.keep {L M : Lg} {e : Addr × HO} (s : M.Sublist L) : Sub (e :: M) (e :: L) := Sub.sublist (s.cons_cons e)
section
variable {a b c d e f g h i : Addr × HO} {R : Lg}
theorem br0 : Sub (a :: b :: R) (a :: b :: R) := Sub.refl
theorem br1 : Sub (a :: b :: c :: R) (c :: a :: b :: R) := Sub.perm (List.perm_middle (l₁ := [a, b])).symm.symm
theorem br2 : Sub (a :: b :: c :: d :: R) (c :: d :: a :: b :: R) := Sub.perm (by
  have z := List.perm_append_comm (l₁ := [a, b]) (l₂ := [c, d])
  exact z.append_right R)
theorem br3 : Sub (a :: b :: c :: d :: e :: R) (c :: d :: e :: a :: b :: R) := Sub.perm (by
  have z := List.perm_append_comm (l₁ := [a, b]) (l₂ := [c, d, e])
  exact z.append_right R)
theorem br4 : Sub (a :: b :: c :: d :: e :: f :: R) (c :: d :: e :: f :: a :: b :: R) := Sub.perm (by
  have z := List.perm_append_comm (l₁ := [a, b]) (l₂ := [c, d, e, f])
  exact z.append_right R)
theorem br5 : Sub (a :: b :: c :: d :: e :: f :: g :: R) (c :: d :: e :: f :: g :: a :: b :: R) := Sub.perm (by
  have z := List.perm_append_comm (l₁ := [a, b]) (l₂ := [c, d, e, f, g])
  exact z.append_right R)
theorem br6 : Sub (a :: b :: c :: d :: e :: f :: g :: h :: R) (c :: d :: e :: f :: g :: h :: a :: b :: R) := Sub.perm (by
  have z := List.perm_append_comm (l₁ := [a, b]) (l₂ := [c, d, e, f, g, h])
  exact z.append_right R)
end
section
variable {X : Cx} {η : En} {L : Lg} {Q : QV} {e : Expr} {es : List Expr} {pos p : Pos}
theorem gb_len (B : Bi X.mg) (h : GA X (e :: es) η L fun xs L1 => GC X (.builtin "len") xs L1 Q) (hg : Gl X "len" := by rfl) (he : starEach (e :: es) X.env = (false, eval e X.env) :: starEach es X.env := by rfl) (hpl : (backTo pos (starEach es X.env)).any (·.1) = false := by rfl) :
    GE X (.Call (.Name "len" p) (e :: es) [] pos) η L Q := ge_B B.len bt_len h hg (by decide) (by decide) he hpl
theorem gb_abs (B : Bi X.mg) (h : GA X (e :: es) η L fun xs L1 => GC X (.builtin "abs") xs L1 Q) (hg : Gl X "abs" := by rfl) (he : starEach (e :: es) X.env = (false, eval e X.env) :: starEach es X.env := by rfl) (hpl : (backTo pos (starEach es X.env)).any (·.1) = false := by rfl) :
    GE X (.Call (.Name "abs" p) (e :: es) [] pos) η L Q := ge_B B.abs bt_abs h hg (by decide) (by decide) he hpl
theorem gb_min (B : Bi X.mg) (h : GA X (e :: es) η L fun xs L1 => GC X (.builtin "min") xs L1 Q) (hg : Gl X "min" := by rfl) (he : starEach (e :: es) X.env = (false, eval e X.env) :: starEach es X.env := by rfl) (hpl : (backTo pos (starEach es X.env)).any (·.1) = false := by rfl) :
    GE X (.Call (.Name "min" p) (e :: es) [] pos) η L Q := ge_B B.min bt_min h hg (by decide) (by decide) he hpl
theorem gb_isinstance (B : Bi X.mg) (h : GA X (e :: es) η L fun xs L1 => GC X (.builtin "isinstance") xs L1 Q) (hg : Gl X "isinstance" := by rfl) (he : starEach (e :: es) X.env = (false, eval e X.env) :: starEach es X.env := by rfl) (hpl : (backTo pos (starEach es X.env)).any (·.1) = false := by rfl) :
    GE X (.Call (.Name "isinstance" p) (e :: es) [] pos) η L Q := ge_B B.isinstance bt_isinstance h hg (by decide) (by decide) he hpl
theorem gb_int (B : Bi X.mg) (h : GA X (e :: es) η L fun xs L1 => GC X (.type "int") xs L1 Q) (hg : Gl X "int" := by rfl) (he : starEach (e :: es) X.env = (false, eval e X.env) :: starEach es X.env := by rfl) (hpl : (backTo pos (starEach es X.env)).any (·.1) = false := by rfl) :
    GE X (.Call (.Name "int" p) (e :: es) [] pos) η L Q := ge_Y B.int bt_int h hg (by decide) (by decide) he hpl
theorem gb_list (B : Bi X.mg) (h : GA X (e :: es) η L fun xs L1 => GC X (.type "list") xs L1 Q) (hg : Gl X "list" := by rfl) (he : starEach (e :: es) X.env = (false, eval e X.env) :: starEach es X.env := by rfl) (hpl : (backTo pos (starEach es X.env)).any (·.1) = false := by rfl) :
    GE X (.Call (.Name "list" p) (e :: es) [] pos) η L Q := ge_Y B.list bt_list h hg (by decide) (by decide) he hpl
theorem gb_tuple (B : Bi X.mg) (h : GA X (e :: es) η L fun xs L1 => GC X (.type "tuple") xs L1 Q) (hg : Gl X "tuple" := by rfl) (he : starEach (e :: es) X.env = (false, eval e X.env) :: starEach es X.env := by rfl) (hpl : (backTo pos (starEach es X.env)).any (·.1) = false := by rfl) :
    GE X (.Call (.Name "tuple" p) (e :: es) [] pos) η L Q := ge_Y B.tuple bt_tuple h hg (by decide) (by decide) he hpl
theorem gb_bool (B : Bi X.mg) (h : GA X (e :: es) η L fun xs L1 => GC X (.type "bool") xs L1 Q) (hg : Gl X "bool" := by rfl) (he : starEach (e :: es) X.env = (false, eval e X.env) :: starEach es X.env := by rfl) (hpl : (backTo pos (starEach es X.env)).any (·.1) = false := by rfl) :
    GE X (.Call (.Name "bool" p) (e :: es) [] pos) η L Q := ge_Y B.bool bt_bool h hg (by decide) (by decide) he hpl
theorem gb_str (B : Bi X.mg) (h : GA X (e :: es) η L fun xs L1 => GC X (.type "str") xs L1 Q) (hg : Gl X "str" := by rfl) (he : starEach (e :: es) X.env = (false, eval e X.env) :: starEach es X.env := by rfl) (hpl : (backTo pos (starEach es X.env)).any (·.1) = false := by rfl) :
    GE X (.Call (.Name "str" p) (e :: es) [] pos) η L Q := ge_Y B.str bt_str h hg (by decide) (by decide) he hpl
theorem gv_int (B : Bi X.mg) (q : Q (.ty "int") L) (hg : Gl X "int" := by rfl) : GE X (.Name "int" pos) η L Q := ge_tyName B.int bt_int q hg (by decide) (by decide)
theorem gv_bool (B : Bi X.mg) (q : Q (.ty "bool") L) (hg : Gl X "bool" := by rfl) : GE X (.Name "bool" pos) η L Q := ge_tyName B.bool bt_bool q hg (by decide) (by decide)
theorem gv_tuple (B : Bi X.mg) (q : Q (.ty "tuple") L) (hg : Gl X "tuple" := by rfl) : GE X (.Name "tuple" pos) η L Q := ge_tyName B.tuple bt_tuple q hg (by decide) (by decide)
theorem gv_list (B : Bi X.mg) (q : Q (.ty "list") L) (hg : Gl X "list" := by rfl) : GE X (.Name "list" pos) η L Q := ge_tyName B.list bt_list q hg (by decide) (by decide)
theorem gv_str (B : Bi X.mg) (q : Q (.ty "str") L) (hg : Gl X "str" := by rfl) : GE X (.Name "str" pos) η L Q := ge_tyName B.str bt_str q hg (by decide) (by decide)
end
theorem ite_t {A B : Prop} (h : A) : if true = true then A else B := by rw [if_pos rfl]; exact h
theorem ite_f {A B : Prop} (h : B) : if false = true then A else B := by rw [if_neg Bool.false_ne_true]; exact h
theorem ite_d {c A B : Prop} [Decidable c] (h : c → A) (k : ¬ c → B) : if decide c = true then A else B := by
  by_cases z : c
  · rw [if_pos (decide_eq_true z)]; exact h z
  · rw [decide_eq_false z, if_neg Bool.false_ne_true]; exact k z
theorem ite_n {c A B : Prop} [Decidable c] (h : ¬ c → A) (k : c → B) : if (!decide c) = true then A else B := by
  by_cases z : c
  · rw [decide_eq_true z]; exact ite_f (k z)
  · rw [decide_eq_false z]; exact ite_t (h z)
theorem ite_nt {A B : Prop} (h : B) : if (!true) = true then A else B := ite_f h
theorem ite_nf {A B : Prop} (h : A) : if (!false) = true then A else B := ite_t h
theorem ite_b {b : Bool} {A B : Prop} (h : b = true → A) (k : b = false → B) : if b = true then A else B := by
  cases b with
  | true => exact ite_t (h rfl)
  | false => exact ite_f (k rfl)
section
variable {X : Cx} {L : Lg} {Q : QV} {i j r : Int}
theorem go_modR (c : 0 < j) (h : ∀ r, 0 ≤ r → r < j → Q (.int r) L) : GOp X (binaryOp .Mod) (.int i) (.int j) L Q := go_mod c (h _ (Int.emod_nonneg _ (by omega)) (Int.emod_lt_of_pos _ c))
theorem go_powL (c : CPow i j) (e : i ^ j.toNat = r) (h : Q (.int r) L) : GOp X (binaryOp .Pow) (.int i) (.int j) L Q := go_pow c (by rw [e]; exact h)
theorem go_powR (c : CPow i j) (h : ∀ r, Q (.int r) L) : GOp X (binaryOp .Pow) (.int i) (.int j) L Q := go_pow c (h _)
end
theorem bnd {s t A B : Int} (s0 : 0 ≤ s) (s1 : s ≤ A) (t0 : 0 ≤ t) (t1 : t ≤ B) : 0 ≤ s * t ∧ s * t ≤ A * B := ⟨Int.mul_nonneg s0 t0, Int.mul_le_mul s1 t1 t0 (Int.le_trans s0 s1)⟩
theorem depthInts : ∀ ns : List Int, PyData.depthAll (ns.map PyData.int) = 0
  | [] => by simp [PyData.depthAll]
  | n :: r => by
    have e := depthInts r
    simp [PyData.depthAll, PyData.depth, e]
theorem layInts : ∀ ns : List Int, PyData.canLayAll0 (ns.map PyData.int) = true
  | [] => by simp [PyData.canLayAll0]
  | n :: r => by
    have e := layInts r
    simp [PyData.canLayAll0, PyData.canLay0, e]
theorem shapedL (ns : List Int) : SeqAt.shaped (.list (ns.map PyData.int)) = true := by
  have a := depthInts ns
  have b := layInts ns
  simp [SeqAt.shaped, PyData.canLay0, PyData.depth, a, b]
theorem eqvInts : ∀ ns ms : List Int, PyData.eqvAll (ns.map PyData.int) (ms.map PyData.int) = decide (ns = ms)
  | [], [] => by simp [PyData.eqvAll]
  | [], m :: r => by simp [PyData.eqvAll]
  | n :: r, [] => by simp [PyData.eqvAll]
  | n :: r, m :: q => by
    have e := eqvInts r q
    simp [PyData.eqvAll, PyData.eqv, e]
    by_cases h : n = m <;> by_cases k : r = q <;> simp [h, k]
theorem eqvL (ns ms : List Int) : PyData.eqv (.list (ns.map PyData.int)) (.list (ms.map PyData.int)) = decide (ns = ms) := by
  rw [← eqvInts]
  simp [PyData.eqv]
section
variable {X : Cx} {L : Lg} {Q : QV} {i j r : Int}
theorem go_divS (c : 0 < j) (d : j < 2 ^ 64) (h : Q (.int (i / j)) L) : GOp X (binaryOp .FloorDiv) (.int i) (.int j) L Q := go_div c (Nat.lt_of_lt_of_le (by omega : j.natAbs < 2 ^ 64) (Nat.pow_le_pow_right (by decide) (by decide))) h
theorem go_divK {k : Nat} (c : 0 < j) (d : j.natAbs < 2 ^ k) (hk : k ≤ 9000) (h : Q (.int (i / j)) L) : GOp X (binaryOp .FloorDiv) (.int i) (.int j) L Q := go_div c (Nat.lt_of_lt_of_le d (Nat.pow_le_pow_right (by decide) hk)) h
end
theorem idxU {N : List Str} (hn : N.Nodup) {i j : Nat} {x : Str} (h : N[i]? = some x) (k : N[j]? = some x) : i = j := by
  obtain ⟨a1, a2⟩ := List.getElem?_eq_some_iff.mp h
  obtain ⟨b1, b2⟩ := List.getElem?_eq_some_iff.mp k
  exact (List.getElem_inj hn).mp (a2.trans b2.symm)
section
variable {X : Cx} {η : En} {L : Lg} {a b c : Expr} {D : GD}
theorem PutF.at {x : Str} {N : List Str} {i : Nat} {θ : En} {f : V → En} (p : PutF x θ f) (hn : N.Nodup) (hN : N = names θ) (h : N[i]? = some x) (v : V) : vals (f v) = (vals θ).set i (some v) ∧ names (f v) = names θ := by
  obtain ⟨j, h1, h2⟩ := p.idx
  have e : i = j := idxU hn h (by rw [hN]; exact h1)
  subst e
  exact h2 v
theorem gs_par3 {x y z : Str} {f : V → En} {g : V → V → En} {k : V → V → V → En} {px py pz pt pos : Pos} {kt k2 pt2} (p : PutF x η f) (q : ∀ v, PutF y (f v) (g v)) (r : ∀ v w, PutF z (g v w) (k v w))
    (h : GA X [a, b, c] η L fun vs L1 => ∃ u v w, vs = [u, v, w] ∧ D.nx (k u v w) L1)
    (hw : swappedStores [.Tuple [.Name x px, .Name y py, .Name z pz] kt pt] (.Tuple [a, b, c] k2 pt2) X.env = pure (some [x, y, z]) := by rfl) (hxy : x ≠ y := by decide +kernel) (hxz : x ≠ z := by decide +kernel) (hyz : y ≠ z := by decide +kernel) (hn : X.N.Nodup := by assumption) (hc : X.calm = true := by rfl)
    (hx : X.env.scope.names.lookup x = some .local := by rfl) (hy : X.env.scope.names.lookup y = some .local := by rfl) (hz : X.env.scope.names.lookup z = some .local := by rfl)
    (hs : swapsWithSole [.Tuple [.Name x px, .Name y py, .Name z pz] kt pt] (.Tuple [a, b, c] k2 pt2) pos.line X.env = pure false := by rfl) :
    GS X (.Assign [.Tuple [.Name x px, .Name y py, .Name z pz] kt pt] (.Tuple [a, b, c] k2 pt2) pos) D η L := fun hN H hH => by
  obtain ⟨i, h1, h2⟩ := p.idx
  have nf : ∀ v, names (f v) = X.N := fun v => (h2 v).2.trans hN.symm
  obtain ⟨j, g1, _⟩ := (q .non).idx
  rw [nf] at g1
  have ng : ∀ v w, names (g v w) = X.N := fun v w => ((q v).at hn (nf v).symm g1 w).2.trans (nf v)
  obtain ⟨l, k1, _⟩ := (r .non .non).idx
  rw [ng] at k1
  have i1 : X.N[i]? = some x := by rw [hN]; exact h1
  have ne : ∀ {m n : Nat} {s t : Str}, X.N[m]? = some s → X.N[n]? = some t → s ≠ t → m ≠ n := fun hm hn' d e => d (by rw [e, hn'] at hm; exact (Option.some.inj hm).symm)
  refine WS.of (ps_par3 (i := i) (j := j) (l := l) hc hn i1 g1 k1 (ne i1 g1 hxy) (ne i1 k1 hxz) (ne g1 k1 hyz) hx hy hz pa_W hw hs) (h.then hN hH fun vs L1 H1 m1 ⟨u, v, w, e1, q1⟩ => ⟨u, v, w, e1, ?_⟩)
  show upS X D.nx ((((vals η).set i (some u)).set j (some v)).set l (some w)) H1
  have z := (r u v).at hn (ng u v).symm k1 w
  refine ⟨k u v w, L1, (z.2.trans (ng u v)).symm, ?_, m1, q1⟩
  rw [z.1, ((q u).at hn (nf u).symm g1 v).1, (h2 u).1]
end
section
variable {X : Cx} {L : Lg} {Q : QV} {i : Int} {p : Addr}
theorem isN_int (h : Q (.bl false) L) : GOp X (compareOp .Is) (.int i) .non L Q := go_isN h
theorem isN_ref (h : Q (.bl false) L) : GOp X (compareOp .Is) (.ref p) .non L Q := go_isN h
theorem isN_non (h : Q (.bl true) L) : GOp X (compareOp .Is) .non .non L Q := go_isN h
theorem notN_int (h : Q (.bl true) L) : GOp X (compareOp .IsNot) (.int i) .non L Q := go_notN h
theorem notN_ref (h : Q (.bl true) L) : GOp X (compareOp .IsNot) (.ref p) .non L Q := go_notN h
theorem notN_non (h : Q (.bl false) L) : GOp X (compareOp .IsNot) .non .non L Q := go_notN h
end
theorem gu_neg {X : Cx} {L : Lg} {Q : QV} {i : Int} (h : Q (.int (-i)) L) : GUn X (unaryOp .USub) (.int i) L Q := GUn.of un_neg fun H hH => ⟨i, rfl, L, hH, h⟩
/-- the law's own promise; ts: the tables of code objects -/
def spLaw (K : PySem.W.Frag) (ts : Lg) : SpL := fun vs L Q _ => ∃ (a : Addr) (ns : List Int) (M : Lg), vs = [.ref a] ∧ L = ts ++ M ∧ InL K L a (ns.map V.int) ∧ (∀ z ∈ ns, Builtin.Int.intBits z ≤ 1048576) ∧ ∀ M, Q (.bl true) M
abbrev tabsL (ts : List (Addr × Str)) : Lg := ts.map fun p => (p.1, tabM p.2)
/-- the heap that the law begins with: the script, the tables -/
def lawH (K : PySem.W.Frag) (a : Addr) (ob : Obj) (ns : List Int) (ts : List Addr) : Hp := fun b =>
  if b = a then (match K.lookup a with | none => some (.frz ob (.lst (ns.map V.int))) | some _ => none) else if b ∈ ts then some (.tbl #[]) else none
section
variable {K : PySem.W.Frag} {a b : Addr} {ob : Obj} {ns : List Int} {ts : List Addr}
theorem lawH_a (e : K.lookup a = none) : lawH K a ob ns ts a = some (.frz ob (.lst (ns.map V.int))) := by
  unfold lawH
  rw [if_pos rfl, e]
theorem lawH_k {o : Obj} (e : K.lookup a = some o) : lawH K a ob ns ts a = none := by
  unfold lawH
  rw [if_pos rfl, e]
theorem lawH_t (n : b ≠ a) (m : b ∈ ts) : lawH K a ob ns ts b = some (.tbl #[]) := by
  unfold lawH
  rw [if_neg n, if_pos m]
theorem lawH_n (n : b ≠ a) (m : b ∉ ts) : lawH K a ob ns ts b = none := by
  unfold lawH
  rw [if_neg n, if_neg m]
/-- one of the three -/
theorem lawH_way (b : Addr) : (b = a ∧ K.lookup a = none ∧ lawH K a ob ns ts b = some (.frz ob (.lst (ns.map V.int)))) ∨ (b ≠ a ∧ b ∈ ts ∧ lawH K a ob ns ts b = some (.tbl #[])) ∨ lawH K a ob ns ts b = none := by
  by_cases n : b = a
  · subst n
    cases e : K.lookup b with
    | none => exact .inl ⟨rfl, rfl, lawH_a e⟩
    | some o => exact .inr (.inr (lawH_k e))
  · by_cases m : b ∈ ts
    · exact .inr (.inl ⟨n, m, lawH_t n m⟩)
    · exact .inr (.inr (lawH_n n m))
end
section
variable {P : Program} {w : World} {K : PySem.W.Frag} {mg mb : Str → Option Value}
/-- the law's call, from its promise; cs: the code objects with their tables and the names of what stands in these -/
theorem law_run {k : Nat} {fa a : Addr} {cs : List (Addr × Addr × Str)} {t0 : Shared} {vs : List Value} {ns : List Int}
    (KX : K.In t0.heap) (hns : t0.heap.Ns mainGlobals mg) (hb : t0.heap.Ns builtinsNs mb) (hbb : ∀ x : Str, x ≠ "__name__" → mb x = bootBuiltins x) (hlim : t0.heap.NoLimit) (hg : t0.gens = #[])
    (nd : (cs.map fun p => p.2.1).Nodup) (hT : ∀ p ∈ cs, t0.heap.get? p.2.1 = some { cls := .none, data := .fields #[] }) (nT : ∀ p ∈ cs, K.lookup p.2.1 = none) (C : ∀ p ∈ cs, PySem.W.CodeHd t0.heap p.1 p.2.1)
    (hbm : ∃ (bm : Addr) (ob : Obj), mg "__builtins__" = some (.ref bm) ∧ bm ≠ builtinsNs ∧ t0.heap.get? bm = some ob ∧ ob.cls = .type "module" ∧ ob.dict = some builtinsNs ∧ ob.data = .plain)
    (ha : t0.heap.get? a = some { cls := .type "list", data := .seq vs.toArray }) (hi : IntsAre vs ns) (hl : ns.length ≤ sizeLine) (bits : ∀ z ∈ ns, Builtin.Int.intBits z ≤ 1048576) (hr : Room k callerA)
    (F : ∀ base : Heap, K.In base → base.Ns mainGlobals mg → (∀ p ∈ cs, LamX.TabB base mg p.1 p.2.1) → RunG P w K mg base CX0 k fa argsP (toSp (spLaw K (tabsL (cs.map fun p => p.2))))) :
    codeAny (model P w) callerA (.call (.ref fa) ⟨[.ref a], []⟩) (fun r s' => r = .ok (.ret (.bool true)) ∧ OldK t0.heap s'.heap ∧ s'.os = t0.os ∧ AllBare s'.gens) t0 := by
  let ob : Obj := { cls := .type "list", data := .seq vs.toArray }
  let ts : List Addr := cs.map fun p => p.2.1
  let H : Hp := lawH K a ob ns ts
  have way : ∀ b : Addr, (b = a ∧ K.lookup a = none ∧ H b = some (.frz ob (.lst (ns.map V.int)))) ∨ (b ≠ a ∧ b ∈ ts ∧ H b = some (.tbl #[])) ∨ H b = none := lawH_way
  have tsT : ∀ b ∈ ts, ∃ p ∈ cs, p.2.1 = b := fun b hb => List.mem_map.mp hb
  have isT : ∀ b ∈ ts, t0.heap.get? b = some { cls := .none, data := .fields #[] } := fun b hb => by
    obtain ⟨p, hp, e⟩ := tsT b hb
    exact e ▸ hT p hp
  have memT : ∀ p ∈ cs, p.2.1 ∈ ts := fun p hp => List.mem_map.mpr ⟨p, hp, rfl⟩
  have aT : ∀ b ∈ ts, b ≠ a := fun b hb z => by
    have q := (isT b hb).symm.trans (z ▸ ha)
    have q2 : Data.fields #[] = Data.seq vs.toArray _ := congrArg Obj.data (Option.some.inj q)
    cases q2
  have tabH : ∀ p ∈ cs, H p.2.1 = some (.tbl #[]) := fun p hp => lawH_t (aT _ (memT p hp)) (memT p hp)
  have rv := vals_ints hi
  -- what is neither a list nor a table is hidden from H
  have hid : ∀ {b : Addr} {o : Obj}, t0.heap.get? b = some o → (∀ u n, o.data ≠ .seq u n) → o.data ≠ .fields #[] → H b = none := fun {b o} e n1 n2 => by
    rcases way b with ⟨rfl, _, _⟩ | ⟨_, m, _⟩ | z
    · exact absurd (congrArg Obj.data (Option.some.inj (ha.symm.trans e))).symm (n1 _ _)
    · exact absurd (congrArg Obj.data (Option.some.inj ((isT b m).symm.trans e))).symm n2
    · exact z
  let base : Heap := hidT t0.heap H
  have inB : ∀ {b : Addr} {o : Obj}, t0.heap.get? b = some o → H b = none → base.get? b = some o := fun e n => hidT_get e n
  have nsB : ∀ {b : Addr} {m : Str → Option Value}, t0.heap.Ns b m → base.Ns b m := fun {b m} ⟨o, es, ep, e, d, r⟩ => ⟨o, es, ep, inB e (hid e (fun u n z => by rw [d] at z; cases z) fun z => by rw [d] at z; cases z), d, r⟩
  have KB : K.In base := fun b o e => inB (KX b o e) (by
    rcases way b with ⟨rfl, n, _⟩ | ⟨_, m, _⟩ | z
    · exact absurd (n.symm.trans e) (by simp)
    · obtain ⟨p, hp, ep⟩ := tsT b m
      exact absurd ((nT p hp).symm.trans (ep ▸ e)) (by simp)
    · exact z)
  have hM : L2.Mod K mg base := ⟨KB, nsB hns, ⟨mb, nsB hb, hbb⟩, let ⟨mc, h1, h2⟩ := hlim; ⟨mc, nsB h1, h2⟩⟩
  have TB : ∀ p ∈ cs, LamX.TabB base mg p.1 p.2.1 := fun p hp => by
    have tp := hT p hp
    refine ⟨?_, ?_, fun z => ?_⟩
    · obtain ⟨o, us, file, tf, flags, tg, inF, text, tt, e1, r1, r2, r3, rest⟩ := C p hp
      refine ⟨o, us, file, tf, flags, tg, inF, text, tt, inB e1 (hid e1 (fun u n z => ?_) fun z => ?_), r1, r2, r3, rest⟩
      · rw [r2] at z
        cases z
      · rw [r2] at z
        cases z
        simp at r3
    · obtain ⟨bm, o, b1, b2, b3, b4, b5, b6⟩ := hbm
      refine ⟨bm, o, b1, b2, fun q => ?_, fun q => ?_, inB b3 (hid b3 (fun u n z => ?_) fun z => ?_), b4, b5, b6⟩
      · obtain ⟨o2, es, ep, e, hd, _⟩ := hns
        have z := (congrArg Obj.data (Option.some.inj ((q ▸ b3).symm.trans e))).symm.trans b6
        rw [hd] at z
        cases z
      · have z := b6.symm.trans (congrArg Obj.data (Option.some.inj ((q ▸ b3).symm.trans tp)))
        cases z
      · rw [b6] at z
        cases z
      · rw [b6] at z
        cases z
    · obtain ⟨o, es, ep, e, hd, _⟩ := hns
      have q := hd.symm.trans (congrArg Obj.data (Option.some.inj (e.symm.trans (z ▸ tp))))
      cases q
  have hokH : HOk P w H t0.heap := fun b u e => by
    rcases way b with ⟨rfl, _, z⟩ | ⟨_, m, z⟩ | z
    · cases z.symm.trans e
      exact ⟨ha, by rw [List.length_map]; exact hl, vs, _, rv, ha⟩
    · cases z.symm.trans e
      exact isT b m
    · cases z.symm.trans e
  have sq : SqL K H a (ns.map V.int) := by
    cases hk : K.lookup a with
    | none => exact .inl (.inr ⟨ob, lawH_a hk⟩)
    | some o =>
      cases ha.symm.trans (KX a o hk)
      exact .inr ⟨_, vs.toArray, _, hk, rfl, rfl, rfl, by rw [List.size_toArray, hi.length]; exact hl, by simpa using rv⟩
  have e0 : Env0 P w K mg base callerA [] t0 H := ⟨rfl, hM, fun b o e => of_hidT e, Nat.le_of_eq (hidT_size _ _), trivial, fun b z => (List.not_mem_nil z).elim, hokH, .of_eq hg⟩
  -- the ledger: the tables, and the script where it is no object of the module's
  have hsp : toSp (spLaw K (tabsL (cs.map fun p => p.2))) [.ref a] H (fun v _ => v = .bl true) fun _ _ _ => False := by
    have hasT : Has H (tabsL (cs.map fun p => p.2)) := by
      refine ⟨by simpa [tabsL, List.map_map, Function.comp_def] using nd, fun e m => ?_⟩
      obtain ⟨q, hq, rfl⟩ := List.mem_map.mp m
      obtain ⟨p, hp, rfl⟩ := List.mem_map.mp hq
      exact holds_tab' (.nil (tabH p hp))
    cases hk : K.lookup a with
    | some o =>
      refine ⟨_, fun v _ => v = .bl true, NoX, hasT, ⟨a, ns, [], rfl, by rw [List.append_nil], fun H' _ => ?_, bits, fun _ => rfl⟩, fun _ _ _ _ q => q, fun _ _ _ _ _ q => q⟩
      rcases sq with (z | ⟨o2, z⟩) | z
      · exact absurd ((lawH_k hk).symm.trans z) (by simp)
      · exact absurd ((lawH_k hk).symm.trans z) (by simp)
      · exact .inr z
    | none =>
      have ea : H a = some (.frz ob (.lst (ns.map V.int))) := lawH_a hk
      refine ⟨tabsL (cs.map fun p => p.2) ++ [(a, .frz ob (.lst (ns.map V.int)))], fun v _ => v = .bl true, NoX, ?_, ⟨a, ns, _, rfl, rfl, fun H' h' => ?_, bits, fun _ => rfl⟩, fun _ _ _ _ q => q, fun _ _ _ _ _ q => q⟩
      · refine ⟨?_, fun e m => ?_⟩
        · rw [List.map_append]
          refine List.nodup_append.mpr ⟨hasT.1, by simp, fun x hx y hy => ?_⟩
          have hy' : y = a := by simpa using hy
          obtain ⟨e, he, rfl⟩ := List.mem_map.mp hx
          obtain ⟨q, hq, rfl⟩ := List.mem_map.mp he
          obtain ⟨p, hp, rfl⟩ := List.mem_map.mp hq
          rw [hy']
          exact aT _ (memT p hp)
        · rcases List.mem_append.mp m with m | m
          · exact hasT.2 e m
          · obtain rfl : e = (a, _) := by simpa using m
            exact ea
      · exact .inl (.inr ⟨ob, h'.get (List.mem_append_right _ (List.mem_singleton.mpr rfl))⟩)
  refine codeAny_mono (F base KB (nsB hns) TB callerA [] t0 H [.ref a] [.ref a] _ _ ⟨hr, rfl⟩ e0 (.cons rfl .nil) hsp) fun r s' h => ?_
  cases r with
  | error e => exact False.elim h
  | ok fl =>
    cases fl with
    | ret u =>
      obtain ⟨v, H', os, bare, un, hok', r', q⟩ := h
      have q' : v = .bl true := q
      subst q'
      obtain rfl : u = Value.bool true := r'
      have grown : ∀ b ∈ ts, ∃ more : Array Value, s'.heap.get? b = some { cls := .none, data := .fields more } := fun b hb => by
        obtain ⟨more, z⟩ := un.tbls b #[] (lawH_t (aT b hb) hb)
        exact ⟨_, hok' b _ z⟩
      have same : ∀ b o, b ∉ ts → t0.heap.get? b = some o → s'.heap.get? b = some o := fun b o nb e => by
        rcases way b with ⟨_, _, z⟩ | ⟨_, m, _⟩ | z
        · have e1 := (hokH b _ z).1
          have e2 := (hok' b _ (un.frzs b ob _ z)).1
          exact e2.trans (e1.symm.trans e)
        · exact absurd m nb
        · exact un.keep b o e z (fun q => (List.not_mem_nil q).elim) (List.not_mem_nil)
      refine ⟨rfl, ⟨fun b o e => ?_, fun b o e => ?_⟩, os, bare⟩
      · by_cases hb : b ∈ ts
        · obtain ⟨more, hm⟩ := grown b hb
          obtain ⟨p, hp, rfl⟩ := tsT b hb
          cases (hT p hp).symm.trans e
          exact .inr (.inl ⟨((C p hp).tab (hT p hp)).isCodeTable, rfl, #[], more, rfl, by rw [Array.empty_append]; exact hm⟩)
        · exact .inl (same b o hb e)
      · by_cases hb : b ∈ ts
        · obtain ⟨more, hm⟩ := grown b hb
          exact ⟨_, hm⟩
        · exact ⟨o, same b o hb e⟩
    | next => exact False.elim h
    | brk => exact False.elim h
    | cont => exact False.elim h
end
/-- what the end wants of the law at the head's heap h: cs, the makers of lambdas by name, with their code objects, tables, and what stands in these -/
def LawG (q : Program) (P : Program) (w : World) (K : PySem.W.Frag) (k : Nat) (mg : Str → Option Value) (fa : Addr) : Prop :=
  ∃ cs : List (Str × Addr × Addr × Str), (cs.map fun p => p.2.2.1).Nodup ∧ (∀ p ∈ cs, PySem.W.tabIn K p.1 = some (p.2.1, p.2.2.1) ∧ ((recsOf q).find? fun e => e.name == p.1).isSome = true ∧ K.lookup p.2.2.1 = none) ∧
    ∀ base : Heap, K.In base → base.Ns mainGlobals mg → (∀ p ∈ cs, LamX.TabB base mg p.2.1 p.2.2.1) → RunG P w K mg base CX0 k fa argsP (toSp (spLaw K (tabsL (cs.map fun p => p.2.2))))
theorem walkG {l : PySem.W.OpenLaw} {n k : Nat} {q : Program} {loose : List Str} {XP : (Str → Option Value) → Heap → Prop} {YP : World → Heap → Prop} {d : DefRec} {K : Params → PySem.W.Frag}
    (hn : l.most = some n) (hn2 : n ≤ sizeLine) (hdf : d.params.defaults = []) (hr : Room k callerA) (hY : ∀ (w : World) (h : Heap), YP w h → (K w.params).In h)
    (F : ∀ (w : World) (mg : Str → Option Value) (fa : Addr) (h : Heap), (K w.params).In h → h.Ns mainGlobals mg → mg d.name = some (.ref fa) → LawG q l.prog w (K w.params) k mg fa) : PySem.W.WalkO q loose XP YP l.row.toRowW d [] (fun f vs => PySem.call f vs) := by
  refine Att.attach_callB hn hdf fun w s₀ t0 mg mb fa o pm cd doc a vs ns G Y ho hd hcd hmg hobj hints hlen hbits hg => ?_
  have KX := hY w _ Y
  obtain ⟨cs, nd, hcs, hF⟩ := F w mg fa _ KX G.T.g hmg
  have tb : ∀ p ∈ cs, PySem.W.CodeHd t0.heap p.2.1 p.2.2.1 ∧ t0.heap.get? p.2.2.1 = some { cls := .none, data := .fields #[] } := fun p hp => by
    obtain ⟨e1, e2, _⟩ := hcs p hp
    obtain ⟨dr, e3⟩ := Option.isSome_iff_exists.mp e2
    exact PySem.W.tab_of G.T KX e3 e1
  have up : ∀ {φ : Addr × Addr × Str → Prop}, (∀ p ∈ cs, φ p.2) → ∀ p ∈ cs.map (·.2), φ p := fun {φ} h p hp => by
    obtain ⟨p', h', rfl⟩ := List.mem_map.mp hp
    exact h p' h'
  refine law_run (cs := cs.map (·.2)) KX G.T.g G.T.b G.T.builtins G.T.nolimit hg (by rw [List.map_map]; exact nd) (up fun p hp => (tb p hp).2) (up fun p hp => (hcs p hp).2.2) (up fun p hp => (tb p hp).1) G.T.bmain hobj hints (Nat.le_trans hlen hn2) hbits hr fun base h1 h2 h3 => ?_
  rw [List.map_map]
  exact hF base h1 h2 fun p hp => h3 p.2 (List.mem_map.mpr ⟨p, hp, rfl⟩)
/-- the law's own entry -/
theorem fn_entry {P : Program} {w : World} {K : PySem.W.Frag} {mg : Str → Option Value} {base : Heap} {x : Str} {st : Stmt} {N ps : List Str} {k : Nat} {sp : SpL} {f : Addr} {fd : FuncData} (F : Fun K x x st f fd) (S : FnScope N ps (defScope st))
    (hb : ∀ (kV doc pm : Value) (an : Option Addr) (cdv ct : Value) (us : List Value), us.length = ps.length → bindArgs (PySem.W.fnOf x x (defArgs st) (defBody st) (defScope st) .none kV doc pm an cdv ct) ⟨us, []⟩ = pure (ps.zip us))
    (hl : ps.length ≤ N.length) (len : ∀ vs L Q E, sp vs L Q E → vs.length = ps.length) (body : BodyOf P w K mg base N x st k sp) : RunG P w K mg base CX0 (k + 1) f argsP (toSp sp) := run_plain F S argsP id id (fun _ _ r => r) hb hl len body
end G
set_option Elab.async false
set_option linter.all false
set_option maxRecDepth 100000
set_option maxHeartbeats 4000000
namespace G
open PySem PySem.Spec PyProof.Rows L2 NdefX
def AtSs (X : Cx) (B sts : List Stmt) : TS := fun D σ H => ∀ pins s, Inv X pins σ H s → _root_.PySem.wpAt (model X.prog X.w) X.A (.func B X.env) (execs sts X.env) (SP X pins D) X.xe s
theorem AtSs.any {X : Cx} {B sts : List Stmt} {D : Ends} {σ : L2.St} {H : Hp} (h : WSs X sts D σ H) : AtSs X B sts D σ H := fun pins s I => _root_.PySem.wpAt_of_wpAny (h pins s I)
/-- the words of a method that says super() -/
abbrev nfS (x q : Str) (st : Stmt) (cc c : Addr) : NF := ⟨x, q, defArgs st, defBody st, defScope st, [("__class__", cc)], c⟩
structure SupF (P : Program) (K : PySem.W.Frag) (x q : Str) (st : Stmt) (f c cc D : Addr) (fd : FuncData) : Prop where
  ex : ∃ (oc : Value) (od : Option Addr) (kV doc pm ct : Value) (an : Option Addr) (osl : Array (Option Value)), fd = PySem.W.fnX x q (defArgs st) (defBody st) (defScope st) [("__class__", cc)] .none kV doc pm an (.ref c) ct ∧ K.lookup f = some ⟨oc, od, .func fd, osl⟩
  cd : PySem.W.codeIn K (.ref c) q = true
  cell : ∃ (cl : Value) (cld : Option Addr) (csl : Array (Option Value)), K.lookup cc = some ⟨cl, cld, .cell (some (.ref D)), csl⟩
  file : ∃ (ccl : Value) (cdd : Option Addr) (vs : Array Value) (ccs : Array (Option Value)) (fl : Str) (tf : Tok), K.lookup c = some ⟨ccl, cdd, .fields vs, ccs⟩ ∧ vs[2]? = some (.str fl tf) ∧ (P.main.file == fl) = true
  cls : ∃ cd, PySem.W.clsIn K D = some cd
  top : (P.main.scope.names.lookup ("super" : Str)).isSome = false
section
variable {CX : CXT} {P : Program} {w : World} {K : PySem.W.Frag} {mg : Str → Option Value} {base : Heap} {N ps : List Str} {x q : Str} {st : Stmt} {f c cc D : Addr} {fd : FuncData} {k : Nat} {sp : Sp}
theorem SupF.cells (F : SupF P K x q st f c cc D fd) {A : Around} {outer : List Env} {s : Shared} {H : Hp} (e0 : Env0 P w K mg base A outer s H) : CellsAt [("__class__", cc)] ["__class__"] [none] s.heap H := by
  obtain ⟨cl, cld, csl, hc⟩ := F.cell
  have look : ∀ {y : Str} {a : Addr}, List.lookup y [(("__class__" : Str), cc)] = some a → y = "__class__" ∧ a = cc := fun {y a} e => by
    by_cases hy : y = "__class__"
    · subst hy
      simp [List.lookup] at e
      exact ⟨rfl, e.symm⟩
    · have z : (y == ("__class__" : Str)) = false := by simpa using hy
      simp [List.lookup, z] at e
  have hb := e0.bs cc _ (e0.mod.kin _ _ hc)
  refine ⟨rfl, fun y a e => ?_, fun y z a e1 e2 => (look e1).1.trans (look e2).1.symm, fun i y e => ?_⟩
  · obtain ⟨_, rfl⟩ := look e
    exact ⟨hb.2, _, _, hb.1, rfl⟩
  · cases i with
    | zero =>
      have e' : some ("__class__" : Str) = some y := e
      cases e'
      exact ⟨cc, by simp [List.lookup], fun v z => by cases z⟩
    | succ i => cases e
/-- such a method keeps its promise -/
theorem SupF.ok (F : SupF P K x q st f c cc D fd) (S : NScope N ps ["__class__"] (defScope st)) (len : ∀ vs H Q E, sp vs H Q E → vs.length = ps.length)
    (body : ∀ (A : Around) (outer : List Env) (s : Shared) (H : Hp) (vs : List V) (Q : VK) (E : XK), Room k (A.deeper (envF (nfS x q st cc c) f s.heap.objs.size)) → sp vs H Q E →
      AtSs (ncx CX P w K mg base N (nfS x q st cc c) f A outer s H E) (defBody st) (defBody st) { nx := fun _ H' => Q .non H', rt := Q } (startF N vs [none]) H) : FnOk P w K mg base CX (k + 1) f fd ps sp := by
  refine ⟨len, fun A outer s H args us vs Q E hr e0 hb r hsp => ?_⟩
  obtain ⟨oc, od, kV, doc, pm, ct, an, osl, rfl, lk⟩ := F.ex
  have KX : K.In s.heap := e0.mod.kin.keeps fun b o e => (e0.bs b o e).1
  have lim : s.heap.NoLimit := e0.mod.nolimit.keeps fun b o e => (e0.bs b o e).1
  refine _root_.PySem.ks_codeAny_call_defAt (body := defBody st) hr.depth (KX _ _ lk) rfl lim (PySem.W.codeRec_of KX F.cd) rfl hb S.nocell (fun ⟨n, _⟩ hy => S.par n (List.of_mem_zip hy).1) (fun h₁ hns kp => ?_) S.co S.gen S.kind
  have I : Inv (ncx CX P w K mg base N (nfS x q st cc c) f A outer s H E) [] (startF N vs [none]) H { s with heap := h₁, toks := s.toks + (ps.zip us).length } := inv_startN S hr.hd e0 (len _ _ _ _ hsp) r (F.cells e0) hns kp
  refine _root_.PySem.wpAt_mono (body A outer s H vs Q E (hr.deeper _) hsp [] _ I) (fun fl s' hs => ?_) fun e s' hs => hs
  have fin : ∀ {σ' : L2.St} {H' : Hp} {v : V} {u : Value}, Inv (ncx CX P w K mg base N (nfS x q st cc c) f A outer s H E) [] σ' H' s' → L2.RelV v u → Q v H' → CE outer P w H s Q u s' := fun {σ' H' v u} J rv qq => ⟨v, H', J.os, J.bare, J.base, J.hok, rv, qq⟩
  cases fl with
  | ret u =>
    obtain ⟨v, σ', H', J, rv, qq⟩ := hs
    exact fin J rv qq
  | next =>
    obtain ⟨σ', H', J, qq⟩ := hs
    exact fin (v := V.non) (u := Value.none) J rfl qq
  | brk => exact hs.elim fun _ z => z.elim fun _ z => z.2.elim
  | cont => exact hs.elim fun _ z => z.elim fun _ z => z.2.elim
end
/-- ValueError.__init__ bound to the error at x -/
def mwO (x u : Addr) : HO := .ext fun h => h.get? u = some (PySem.W.kxs_mw "ValueError.__init__" x)
theorem mwO_ok {P : Program} {w : World} {H : Hp} {h : Heap} {x u : Addr} (e : h.get? u = some (PySem.W.kxs_mw "ValueError.__init__" x)) : ObjOk P w H h u (mwO x u) := ⟨e, ⟨_, e⟩, fun _ _ z k => k _ z⟩
theorem mwO_at {P : Program} {w : World} {H : Hp} {h : Heap} {x u : Addr} (hok : HOk P w H h) (e : H u = some (mwO x u)) : h.get? u = some (PySem.W.kxs_mw "ValueError.__init__" x) := by
  obtain ⟨z, _, _⟩ := hok u _ e
  exact z
section
variable {prog : Program} {w : World} {A : Around} {E : Value → Shared → Prop} {h : Heap} {g : Array GenState} {d : Drawn} {t : Nat} {os : OsState}
variable {nm q : Str} {C N : Addr} {bs bm : List Value} {hdct : Bool} {sn : List Str} {sub : List Value} {ab : Bool} {col : Option Bool} {dd : Option Addr} {k0 k1 k2 k3 k5 : Option Value}
theorem call_mw {u e t0 : Addr} {us : List Value} {Q : Value → Shared → Prop} (hC : h.get? C = some (excClassObj nm q C N bs bm hdct sn sub ab col dd k0 k1 k2 k3 k5 "ValueError.__new__")) (he : h.get? e = some (PySem.HandSPX.excO C t0))
    (hu : h.get? u = some (PySem.W.kxs_mw "ValueError.__init__" e)) (hl : us.length ≤ sizeLine) (hq : ∀ h' t1, (∀ b o, b ≠ e → h.get? b = some o → h'.get? b = some o) → h'.get? e = some (PySem.HandSPX.excO C t1) → Q .none ⟨h', g, d, t, os⟩) :
    wpAny (model prog w) A (call (.ref u) us) Q E ⟨h, g, d, t, os⟩ := by
  refine wpAny_call (codeAny_of_tree (show wpAny _ A.in1 (callAny (.ref u) ⟨us, []⟩) _ _ _ from ?_))
  unfold callAny
  refine wpAny_bind (wpAny_load hu ?_)
  show wpAny _ _ (if (Value.type "method-wrapper" == Value.type "method" || Value.type "method-wrapper" == Value.type "builtin_function_or_method" || Value.type "method-wrapper" == Value.type "method-wrapper") = true then _ else _) _ _ _
  rw [if_pos (by decide)]
  refine PySem.W.KFB.if_so (show (Value.type "method-wrapper" != Value.type "method") = true by decide) (wpAny_bind (PySem.W.check_bound_init F.excBase_ValueError.toExcCallFacts hC he rfl (wpAny_bind (wpAny_pure (wpAny_pure ⟨_root_.PySem.plainId_quiet F.excBase_ValueError.init.plain _, codeAny_builtin F.excBase_ValueError.initEntry ?_⟩)))))
  exact PySem.W.exc_init_tree (cls := .ref C) (t0 := t0) (dv := none) (c2 := .none) (c3 := .none) (b4 := .bool false) he hl fun h' k e1 _ => hq h' _ k e1
end
section
variable {X : Cx} {B rest : List Stmt} {D : Ends} {σ : L2.St} {H : Hp} {x q : Str} {st : Stmt} {f c cc D0 C a : Addr} {fd : FuncData} {i : Nat} {ar : Arg} {ta : TA} {e : Expr} {es : List Expr} {p0 p1 p2 p3 p4 : Pos} {pl : Sem Bool}
theorem at_supx (F : SupF X.prog X.K x q st f c cc D0 fd) (hfu : X.env.func = some f) (hco : X.env.code = .ref c) (hcl : X.env.cells.lookup ("__class__" : Str) = some cc) (hp : (fd.params.posonlyargs ++ fd.params.args).head? = some ar)
    (hks : X.env.kindOf "super" = some .globalImplicit) (hkc : X.env.kindOf "__class__" = some .free) (hka : X.env.kindOf ar.arg = some .local) (hm : X.mg "super" = none)
    (T : OexC X.K C) (sm : PySem.W.ks_superIn X.K C D0 "__init__" = some (some (.builtin "ValueError.__init__"))) (sub : PySem.W.mroIn X.K C (.ref D0) = some true) (sV : PySem.W.subIn X.K (.ref C) (.type "ValueError") = some true)
    (op : PySem.W.nsIn X.K cStatics "thirdparty.any" = some none) (hi : X.N[i]? = some ar.arg) (hs : σ[i]? = some (some (.ref a))) (ha : H a = some (exo a C none)) (pa : PA X (e :: es) ta)
    (h : ∀ u, H u = none → ta σ (upd H u (mwO a u)) fun vs H1 => vs.length ≤ 1000 ∧ H1 u = some (mwO a u) ∧ H1 a = some (exo a C none) ∧ AtSs X B rest D σ H1)
    (he : starEach (e :: es) X.env = (false, eval e X.env) :: starEach es X.env := by rfl) (hpl : (backTo p3 (starEach es X.env)).any (·.1) = false := by rfl) (hint : interactive X.env = false := by rfl)
    (hsw : swapsWith (.Call (.Attribute (.Call (.Name "super" p0) [] [] p1) "__init__" p2) (e :: es) [] p3) none p4.line X.env = pure false := by rfl)
    (hev : eval (.Call (.Attribute (.Call (.Name "super" p0) [] [] p1) "__init__" p2) (e :: es) [] p3) X.env = (do
      let ov ← attributeBase (.Call (.Name "super" p0) [] [] p1) "__init__" X.env (eval (.Call (.Name "super" p0) [] [] p1) X.env)
      standAt p2.atName
      let (ff, first) ← holding [ov] (getMethod ov "__init__" pl)
      callWith p3 ff first (backTo p3 (starEach (e :: es) X.env)) []) := by rfl) :
    AtSs X B (.Expr (.Call (.Attribute (.Call (.Name "super" p0) [] [] p1) "__init__" p2) (e :: es) [] p3) p4 :: rest) D σ H := fun pins s I => by
  obtain ⟨oc, od, kV, doc, pm, ct, an, osl, efd, lk⟩ := F.ex
  obtain ⟨ccl, cdd, vs, ccs, fl, tf, lc, hvs, hfile⟩ := F.file
  obtain ⟨cl, cld, csl, hcell⟩ := F.cell
  obtain ⟨cdD, hD⟩ := F.cls
  obtain ⟨mb, hb1, hb2⟩ := I.mod.blt
  obtain ⟨oD, hD1, hD2⟩ : ∃ oD, s.heap.get? D0 = some oD ∧ oD.data = .cls cdD := by
    unfold PySem.W.clsIn at hD
    split at hD
    · rename_i c' d' cd' sl' ho
      cases hD
      exact ⟨_, I.kIn _ _ ho, rfl⟩
    · cases hD
  obtain ⟨nm, qn, NN, bs, bm, sn, sb, ab, col, dd, k0, k1, k2, k3, k5, hC, hbm⟩ := T.cls
  have hcC : PySem.W.clsIn X.K C = some { name := nm, bases := bs, mro := .ref C :: bm, ns := NN, qualname := qn, hasDict := true, slotNames := sn, subclasses := sb, abstract := ab, collection := col, hasDel := false } := by unfold PySem.W.clsIn; rw [hC] <;> rfl
  obtain ⟨t0, hx⟩ := exo_at I.hok ha
  have IA : PySem.W.InstAt s.heap a _ C none := ⟨hx, rfl, rfl, trivial⟩
  have xC : a ≠ C := PySem.W.ks_ne I.kIn IA hcC
  refine _root_.PySem.ks_wpAt_execs_cons (_root_.PySem.ks_wpAt_Expr_any (_root_.PySem.ks_wpAt_MethodCall (pl := pl) (_root_.PySem.ks_wpAt_super_base hks hkc rfl hfu (I.kIn _ _ lk) rfl hp hco (I.kIn _ _ lc) rfl hvs hfile F.top ?_) hev) hint hsw)
  refine PySem.W.ks_loadName_global I.ok.kind hks (Calls.loadGlobal_builtin (by rw [I.ok.glob]; exact I.mod.glob.keeps I.bk) hm (by rw [I.ok.blt]; exact hb1.keeps I.bk) ((hb2 _ (by decide)).trans (by decide +kernel)) ⟨rfl, ?_⟩)
  refine wpAny_loadName_free I.ok.kind hkc hcl ⟨_, I.kIn _ _ hcell, rfl⟩ ?_
  obtain ⟨m, hn, hl⟩ := id I.loc
  obtain ⟨u, r, qq⟩ := hl i _ _ hi hs (.inl hka)
  obtain rfl : u = Value.ref a := r
  rcases qq with ⟨_, em⟩ | ⟨k, _⟩
  · refine wpAny_loadName_local I.ok.kind hka hn em ?_
    obtain ⟨hp', g, d, t, os⟩ := s
    refine _root_.PySem.ks_wpAny_isType_cls hD1 hD2 ⟨rfl, ?_⟩
    refine _root_.PySem.ks_wpAny_call_super hD1 hD2 hx rfl (fun c e => by cases e) (PySem.W.looks_mroIn I.kIn sub) (fun h' eS kS => ?_)
    have J1 : Inv X pins σ H ⟨h', g, d, t, os⟩ := I.kept (t' := t) kS
    have IA1 : PySem.W.InstAt h' a _ C none := ⟨kS _ _ hx, rfl, rfl, trivial⟩
    have sm' := sm
    unfold PySem.W.ks_superIn at sm'
    rw [hcC] at sm'
    refine PySem.W.kxs_getMethod PySem.W.kxs_ValueError eS (PySem.W.looks_opaque J1.kIn op) ((PySem.W.looks_clsIn J1.kIn hcC).andThen .now) rfl J1.kIn sm' (IA1.type.andThen (PySem.W.looks_subIn J1.kIn sV)) xC rfl ?_
    have nu : H h'.objs.size = none := J1.hok.fresh (Nat.le_refl _)
    have J2 : Inv X pins σ (upd H h'.objs.size (mwO a h'.objs.size)) ⟨h'.push (PySem.W.kxs_mw "ValueError.__init__" a), g, d, t + 1, os⟩ :=
      J1.laid (t' := t + 1) (a := h'.objs.size) (fun b o z => Heap.get?_push_of_some _ z) (Nat.le_refl _) (mwO_ok (Heap.get?_push_size _ rfl))
    show wpAny _ _ (callWith p3 (Value.ref h'.objs.size) [] (backTo p3 (starEach (e :: es) X.env)) []) _ _ _
    have hpa := pa.run p3 pins _ σ _ _ J2 (h _ nu)
    rw [he] at hpa ⊢
    refine PySem.W.kxs_callWith (i := "ValueError.__init__") (x := a) (by show (false || (backTo p3 (starEach es X.env)).any (·.1)) = false; rw [hpl]; rfl) (Calls.evalArgs_plain (thn hpa fun us s1 ⟨vs', H1, J3, r1, hlen, e1, e2, qk⟩ => ?_))
    refine ⟨mwO_at J3.hok e1, ?_⟩
    show wpAny _ _ (call (Value.ref h'.objs.size) us) _ _ _
    obtain ⟨t1, hx1⟩ := exo_at J3.hok e2
    have hul : us.length ≤ sizeLine := by
      rw [← Paired.length r1, sizeLine_eq]
      omega
    have hCx := J3.kIn _ _ hC
    have hmw := mwO_at J3.hok e1
    obtain ⟨h1, g1, d1, t1', os1⟩ := s1
    refine call_mw hCx hx1 hmw hul (fun h2 t2 k2 hx2 => ?_)
    have J4 := J3.write (t' := t1') (x := a) (e := a) (o := exo a C none) (by rw [e2]; exact True.intro) (.inl rfl) k2 ⟨_, hx2⟩ (exo_ok hx2)
    have eu : upd H1 a (exo a C none) = H1 := by
      funext b
      by_cases hb : b = a
      · rw [hb, upd_same, e2]
      · rw [upd_ne hb]
    rw [eu] at J4
    exact qk pins _ J4
  · rcases k with k | k
    · have z := k.symm.trans hka
      cases z
    · have z := k.symm.trans hka
      cases z
end
/-- what the written part says of the error class at C, named x, with the fields ns -/
structure ErrK (K : PySem.W.Frag) (mg : Str → Option Value) (x : Str) (C fI : Addr) (ns : List Str) : Prop where
  gC : mg x = some (.ref C)
  T : OexC K C
  iC : PySem.W.findIn K (.ref C) "__init__" = some (some (.ref fI))
  tI : PySem.W.typeIn K (.ref fI) = some (.type "function")
  no : ∀ n ∈ ns, PySem.W.findIn K (.ref C) n = some none
  sm : PySem.W.ks_superIn K C C "__init__" = some (some (.builtin "ValueError.__init__"))
  sub : PySem.W.mroIn K C (.ref C) = some true
  sV : PySem.W.subIn K (.ref C) (.type "ValueError") = some true
  op : PySem.W.nsIn K cStatics "thirdparty.any" = some none
  su : mg "super" = none
/-- __init__ keeps: the fields stand in a new dict -/
def spErr (C : Addr) (ns : List Str) : Sp := fun vs H Q _ => ∃ (a : Addr) (ws : List V), vs = .ref a :: ws ∧ ws.length = ns.length ∧ H a = some (exo a C none) ∧
  ∀ u d, H u = none → d ≠ u → d ≠ a → u ≠ a → H d = none → Q .non (upd (upd (upd H u (mwO a u)) d (exd d (ns.zip ws).reverse)) a (exo a C (some d)))
section
variable {P : Program} {w : World} {K : PySem.W.Frag} {mg : Str → Option Value} {base : Heap} {x q : Str} {st : Stmt} {f c cc C : Addr} {fd : FuncData} {n m : Str} {pa0 : Arg} {p0 p1 p2 p3 p4 p5 p6 q0 q1 q2 q3 r0 r1 r2 r3 : Pos}
theorem clsCell {cc : Addr} : List.lookup ("__class__" : Str) [(("__class__" : Str), cc)] = some cc := by simp [List.lookup]
/-- super().__init__(n); self.n = n -/
theorem err1_ok (F : SupF P K "__init__" q st f c cc C fd) (G : ErrK K mg x C f [n]) (S : NScope ["self", n, "__class__"] ["self", n] ["__class__"] (defScope st))
    (eb : defBody st = [.Expr (.Call (.Attribute (.Call (.Name "super" p0) [] [] p1) "__init__" p2) [.Name n p3] [] p4) p5, .Assign [.Attribute (.Name "self" q0) n q1] (.Name n q2) q3])
    (hp : (fd.params.posonlyargs ++ fd.params.args).head? = some pa0) (h0 : pa0.arg = "self") (hks : (defScope st).names.lookup ("super" : Str) = some .globalImplicit)
    (hint : ∀ L, interactive (envF (nfS "__init__" q st cc c) f L) = false)
    (hsw1 : ∀ L, swapsWith (.Call (.Attribute (.Call (.Name "super" p0) [] [] p1) "__init__" p2) [.Name n p3] [] p4) none p5.line (envF (nfS "__init__" q st cc c) f L) = pure false)
    (hev : ∀ L, ∃ pl : Sem Bool, eval (.Call (.Attribute (.Call (.Name "super" p0) [] [] p1) "__init__" p2) [.Name n p3] [] p4) (envF (nfS "__init__" q st cc c) f L) = (do
      let ov ← attributeBase (.Call (.Name "super" p0) [] [] p1) "__init__" (envF (nfS "__init__" q st cc c) f L) (eval (.Call (.Name "super" p0) [] [] p1) (envF (nfS "__init__" q st cc c) f L))
      standAt p2.atName
      let (ff, first) ← holding [ov] (getMethod ov "__init__" pl)
      callWith p4 ff first (backTo p4 (starEach [.Name n p3] (envF (nfS "__init__" q st cc c) f L))) []))
    (hsw2 : ∀ L, swapsWith (.Name n q2) (some (.Attribute (.Name "self" q0) n q1)) q3.line (envF (nfS "__init__" q st cc c) f L) = pure false) (hdb : (n == ("__debug__" : Str)) = false) (hcd : (n == ("__classdict__" : Str)) = false) : FnOk P w K mg base CX0 1 f fd ["self", n] (spErr C [n]) := by
  refine F.ok S (fun vs H Q E h => ?_) (fun A outer s H vs Q E hr h => ?_)
  · obtain ⟨a, ws, rfl, hl, _⟩ := h
    simpa using hl
  · obtain ⟨a, ws, rfl, hl, ha, hq⟩ := h
    match ws, hl with
    | [v], _ =>
      obtain ⟨pl, hev⟩ := hev s.heap.objs.size
      rw [eb]
      have vn : Vis (defScope st) n := .inl (S.par n (by simp))
      have hself : (defScope st).names.lookup ("self" : Str) = some .local := S.par "self" (by simp)
      have pN : PE (ncx CX0 P w K mg base ["self", n, "__class__"] (nfS "__init__" q st cc c) f A outer s H E) (.Name n p3) (tVar 1) := pe_var rfl vn hdb hcd
      refine at_supx (i := 0) F rfl rfl clsCell hp hks (S.frk "__class__" (by simp)) (by rw [h0]; exact hself) G.su G.T G.sm G.sub G.sV G.op (by rw [h0]; rfl) rfl ha (pa_cons pN pa_nil) (fun u hu => ?_) (hint := hint _) (hsw := hsw1 _) (hev := hev)
      have ua : u ≠ a := fun z => by
        rw [z, ha] at hu
        cases hu
      refine ⟨v, rfl, by show 1 ≤ 1000; decide, upd_same, ?_, .any ?_⟩
      · rw [upd_ne (Ne.symm ua)]
        exact ha
      · refine WSs.of (pss_one (ps_ost (pe_var (i := 0) rfl (.inl hself)) (pe_var (i := 1) rfl vn hdb hcd) (hsw2 _))) ?_
        refine ⟨v, rfl, .ref a, rfl, a, C, rfl, G.T, G.no n (by simp), .inl ⟨?_, fun d hd hda => ?_⟩⟩
        · rw [upd_ne (Ne.symm ua)]
          exact ha
        · have du : d ≠ u := fun z => by
            rw [z, upd_same] at hd
            cases hd
          rw [upd_ne du] at hd
          exact hq u d hu du hda ua hd
/-- super().__init__(n, m); self.n = n; self.m = m -/
theorem err2_ok (F : SupF P K "__init__" q st f c cc C fd) (G : ErrK K mg x C f [n, m]) (S : NScope ["self", n, m, "__class__"] ["self", n, m] ["__class__"] (defScope st))
    (eb : defBody st = [.Expr (.Call (.Attribute (.Call (.Name "super" p0) [] [] p1) "__init__" p2) [.Name n p3, .Name m p6] [] p4) p5, .Assign [.Attribute (.Name "self" q0) n q1] (.Name n q2) q3, .Assign [.Attribute (.Name "self" r0) m r1] (.Name m r2) r3])
    (hp : (fd.params.posonlyargs ++ fd.params.args).head? = some pa0) (h0 : pa0.arg = "self") (hks : (defScope st).names.lookup ("super" : Str) = some .globalImplicit)
    (hint : ∀ L, interactive (envF (nfS "__init__" q st cc c) f L) = false)
    (hsw1 : ∀ L, swapsWith (.Call (.Attribute (.Call (.Name "super" p0) [] [] p1) "__init__" p2) [.Name n p3, .Name m p6] [] p4) none p5.line (envF (nfS "__init__" q st cc c) f L) = pure false)
    (hev : ∀ L, ∃ pl : Sem Bool, eval (.Call (.Attribute (.Call (.Name "super" p0) [] [] p1) "__init__" p2) [.Name n p3, .Name m p6] [] p4) (envF (nfS "__init__" q st cc c) f L) = (do
      let ov ← attributeBase (.Call (.Name "super" p0) [] [] p1) "__init__" (envF (nfS "__init__" q st cc c) f L) (eval (.Call (.Name "super" p0) [] [] p1) (envF (nfS "__init__" q st cc c) f L))
      standAt p2.atName
      let (ff, first) ← holding [ov] (getMethod ov "__init__" pl)
      callWith p4 ff first (backTo p4 (starEach [.Name n p3, .Name m p6] (envF (nfS "__init__" q st cc c) f L))) []))
    (hsw2 : ∀ L, swapsWith (.Name n q2) (some (.Attribute (.Name "self" q0) n q1)) q3.line (envF (nfS "__init__" q st cc c) f L) = pure false) (hsw3 : ∀ L, swapsWith (.Name m r2) (some (.Attribute (.Name "self" r0) m r1)) r3.line (envF (nfS "__init__" q st cc c) f L) = pure false)
    (hdb : (n == ("__debug__" : Str)) = false) (hcd : (n == ("__classdict__" : Str)) = false) (mdb : (m == ("__debug__" : Str)) = false) (mcd : (m == ("__classdict__" : Str)) = false) : FnOk P w K mg base CX0 1 f fd ["self", n, m] (spErr C [n, m]) := by
  refine F.ok S (fun vs H Q E h => ?_) (fun A outer s H vs Q E hr h => ?_)
  · obtain ⟨a, ws, rfl, hl, _⟩ := h
    simpa using hl
  · obtain ⟨a, ws, rfl, hl, ha, hq⟩ := h
    match ws, hl with
    | [v, z], _ =>
      obtain ⟨pl, hev⟩ := hev s.heap.objs.size
      rw [eb]
      have vn : Vis (defScope st) n := .inl (S.par n (by simp))
      have vm : Vis (defScope st) m := .inl (S.par m (by simp))
      have hself : (defScope st).names.lookup ("self" : Str) = some .local := S.par "self" (by simp)
      have pN : PE (ncx CX0 P w K mg base ["self", n, m, "__class__"] (nfS "__init__" q st cc c) f A outer s H E) (.Name n p3) (tVar 1) := pe_var rfl vn hdb hcd
      have pM : PE (ncx CX0 P w K mg base ["self", n, m, "__class__"] (nfS "__init__" q st cc c) f A outer s H E) (.Name m p6) (tVar 2) := pe_var rfl vm mdb mcd
      refine at_supx (i := 0) F rfl rfl clsCell hp hks (S.frk "__class__" (by simp)) (by rw [h0]; exact hself) G.su G.T G.sm G.sub G.sV G.op (by rw [h0]; rfl) rfl ha (pa_cons pN (pa_cons pM pa_nil)) (fun u hu => ?_) (hint := hint _) (hsw := hsw1 _) (hev := hev)
      have ua : u ≠ a := fun y => by
        rw [y, ha] at hu
        cases hu
      refine ⟨v, rfl, z, rfl, by show 2 ≤ 1000; decide, upd_same, ?_, .any ?_⟩
      · rw [upd_ne (Ne.symm ua)]
        exact ha
      · refine WSs.of (pss_cons (ps_ost (pe_var (i := 0) rfl (.inl hself)) (pe_var (i := 1) rfl vn hdb hcd) (hsw2 _)) (pss_one (ps_ost (pe_var (i := 0) rfl (.inl hself)) (pe_var (i := 2) rfl vm mdb mcd) (hsw3 _)))) ?_
        refine ⟨v, rfl, .ref a, rfl, a, C, rfl, G.T, G.no n (by simp), .inl ⟨?_, fun d hd hda => ?_⟩⟩
        · rw [upd_ne (Ne.symm ua)]
          exact ha
        · have du : d ≠ u := fun y => by
            rw [y, upd_same] at hd
            cases hd
          rw [upd_ne du] at hd
          refine ⟨z, rfl, .ref a, rfl, a, C, rfl, G.T, G.no m (by simp), .inr ⟨d, _, upd_same, by rw [upd_ne hda, upd_same], by show 1 ≤ 900; decide, ?_⟩⟩
          have key := hq u d hu du hda ua hd
          have e : upd (upd (upd (upd H u (mwO a u)) d (exd d [(n, v)])) a (exo a C (some d))) d (exd d [(m, z), (n, v)]) = upd (upd (upd H u (mwO a u)) d (exd d [(m, z), (n, v)])) a (exo a C (some d)) := by
            funext b
            by_cases hb : b = d
            · subst hb
              rw [upd_same, upd_ne hda, upd_same]
            · rw [upd_ne hb]
              by_cases h2 : b = a
              · subst h2
                rw [upd_same, upd_same]
              · rw [upd_ne h2, upd_ne hb, upd_ne h2, upd_ne hb]
          show Q .non (upd (upd (upd (upd H u (mwO a u)) d (exd d [(n, v)])) a (exo a C (some d))) d (exd d [(m, z), (n, v)]))
          rw [e]
          exact key
end
abbrev XW := Value → Option Addr → En → Lg → Prop
/-- an error class that can be made -/
structure ErrC (P : Program) (w : World) (K : PySem.W.Frag) (mg : Str → Option Value) (base : Heap) (x : Str) (C : Addr) (ns : List Str) : Prop where
  ex : ∃ fI fd, ErrK K mg x C fI ns ∧ FnOk P w K mg base CX0 1 fI fd ("self" :: ns) (spErr C ns) ∧ L2.Binds K fd ("self" :: ns) []
/-- the slot of a name is empty again -/
inductive Clr (x : Str) : En → En → Prop
  | here {o : Option V} {η : En} : Clr x ((x, o) :: η) ((x, none) :: η)
  | there {e : Str × Option V} {η θ : En} : Clr x η θ → Clr x (e :: η) (e :: θ)
theorem Clr.idx {x : Str} {η θ : En} (h : Clr x η θ) : ∃ i : Nat, (names η)[i]? = some x ∧ vals θ = (vals η).set i none ∧ names θ = names η := by
  induction h with
  | here => exact ⟨0, rfl, rfl, rfl⟩
  | there _ ih =>
    obtain ⟨i, a, b, c⟩ := ih
    refine ⟨i + 1, a, ?_, ?_⟩
    · show _ :: vals _ = _ :: (vals _).set i none
      rw [b] <;> rfl
    · show _ :: names _ = _ :: names _
      rw [c] <;> rfl
end G
set_option Elab.async false
set_option linter.all false
set_option maxRecDepth 100000
set_option maxHeartbeats 4000000
namespace G
open PySem PySem.Spec PyProof.Rows L2
/-- n turns; keep: what must stand at every turn; item: what comes at turn i, with the entries that come with it -/
structure Src where
  n : Nat
  keep : Lg → Prop
  item : Nat → V → Lg → Prop
structure SrcOk (J : It) (S : Src) : Prop where
  goes : ∀ i H M, i < S.n → Has H M → S.keep M → J.go i H
  stops : ∀ H M, Has H M → S.keep M → J.stop S.n H
  yields : ∀ i H x H' M, i < S.n → Has H M → S.keep M → J.yld i H x H' → ∃ E, S.item i x E ∧ Has H' (E ++ M)
theorem SrcOk.of {J : It} {n : Nat} {G : Hp → Prop} {Y : Nat → Hp → V → Hp → Prop} {keep : Lg → Prop} {item : Nat → V → Lg → Prop} (w : Walk J n G Y) (hg : ∀ H M, Has H M → keep M → G H)
    (hy : ∀ i H x H' M, i < n → Has H M → keep M → Y i H x H' → ∃ E, item i x E ∧ Has H' (E ++ M)) : SrcOk J ⟨n, keep, item⟩ :=
  ⟨fun i H M hi h k => w.goes i H hi (hg H M h k), fun H M h k => w.stops H (hg H M h k), fun i H x H' M hi h k y => hy i H x H' M hi h k (w.yields i H x H' hi (hg H M h k) y)⟩
def WI (X : Cx) (tg iter : Expr) : TI := fun σ H R => ∀ pins s, Inv X pins σ H s → wpAny (model X.prog X.w) X.A (eval iter X.env) (fun v s1 => wpAny (model X.prog X.w) X.A (pyIter v) (PIE X pins σ tg R) X.xe s1) X.xe s
theorem pi_W {X : Cx} {tg iter : Expr} : PI X tg iter (WI X tg iter) := ⟨fun pins s _ _ _ I h => h pins s I⟩
theorem WI.of {X : Cx} {tg iter : Expr} {wi : TI} {σ : L2.St} {H : Hp} {R : It → Hp → Prop} (h : PI X tg iter wi) (q : wi σ H R) : WI X tg iter σ H R := fun pins s I => h.run pins s σ H R I q
def GI (X : Cx) (tg iter : Expr) (η : En) (L : Lg) (Q : Src → Lg → Prop) : Prop := X.N = names η → ∀ H, Has H L → WI X tg iter (vals η) H fun J H1 => ∃ L1 S, Has H1 L1 ∧ SrcOk J S ∧ Q S L1
/-- one item of a list as it stands -/
def itemAt (xs : List V) : Nat → V → Lg → Prop := fun i x E => xs[i]? = some x ∧ E = []
def itemFn (f : Nat → V) : Nat → V → Lg → Prop := fun i x E => x = f i ∧ E = []
def itemPr (f g : Nat → Option V) : Nat → V → Lg → Prop := fun i v E => ∃ t x y, v = .ref t ∧ E = [(t, .tup [x, y])] ∧ f i = some x ∧ g i = some y
theorem y_at {xs : List V} {i : Nat} {H H' : Hp} {x : V} {M : Lg} (h : Has H M) (y : YAt xs i H x H') : ∃ E, itemAt xs i x E ∧ Has H' (E ++ M) := by
  obtain ⟨e, y⟩ := y
  subst e
  exact ⟨[], ⟨y, rfl⟩, h⟩
theorem y_fn {f : Nat → V} {i : Nat} {H H' : Hp} {x : V} {M : Lg} (h : Has H M) (y : YFn f i H x H') : ∃ E, itemFn f i x E ∧ Has H' (E ++ M) := by
  obtain ⟨e, y⟩ := y
  subst e
  exact ⟨[], ⟨y, rfl⟩, h⟩
theorem y_pr {f g : Nat → Option V} {i : Nat} {H H' : Hp} {x : V} {M : Lg} (h : Has H M) (y : YPair f g i H x H') : ∃ E, itemPr f g i x E ∧ Has H' (E ++ M) := by
  obtain ⟨T, u, v, e1, n, e2, e3, e4⟩ := y
  subst e1 e2
  exact ⟨[(T, .tup [u, v])], ⟨T, u, v, rfl, rfl, e3, e4⟩, h.new n⟩
/-- the list of xs at p stands in the ledger -/
def KeepL (p : Addr) (xs : List V) : Lg → Prop := fun M => (p, HO.lst xs) ∈ M
def KeepT (p : Addr) (xs : List V) : Lg → Prop := fun M => (p, HO.tup xs) ∈ M
section
variable {X : Cx} {η : En} {L : Lg} {Q : Src → Lg → Prop} {tg a b c e : Expr} {p pos : Pos}
theorem gi_list (h : GE X e η L fun v L1 => ∃ q xs, v = .ref q ∧ (q, HO.lst xs) ∈ L1 ∧ Q ⟨xs.length, KeepL q xs, itemAt xs⟩ L1) : GI X tg e η L Q := fun hN H hH =>
  WI.of (pi_list pe_W) (h.then hN hH fun v L1 H1 k1 ⟨q, xs, ev, m, z⟩ => ⟨q, ev, ⟨xs, sql k1 m⟩, L1, _, k1, SrcOk.of walk_list (fun H M hM k => sql hM k) (fun i H x H' M _ hM _ y => y_at hM y), z⟩)
theorem gi_tuple (h : GE X e η L fun v L1 => ∃ q xs, v = .ref q ∧ (q, HO.tup xs) ∈ L1 ∧ Q ⟨xs.length, KeepT q xs, itemAt xs⟩ L1) : GI X tg e η L Q := fun hN H hH =>
  WI.of (pi_tup pe_W) (h.then hN hH fun v L1 H1 k1 ⟨q, xs, ev, m, z⟩ => ⟨q, ev, ⟨xs, sqt k1 m⟩, L1, _, k1, SrcOk.of walk_tup (fun H M hM k => sqt hM k) (fun i H x H' M _ hM _ y => y_at hM y), z⟩)
theorem gi_range1 (h : GA X [a] η L fun vs L1 => ∃ j : Int, vs = [.int j] ∧ (-(2 ^ 62) ≤ j ∧ j < 2 ^ 62) ∧ Q ⟨j.toNat, fun _ => True, itemFn fun i => .int (i : Int)⟩ L1) (hm : X.mg "range" = none) (hg : Gl X "range" := by rfl)
    (hs' : starEach [a] X.env = [(false, eval a X.env)] := by rfl) : GI X tg (.Call (.Name "range" p) [a] [] pos) η L Q := fun hN H hH =>
  WI.of (pi_range1 hg hm pa_W hs') (h.then hN hH fun vs L1 H1 k1 ⟨j, e1, bd, q⟩ => ⟨j, e1, bd.1, bd.2, L1, _, k1, SrcOk.of walk_range (fun _ _ _ _ => True.intro) (fun i H x H' M _ hM _ y => by
    obtain ⟨e, y⟩ := y
    subst e
    exact ⟨[], ⟨y.trans (congrArg V.int (Int.zero_add _)), rfl⟩, hM⟩), q⟩)
theorem gi_range2 (h : GA X [a, b] η L fun vs L1 => ∃ j k : Int, vs = [.int j, .int k] ∧ (-(2 ^ 62) ≤ j ∧ j < 2 ^ 62 ∧ -(2 ^ 62) ≤ k ∧ k < 2 ^ 62) ∧ Q ⟨(k - j).toNat, fun _ => True, itemFn fun i => .int (j + (i : Int))⟩ L1) (hm : X.mg "range" = none) (hg : Gl X "range" := by rfl)
    (hs' : starEach [a, b] X.env = [(false, eval a X.env), (false, eval b X.env)] := by rfl) (hs2 : starEach [b] X.env = [(false, eval b X.env)] := by rfl) : GI X tg (.Call (.Name "range" p) [a, b] [] pos) η L Q := fun hN H hH =>
  WI.of (pi_range2 hg hm pa_W hs' hs2) (h.then hN hH fun vs L1 H1 k1 ⟨j, k, e1, bd, q⟩ => ⟨j, k, e1, bd, L1, _, k1, SrcOk.of walk_range (fun _ _ _ _ => True.intro) (fun i H x H' M _ hM _ y => y_fn hM y), q⟩)
theorem gi_zip {elts : List Expr} {kk : Nat} {tpos : Pos} (h : GA X [e, a] η L fun vs L1 => ∃ q r xs ys, vs = [.ref q, .ref r] ∧ (q, HO.lst xs) ∈ L1 ∧ (r, HO.lst ys) ∈ L1 ∧ Q ⟨min xs.length ys.length, fun M => (q, HO.lst xs) ∈ M ∧ (r, HO.lst ys) ∈ M, itemPr (fun i => xs[i]?) (fun i => ys[i]?)⟩ L1) (hm : X.mg "zip" = none) (hg : Gl X "zip" := by rfl)
    (hs' : starEach [e, a] X.env = (false, eval e X.env) :: starEach [a] X.env := by rfl) (hpl : (backTo pos (starEach [a] X.env)).any (·.1) = false := by rfl) : GI X (.Tuple elts kk tpos) (.Call (.Name "zip" p) [e, a] [] pos) η L Q := fun hN H hH =>
  WI.of (pi_zip hg hm pa_W hs' hpl) (h.then hN hH fun vs L1 H1 k1 ⟨q, r, xs, ys, e1, m1, m2, z⟩ => ⟨q, r, xs, ys, e1, sql k1 m1, sql k1 m2, L1, _, k1, SrcOk.of (walk_zip rfl) (fun H M hM k => ⟨sql hM k.1, sql hM k.2⟩) (fun i H x H' M _ hM _ y => y_pr hM y), z⟩)
end
structure LoopS (X : Cx) (tg : Expr) (body : List Stmt) (D : GD) (S : Src) (η : En) (L : Lg) (Pv : Nat → En → Lg → Prop) : Prop where
  h0 : Pv 0 η L
  kp : ∀ i θ M, i ≤ S.n → (M.map (·.1)).Nodup → Pv i θ M → S.keep M
  hs : ∀ i x E θ M, i < S.n → S.item i x E → Pv i θ M → GG X tg x θ (E ++ M) fun θ' M' => GSs X body { nx := Pv (i + 1), rt := D.rt, bk := D.nx, ct := Pv (i + 1) } θ' M'
  hd : ∀ θ M, Pv S.n θ M → D.nx θ M
section
variable {X : Cx} {η : En} {L : Lg} {tg iter : Expr} {body : List Stmt} {pos : Pos} {D : GD}
theorem gs_for (h : GI X tg iter η L fun S L1 => ∃ Pv, LoopS X tg body D S η L1 Pv) (hp : PassesOwn (model X.prog X.w) X.A X.env X.xe := by first | exact PassesOwn.never | exact passes_of rfl | assumption) (hc : X.calm = true := by rfl)
    (hs : ∀ x, foldedSetIterable iter X.env x = pure x := by intro _; rfl) : GS X (.For tg iter body [] pos) D η L := fun hN H hH =>
  WS.of (ps_for hp hc pi_W pg_W pss_W hs) (by
    intro pins s I
    refine wpAny_mono (h hN H hH pins s I) (fun v s1 z => wpAny_mono z (fun itv s2 z2 => ?_) fun _ _ z => z) fun _ _ z => z
    obtain ⟨it, fp, tn, J, H1, ev, I2, T, t0, f2, L1, S, k1, ok, Pv, l⟩ := z2
    refine ⟨it, fp, tn, J, H1, ev, I2, T, t0, f2, ?_⟩
    refine ⟨fun i m σ H => m = S.n - i ∧ i ≤ S.n ∧ upS X (Pv i) σ H, ⟨S.n, by simp, Nat.zero_le _, η, L1, hN, rfl, k1, l.h0⟩, ?_⟩
    rintro i m σ H ⟨rfl, hi, θ, M, n1, es, h1, q1⟩
    have kk := l.kp i θ M hi h1.1 q1
    by_cases hlt : i < S.n
    · refine .inr ⟨ok.goes i H M hlt h1 kk, upS X (Pv (i + 1)), fun σ' H' p' => ⟨S.n - (i + 1), by omega, rfl, hlt, p'⟩, fun x H' y => ?_⟩
      obtain ⟨E, it', h2⟩ := ok.yields i H x H' M hlt h1 kk y
      rw [es]
      exact (l.hs i x E θ M hlt it' q1).then n1 h2 fun θ' M' H2 n2 h2 q2 => q2 n2 H2 h2
    · have e : i = S.n := by omega
      subst e
      exact .inl ⟨ok.stops H M h1 kk, θ, M, n1, es, h1, l.hd θ M q1⟩)
end
def GTs (X : Cx) (ifs : List Expr) (η : En) (L : Lg) (Q : Bool → Lg → Prop) : Prop := match ifs with
  | [] => Q true L
  | [c] => GT X c η L Q
  | _ => False
def WTs (X : Cx) (ifs : List Expr) : TT := match ifs with
  | [] => tYes
  | [c] => WT X c
  | _ => fun _ _ _ => False
theorem pts_W {X : Cx} {ifs : List Expr} : PTs X ifs (WTs X ifs) := by
  match ifs with
  | [] => exact pts_nil
  | [c] => exact pts_one pt_W
  | _ :: _ :: _ => exact ⟨fun _ _ _ _ _ _ h => h.elim⟩
theorem GTs.then {X : Cx} {ifs : List Expr} {η : En} {L : Lg} {Q : Bool → Lg → Prop} {Q' : Bool → Hp → Prop} (h : GTs X ifs η L Q) (hN : X.N = names η) {H : Hp} (hH : Has H L) (m : ∀ b L1 H1, Has H1 L1 → Q b L1 → Q' b H1) : WTs X ifs (vals η) H Q' := by
  match ifs, h with
  | [], h => exact m true L H hH h
  | [c], h => exact GT.then h hN hH m
/-- the block of a comprehension -/
abbrev blkX (X : Cx) (s : Shared) (H : Hp) (scope : Scope) (C : Addr) (cl : List (Str × Addr)) (fp : List Addr) : Cx := X.blk s H scope (compEnvC scope cl C X.env) fp
/-- one turn of a comprehension: the item stands in θ; B: the block's contexts -/
abbrev AllBlk (X : Cx) (scope : Scope) (φ : Cx → Prop) : Prop := ∀ (s : Shared) (H : Hp) (C : Addr) (cl : List (Str × Addr)) (fp : List Addr), φ (blkX X s H scope C cl fp)
abbrev LocB (X : Cx) (scope : Scope) (x : Str) : Prop := AllBlk X scope fun B => Loc B.env.scope x ∧ (B.fn x = true ∨ B.env.scope.names.lookup x = some .local)
theorem idxEq {N : List Str} (hn : N.Nodup) {i : Nat} {x : Str} (h : N[i]? = some x) : N.idxOf x = i := idxU hn (by
  have m := List.idxOf_lt_length_of_mem (List.mem_of_getElem? h)
  rw [List.getElem?_eq_getElem m, List.getElem_idxOf m]) h
def LcTurn (X : Cx) (scope : Scope) (ifs : List Expr) (elt : Expr) (D : Addr) (Nx : Lg → Prop) (θ : En) (M : Lg) : Prop :=
  AllBlk X scope fun B => GTs B ifs θ M fun b M1 => if b = true then AllBlk X scope fun B => GE B elt θ M1 fun y M2 => ∃ acc M3, (D, HO.lst acc) ∈ M2 ∧ acc.length < sizeLine ∧ Swap D (.lst (acc ++ [y])) M2 M3 ∧ Nx M3 else Nx M1
structure LcS (X : Cx) (scope : Scope) (ifs : List Expr) (elt : Expr) (S : Src) (D : Addr) (L : Lg) (st : V → Lg → (En → Lg → Prop) → Prop) (Pv : Nat → Lg → Prop) (Q : QV) : Prop where
  h0 : Pv 0 ((D, .lst []) :: L)
  kp : ∀ i M, i ≤ S.n → (M.map (·.1)).Nodup → Pv i M → S.keep M
  hs : ∀ i x E M, i < S.n → S.item i x E → ((E ++ M).map (·.1)).Nodup → Pv i M → st x (E ++ M) fun θ M' => LcTurn X scope ifs elt D (Pv (i + 1)) θ M'
  hd : ∀ M, Pv S.n M → Q (.ref D) M
theorem wipe_one {σ : L2.St} {i : Nat} {v : Option V} : wipe (σ.set i v) [i] = wipe σ [i] := by
  show (σ.set i v).set i none = σ.set i none
  rw [List.set_set]
def teB (X : Cx) (scope : Scope) (elt : Expr) : TE := fun σ H q => AllBlk X scope fun B => WE B elt σ H q
def ttB (X : Cx) (scope : Scope) (ifs : List Expr) : TT := fun σ H q => AllBlk X scope fun B => WTs B ifs σ H q
theorem pe_teB {X : Cx} {scope : Scope} {elt : Expr} (s : Shared) (H : Hp) (C : Addr) (cl : List (Str × Addr)) (fp : List Addr) : PE (blkX X s H scope C cl fp) elt (teB X scope elt) := ⟨fun pins s1 σ H1 Q I h => h s H C cl fp pins s1 I⟩
theorem pts_ttB {X : Cx} {scope : Scope} {ifs : List Expr} (s : Shared) (H : Hp) (C : Addr) (cl : List (Str × Addr)) (fp : List Addr) : PTs (blkX X s H scope C cl fp) ifs (ttB X scope ifs) := ⟨fun pins s1 σ H1 Q I h => pts_W.run pins s1 σ H1 Q I (h s H C cl fp)⟩
section
variable {X : Cx} {η : En} {L : Lg} {elt iter tg : Expr} {ifs : List Expr} {scope : Scope} {pos p1 p2 p3 : Pos} {x y : Str} {f : V → En} {Q : QV}
/-- what the library's comprehension asks, from ours -/
theorem lc_core' {g : TG} {vs : List Nat} {st : V → Lg → (En → Lg → Prop) → Prop} (nη : X.N = names η) {H : Hp} (hH : Has H L) {Qh : VK} (hq : ∀ D M H', Has H' M → Q (.ref D) M → Qh (.ref D) H')
    (hst : ∀ v M H' k Qk, Has H' M → st v M k → (∀ θ M' H2, X.N = names θ → Has H2 M' → k θ M' → wipe (vals θ) vs = wipe (vals η) vs → Qk (vals θ) H2) → g v (wipe (vals η) vs) H' Qk)
    (h : GI X tg iter η L fun S L1 => ∀ D, ∃ Pv, LcS X scope ifs elt S D L1 st Pv Q) : tLc (WI X tg iter) g (ttB X scope ifs) (teB X scope elt) vs (vals η) H Qh := by
  intro pins s I
  refine wpAny_mono (h nη H hH pins s I) (fun v s1 z => wpAny_mono z (fun itv s2 z2 => ?_) fun _ _ z => z) fun _ _ z => z
  obtain ⟨it, fp, tn, J, H1, ev, I2, T, t0, f2, L1, S, k1, ok, l⟩ := z2
  refine ⟨it, fp, tn, J, H1, ev, I2, T, t0, f2, fun D nD => ?_⟩
  obtain ⟨Pv, l⟩ := l D
  refine ⟨fun i m H => m = S.n - i ∧ i ≤ S.n ∧ ∃ M, Has H M ∧ Pv i M, ⟨S.n, by simp, Nat.zero_le _, _, k1.new nD, l.h0⟩, ?_⟩
  rintro t m H2 ⟨rfl, hi2, M, h3, q1⟩
  have kk := l.kp t M hi2 h3.1 q1
  by_cases hlt : t < S.n
  · refine .inr ⟨ok.goes t H2 M hlt h3 kk, fun H' => ∃ M, Has H' M ∧ Pv (t + 1) M, fun H' p' => ⟨S.n - (t + 1), by omega, rfl, hlt, p'⟩, fun v H3 y => ?_⟩
    obtain ⟨E, it', h4⟩ := ok.yields t H2 v H3 M hlt h3 kk y
    refine hst v (E ++ M) H3 _ _ h4 (l.hs t v E M hlt it' h4.1 q1) fun θ M' H5 nθ h5 q2 ew => ⟨ew, fun s' H' C cl fp => ?_⟩
    refine (q2 s' H' C cl fp).then nθ h5 fun b M1 H6 h6 q3 => ?_
    cases b with
    | true =>
      rw [if_pos rfl] at q3 ⊢
      refine fun s' H' C cl fp => (q3 s' H' C cl fp).then nθ h6 fun y M2 H7 h7 q4 => ?_
      obtain ⟨acc, M3, m2, z, sw, q5⟩ := q4
      exact ⟨acc, h7.get m2, z, M3, h7.swap sw, q5⟩
    | false =>
      rw [if_neg Bool.false_ne_true] at q3 ⊢
      exact ⟨M1, h6, q3⟩
  · have e : t = S.n := by omega
    subst e
    exact .inl ⟨ok.stops H2 M h3 kk, hq D M H2 h3 (l.hd M q1)⟩
/-- the store of the item: one name -/
theorem st_one {i : Nat} (P : PutF x η f) (hi : X.N[i]? = some x) (hN : X.N.Nodup) (nη : X.N = names η) : ∀ (v : V) (M : Lg) (H' : Hp) (k : En → Lg → Prop) (Qk : L2.St → Hp → Prop), Has H' M → k (f v) M → (∀ θ M' H2, X.N = names θ → Has H2 M' → k θ M' → wipe (vals θ) [i] = wipe (vals η) [i] → Qk (vals θ) H2) → gName i v (wipe (vals η) [i]) H' Qk := fun v M H' k Qk hM q hk => by
  obtain ⟨j, h1, h2⟩ := P.idx
  have ij : i = j := idxU hN hi (by rw [nη]; exact h1)
  subst ij
  have e1 : (wipe (vals η) [i]).set i (some v) = vals (f v) := by
    rw [(h2 v).1]
    show ((vals η).set i none).set i (some v) = _
    rw [List.set_set]
  have z := hk (f v) M H' (by rw [(h2 v).2]; exact nη) hM q (by rw [(h2 v).1]; exact wipe_one)
  show Qk ((wipe (vals η) [i]).set i (some v)) H'
  rw [e1]
  exact z
/-- [elt for x in iter if ..], as a value -/
theorem ge_lc1 (P : PutF x η f) (h : GI X (.Name x p1) iter η L fun S L1 => ∀ D, ∃ Pv, LcS X scope ifs elt S D L1 (fun v M k => k (f v) M) Pv Q) (hb : blkC X.N X.env.scope scope [(x, X.N.idxOf x)] = true) (hlx : LocB X scope x := by exact fun _ _ _ _ _ => ⟨.inl rfl, .inr rfl⟩)
    (hN : X.N.Nodup := by assumption) (hc : X.calm = true := by rfl) (hs : ∀ z, foldedSetIterable iter X.env z = pure z := by intro _; rfl) : GE X (.ListComp elt [⟨.Name x p1, iter, ifs, 0⟩] scope pos) η L Q := fun nη H hH => by
  obtain ⟨i, h1, _⟩ := P.idx
  have hi : X.N[i]? = some x := by rw [nη]; exact h1
  exact WE.of (pe_lc (own := [(x, i)]) hc hN pi_W (blkOk_by (by rw [idxEq hN hi] at hb; exact hb)) (fun s H C cl fp => pg_name (X := blkX X s H scope C cl fp) hN hi (hlx s H C cl fp).1 (hlx s H C cl fp).2) pts_ttB pe_teB hs)
    (lc_core' (Qh := up Q) nη hH (fun D M H' hM q => ⟨M, hM, q⟩) (st_one P hi hN nη) h)
/-- y = [elt for x in iter if ..] -/
theorem gs_lc1 {D : GD} {fy : V → En} {py : Pos} (Py : PutF y η fy) (P : PutF x η f) (h : GI X (.Name x p1) iter η L fun S L1 => ∀ d, ∃ Pv, LcS X scope ifs elt S d L1 (fun v M k => k (f v) M) Pv fun v M => D.nx (fy v) M) (hb : blkC X.N X.env.scope scope [(x, X.N.idxOf x)] = true) (hlx : LocB X scope x := by exact fun _ _ _ _ _ => ⟨.inl rfl, .inr rfl⟩)
    (hyl : X.env.scope.names.lookup y = some .local := by rfl) (hsw : swapsWith (.ListComp elt [⟨.Name x p1, iter, ifs, 0⟩] scope pos) (some (.Name y py)) p3.line X.env = pure true := by rfl)
    (hN : X.N.Nodup := by assumption) (hc : X.calm = true := by rfl) (hs : ∀ z, foldedSetIterable iter X.env z = pure z := by intro _; rfl) : GS X (.Assign [.Name y py] (.ListComp elt [⟨.Name x p1, iter, ifs, 0⟩] scope pos) p3) D η L := fun nη H hH => by
  obtain ⟨i, h1, _⟩ := P.idx
  obtain ⟨j, k1, k2⟩ := Py.idx
  have hi : X.N[i]? = some x := by rw [nη]; exact h1
  have hj : X.N[j]? = some y := by rw [nη]; exact k1
  refine WS.of (ps_setLc (own := [(x, i)]) hc hN hj hyl hsw pi_W (blkOk_by (by rw [idxEq hN hi] at hb; exact hb)) (fun s H C cl fp => pg_name (X := blkX X s H scope C cl fp) hN hi (hlx s H C cl fp).1 (hlx s H C cl fp).2) pts_ttB pe_teB hs) ?_
  refine lc_core' (Qh := fun v H1 => gName j v (vals η) H1 (D.ends X).nx) nη hH (fun d M H' hM q => ?_) (st_one P hi hN nη) h
  show upS X D.nx ((vals η).set j (some (.ref d))) H'
  exact ⟨fy (.ref d), M, by rw [(k2 _).2]; exact nη, (k2 _).1.symm, hM, q⟩
theorem wipe_two {σ : L2.St} {i j : Nat} (ne : i ≠ j) {a b : Option V} : ((wipe σ [i, j]).set i a).set j b = (σ.set i a).set j b ∧ wipe ((σ.set i a).set j b) [i, j] = wipe σ [i, j] := by
  refine ⟨?_, ?_⟩
  · show ((((σ.set j none).set i none).set i a).set j b) = _
    rw [List.set_set, List.set_comm _ _ ne, List.set_set, List.set_comm _ _ (Ne.symm ne)]
  · show ((((σ.set i a).set j b).set j none).set i none) = (σ.set j none).set i none
    rw [List.set_set, List.set_comm _ _ ne, List.set_set, List.set_comm _ _ (Ne.symm ne)]
/-- the store of an item: a pair's two names -/
theorem st_two {K : PySem.W.Frag} {g : V → V → En} {i j : Nat} (P : PutF x η f) (R : ∀ v, PutF y (f v) (g v)) (hi : X.N[i]? = some x) (hj : X.N[j]? = some y) (ne : i ≠ j) (hN : X.N.Nodup) (nη : X.N = names η) :
    ∀ (v : V) (M : Lg) (H' : Hp) (k : En → Lg → Prop) (Qk : L2.St → Hp → Prop), Has H' M → (∃ p a b, v = .ref p ∧ (p, HO.tup [a, b]) ∈ M ∧ k (g a b) M) → (∀ θ M' H2, X.N = names θ → Has H2 M' → k θ M' → wipe (vals θ) [i, j] = wipe (vals η) [i, j] → Qk (vals θ) H2) →
      gTup K 2 (gCons (gName i) (gCons (gName j) gNil)) v (wipe (vals η) [i, j]) H' Qk := fun v M H' k Qk hM ⟨p, a, b, ev, m, q⟩ hk => by
  have nf : ∀ v, X.N = names (f v) := fun v => by
    obtain ⟨_, _, h2⟩ := P.idx
    rw [(h2 v).2]
    exact nη
  have e1 : vals (f a) = (vals η).set i (some a) := (P.at hN nη hi a).1
  have e2 : vals (g a b) = (vals (f a)).set j (some b) := ((R a).at hN (nf a) hj b).1
  have nθ : X.N = names (g a b) := (nf a).trans ((R a).at hN (nf a) hj b).2.symm
  have e3 : vals (g a b) = ((vals η).set i (some a)).set j (some b) := by rw [e2, e1]
  refine ⟨p, [a, b], ev, sqt hM m, rfl, a, [b], rfl, b, [], rfl, rfl, ?_⟩
  have z := hk (g a b) M H' nθ hM q (by rw [e3]; exact (wipe_two ne).2)
  rw [e3] at z
  show Qk (((wipe (vals η) [i, j]).set i (some a)).set j (some b)) H'
  rw [(wipe_two ne).1]
  exact z
theorem pg_pair {i j : Nat} {kt : Nat} {pt : Pos} (hc : X.calm = true) (hN : X.N.Nodup) (hi : X.N[i]? = some x) (hj : X.N[j]? = some y) (hlx : LocB X scope x) (hly : LocB X scope y) :
    ∀ (s : Shared) (H : Hp) (C : Addr) (cl : List (Str × Addr)) (fp : List Addr), PG (blkX X s H scope C cl fp) (.Tuple [.Name x p1, .Name y p2] kt pt) (gTup X.K 2 (gCons (gName i) (gCons (gName j) gNil))) := fun s H C cl fp =>
  pg_tup (X := blkX X s H scope C cl fp) (n := 2) hc (pgs_cons (pg_name hN hi (hlx s H C cl fp).1 (hlx s H C cl fp).2) (pgs_cons (pg_name hN hj (hly s H C cl fp).1 (hly s H C cl fp).2) pgs_nil)) rfl rfl
/-- [elt for x, y in iter if ..], as a value -/
theorem ge_lc2 {g : V → V → En} {kt : Nat} {pt : Pos} (P : PutF x η f) (R : ∀ v, PutF y (f v) (g v)) (h : GI X (.Tuple [.Name x p1, .Name y p2] kt pt) iter η L fun S L1 => ∀ D, ∃ Pv, LcS X scope ifs elt S D L1 (fun v M k => ∃ p a b, v = .ref p ∧ (p, HO.tup [a, b]) ∈ M ∧ k (g a b) M) Pv Q)
    (hxy : x ≠ y) (hb : blkC X.N X.env.scope scope [(x, X.N.idxOf x), (y, X.N.idxOf y)] = true) (hlx : LocB X scope x := by exact fun _ _ _ _ _ => ⟨.inl rfl, .inr rfl⟩) (hly : LocB X scope y := by exact fun _ _ _ _ _ => ⟨.inl rfl, .inr rfl⟩)
    (hN : X.N.Nodup := by assumption) (hc : X.calm = true := by rfl) (hs : ∀ z, foldedSetIterable iter X.env z = pure z := by intro _; rfl) : GE X (.ListComp elt [⟨.Tuple [.Name x p1, .Name y p2] kt pt, iter, ifs, 0⟩] scope pos) η L Q := fun nη H hH => by
  obtain ⟨i, h1, h2⟩ := P.idx
  have hi : X.N[i]? = some x := by rw [nη]; exact h1
  obtain ⟨j, k1, _⟩ := (R .non).idx
  have hj : X.N[j]? = some y := by
    rw [(h2 .non).2] at k1
    rw [nη]
    exact k1
  have ne : i ≠ j := fun z => hxy (by rw [z, hj] at hi; exact (Option.some.inj hi).symm)
  exact WE.of (pe_lc (own := [(x, i), (y, j)]) hc hN pi_W (blkOk_by (by rw [idxEq hN hi, idxEq hN hj] at hb; exact hb)) (pg_pair hc hN hi hj hlx hly) pts_ttB pe_teB hs)
    (lc_core' (Qh := up Q) nη hH (fun D M H' hM q => ⟨M, hM, q⟩) (st_two P R hi hj ne hN nη) h)
theorem gs_lc2 {D : GD} {fy : V → En} {z : Str} {pz : Pos} {g : V → V → En} {kt : Nat} {pt : Pos} (Pz : PutF z η fy) (P : PutF x η f) (R : ∀ v, PutF y (f v) (g v)) (h : GI X (.Tuple [.Name x p1, .Name y p2] kt pt) iter η L fun S L1 => ∀ d, ∃ Pv, LcS X scope ifs elt S d L1 (fun v M k => ∃ p a b, v = .ref p ∧ (p, HO.tup [a, b]) ∈ M ∧ k (g a b) M) Pv fun v M => D.nx (fy v) M)
    (hxy : x ≠ y) (hb : blkC X.N X.env.scope scope [(x, X.N.idxOf x), (y, X.N.idxOf y)] = true) (hlx : LocB X scope x := by exact fun _ _ _ _ _ => ⟨.inl rfl, .inr rfl⟩) (hly : LocB X scope y := by exact fun _ _ _ _ _ => ⟨.inl rfl, .inr rfl⟩)
    (hzl : X.env.scope.names.lookup z = some .local := by rfl) (hsw : swapsWith (.ListComp elt [⟨.Tuple [.Name x p1, .Name y p2] kt pt, iter, ifs, 0⟩] scope pos) (some (.Name z pz)) p3.line X.env = pure true := by rfl)
    (hN : X.N.Nodup := by assumption) (hc : X.calm = true := by rfl) (hs : ∀ z, foldedSetIterable iter X.env z = pure z := by intro _; rfl) : GS X (.Assign [.Name z pz] (.ListComp elt [⟨.Tuple [.Name x p1, .Name y p2] kt pt, iter, ifs, 0⟩] scope pos) p3) D η L := fun nη H hH => by
  obtain ⟨i, h1, h2⟩ := P.idx
  have hi : X.N[i]? = some x := by rw [nη]; exact h1
  obtain ⟨j, k1, _⟩ := (R .non).idx
  have hj : X.N[j]? = some y := by
    rw [(h2 .non).2] at k1
    rw [nη]
    exact k1
  have ne : i ≠ j := fun z => hxy (by rw [z, hj] at hi; exact (Option.some.inj hi).symm)
  obtain ⟨l, l1, l2⟩ := Pz.idx
  have hl : X.N[l]? = some z := by rw [nη]; exact l1
  refine WS.of (ps_setLc (own := [(x, i), (y, j)]) hc hN hl hzl hsw pi_W (blkOk_by (by rw [idxEq hN hi, idxEq hN hj] at hb; exact hb)) (pg_pair hc hN hi hj hlx hly) pts_ttB pe_teB hs) ?_
  refine lc_core' (Qh := fun v H1 => gName l v (vals η) H1 (D.ends X).nx) nη hH (fun d M H' hM q => ?_) (st_two P R hi hj ne hN nη) h
  show upS X D.nx ((vals η).set l (some (.ref d))) H'
  exact ⟨fy (.ref d), M, by rw [(l2 _).2]; exact nη, (l2 _).1.symm, hM, q⟩
end
end G
set_option Elab.async false
set_option linter.all false
set_option maxRecDepth 100000
set_option maxHeartbeats 4000000
namespace G
open PySem PySem.Spec PyProof.Rows L2
open PySem.W in
/-- what an own error class says of its instances -/
structure ErV (K : Frag) (D : Addr) : Prop where
  ga : findIn K (.ref D) "__getattribute__" = some (some (.builtin "BaseException.__getattribute__"))
  gt : findIn K (.ref D) "__getattr__" = some none
  ex : subIn K (.ref D) (.type "BaseException") = some true
  hd : hasDictIn K D = true
  cl : findIn K (.ref D) "__class__" = some (some (.builtin "object.__class__"))
  sp : specialIn K (.builtin "object.__class__") "__get__" = some (some (.builtin "getset_descriptor.__get__"))
  tk : takesIn K (.builtin "object.__class__") = some true
  mo : mroIn K D (.type "object") = some true
section
open PySem.W
variable {prog : Program} {w : World} {A : Around} {E : Value → Shared → Prop} {s : Shared} {K : Frag} {x D : Addr} {ox : Obj} {od : Option Obj}
theorem ErV.find (T : ErV K D) : findObj K D od "__class__" = some (.bind (.builtin "getset_descriptor.__get__") (.builtin "object.__class__")) := by
  obtain ⟨cd, hc, _⟩ := any_some T.hd
  unfold findObj
  rw [hc, Option.bind_some, T.cl, Option.bind_some]
  simp [T.sp, T.tk]
/-- its __class__ -/
theorem ErV.cls (T : ErV K D) {Q : Option Value → Shared → Prop} (X : K.In s.heap) (I : InstAt s.heap x ox D od) (h : Q (some (.ref D)) { s with toks := s.toks + 1 }) : wpAny (model prog w) A (getAttr? (.ref x) "__class__") Q E s := by
  obtain ⟨hh, gg, dd, tt, oo⟩ := s
  have ty := I.type (M := model prog w)
  have lga := looks_findIn (M := model prog w) X T.ga
  have lgt := looks_findIn (M := model prog w) X T.gt
  have lfi := looks_find (M := model prog w) X I T.find
  have isb : Looks (model prog w) hh (isInstance (.ref x) (.type "BaseException")) true := ty.andThen (looks_subIn X T.ex)
  have no : (Value.builtin "BaseException.__getattribute__" == Value.builtin "object.__getattribute__") = false := by decide +kernel
  have no2 : (onTheHeap (Value.ref D) && Value.builtin "BaseException.__getattribute__" == Value.builtin "object.__getattribute__") = false := by
    rw [no]
    rfl
  have no3 : (false && onTheHeap (Value.builtin "BaseException.__getattribute__")) = false := rfl
  unfold getAttr? getAttrBy? getAttrBy
  refine wpAny_bind (wpAny_mkText (wpAny_bind (wpAny_attempt (wpAny_holding (wpAny_bind (ty.at (wpAny_bind (lga.at ?_))))))))
  show wpAny _ _ (if (onTheHeap (Value.ref D) && Value.builtin "BaseException.__getattribute__" == Value.builtin "object.__getattribute__") = true then _ else _) _ _ _
  rw [no2, if_neg Bool.false_ne_true]
  unfold getAttrByItsOwn hookBefore
  refine wpAny_bind ?_
  rw [if_pos (show onTheHeap (Value.ref D) = true from rfl)]
  refine lgt.at (wpAny_bind (wpAny_attempt (wpAny_holding ?_)))
  unfold callGetattribute
  rw [no3, if_neg Bool.false_ne_true]
  unfold boundAndCalled
  rw [PySem.F.excAttr_ValueError.ga.bind (.ref x)]
  refine wpAny_bind (wpAny_pure ?_)
  show wpAny _ _ (call (.builtin "BaseException.__getattribute__") [.ref x, .str "__class__" tt]) _ _ _
  refine wpAny_call (codeAny_call_builtin PySem.F.excAttr_ValueError.ga.plain PySem.F.entry_bexc_ga (@check_slot (model prog w) _ _ ⟨hh, gg, dd, tt + 1, oo⟩ "BaseException.__getattribute__" "BaseException" "__getattribute__" (.ref x) [.str "__class__" tt] [] _ (by decide +kernel) (by decide +kernel) isb (PySem.F.args_bexc_ga (.ref x) (.str "__class__" tt)) ?_))
  unfold Builtin.«object.__getattribute__»
  refine wpAny_bind (wpAny_of_eq (a := ((Value.ref x : Value), [Value.str "__class__" tt])) (by first | rfl | (simp only [slotArgs]; rfl)) (wpAny_bind (wpAny_pure (wpAny_bind (ty.at (wpAny_bind (lfi.at ?_)))))))
  show wpAny _ _ (holding [Value.builtin "object.__class__"] (call (.builtin "getset_descriptor.__get__") [.builtin "object.__class__", .ref x, .ref D]) >>= ret) _ _ _
  refine wpAny_bind (wpAny_holding (wpAny_call (class_get (s := ⟨hh, gg, dd, tt + 1, oo⟩) (ox := ox) (od := od) X I T.mo (wpAny_pure ?_))))
  show wpAny _ _ (handedOut (.ref D)) _ _ _
  rw [handedOut_of (v := .ref D) rfl]
  first
    | exact wpAny_pure (wpAny_pure h)
    | exact wpAny_pure h
    | exact wpAny_pure (wpAny_bind (wpAny_pure (wpAny_pure h)))
end
section
variable {X : Cx} {η : En} {L : Lg} {Q : QV} {a C D : Addr} {d : Option Addr} {c : V} {e : Expr} {pos : Pos} {n : Str}
/-- a field of an error -/
def GAt (X : Cx) (n : Str) (x : V) (L : Lg) (Q : QV) : Prop := ∀ pins s σ H u (ex : Bool), Has H L → Inv X pins σ H s → RelV x u → wpAny (model X.prog X.w) X.A (getAttr u n ex) (EP X pins σ (up Q)) X.xe s
theorem ge_attr (h : GE X e η L fun x L1 => GAt X n x L1 Q) (hb : attributeBase e n X.env (eval e X.env) = eval e X.env := by rfl) : GE X (.Attribute e n pos) η L Q := fun hN H hH pins s I =>
  attr_of hb (thn (h hN H hH pins s I) fun u s1 ⟨x, H1, I1, r1, L1, k1, q1⟩ => q1 pins s1 _ H1 u _ k1 I1 r1)
end
end G
set_option Elab.async false
set_option linter.all false
set_option maxRecDepth 100000
set_option maxHeartbeats 4000000
namespace G
open PySem PySem.Spec PyProof.Rows L2
/-- v is the value d, as repr reads it -/
def Rd (L : Lg) (v : V) (d : PyData) : Prop := ∀ (X : Cx) (pins : List (Addr × Obj)) (σ : L2.St) (H : Hp) (s : Shared) (u : Value), Has H L → Inv X pins σ H s → RelV v u → ∃ as, Reads s.heap u d as ∧ (d.hasDict = true → sysModules ∉ as)
end G
set_option Elab.async false
set_option linter.all false
set_option maxRecDepth 100000
set_option maxHeartbeats 4000000
namespace G
open PySem PySem.Spec PyProof.Rows L2
end G
set_option Elab.async false
set_option linter.all false
set_option maxRecDepth 100000
set_option maxHeartbeats 4000000
namespace G
open PySem PySem.Spec PyProof.Rows L2 NdefX
def clsBody : Stmt → List Stmt
  | .ClassDef _ _ _ b _ _ _ _ _ _ _ => b
  | _ => []
def clsAt (c : Stmt) (j : Nat) : Stmt := (clsBody c).getD j (.Pass ⟨0, 0, 0, 0⟩)
/-- an own error class, as its user wants it -/
structure ErrT (P : Program) (w : World) (K : PySem.W.Frag) (mg : Str → Option Value) (base : Heap) (x : Str) (C : Addr) (ns : List Str) : Prop where
  gC : mg x = some (.ref C)
  ck : ErrC P w K mg base x C ns
  ev : ErV K C
  no : ∀ n ∈ ns, PySem.W.findIn K (.ref C) n = some none
section
variable {P : Program} {w : World} {K : PySem.W.Frag} {mg : Str → Option Value} {base : Heap} {x q : Str} {st : Stmt} {C fI c cc : Addr} {n m : Str}
variable {nm qn : Str} {N : Addr} {bs bm : List Value} {sn : List Str} {sub : List Value} {ab : Bool} {col : Option Bool} {dd : Option Addr} {k0 k1 k2 k3 k5 : Option Value} {oc kV doc pm ct cl ccl : Value} {od an cld cdd : Option Addr} {osl csl ccs : Array (Option Value)} {vs : Array Value} {fl : Str} {tf : Tok} {cd : ClassData}
/-- what the written part says of an own error class with its own __init__ over ValueError's -/
structure ErrFacts (P : Program) (K : PySem.W.Frag) (x q : Str) (st : Stmt) (C fI c cc : Addr) (nm qn : Str) (N : Addr) (bs bm : List Value) (sn : List Str) (sub : List Value) (ab : Bool) (col : Option Bool) (dd : Option Addr) (k0 k1 k2 k3 k5 : Option Value) (oc kV doc pm ct cl ccl : Value) (od an cld cdd : Option Addr) (osl csl ccs : Array (Option Value)) (vs : Array Value) (fl : Str) (tf : Tok) (cd : ClassData) : Prop where
  a1 : PySem.W.nsIn K mainGlobals x = some (some (.ref C))
  a2 : K.lookup C = some (excClassObj nm qn C N bs bm true sn sub ab col dd k0 k1 k2 k3 k5 "ValueError.__new__")
  a3 : PySem.HandSPX.refsVE bm = true
  a4 : PySem.W.findIn K (.ref C) "__setattr__" = some (some (.builtin "object.__setattr__"))
  a5 : PySem.W.subIn K (.ref C) (.type "BaseException") = some true
  a6 : PySem.W.typeIn K (.ref C) = some (.type "type")
  a7 : PySem.W.keepIn K (.ref C) = true
  a8 : PySem.W.findIn K (.ref C) "__init__" = some (some (.ref fI))
  a9 : PySem.W.typeIn K (.ref fI) = some (.type "function")
  b1 : PySem.W.ks_superIn K C C "__init__" = some (some (.builtin "ValueError.__init__"))
  b2 : PySem.W.mroIn K C (.ref C) = some true
  b3 : PySem.W.subIn K (.ref C) (.type "ValueError") = some true
  b4 : K.lookup fI = some ⟨oc, od, .func (PySem.W.fnX "__init__" q (defArgs st) (defBody st) (defScope st) [("__class__", cc)] .none kV doc pm an (.ref c) ct), osl⟩
  b5 : PySem.W.codeIn K (.ref c) q = true
  b6 : K.lookup cc = some ⟨cl, cld, .cell (some (.ref C)), csl⟩
  b7 : K.lookup c = some ⟨ccl, cdd, .fields vs, ccs⟩
  b8 : vs[2]? = some (.str fl tf)
  b9 : (P.main.file == fl) = true
  c1 : PySem.W.clsIn K C = some cd
  c2 : PySem.W.findIn K (.ref C) "__getattribute__" = some (some (.builtin "BaseException.__getattribute__"))
  c3 : PySem.W.findIn K (.ref C) "__getattr__" = some none
  c4 : PySem.W.hasDictIn K C = true
  c5 : PySem.W.findIn K (.ref C) "__class__" = some (some (.builtin "object.__class__"))
  c6 : PySem.W.mroIn K C (.type "object") = some true
section
variable (F : ErrFacts P K x q st C fI c cc nm qn N bs bm sn sub ab col dd k0 k1 k2 k3 k5 oc kV doc pm ct cl ccl od an cld cdd osl csl ccs vs fl tf cd)
include F
theorem ErrFacts.sup (top : (P.main.scope.names.lookup ("super" : Str)).isSome = false) : SupF P K "__init__" q st fI c cc C (PySem.W.fnX "__init__" q (defArgs st) (defBody st) (defScope st) [("__class__", cc)] .none kV doc pm an (.ref c) ct) :=
  ⟨⟨oc, od, kV, doc, pm, ct, an, osl, rfl, F.b4⟩, F.b5, ⟨cl, cld, csl, F.b6⟩, ⟨ccl, cdd, vs, ccs, fl, tf, F.b7, F.b8, F.b9⟩, ⟨cd, F.c1⟩, top⟩
theorem ErrFacts.errK {ns : List Str} {h : Heap} (X : K.In h) (G : h.Ns mainGlobals mg) (op : PySem.W.nsIn K cStatics "thirdparty.any" = some none) (su : mg "super" = none) (no : ∀ n ∈ ns, PySem.W.findIn K (.ref C) n = some none) : ErrK K mg x C fI ns :=
  ⟨PySem.W.mg_of X G F.a1, ⟨⟨_, _, _, _, _, _, _, _, _, _, _, _, _, _, _, F.a2, F.a3⟩, F.a4, F.a5, F.a6, F.a7⟩, F.a8, F.a9, no, F.b1, F.b2, F.b3, op, su⟩
theorem ErrFacts.errV (sp : PySem.W.specialIn K (.builtin "object.__class__") "__get__" = some (some (.builtin "getset_descriptor.__get__"))) (tk : PySem.W.takesIn K (.builtin "object.__class__") = some true) : ErV K C := ⟨F.c2, F.c3, F.a5, F.c4, F.c5, sp, tk, F.c6⟩
end
/-- the top's own words, needed for every error class -/
structure ErrAll (P : Program) (K : PySem.W.Frag) (mg : Str → Option Value) : Prop where
  top : (P.main.scope.names.lookup ("super" : Str)).isSome = false
  op : PySem.W.nsIn K cStatics "thirdparty.any" = some none
  su : mg "super" = none
  sp : PySem.W.specialIn K (.builtin "object.__class__") "__get__" = some (some (.builtin "getset_descriptor.__get__"))
  tk : PySem.W.takesIn K (.builtin "object.__class__") = some true
section
variable {p0 p1 p2 p3 p4 p5 p6 q0 q1 q2 q3 r0 r1 r2 r3 : Pos} {pa0 : Arg}
/-- a class of one field: def __init__(self, n): super().__init__(n); self.n = n -/
theorem err_mk1 {h : Heap} (n : Str) (X : K.In h) (G : h.Ns mainGlobals mg) (A : ErrAll P K mg) (F : ErrFacts P K x q st C fI c cc nm qn N bs bm sn sub ab col dd k0 k1 k2 k3 k5 oc kV doc pm ct cl ccl od an cld cdd osl csl ccs vs fl tf cd) (no : PySem.W.findIn K (.ref C) n = some none)
    (S : NScope ["self", n, "__class__"] ["self", n] ["__class__"] (defScope st))
    (eb : defBody st = [.Expr (.Call (.Attribute (.Call (.Name "super" p0) [] [] p1) "__init__" p2) [.Name n p3] [] p4) p5, .Assign [.Attribute (.Name "self" q0) n q1] (.Name n q2) q3])
    (hp : ((defArgs st).posonlyargs ++ (defArgs st).args).head? = some pa0) (h0 : pa0.arg = "self") (hks : (defScope st).names.lookup ("super" : Str) = some .globalImplicit)
    (hint : ∀ L, interactive (envF (nfS "__init__" q st cc c) fI L) = false)
    (hsw1 : ∀ L, swapsWith (.Call (.Attribute (.Call (.Name "super" p0) [] [] p1) "__init__" p2) [.Name n p3] [] p4) none p5.line (envF (nfS "__init__" q st cc c) fI L) = pure false)
    (hev : ∀ L, ∃ pl : Sem Bool, eval (.Call (.Attribute (.Call (.Name "super" p0) [] [] p1) "__init__" p2) [.Name n p3] [] p4) (envF (nfS "__init__" q st cc c) fI L) = (do
      let ov ← attributeBase (.Call (.Name "super" p0) [] [] p1) "__init__" (envF (nfS "__init__" q st cc c) fI L) (eval (.Call (.Name "super" p0) [] [] p1) (envF (nfS "__init__" q st cc c) fI L))
      standAt p2.atName
      let (ff, first) ← holding [ov] (getMethod ov "__init__" pl)
      callWith p4 ff first (backTo p4 (starEach [.Name n p3] (envF (nfS "__init__" q st cc c) fI L))) []))
    (hsw2 : ∀ L, swapsWith (.Name n q2) (some (.Attribute (.Name "self" q0) n q1)) q3.line (envF (nfS "__init__" q st cc c) fI L) = pure false) (hdb : (n == ("__debug__" : Str)) = false) (hcd : (n == ("__classdict__" : Str)) = false)
    (hb : ∀ us : List Value, us.length = 2 → bindArgs (PySem.W.fnX "__init__" q (defArgs st) (defBody st) (defScope st) [("__class__", cc)] .none kV doc pm an (.ref c) ct) ⟨us, []⟩ = pure ((["self", n] : List Str).zip us)) : ErrT P w K mg base x C [n] := by
  have N1 : ∀ m ∈ [n], PySem.W.findIn K (.ref C) m = some none := fun m hm => by
    rw [List.mem_singleton.mp hm]
    exact no
  have EK := F.errK (ns := [n]) X G A.op A.su N1
  exact ⟨EK.gC, ⟨fI, _, EK, err1_ok (F.sup A.top) EK S eb hp h0 hks hint hsw1 hev hsw2 hdb hcd, .all fun us hl => hb us hl⟩, F.errV A.sp A.tk, N1⟩
/-- a class of two fields -/
theorem err_mk2 {h : Heap} (n m : Str) (X : K.In h) (G : h.Ns mainGlobals mg) (A : ErrAll P K mg) (F : ErrFacts P K x q st C fI c cc nm qn N bs bm sn sub ab col dd k0 k1 k2 k3 k5 oc kV doc pm ct cl ccl od an cld cdd osl csl ccs vs fl tf cd) (no : PySem.W.findIn K (.ref C) n = some none) (no2 : PySem.W.findIn K (.ref C) m = some none)
    (S : NScope ["self", n, m, "__class__"] ["self", n, m] ["__class__"] (defScope st))
    (eb : defBody st = [.Expr (.Call (.Attribute (.Call (.Name "super" p0) [] [] p1) "__init__" p2) [.Name n p3, .Name m p6] [] p4) p5, .Assign [.Attribute (.Name "self" q0) n q1] (.Name n q2) q3, .Assign [.Attribute (.Name "self" r0) m r1] (.Name m r2) r3])
    (hp : ((defArgs st).posonlyargs ++ (defArgs st).args).head? = some pa0) (h0 : pa0.arg = "self") (hks : (defScope st).names.lookup ("super" : Str) = some .globalImplicit)
    (hint : ∀ L, interactive (envF (nfS "__init__" q st cc c) fI L) = false)
    (hsw1 : ∀ L, swapsWith (.Call (.Attribute (.Call (.Name "super" p0) [] [] p1) "__init__" p2) [.Name n p3, .Name m p6] [] p4) none p5.line (envF (nfS "__init__" q st cc c) fI L) = pure false)
    (hev : ∀ L, ∃ pl : Sem Bool, eval (.Call (.Attribute (.Call (.Name "super" p0) [] [] p1) "__init__" p2) [.Name n p3, .Name m p6] [] p4) (envF (nfS "__init__" q st cc c) fI L) = (do
      let ov ← attributeBase (.Call (.Name "super" p0) [] [] p1) "__init__" (envF (nfS "__init__" q st cc c) fI L) (eval (.Call (.Name "super" p0) [] [] p1) (envF (nfS "__init__" q st cc c) fI L))
      standAt p2.atName
      let (ff, first) ← holding [ov] (getMethod ov "__init__" pl)
      callWith p4 ff first (backTo p4 (starEach [.Name n p3, .Name m p6] (envF (nfS "__init__" q st cc c) fI L))) []))
    (hsw2 : ∀ L, swapsWith (.Name n q2) (some (.Attribute (.Name "self" q0) n q1)) q3.line (envF (nfS "__init__" q st cc c) fI L) = pure false) (hsw3 : ∀ L, swapsWith (.Name m r2) (some (.Attribute (.Name "self" r0) m r1)) r3.line (envF (nfS "__init__" q st cc c) fI L) = pure false)
    (hdb : (n == ("__debug__" : Str)) = false) (hcd : (n == ("__classdict__" : Str)) = false) (mdb : (m == ("__debug__" : Str)) = false) (mcd : (m == ("__classdict__" : Str)) = false)
    (hb : ∀ us : List Value, us.length = 3 → bindArgs (PySem.W.fnX "__init__" q (defArgs st) (defBody st) (defScope st) [("__class__", cc)] .none kV doc pm an (.ref c) ct) ⟨us, []⟩ = pure ((["self", n, m] : List Str).zip us)) : ErrT P w K mg base x C [n, m] := by
  have N1 : ∀ y ∈ [n, m], PySem.W.findIn K (.ref C) y = some none := fun y hy => by
    rcases List.mem_cons.mp hy with rfl | hy
    · exact no
    · rw [List.mem_singleton.mp hy]
      exact no2
  have EK := F.errK (ns := [n, m]) X G A.op A.su N1
  exact ⟨EK.gC, ⟨fI, _, EK, err2_ok (F.sup A.top) EK S eb hp h0 hks hint hsw1 hev hsw2 hsw3 hdb hcd mdb mcd, .all fun us hl => hb us hl⟩, F.errV A.sp A.tk, N1⟩
end
end
section
variable {X : Cx} {η : En} {L : Lg} {Q : QV} {El : XL} {CX : CXT} {x : Str} {j k : Nat} {sp : SpL} {e : Expr} {es : List Expr} {kws : List Keyword} {pos p : Pos} {W : XW}
/-- the values of keywords, one behind another -/
def GK (X : Cx) (kws : List Keyword) (η : En) (L : Lg) (Q : List V → Lg → Prop) : Prop := match kws with
  | [] => Q [] L
  | k :: r => GE X k.value η L fun v L1 => GK X r η L1 fun vs L2 => Q (v :: vs) L2
theorem gk_nil {Q : List V → Lg → Prop} (q : Q [] L) : GK X [] η L Q := q
theorem gk_cons {k : Keyword} {Q : List V → Lg → Prop} (h : GE X k.value η L fun v L1 => GK X kws η L1 fun vs L2 => Q (v :: vs) L2) : GK X (k :: kws) η L Q := h
theorem GK.run {Q : List V → Lg → Prop} : ∀ {kws : List Keyword} {L : Lg} {Q : List V → Lg → Prop}, GK X kws η L Q → X.N = names η → ∀ (pos : Pos) (pins : List (Addr × Obj)) (s : Shared) (H : Hp), Has H L → Inv X pins (vals η) H s →
    wpAny (model X.prog X.w) X.A (evalAll ((backToKw pos (keywordEach kws X.env)).map (·.2))) (fun us s' => ∃ vs H', Inv X pins (vals η) H' s' ∧ Vals vs us ∧ ∃ L', Has H' L' ∧ Q vs L') X.xe s
  | [], L, Q, h, hN, pos, pins, s, H, hH, I => wpAny_evalAll_nil ⟨[], H, I, .nil, L, hH, h⟩
  | ⟨nm, e, kp⟩ :: r, L, Q, h, hN, pos, pins, s, H, hH, I => by
    show wpAny _ _ (evalAll ((do let v ← eval e X.env; standAt pos; pure v) :: (backToKw pos (keywordEach r X.env)).map (·.2))) _ _ s
    refine wpAny_evalAll_cons (wpAny_bind (thn (h hN H hH pins s I) fun u s1 ⟨x, H1, I1, r1, L1, h1, q1⟩ => wpAny_bind (wpAny_standAt (wpAny_pure ?_))))
    exact thn (GK.run (Q := Q) q1 hN pos pins s1 H1 h1 I1) fun us s2 ⟨xs, H2, I2, r2, L2, h2, q2⟩ => ⟨x :: xs, H2, I2, .cons r1 r2, L2, h2, q2⟩
/-- what is at f, called with values that keep φ -/
def GF (X : Cx) (η : En) (f : Addr) (args : List Value → Args) (φ : List V → Lg → Prop) (Q : QV) : Prop :=
  ∀ (pins : List (Addr × Obj)) (s : Shared) (H : Hp) (us : List Value) (vs : List V) (L : Lg), Has H L → Inv X pins (vals η) H s → Vals vs us → φ vs L → wpAny (model X.prog X.w) X.A (call (.ref f) (args us).pos (args us).kw) (EP X pins (vals η) (up Q)) X.xe s
theorem gf_of {f : Addr} {args : List Value → Args} (F : RunG X.prog X.w X.K X.mg X.base CX k f args (toSp sp)) (hr : RoomG j X.A) (hx : Passes CX X (upX El)) (hjk : k ≤ j := by decide) : GF X η f args (fun vs L => sp vs L Q El) Q := fun _ _ _ _ _ _ hH I r h => run_G F (hr.mono hjk) hx I r (up_sp hH h)
/-- a def by its name, as a value -/
theorem gv_def {f : Addr} (hm : X.mg x = some (.ref f)) (q : Q (.ref f) L) (hg : Gl X x := by rfl) (hd : (x == ("__debug__" : Str)) = false := by decide) : GE X (.Name x pos) η L Q := ge_con (pe_glob (v := .ref f) hg hm rfl hd) q
end
section
variable {X : Cx} {η : En} {L : Lg} {Q : QV} {pos : Pos}
theorem gv_ValueError (B : Bi X.mg) (q : Q (.ty "ValueError") L) (hg : Gl X "ValueError" := by rfl) : GE X (.Name "ValueError" pos) η L Q := ge_tyName B.ValueError bt_ValueError q hg (by decide) (by decide)
theorem gv_LookupError (B : Bi X.mg) (q : Q (.ty "LookupError") L) (hg : Gl X "LookupError" := by rfl) : GE X (.Name "LookupError" pos) η L Q := ge_tyName B.LookupError bt_LookupError q hg (by decide) (by decide)
/-- {} -/
theorem ge_dict0 (h : ∀ p, Q (.ref p) ((p, .dK []) :: L)) : GE X (.Dict [] [] pos) η L Q := fun _ H hH => WE.of pe_dnewK fun p hp => ⟨_, hH.new hp, h p⟩
end
end G
set_option Elab.async false
set_option linter.all false
set_option maxRecDepth 100000
set_option maxHeartbeats 4000000
namespace G
open PySem PySem.Spec PyProof.Rows L2
section
variable {X : Cx} {η : En} {L : Lg} {Q : QV} {p q : Addr} {xs ys : List V} {i k : Int}
theorem gc_minL {ns : List Int} (hc : X.calm = true) (m : (p, HO.lst (ns.map V.int)) ∈ L) (h0 : 0 < ns.length) (h : ∀ r, r ∈ ns → (∀ y ∈ ns, r ≤ y) → Q (.int r) L) : GC X (.builtin "min") [.ref p] L Q := GC.of (cr_min hc) fun H hH => ⟨p, ns, rfl, sql hH m, h0, fun r a b => ⟨L, hH, h r a b⟩⟩
end
/-- a datum that repr shows, within n signs and k levels -/
structure Sh (d : PyData) (n k : Nat) : Prop where
  s : d.showable = true
  dp : d.depth ≤ k
  l : d.shown.length ≤ n
theorem Sh.up {d : PyData} {n k n' k' : Nat} (h : Sh d n k) (a : n ≤ n') (b : k ≤ k') : Sh d n' k' := ⟨h.s, Nat.le_trans h.dp b, Nat.le_trans h.l a⟩
section
variable {X : Cx} {η : En} {L : Lg} {Q : QV} {e : Expr} {p pos : Pos} {k n m : Nat}
theorem szL (h : n ≤ 16777216) : n ≤ sizeLine := by
  rw [sizeLine_eq]
  exact h
end
theorem range_more {p : Nat → Bool} {g : Nat → V} {i : Nat} : ((List.range (i + 1)).filter p).map g = ((List.range i).filter p).map g ++ (if p i = true then [g i] else []) := by
  rw [List.range_succ, List.filter_append, List.map_append]
  congr 1
  by_cases h : p i = true
  · rw [if_pos h, List.filter_cons_of_pos h]
    rfl
  · rw [if_neg h, List.filter_cons_of_neg h]
    rfl
theorem GTs.sub {X : Cx} {ifs : List Expr} {η : En} {L M : Lg} {Q : Bool → Lg → Prop} (s : Sub M L) (h : GTs X ifs η M fun b M1 => ∀ M2, Sub M1 M2 → Q b M2) : GTs X ifs η L Q := by
  match ifs, h with
  | [], h => exact h _ s
  | [c], h => exact GT.sub s (h.imp fun b M1 q => q _ .refl)
section
variable {X : Cx} {η : En} {L : Lg} {elt iter tg : Expr} {ifs : List Expr} {scope : Scope} {pos p1 p2 p3 : Pos} {x y : Str} {f : V → En} {Q : QV}
/-- what such a comprehension is shown of; st: how an item is stored -/
structure PureC (X : Cx) (scope : Scope) (ifs : List Expr) (elt : Expr) (S : Src) (L : Lg) (st : V → Lg → (En → Lg → Prop) → Prop) (p : Nat → Bool) (g : Nat → V) : Prop where
  n : S.n ≤ 1000000
  kp : ∀ M, (∀ e ∈ L, e ∈ M) → S.keep M
  tn : ∀ i x E D acc M, i < S.n → S.item i x E → ((E ++ M).map (·.1)).Nodup → Sub ((D, .lst acc) :: L) M → st x (E ++ M) fun θ M' => AllBlk X scope fun B => GTs B ifs θ M' fun b M1 => b = p i ∧ Sub ((D, .lst acc) :: L) M1 ∧ (b = true → AllBlk X scope fun B => GE B elt θ M1 fun z M2 => z = g i ∧ Sub ((D, .lst acc) :: L) M2)
theorem GE.undrp {e : Expr} (h : GE X e η L (drp Q)) : GE X e η L Q := fun hN H hH => (h hN H hH).mono fun v H' ⟨M, hM, N, s, q⟩ => ⟨N, s H' hM, q⟩
theorem GS.undrp {st : Stmt} {D : GD} (h : GS X st { D with nx := fun θ M => ∃ N, Sub N M ∧ D.nx θ N } η L) : GS X st D η L := fun hN H hH =>
  (h hN H hH).mono (fun σ H' ⟨θ, M, n1, es, hM, N, s, q⟩ => ⟨θ, N, n1, es, s H' hM, q⟩) (fun _ _ z => z) (fun _ _ z => z) fun _ _ z => z
theorem filter_le {p : Nat → Bool} {g : Nat → V} {i : Nat} : (((List.range i).filter p).map g).length ≤ i := by
  rw [List.length_map]
  exact Nat.le_trans (List.length_filter_le _ _) (by rw [List.length_range]; exact Nat.le_refl _)
theorem PureC.lc {S : Src} {st : V → Lg → (En → Lg → Prop) → Prop} {p : Nat → Bool} {g : Nat → V} (h : PureC X scope ifs elt S L st p g) (mono : ∀ v M (k k' : En → Lg → Prop), (∀ θ M', k θ M' → k' θ M') → st v M k → st v M k') (D : Addr)
    (q : Q (.ref D) ((D, .lst (((List.range S.n).filter p).map g)) :: L)) : ∃ Pv, LcS X scope ifs elt S D L st Pv (drp Q) := by
  refine ⟨fun i M => Sub ((D, .lst (((List.range i).filter p).map g)) :: L) M, Sub.refl, fun i M _ nd s => h.kp M fun e m => (s.to nd).2 e (List.mem_cons_of_mem _ m), fun i x E M hi it nd s => ?_, fun M s => ⟨_, s, q⟩⟩
  refine mono x (E ++ M) _ _ (fun θ M' k => ?_) (h.tn i x E D _ M hi it nd s)
  intro s1 H1 C1 cl1 fp1
  have k1 := k s1 H1 C1 cl1 fp1
  have more := range_more (p := p) (g := g) (i := i)
  have key : ∀ b M1, (b = p i ∧ Sub ((D, .lst (((List.range i).filter p).map g)) :: L) M1 ∧ (b = true → AllBlk X scope fun B => GE B elt θ M1 fun z M2 => z = g i ∧ Sub ((D, .lst (((List.range i).filter p).map g)) :: L) M2)) →
      if b = true then AllBlk X scope fun B => GE B elt θ M1 fun y M2 => ∃ acc M3, (D, HO.lst acc) ∈ M2 ∧ acc.length < sizeLine ∧ Swap D (.lst (acc ++ [y])) M2 M3 ∧ Sub ((D, .lst (((List.range (i + 1)).filter p).map g)) :: L) M3 else Sub ((D, .lst (((List.range (i + 1)).filter p).map g)) :: L) M1 := fun b M1 ⟨eb, sb, hb⟩ => by
    cases b with
    | true =>
      rw [if_pos rfl]
      intro s2 H2 C2 cl2 fp2
      refine GE.nd ((hb rfl s2 H2 C2 cl2 fp2).imp fun y M2 ⟨ey, s3⟩ nd => ?_)
      have m2 := (s3.to nd).2 _ List.mem_cons_self
      obtain ⟨M3, sw⟩ := Swap.ex (o := .lst (((List.range i).filter p).map g ++ [y])) (u := .lst (((List.range i).filter p).map g)) rfl m2
      refine ⟨_, M3, m2, ?_, sw, ?_⟩
      · have := filter_le (p := p) (g := g) (i := i)
        have := h.n
        rw [sizeLine_eq]
        omega
      · rw [more, if_pos eb.symm, ← ey]
        exact s3.swap sw
    | false =>
      rw [if_neg Bool.false_ne_true, more, if_neg (by rw [← eb]; exact Bool.false_ne_true), List.append_nil]
      exact sb
  match ifs, k1 with
  | [], k1 => exact key _ _ k1
  | [c], k1 => exact k1.imp fun b M1 z => key b M1 z
theorem GI.imp {Q Q' : Src → Lg → Prop} (h : GI X tg iter η L Q) (m : ∀ S L1, Q S L1 → Q' S L1) : GI X tg iter η L Q' := fun hN H hH pins s I =>
  wpAny_mono (h hN H hH pins s I) (fun v s1 z => wpAny_mono z (fun itv s2 ⟨it, fp, tn, J, H1, ev, I2, T, t0, f2, L1, S, k1, ok, q⟩ => ⟨it, fp, tn, J, H1, ev, I2, T, t0, f2, L1, S, k1, ok, m S L1 q⟩) fun _ _ z => z) fun _ _ z => z
/-- what is shown of a pure comprehension: R what holds of the new list -/
def PureL (X : Cx) (scope : Scope) (ifs : List Expr) (elt : Expr) (st : V → Lg → (En → Lg → Prop) → Prop) (R : V → Lg → Prop) (S : Src) (L1 : Lg) : Prop := ∃ p g, PureC X scope ifs elt S L1 st p g ∧ ∀ D, R (.ref D) ((D, .lst (((List.range S.n).filter p).map g)) :: L1)
abbrev stOne (f : V → En) : V → Lg → (En → Lg → Prop) → Prop := fun v M k => k (f v) M
abbrev stTwo (g : V → V → En) : V → Lg → (En → Lg → Prop) → Prop := fun v M k => ∃ p a b, v = .ref p ∧ (p, HO.tup [a, b]) ∈ M ∧ k (g a b) M
theorem monoOne {f : V → En} : ∀ v M (k k' : En → Lg → Prop), (∀ θ M', k θ M' → k' θ M') → stOne f v M k → stOne f v M k' := fun _ _ _ _ m z => m _ _ z
theorem monoTwo {g : V → V → En} : ∀ v M (k k' : En → Lg → Prop), (∀ θ M', k θ M' → k' θ M') → stTwo g v M k → stTwo g v M k' := fun _ _ _ _ m ⟨p, a, b, e, h, z⟩ => ⟨p, a, b, e, h, m _ _ z⟩
/-- [elt for x in iter if ..], all parts pure -/
theorem ge_lcP (P : PutF x η f) (h : GI X (.Name x p1) iter η L (PureL X scope ifs elt (stOne f) Q)) (hb : blkC X.N X.env.scope scope [(x, X.N.idxOf x)] = true) (hlx : LocB X scope x := by exact fun _ _ _ _ _ => ⟨.inl rfl, .inr rfl⟩)
    (hN : X.N.Nodup := by assumption) (hc : X.calm = true := by rfl) (hs : ∀ z, foldedSetIterable iter X.env z = pure z := by intro _; rfl) : GE X (.ListComp elt [⟨.Name x p1, iter, ifs, 0⟩] scope pos) η L Q :=
  GE.undrp (ge_lc1 P (h.imp fun S L1 ⟨p, g, pc, q⟩ D => pc.lc monoOne D (q D)) hb hlx hN hc hs)
theorem ge_lcP2 {g : V → V → En} {kt : Nat} {pt : Pos} (P : PutF x η f) (R : ∀ v, PutF y (f v) (g v)) (h : GI X (.Tuple [.Name x p1, .Name y p2] kt pt) iter η L (PureL X scope ifs elt (stTwo g) Q)) (hxy : x ≠ y) (hb : blkC X.N X.env.scope scope [(x, X.N.idxOf x), (y, X.N.idxOf y)] = true) (hlx : LocB X scope x := by exact fun _ _ _ _ _ => ⟨.inl rfl, .inr rfl⟩) (hly : LocB X scope y := by exact fun _ _ _ _ _ => ⟨.inl rfl, .inr rfl⟩)
    (hN : X.N.Nodup := by assumption) (hc : X.calm = true := by rfl) (hs : ∀ z, foldedSetIterable iter X.env z = pure z := by intro _; rfl) : GE X (.ListComp elt [⟨.Tuple [.Name x p1, .Name y p2] kt pt, iter, ifs, 0⟩] scope pos) η L Q :=
  GE.undrp (ge_lc2 P R (h.imp fun S L1 ⟨p, g, pc, q⟩ D => pc.lc monoTwo D (q D)) hxy hb hlx hly hN hc hs)
theorem gs_lcP {D : GD} {fy : V → En} {py : Pos} (Py : PutF y η fy) (P : PutF x η f) (h : GI X (.Name x p1) iter η L (PureL X scope ifs elt (stOne f) fun v M => D.nx (fy v) M)) (hb : blkC X.N X.env.scope scope [(x, X.N.idxOf x)] = true) (hlx : LocB X scope x := by exact fun _ _ _ _ _ => ⟨.inl rfl, .inr rfl⟩)
    (hyl : X.env.scope.names.lookup y = some .local := by rfl) (hsw : swapsWith (.ListComp elt [⟨.Name x p1, iter, ifs, 0⟩] scope pos) (some (.Name y py)) p3.line X.env = pure true := by rfl)
    (hN : X.N.Nodup := by assumption) (hc : X.calm = true := by rfl) (hs : ∀ z, foldedSetIterable iter X.env z = pure z := by intro _; rfl) : GS X (.Assign [.Name y py] (.ListComp elt [⟨.Name x p1, iter, ifs, 0⟩] scope pos) p3) D η L :=
  GS.undrp (gs_lc1 Py P (h.imp fun S L1 ⟨p, g, pc, q⟩ d => pc.lc (Q := fun v M => D.nx (fy v) M) monoOne d (q d)) hb hlx hyl hsw hN hc hs)
end
section
variable {X : Cx} {L : Lg} {elt : Expr} {ifs : List Expr} {scope : Scope} {f : V → En} {R : V → Lg → Prop} {q : Addr} {xs : List V} {t : V → Bool} {g : V → V}
/-- a pure comprehension's turn: the test, then the element -/
abbrev TurnP (X : Cx) (scope : Scope) (ifs : List Expr) (elt : Expr) (L : Lg) (θ : En) (b0 : Bool) (z0 : V) : Prop := ∀ D acc, AllBlk X scope fun B => GTs B ifs θ ((D, .lst acc) :: L) fun b M1 => b = b0 ∧ Sub ((D, .lst acc) :: L) M1 ∧ (b = true → AllBlk X scope fun B => GE B elt θ M1 fun z M2 => z = z0 ∧ Sub ((D, .lst acc) :: L) M2)
theorem turnP_use {st : V → Lg → (En → Lg → Prop) → Prop} {θ : En} {b0 : Bool} {z0 : V} (h : TurnP X scope ifs elt L θ b0 z0) {D : Addr} {acc : List V} {M : Lg} (s : Sub ((D, .lst acc) :: L) M) :
    AllBlk X scope fun B => GTs B ifs θ M fun b M1 => b = b0 ∧ Sub ((D, .lst acc) :: L) M1 ∧ (b = true → AllBlk X scope fun B => GE B elt θ M1 fun z M2 => z = z0 ∧ Sub ((D, .lst acc) :: L) M2) := fun s1 H1 C1 cl1 fp1 => by
  refine GTs.sub s ?_
  have k := h D acc s1 H1 C1 cl1 fp1
  have key : ∀ b M1, (b = b0 ∧ Sub ((D, .lst acc) :: L) M1 ∧ (b = true → AllBlk X scope fun B => GE B elt θ M1 fun z M2 => z = z0 ∧ Sub ((D, .lst acc) :: L) M2)) → ∀ M2, Sub M1 M2 → b = b0 ∧ Sub ((D, .lst acc) :: L) M2 ∧ (b = true → AllBlk X scope fun B => GE B elt θ M2 fun z M2 => z = z0 ∧ Sub ((D, .lst acc) :: L) M2) :=
    fun b M1 ⟨e, s1, k⟩ M2 s2 => ⟨e, s1.trans s2, fun hb s3 H3 C3 cl3 fp3 => GE.sub s2 (k hb s3 H3 C3 cl3 fp3)⟩
  match ifs, k with
  | [], k => exact key _ _ k
  | [c], k => exact k.imp key
/-- over the numbers of a range -/
theorem pure_fn {n : Nat} {h : Nat → V} {p : Nat → Bool} {g : Nat → V} (hl : n ≤ 1000000) (ht : ∀ i, i < n → TurnP X scope ifs elt L (f (h i)) (p i) (g i)) (r : ∀ D, R (.ref D) ((D, .lst (((List.range n).filter p).map g)) :: L)) : PureL X scope ifs elt (stOne f) R ⟨n, fun _ => True, itemFn h⟩ L := by
  refine ⟨p, g, ⟨hl, fun _ _ => True.intro, fun i x E D acc M hi ⟨hx, hE⟩ _ s => ?_⟩, r⟩
  subst hE hx
  exact turnP_use (st := stOne f) (ht i hi) s
end
end G
set_option Elab.async false
set_option linter.all false
set_option maxRecDepth 100000
set_option maxHeartbeats 4000000
namespace G
open PySem PySem.Spec PyProof.Rows L2
abbrev penO (c : Addr) (n m : Int) : HO := .lst [.ref c, .int n, .int m]
abbrev celO (ns : List Int) : HO := .lst (ns.map V.int)
def spDraw : SpL := fun vs L Q _ => ∃ (p c : Addr) (ns : List Int) (n m many : Int) (R : Lg), vs = [.ref p, .int many] ∧ Sub ((p, penO c n m) :: (c, celO ns) :: R) L ∧ ns.length ≤ 63 ∧ 0 < many ∧ many < 2 ^ 64 ∧ 0 ≤ n ∧ n ≤ 100000 ∧ 0 ≤ m ∧
  ∀ d n' m', 0 ≤ d → d < many → 0 ≤ n' → n' ≤ n + 1 → 0 ≤ m' → Q (.int d) ((p, penO c n' m') :: (c, celO ns) :: R)
theorem cut63 {ns : List Int} : ∃ ms : List Int, ms.length ≤ 63 ∧ cutV (ns.map V.int) none (some 63) = ms.map V.int := by
  refine ⟨ns.take 63, by rw [List.length_take]; omega, ?_⟩
  unfold cutV
  have e1 : HT.sIx (ns.map V.int).length 0 none = 0 := rfl
  have e2 : HT.sIx (ns.map V.int).length (ns.map V.int).length (some 63) = min 63 (ns.map V.int).length := HT.sIx_nat _ _ 63
  rw [e1, e2, List.drop_zero, Nat.sub_zero, List.map_take, ← List.take_take, List.take_length]
/-- a list, one of which is drawn -/
def spPick : SpL := fun vs L Q _ => ∃ (p c q : Addr) (ns : List Int) (xs : List V) (n m : Int) (R : Lg), vs = [.ref p, .ref q] ∧ Sub ((p, penO c n m) :: (c, celO ns) :: R) L ∧ (q, HO.lst xs) ∈ R ∧ ns.length ≤ 63 ∧ 0 < xs.length ∧ xs.length < 1000 ∧ 0 ≤ n ∧ n ≤ 100000 ∧ 0 ≤ m ∧
  ∀ (k : Nat) (x : V) n' m', xs[k]? = some x → 0 ≤ n' → n' ≤ n + 1 → 0 ≤ m' → Q x ((p, penO c n' m') :: (c, celO ns) :: R)
theorem gts_nil {X : Cx} {η : En} {L : Lg} {Q : Bool → Lg → Prop} (q : Q true L) : GTs X [] η L Q := q
theorem rdSub {L M : Lg} {v : V} {d : PyData} (s : Sub M L) (h : Rd M v d) : Rd L v d := fun X pins σ H s' u hH I r => h X pins σ H s' u (s H hH) I r
end G
set_option Elab.async false
set_option linter.all false
set_option maxRecDepth 100000
set_option maxHeartbeats 4000000
namespace G
open PySem PySem.Spec PyProof.Rows L2
/-- two entries behind others -/
theorem rotL {a b : Addr × HO} {R : Lg} (l : Lg) : Sub (a :: b :: (l ++ R)) (l ++ (a :: b :: R)) := Sub.perm (by
  refine List.Perm.trans (l₂ := a :: (l ++ (b :: R))) (.cons a ?_) ?_
  · exact List.perm_middle.symm
  · exact List.perm_middle.symm)
theorem rot12 {a b c : Addr × HO} {R : Lg} : Sub (a :: b :: c :: R) (c :: a :: b :: R) := rotL [_]
/-- a value that is shown, and of which the kind is known -/
structure Odd (L : Lg) (v : V) (d : PyData) : Prop where
  kd : ∃ T, Knd L v T
  rd : Rd L v d
  s : d.showable = true
  dp : d.depth ≤ 60
  sz : d.shown.length ≤ 100000
  ok : PyData.strOk d.shown = true
theorem Odd.drop {L : Lg} {v : V} {d : PyData} {a : Addr × HO} (h : Odd L v d) : Odd (a :: L) v d := by
  obtain ⟨T, k⟩ := h.kd
  exact ⟨⟨T, k.sub fun e m => memS m⟩, rdSub Sub.drop h.rd, h.s, h.dp, h.sz, h.ok⟩
theorem GG.sub {X : Cx} {tg : Expr} {v : V} {η : En} {L M : Lg} {Q : En → Lg → Prop} (s : Sub M L) (h : GG X tg v η M Q) : GG X tg v η L Q := fun hN H hH => h hN H (s H hH)
end G
set_option Elab.async false
set_option linter.all false
set_option maxRecDepth 100000
set_option maxHeartbeats 4000000
namespace G
open PySem PySem.Spec PyProof.Rows L2
theorem RoomG.make {k : Nat} {A : Around} (r : RoomG (k + 1) A) (C : Addr) (us : List Value) (kw : List (Str × Value)) : RoomG k (A.under (.builtin "type.__call__" ⟨.ref C :: us, kw⟩)) := ⟨r.toRoom.make C us kw, r.gd⟩
section
variable {X : Cx} {CX : CXT} {k : Nat} {C f : Addr} {sp : Sp} {E : XK} {args : List Value → Args}
/-- C(..): a new instance and its dict, then __init__ -/
theorem run_makeG {pins : List (Addr × Obj)} {σ : L2.St} {H : Hp} {s : Shared} {Q : VK} {us : List Value} {vs : List V} {ps : List Value} {kw : List (Str × Value)} (M : Mk X.K C f) (F : RunG X.prog X.w X.K X.mg X.base CX k f args sp) (hr : RoomG (k + 1) X.A) (hx : PassesAt CX X σ E) (I : Inv X pins σ H s) (r : Vals vs us)
    (ha : ∀ y : Value, args (y :: us) = ⟨y :: ps, kw⟩)
    (h : ∀ x dx, H x = none → H dx = none → dx ≠ x → sp (.ref x :: vs) (upd (upd H dx (.own x)) x (.ins C dx [])) (fun v H2 => v = .non ∧ Q (.ref x) H2) E) : wpAny (model X.prog X.w) X.A (call (.ref C) ps kw) (EP X pins σ Q) X.xe s := by
  have hq := h (s.heap.objs.size + 1) s.heap.objs.size (I.hok.fresh (Nat.le_succ _)) (I.hok.fresh (Nat.le_refl _)) (Nat.ne_of_lt (Nat.lt_succ_self _))
  have I2 := Inv.made (C := C) I
  have z := F _ X.stack _ _ (.ref (s.heap.objs.size + 1) :: us) (.ref (s.heap.objs.size + 1) :: vs) _ E (hr.make C ps kw) (I2.env0.make C ps kw) (.cons rfl r) hq
  rw [ha] at z
  refine wpAny_call (make_map (f := f) I.kIn M.makes M.init (beq_iff_eq.mp M.fn) (codeAny_mono z fun r s' hq' => ?_))
  cases r with
  | error e => exact hx pins _ _ e s' I2 hq'
  | ok fl =>
    cases fl with
    | ret u =>
      obtain ⟨v, H', I3, rv, ev, q3⟩ := I2.after hq'
      subst ev
      exact ⟨rv, ⟨V.ref (s.heap.objs.size + 1), H', I3, rfl, q3⟩⟩
    | next => exact False.elim hq'
    | brk => exact False.elim hq'
    | cont => exact False.elim hq'
end
section
variable {X : Cx} {CX : CXT} {j k : Nat} {C f g p : Addr} {sp : SpL} {El : XL} {args argsI : List Value → Args} {η : En} {L : Lg} {Q : QV} {W : XW} {x n m : Str} {e o value : Expr} {es : List Expr} {D : GD} {pos pos' p1 : Pos} {a dx : Addr} {fs : List (Str × V)} {v y : V} {u : Value}
/-- what __init__ is shown at the new instance -/
abbrev InitSp (C : Addr) (sp : SpL) (Q : QV) (El : XL) : List V → Lg → Prop := fun vs L => ∀ x dx, sp (.ref x :: vs) ((x, .ins C dx []) :: (dx, .own x) :: L) (fun v L' => v = .non ∧ Q (.ref x) L') El
theorem init_sp {H : Hp} {vs : List V} {E : XK} (hH : Has H L) (h : InitSp C sp Q El vs L) (he : ∀ c d L' H', Has H' L' → El c d L' → E c d H') : ∀ x dx, H x = none → H dx = none → dx ≠ x → toSp sp (.ref x :: vs) (upd (upd H dx (.own x)) x (.ins C dx [])) (fun v H2 => v = .non ∧ up Q (.ref x) H2) E := fun x dx hx hdx ne =>
  ⟨_, _, El, (hH.new hdx).new (by rw [upd_ne (Ne.symm ne)]; exact hx), h x dx, fun v L' H' h' q => ⟨q.1, L', h', q.2⟩, he⟩
theorem gf_make (M : Mk X.K C f) (F : RunG X.prog X.w X.K X.mg X.base CX k f argsI (toSp sp)) (ha : ∀ y us, argsI (y :: us) = ⟨y :: (args us).pos, (args us).kw⟩) (hr : RoomG j X.A) (hx : Passes CX X (upX El)) (hjk : k + 1 ≤ j := by decide) : GF X η C args (InitSp C sp Q El) Q := fun pins s H us vs L hH I r h =>
  run_makeG M F (hr.mono hjk) (fun pins => hx pins _) I r (fun y => ha y us) (init_sp hH h fun c d L' H' h' q => ⟨L', h', q⟩)
/-- x(..), x a global that holds a thing of which GF tells -/
theorem ge_callF {φ : List V → Lg → Prop} (hm : X.mg x = some (.ref f)) (hk : PySem.W.keepIn X.K (.ref f) = true) (F : X.N = names η → GF X η f argsP φ Q) (h : GA X (e :: es) η L φ) (hg : Gl X x := by rfl) (hd : (x == ("__debug__" : Str)) = false := by decide)
    (he : starEach (e :: es) X.env = (false, eval e X.env) :: starEach es X.env := by rfl) (hpl : (backTo pos (starEach es X.env)).any (·.1) = false := by rfl) : GE X (.Call (.Name x p1) (e :: es) [] pos) η L Q := fun hN H hH pins s I => by
  refine wpAny_Call_Name_kw (ld_glob I hg hm ?_ hd)
  refine PySem.W.callWith_K (h₀ := X.base) I.ok.mod.kin hk ?_ he hpl
  exact thn (h hN H hH pos pins s I) fun us s1 ⟨vs, H1, J, r, L1, h1, q⟩ => ⟨J.kIn, F hN pins s1 H1 us vs L1 h1 J r q⟩
theorem gat_fld (c : Cls X.K C) (no : NoAttr X.K C n) (mm : (a, HO.ins C dx fs) ∈ L) (l : fs.lookup n = some v) (q : Q v L) : GAt X n (.ref a) L Q := fun pins s σ H u ex hH I r => by
  obtain rfl : u = Value.ref a := r
  exact getattr_ok I (hH.get mm) c no l fun u' s' I' ru => ⟨v, H, I', ru, L, hH, q⟩
theorem gs_fld (h : GE X value η L fun y L1 => GE X o η L1 fun x L2 => ∃ a C dx fs M, x = .ref a ∧ (a, HO.ins C dx fs) ∈ L2 ∧ Cls X.K C ∧ NoAttr X.K C n ∧ fs.length < 1000 ∧ Swap a (.ins C dx (putF n y fs)) L2 M ∧ D.nx η M)
    (hs : swapsWith value (some (.Attribute o n pos')) pos.line X.env = pure false := by rfl) : GS X (.Assign [.Attribute o n pos'] value pos) D η L := fun hN H hH =>
  WS.of (ps_fld pe_W pe_W hs) (h.then hN hH fun y L1 H1 h1 q => q.then hN h1 fun x L2 H2 h2 ⟨a, C, dx, fs, M, ex, mm, c, no, l, sw, q2⟩ => ⟨a, C, dx, fs, ex, h2.get mm, c, no, l, η, M, hN, rfl, h2.swap sw, q2⟩)
/-- o.m(..) -/
theorem ge_meth {pl : Sem Bool} (F : RunG X.prog X.w X.K X.mg X.base CX k g argsP (toSp sp)) (hm : Meth X.K C m g) (c : Cls X.K C) (hr : RoomG j X.A) (hx : Passes CX X (upX El)) (h : GE X o η L fun x L1 => ∃ a dx fs, x = .ref a ∧ (a, HO.ins C dx fs) ∈ L1 ∧ fs.lookup m = none ∧ GA X (e :: es) η L1 fun vs L2 => sp (.ref a :: vs) L2 Q El) (hjk : k ≤ j := by decide)
    (hst : starEach (e :: es) X.env = (false, eval e X.env) :: starEach es X.env := by rfl) (hpl : (backTo pos (starEach es X.env)).any (·.1) = false := by rfl)
    (ht : eval (.Call (.Attribute o m pos') (e :: es) [] pos) X.env = (do
      let ov ← eval o X.env
      standAt pos'.atName
      let (f, first) ← holding [ov] (getMethod ov m pl)
      callWith pos f first (backTo pos (starEach (e :: es) X.env)) (backToKw pos (keywordEach [] X.env))) := by rfl) : GE X (.Call (.Attribute o m pos') (e :: es) [] pos) η L Q := fun hN H hH pins s I => by
  refine PySem.W.methodCall_KW (pl := pl) (thn (h hN H hH pins s I) fun u s1 ⟨x, H1, I1, rx, L1, h1, a, dx, fs, ex, ea, l, q⟩ => ?_) ht
  subst ex
  obtain rfl : u = Value.ref a := rx
  refine getmeth_ok I1 (h1.get ea) c hm l ?_
  refine PySem.W.callWith_K (first := [.ref a]) (h₀ := X.base) I.ok.mod.kin hm.kp (thn (q hN H1 h1 pos pins s1 I1) fun us s2 ⟨vs, H2, I2, r, L2, h2, q2⟩ => ⟨I2.kIn, ?_⟩) hst hpl
  exact run_G (args := argsP) (us := .ref a :: us) (vs := .ref a :: vs) F (hr.mono hjk) hx I2 (.cons rfl r) (up_sp h2 q2)
end
end G
set_option Elab.async false
set_option linter.all false
set_option maxRecDepth 100000
set_option maxHeartbeats 4000000
namespace G
open PySem PySem.Spec PyProof.Rows L2 NdefX
/-- what the written part says of super().n at an instance of C, from the class D -/
structure SupM (K : PySem.W.Frag) (mg : Str → Option Value) (C D : Addr) (n : Str) (g : Addr) : Prop where
  sm : PySem.W.ks_superIn K C D n = some (some (.ref g))
  tg : PySem.W.typeIn K (.ref g) = some (.type "function")
  fi : PySem.W.fnIn K g = true
  cls : ∃ cd, PySem.W.clsIn K C = some cd
  sub : PySem.W.mroIn K C (.ref D) = some true
  op : PySem.W.nsIn K cStatics "thirdparty.any" = some none
  su : mg "super" = none
section
variable {X : Cx} {CX : CXT} {B rest : List Stmt} {D : GD} {η : En} {L : Lg} {H : Hp} {x q n : Str} {st : Stmt} {f c cc D0 C a dx g : Addr} {fd : FuncData} {ar : Arg} {fs : List (Str × V)} {sp : SpL} {El : XL} {j k : Nat} {e : Expr} {es : List Expr} {p0 p1 p2 p3 p4 : Pos} {pl : Sem Bool}
theorem at_supi (F : SupF X.prog X.K x q st f c cc D0 fd) (T : SupM X.K X.mg C D0 n g) (hfu : X.env.func = some f) (hco : X.env.code = .ref c) (hcl : X.env.cells.lookup ("__class__" : Str) = some cc) (hp : (fd.params.posonlyargs ++ fd.params.args).head? = some ar)
    (hks : X.env.kindOf "super" = some .globalImplicit) (hkc : X.env.kindOf "__class__" = some .free) (hka : X.env.kindOf ar.arg = some .local)
    (R : RunG X.prog X.w X.K X.mg X.base CX k g argsP (toSp sp)) (hr : RoomG j X.A) (hx : Passes CX X (upX El)) (hN : X.N = names η) (hH : Has H L) (hat : At ar.arg (.ref a) η) (mm : (a, HO.ins C dx fs) ∈ L)
    (h : ∀ u, GA X (e :: es) η ((u, .met g a) :: L) fun vs L1 => (u, HO.met g a) ∈ L1 ∧ sp (.ref a :: vs) L1 (fun _ L2 => GSs X rest D η L2) El) (hjk : k ≤ j := by decide)
    (hn : (n == ("__class__" : Str)) = false := by decide) (he : starEach (e :: es) X.env = (false, eval e X.env) :: starEach es X.env := by rfl) (hpl : (backTo p3 (starEach es X.env)).any (·.1) = false := by rfl) (hint : interactive X.env = false := by rfl)
    (hsw : swapsWith (.Call (.Attribute (.Call (.Name "super" p0) [] [] p1) n p2) (e :: es) [] p3) none p4.line X.env = pure false := by rfl)
    (hev : eval (.Call (.Attribute (.Call (.Name "super" p0) [] [] p1) n p2) (e :: es) [] p3) X.env = (do
      let ov ← attributeBase (.Call (.Name "super" p0) [] [] p1) n X.env (eval (.Call (.Name "super" p0) [] [] p1) X.env)
      standAt p2.atName
      let (ff, first) ← holding [ov] (getMethod ov n pl)
      callWith p3 ff first (backTo p3 (starEach (e :: es) X.env)) []) := by rfl) :
    AtSs X B (.Expr (.Call (.Attribute (.Call (.Name "super" p0) [] [] p1) n p2) (e :: es) [] p3) p4 :: rest) (D.ends X) (vals η) H := fun pins s I => by
  obtain ⟨oc, od, kV, doc, pm, ct, an, osl, efd, lk⟩ := F.ex
  obtain ⟨ccl, cdd, vs, ccs, fl, tf, lc, hvs, hfile⟩ := F.file
  obtain ⟨cl, cld, csl, hcell⟩ := F.cell
  obtain ⟨cdD, hD⟩ := F.cls
  obtain ⟨mb, hb1, hb2⟩ := I.mod.blt
  obtain ⟨oD, hD1, hD2⟩ : ∃ oD, s.heap.get? D0 = some oD ∧ oD.data = .cls cdD := by
    unfold PySem.W.clsIn at hD
    split at hD
    · rename_i c' d' cd' sl' ho
      cases hD
      exact ⟨_, I.kIn _ _ ho, rfl⟩
    · cases hD
  obtain ⟨cdC, hcC⟩ := T.cls
  obtain ⟨i, hi, hs⟩ := hat.idx
  obtain ⟨mA, O, _, _, _, _⟩ := ins_get I.hok (hH.get mm)
  obtain ⟨oda, IA, _⟩ := O.look
  have xC : a ≠ C := PySem.W.ks_ne I.kIn IA hcC
  refine _root_.PySem.ks_wpAt_execs_cons (_root_.PySem.ks_wpAt_Expr_any (_root_.PySem.ks_wpAt_MethodCall (pl := pl) (_root_.PySem.ks_wpAt_super_base hks hkc hn hfu (I.kIn _ _ lk) rfl hp hco (I.kIn _ _ lc) rfl hvs hfile F.top ?_) hev) hint hsw)
  refine PySem.W.ks_loadName_global I.ok.kind hks (Calls.loadGlobal_builtin (by rw [I.ok.glob]; exact I.mod.glob.keeps I.bk) T.su (by rw [I.ok.blt]; exact hb1.keeps I.bk) ((hb2 _ (by decide)).trans (by decide +kernel)) ⟨rfl, ?_⟩)
  refine wpAny_loadName_free I.ok.kind hkc hcl ⟨_, I.kIn _ _ hcell, rfl⟩ ?_
  obtain ⟨m, hns, hl⟩ := id I.loc
  obtain ⟨u, r, qq⟩ := hl i _ _ (by rw [hN]; exact hi) hs (.inl hka)
  obtain rfl : u = Value.ref a := r
  rcases qq with ⟨_, em⟩ | ⟨kk, _⟩
  · refine wpAny_loadName_local I.ok.kind hka hns em ?_
    obtain ⟨hp', g', d, t, os⟩ := s
    refine _root_.PySem.ks_wpAny_isType_cls hD1 hD2 ⟨rfl, ?_⟩
    refine _root_.PySem.ks_wpAny_call_super hD1 hD2 IA.at_ IA.cls (fun c e => ?_) (PySem.W.looks_mroIn I.kIn T.sub) (fun h' eS kS => ?_)
    · have := IA.no
      unfold PySem.W.notCls at this
      rw [e] at this
      exact Bool.noConfusion this
    have J1 : Inv X pins (vals η) H ⟨h', g', d, t, os⟩ := I.kept (t' := t) kS
    have sm' := T.sm
    unfold PySem.W.ks_superIn at sm'
    rw [hcC] at sm'
    obtain ⟨of, hof, hofc⟩ : ∃ of, h'.get? g = some of ∧ of.cls = .type "function" := by
      have ht' : (X.K.lookup g).map (·.cls) = some (.type "function") := T.tg
      cases z : X.K.lookup g with
      | none => rw [z] at ht'; cases ht'
      | some of => rw [z] at ht'; exact ⟨of, J1.kIn _ _ z, Option.some.inj ht'⟩
    refine _root_.PySem.ks_wpAny_getMethod_super eS (PySem.W.looks_opaque J1.kIn T.op) ((PySem.W.looks_clsIn J1.kIn hcC).andThen .now) rfl J1.kIn sm' hof hofc xC hn ?_
    have nu : H h'.objs.size = none := J1.hok.fresh (Nat.le_refl _)
    have J2 : Inv X pins (vals η) (upd H h'.objs.size (.met g a)) ⟨h'.push { cls := .type "method", data := .fields #[.ref g, .ref a] }, g', d, t + 1, os⟩ :=
      J1.laid (t' := t + 1) (a := h'.objs.size) (fun b o z => Heap.get?_push_of_some _ z) (Nat.le_refl _) (Heap.get?_push_size _ rfl)
    show wpAny _ _ (callWith p3 (Value.ref h'.objs.size) [] (backTo p3 (starEach (e :: es) X.env)) []) _ _ _
    have hpa := h h'.objs.size hN _ (hH.new nu) p3 pins _ J2
    rw [he] at hpa ⊢
    refine callwith_met (X := X) (g := g) (a := a) (by show ((false || (backTo p3 (starEach es X.env)).any (·.1)) || false) = false; rw [hpl]; rfl) T.fi (Calls.evalArgs_plain (thn hpa fun us s1 ⟨vs', H1, J3, r1, L1, h1, e1, qk⟩ => ?_))
    refine ⟨met_P J3 (h1.get e1), ?_⟩
    show wpAny _ _ (call (Value.ref h'.objs.size) us) _ _ _
    refine wpAny_call (call_met J3 (h1.get e1) (codeAny_mono (R _ X.stack s1 H1 (.ref a :: us) (.ref a :: vs') (up fun _ L2 => GSs X rest D η L2) (upX El) (hr.mono hjk) J3.env0 (.cons rfl r1) (up_sp h1 qk)) fun r s' hq => ?_))
    cases r with
    | error e => exact hx pins _ H1 _ e s' J3 hq
    | ok fl =>
      cases fl with
      | ret w =>
        obtain ⟨v, H', J4, rv, L2, h2, qf⟩ := J3.after hq
        exact AtSs.any (qf hN H' h2) pins s' J4
      | next => exact hq.elim
      | brk => exact hq.elim
      | cont => exact hq.elim
  · rcases kk with kk | kk
    · have z := kk.symm.trans hka
      cases z
    · have z := kk.symm.trans hka
      cases z
end
/-- the slots of a method that says super(), when it begins -/
def begunF (N : List Str) (vs : List V) : En := N.zip (startF N vs [none])
abbrev cxS (CX : CXT) (P : Program) (w : World) (K : PySem.W.Frag) (mg : Str → Option Value) (base : Heap) (N : List Str) (x q : Str) (st : Stmt) (cc c f : Addr) (A : Around) (outer : List Env) (s : Shared) (H : Hp) (E0 : XK) : Cx := ncx CX P w K mg base N (nfS x q st cc c) f A outer s H E0
section
variable {CX : CXT} {P : Program} {w : World} {K : PySem.W.Frag} {mg : Str → Option Value} {base : Heap} {N ps : List Str} {x q : Str} {st : Stmt} {f c cc D : Addr} {fd : FuncData} {k : Nat} {sp : SpL}
/-- such a method keeps a promise over ledgers -/
theorem run_sup (F : SupF P K x q st f c cc D fd) (S : NScope N ps ["__class__"] (defScope st)) (args : List Value → Args) (pmV : List V → List V) (pmU : List Value → List Value) (hpm : ∀ vs us, Vals vs us → Vals (pmV vs) (pmU us))
    (hb : ∀ (kV doc pm ct : Value) (an : Option Addr) (us : List Value), (pmU us).length = ps.length → bindArgs (PySem.W.fnX x q (defArgs st) (defBody st) (defScope st) [("__class__", cc)] .none kV doc pm an (.ref c) ct) (args us) = pure (ps.zip (pmU us)))
    (len : ∀ vs L Q E, sp vs L Q E → vs.length = ps.length) (hl : ∀ vs : List V, vs.length = ps.length → (startF N vs [none]).length = N.length)
    (body : ∀ (X : Cx) (A : Around) (outer : List Env) (s : Shared) (H : Hp) (E0 : XK) (L : Lg) (vs : List V) (Q : QV) (E : XL), X = cxS CX P w K mg base N x q st cc c f A outer s H E0 → (∀ c d L' H', Has H' L' → E c d L' → E0 c d H') → X.N.Nodup → RoomG k X.A → sp vs L Q E → Has H L → X.N = names (begunF N vs) → AtSs X (defBody st) (defBody st) ((bodyD Q).ends X) (vals (begunF N vs)) H) :
    RunG P w K mg base CX (k + 1) f args (fun vs => toSp sp (pmV vs)) := by
  intro A outer s H us vs Q E hr e0 r hsp
  obtain ⟨oc, od, kV, doc, pm, ct, an, osl, rfl, lk⟩ := F.ex
  obtain ⟨L, Ql, El, hH, h, hq, he⟩ := hsp
  have hn : (pmV vs).length = ps.length := len _ L Ql El h
  have r2 := hpm vs us r
  have KX : K.In s.heap := e0.mod.kin.keeps fun b o e => (e0.bs b o e).1
  have lim : s.heap.NoLimit := e0.mod.nolimit.keeps fun b o e => (e0.bs b o e).1
  have hbb := hb kV doc pm ct an us (by rw [← r2.length]; exact hn)
  refine _root_.PySem.ks_codeAny_call_defAt (body := defBody st) hr.depth (KX _ _ lk) rfl lim (PySem.W.codeRec_of KX F.cd) rfl (.of_eq hbb) S.nocell (fun ⟨n, _⟩ hy => S.par n (List.of_mem_zip hy).1) (fun h₁ hns kp => ?_) S.co S.gen S.kind
  have I : Inv (ncx CX P w K mg base N (nfS x q st cc c) f A outer s H E) [] (startF N (pmV vs) [none]) H { s with heap := h₁, toks := s.toks + (ps.zip (pmU us)).length } := inv_startN S hr.hd e0 hn r2 (F.cells e0) hns kp
  have ev : vals (begunF N (pmV vs)) = startF N (pmV vs) [none] := List.map_snd_zip (Nat.le_of_eq (hl _ hn))
  have en : N = names (begunF N (pmV vs)) := (List.map_fst_zip (Nat.le_of_eq (hl _ hn).symm)).symm
  have b := body _ A outer s H E L (pmV vs) Ql El rfl he S.nd ⟨hr.toRoom.deeper _, guard_deeper hr.gd⟩ h hH en [] _ (by rw [ev]; exact I)
  refine _root_.PySem.wpAt_mono b (fun fl s' hs => ?_) fun e s' hs => hs
  have fin : ∀ {σ' : L2.St} {H' : Hp} {v : V} {u : Value}, Inv (ncx CX P w K mg base N (nfS x q st cc c) f A outer s H E) [] σ' H' s' → L2.RelV v u → Q v H' → CE outer P w H s Q u s' := fun {σ' H' v u} J rv qq => ⟨v, H', J.os, J.bare, J.base, J.hok, rv, qq⟩
  cases fl with
  | ret u =>
    obtain ⟨v, σ', H', J, rv, M, hM, N', sb, q⟩ := hs
    exact fin J rv (hq _ N' H' (sb _ hM) q)
  | next =>
    obtain ⟨σ', H', J, θ, M, _, _, hM, N', sb, q⟩ := hs
    exact fin (v := V.non) (u := Value.none) J rfl (hq _ N' H' (sb _ hM) q)
  | brk =>
    obtain ⟨σ', H', J, θ, M, _, _, hM, z⟩ := hs
    exact z.elim
  | cont =>
    obtain ⟨σ', H', J, θ, M, _, _, hM, z⟩ := hs
    exact z.elim
end
end G
set_option Elab.async false
set_option linter.all false
set_option maxRecDepth 100000
set_option maxHeartbeats 4000000
namespace PySem.W
open PySem PySem.Calls PyProof.Rows
section
variable {prog : Program} {w : World} {A : Around} {E : Value → Shared → Prop} {s : Shared} {K : Frag} {x C L f : Addr} {h₀ : Heap} {m : Str → Option Value} {ox : Obj} {od : Option Obj} {b tb : Value}
theorem g_ifBound {M : Model} {args : List Value} {Q : Option Value → Shared → Prop} (X : K.In s.heap) (I : InstAt s.heap x ox C od) (hs : findIn K (.ref C) "__ne__" = some (some (.builtin "object.__ne__")))
    (h : wpAny M A (call (.builtin "object.__ne__") (.ref x :: args)) (fun v => Q (some v)) E s) : wpAny M A (callSpecialIfBound? (.ref x) "__ne__" args) Q E s := by
  simp only [callSpecialIfBound?, bindSpecialIfBound?]
  refine wpAny_holding (wpAny_bind (wpAny_bind (wpAny_bind (I.type.here ((looks_findIn X hs).here ?_)))))
  simp only [F.cmp_object.ne.bind]
  refine wpAny_bind (wpAny_askSetting (wpAny_ite ?_))
  have fin : wpAny M A (call (.builtin "object.__ne__") ([.ref x] ++ args) >>= fun v => pure (some v)) Q E s := wpAny_bind (wpAny_mono h (fun v s' h' => wpAny_pure h') fun _ _ h' => h')
  split
  · exact wpAny_bind (wpAny_pure (wpAny_pure (by exact fin)))
  · exact wpAny_tryCatch (wpAny_bind (wpAny_pure (wpAny_pure (by exact fin))))
theorem g_ne {Q : Value → Shared → Prop} (hu : A.units + 1 < cLine) (X : K.In s.heap) (I : InstAt s.heap x ox C od) (hb : Looks (model prog w) s.heap (typeOf b) tb) (hn : notFirst K C tb = true)
    (hne : findIn K (.ref C) "__ne__" = some (some (.builtin "object.__ne__"))) (heq : findIn K (.ref C) "__eq__" = some (some (.ref f))) (hf : isFn K (.ref f) = true) (ho : mroIn K C (.type "object") = some true)
    (h : wpAny (model prog w) A.in1 (call (.ref f) [.ref x, b]) (fun v s' => ∃ r, v = .bool r ∧ Q (.bool (!r)) s') E s) : wpAny (model prog w) A (richCompare .NotEq (.ref x) b) Q E s := by
  have hu0 : A.units < cLine := Nat.lt_of_succ_lt hu
  have hu1 : A.in1.units < cLine := hu
  have entry : wpAny (model prog w) A.in1 (Builtin.«object.__ne__» ⟨[.ref x, b], []⟩) (fun fin s' => ∃ r, fin = .done (.ret (.bool r)) ∧ Q (.bool r) s') E s := by
    unfold Builtin.«object.__ne__»
    refine wpAny_bind (wpAny_of_eq (a := (.ref x, [b])) (by first | rfl | kernel_rfl) ?_)
    show wpAny _ _ (cRoomFor "comparison" [.ref x, b] >>= _) _ _ _
    refine wpAny_bind (wpAny_cRoomFor hu1 ?_)
    refine wpAny_bind (ifBound_K X I heq hf (wpAny_mono h (fun v s' hv => ?_) fun _ _ e => e))
    obtain ⟨r, rfl, q⟩ := hv
    show wpAny _ _ (truthy (.bool r) >>= _) _ _ _
    exact wpAny_bind (wpAny_pure (wpAny_pure ⟨_, rfl, q⟩))
  have one : wpAny (model prog w) A (tryCompare (.ref x) "__ne__" b) (fun r s' => ∃ v, r = some v ∧ Q v s') E s := by
    unfold tryCompare
    refine wpAny_bind (g_ifBound X I hne (wpAny_call (codeAny_call_builtin F.cmp_object.ne.plain F.cmpEntry_ne (@check_slot (model prog w) _ _ s "object.__ne__" "object" "__ne__" (.ref x) [b] [] _ F.cmpKind_ne F.cmpSplit_ne
      (I.type.andThen (looks_mroIn X ho)) (F.cmpArgs_ne _ _) ?_))))
    refine wpAny_mono entry (fun fin s' z => ?_) fun _ _ e => e
    obtain ⟨r, rfl, q⟩ := z
    exact wpAny_pure ⟨_, rfl, q⟩
  unfold richCompare
  simp only [oneThing_ref]
  refine wpAny_holding (wpAny_bind (wpAny_cRoomFor hu0 ?_))
  refine wpAny_bind (I.type.here (wpAny_bind (hb.here ?_)))
  split
  · rename_i q
    have e : subIn K tb (.ref C) = some false := by
      rcases Bool.or_eq_true_iff.mp hn with e | e
      · rw [beq_iff_eq.mp e] at q; simp at q
      · exact beq_iff_eq.mp e
    refine wpAny_bind ((looks_subIn X e).here ?_)
    simp only [Bool.false_eq_true, if_false]
    refine wpAny_bind (wpAny_mono one (fun r s' z => ?_) fun _ _ e => e)
    obtain ⟨v, rfl, hq⟩ := z
    exact wpAny_pure hq
  · refine wpAny_bind (wpAny_pure ?_)
    simp only [Bool.false_eq_true, if_false]
    refine wpAny_bind (wpAny_mono one (fun r s' z => ?_) fun _ _ e => e)
    obtain ⟨v, rfl, hq⟩ := z
    exact wpAny_pure hq
end
end PySem.W
namespace G
open PySem PySem.Spec PyProof.Rows L2
/-- a class with its own __eq__ -/
structure OwnEq (K : PySem.W.Frag) (C g : Addr) : Prop where
  at_ : PySem.W.findIn K (.ref C) "__eq__" = some (some (.ref g))
  fn : PySem.W.isFn K (.ref g) = true
  ne : PySem.W.findIn K (.ref C) "__ne__" = some (some (.builtin "object.__ne__"))
  ob : PySem.W.mroIn K C (.type "object") = some true
section
variable {X : Cx} {CX : CXT} {j k : Nat} {C C' g a b dx dy : Addr} {fs gs : List (Str × V)} {sp : SpL} {El : XL} {L : Lg} {Q : QV}
theorem ins_inst {pins : List (Addr × Obj)} {σ : L2.St} {H : Hp} {s : Shared} (I : Inv X pins σ H s) (hH : Has H L) (m : (a, HO.ins C dx fs) ∈ L) : ∃ o od, PySem.W.InstAt s.heap a o C (some od) := by
  obtain ⟨mA, O, _⟩ := ins_get I.hok (hH.get m)
  obtain ⟨od, J, _⟩ := O.look
  exact ⟨_, od, J⟩
theorem RoomG.in1 {k : Nat} {A : Around} (r : RoomG (k + 1) A) : RoomG k A.in1 := ⟨r.toRoom.in1, r.gd⟩
theorem go_neM (T : OwnEq X.K C g) (F : RunG X.prog X.w X.K X.mg X.base CX k g argsP (toSp sp)) (hr : RoomG j X.A) (hx : Passes CX X (upX El)) (ma : (a, HO.ins C dx fs) ∈ L) (mb : (b, HO.ins C' dy gs) ∈ L) (hn : PySem.W.notFirst X.K C (.ref C') = true)
    (h : sp [.ref a, .ref b] L (fun v L' => ∃ r, v = .bl r ∧ Q (.bl (!r)) L') El) (hjk : k + 1 ≤ j := by decide) : GOp X (compareOp .NotEq) (.ref a) (.ref b) L Q := fun pins s σ H v u hH I rx ry => by
  obtain rfl : v = Value.ref a := rx
  obtain rfl : u = Value.ref b := ry
  obtain ⟨oa, da, J⟩ := ins_inst I hH ma
  obtain ⟨ob, db, J'⟩ := ins_inst I hH mb
  show wpAny (model X.prog X.w) X.A (richCompare .NotEq (.ref a) (.ref b)) _ _ _
  have hu : X.A.units + 1 < cLine := by
    have := hr.toRoom.units
    omega
  refine PySem.W.g_ne (tb := .ref C') hu I.kIn J J'.type hn T.ne T.at_ T.fn T.ob ?_
  refine wpAny_call (codeAny_mono (F X.A.in1 X.stack s H [.ref a, .ref b] [.ref a, .ref b] _ _ (hr.mono hjk).in1 I.env0.in1 (.cons rfl (.cons rfl .nil)) (up_sp hH h)) fun r s' hq => ?_)
  cases r with
  | error e => exact hx pins σ H s e s' I hq
  | ok fl =>
    cases fl with
    | ret w =>
      obtain ⟨z, H', I', rz, L', h', r0, ez, q⟩ := I.after hq
      subst ez
      obtain rfl : w = Value.bool r0 := rz
      exact ⟨r0, rfl, .bl (!r0), H', I', rfl, L', h', q⟩
    | next => exact hq.elim
    | brk => exact hq.elim
    | cont => exact hq.elim
/-- isinstance of an instance -/
structure OwnT (K : PySem.W.Frag) (C : Addr) : Prop where
  g : PySem.W.plainGet K C "__class__" = true
  d : PySem.W.hasDictIn K C = true
  a : PySem.W.findIn K (.ref C) "__class__" = some (some (.builtin "object.__class__"))
  n : PySem.W.specialIn K (.builtin "object.__class__") "__get__" = some (some (.builtin "getset_descriptor.__get__"))
  t : PySem.W.takesIn K (.builtin "object.__class__") = some true
  m : PySem.W.mroIn K C (.type "object") = some true
theorem gc_isI {c : V} {cv : Value} {r : Bool} (T : OwnT X.K C) (ma : (a, HO.ins C dx fs) ∈ L) (kc : ClsV c cv) (k : PySem.W.kitOne X.K (.ref C) cv = some r) (q : Q (.bl r) L) : GC X (.builtin "isinstance") [.ref a, c] L Q := fun pins s σ H us hH I rr => by
  cases rr with
  | cons rx rr =>
    cases rr with
    | cons rt rr =>
      cases rr
      obtain rfl : _ = Value.ref a := rx
      have ec := kc.eq rt
      subst ec
      obtain ⟨oe, od, J⟩ := ins_inst I hH ma
      exact PySem.W.kia_one (PySem.W.kitx_own T.g T.d T.a T.n T.t T.m) I.kIn J k (fun z => nomatch z) fun tk => ⟨.bl r, H, I.kept (t' := tk) fun _ _ z => z, rfl, L, hH, q⟩
end
end G
set_option Elab.async false
set_option linter.all false
set_option maxRecDepth 100000
set_option maxHeartbeats 4000000
namespace G
open PySem PySem.Spec PyProof.Rows L2
section
variable {X : Cx} {η : En} {L : Lg} {Q : QV} {a b c e : Expr} {es : List Expr} {op op' : CmpOp} {pos p p2 : Pos} {x : V} {q : Addr}
theorem ge_chain (h : GE X a η L fun x L1 => GE X b η L1 fun y L2 => GOp X (compareOp op) x y L2 fun z L3 => ∃ k, z = .bl k ∧ if k = true then GE X c η L3 fun w L4 => GOp X (compareOp op') y w L4 Q else Q (.bl false) L3)
    (hm : lastMarks [op, op'] [b, c] = false := by with_unfolding_all rfl) : GE X (.Compare a [op, op'] [b, c] pos) η L Q := fun hN H hH =>
  WE.of (pe_chain (r := fun x y H' Q' => ∀ pins s σ v u, Inv X pins σ H' s → RelV x v → RelV y u → wpAny (model X.prog X.w) X.A (compareOp op v u) (EP X pins σ Q') X.xe s)
    (r' := fun x y H' Q' => ∀ pins s σ v u, Inv X pins σ H' s → RelV x v → RelV y u → wpAny (model X.prog X.w) X.A (compareOp op' v u) (EP X pins σ Q') X.xe s)
    (fun pins s σ H' x y v u Q' I r1 r2 q => q pins s σ v u I r1 r2) (fun pins s σ H' x y v u Q' I r1 r2 q => q pins s σ v u I r1 r2) pe_W pe_W pe_W hm)
    (h.then hN hH fun x _ _ h1 q1 => q1.then hN h1 fun y _ _ h2 q2 => fun pins s σ v u I r1 r2 => by
      refine wpAny_mono (q2 pins s σ _ v u h2 I r1 r2) (fun z s' zz => ?_) fun _ _ z => z
      obtain ⟨zv, H3, I3, r3, L3, h3, k, ek, q3⟩ := zz
      refine ⟨zv, H3, I3, r3, k, ek, ?_⟩
      cases k with
      | true =>
        rw [if_pos rfl] at q3
        rw [if_pos rfl]
        exact q3.then hN h3 fun w L4 H4 h4 q4 => fun pins s σ v u I r1 r2 => q4 pins s σ _ v u h4 I r1 r2
      | false =>
        rw [if_neg Bool.false_ne_true] at q3
        rw [if_neg Bool.false_ne_true]
        exact ⟨L3, h3, q3⟩)
/-- *e among the values -/
theorem ga_star {Q : List V → Lg → Prop} (h : GE X e η L fun x L1 => ∃ p xs, x = .ref p ∧ ((p, HO.tup xs) ∈ L1 ∨ (p, HO.lst xs) ∈ L1) ∧ GA X es η L1 fun ys L2 => Q (xs ++ ys) L2) (hs : starEach (.Starred e p :: es) X.env = (true, eval e X.env) :: starEach es X.env := by rfl) : GA X (.Starred e p :: es) η L Q := fun hN H hH =>
  WA.of (StX.pa_star pe_W pa_W hs) (h.then hN hH fun x L1 H1 h1 ⟨p, xs, ex, m, q⟩ => ⟨p, xs, ex, m.imp (fun z => sqt h1 z) fun z => sql h1 z, q.then hN h1 fun _ L2 _ h2 q2 => ⟨L2, h2, q2⟩⟩)
theorem gc_sorted {ns : List Int} (m : (q, HO.lst (ns.map V.int)) ∈ L) (h : ∀ (ms : List Int) p, ms.Perm ns → ms.Pairwise (· ≤ ·) → Q (.ref p) ((p, .lst (ms.map V.int)) :: L)) : GC X (.builtin "sorted") [.ref q] L Q :=
  GC.of cr_sortedI fun H hH => ⟨q, ns, rfl, sql hH m, fun ms p hp hs hn => ⟨_, hH.new hn, h ms p hp hs⟩⟩
end
theorem bt_sorted : bootBuiltins "sorted" = some (.builtin "sorted") := by decide +kernel
section
variable {X : Cx} {η : En} {L : Lg} {Q : QV} {e : Expr} {es : List Expr} {pos p : Pos} {x : V} {q : Addr} {T : String} {cs : List String} {b : Bool} {y : Str} {v : V} {u : Value}
theorem gb_sorted (B : Bi X.mg) (h : GA X (e :: es) η L fun xs L1 => GC X (.builtin "sorted") xs L1 Q) (hg : Gl X "sorted" := by rfl) (he : starEach (e :: es) X.env = (false, eval e X.env) :: starEach es X.env := by rfl) (hpl : (backTo pos (starEach es X.env)).any (·.1) = false := by rfl) :
    GE X (.Call (.Name "sorted" p) (e :: es) [] pos) η L Q := ge_B B.sorted bt_sorted h hg (by decide) (by decide) he hpl
/-- a global that holds a plain value -/
theorem gv_con (hm : X.mg y = some u) (r : RelV v u) (q : Q v L) (hg : Gl X y := by rfl) (hd : (y == ("__debug__" : Str)) = false := by decide) : GE X (.Name y pos) η L Q := ge_con (pe_glob hg hm r hd) q
end
end G
set_option Elab.async false
set_option linter.all false
set_option maxRecDepth 100000
set_option maxHeartbeats 4000000
namespace PySem
open Sem (wp)
open AutoSeq1 (wpAny_loadPart')
theorem g_enum_newT (l : Addr) (items : Array Value) (n : Nat) (dct : Option Addr) (sl : Array (Option Value)) :
    Meets (Builtin.«enumerate.__new__» ⟨[.type "enumerate", .ref l], []⟩) (fun _ R s => s.heap.get? l = some { cls := .type "tuple", dict := dct, data := .seq items n, slots := sl } ∧
      R (.ok (.ret (.ref (s.heap.push { cls := .type "tuple_iterator", data := .fields #[.ref l, .int 0 0] }).objs.size)))
        { s with heap := (s.heap.push { cls := .type "tuple_iterator", data := .fields #[.ref l, .int 0 0] }).push { cls := .type "enumerate", data := .fields #[.none, .bool false, .ref s.heap.objs.size, rawInt 0, .none, .none] } }) :=
  .of_wp fun prog w A R s h => by
    obtain ⟨hp, g, d, tk, os⟩ := s; obtain ⟨hl, h⟩ := h
    have hsub := sub_enumerate
    have hL : Heap.IsTuple (Shared.heap ⟨hp, g, d, tk, os⟩) l items := ⟨_, hl, rfl, n, rfl⟩
    wp_walk using wpAny_loadPart' hl
    refine wpAny_stack_any fun st => wpAny_pure ?_
    split
    · rename_i c _ _ _ _ _
      cases (c == Value.type "enumerate")
      · wp_walk using wpAny_loadPart' hl, wpAny_pyIter_tuple hL
        exact ⟨_, rfl, h⟩
      · wp_walk using wpAny_loadPart' hl, wpAny_pyIter_tuple hL
        exact ⟨_, rfl, h⟩
    · wp_walk using wpAny_loadPart' hl, wpAny_pyIter_tuple hL
      exact ⟨_, rfl, h⟩
theorem g_call_enumT {prog : Program} {w : World} {A : Around} {E : Value → Shared → Prop} {s : Shared} {l : Addr} {items : Array Value} {Q : Value → Shared → Prop} (hL : s.heap.IsTuple l items)
    (h : ∀ h', IsEnum h' (s.heap.objs.size + 1) s.heap.objs.size 0 .none → h'.IsTupleIter s.heap.objs.size l 0 → h'.objs.size = s.heap.objs.size + 2 →
      (∀ b o, s.heap.get? b = some o → h'.get? b = some o) → Q (.ref (s.heap.objs.size + 1)) { s with heap := h' }) :
    wpAny (model prog w) A (call (.type "enumerate") [.ref l]) Q E s := by
  obtain ⟨⟨c, dct, dt, sl⟩, hl, hc, n, hd⟩ := hL
  replace hc : c = .type "tuple" := hc
  replace hd : dt = .seq items n := hd
  subst hc hd
  refine callType_new F.called_enumerate (by decide) (F.typeCall_enumerate_1 _) (F.newCall_enumerate_1 _) (fun obj => F.args_object_init_2 obj _) F.entry_enumerate_new
    (g_enum_newT l items n dct sl) ⟨hl, ?_⟩
  have hz : (s.heap.push { cls := .type "tuple_iterator", data := .fields #[.ref l, .int 0 0] }).objs.size = s.heap.objs.size + 1 := Heap.size_push ..
  show _ ∧ _
  rw [hz]
  have he : IsEnum ((s.heap.push { cls := .type "tuple_iterator", data := .fields #[.ref l, .int 0 0] }).push
      { cls := .type "enumerate", data := .fields #[.none, .bool false, .ref s.heap.objs.size, rawInt 0, .none, .none] }) (s.heap.objs.size + 1) s.heap.objs.size 0 .none := by
    have := Heap.get?_push_size (s.heap.push { cls := .type "tuple_iterator", data := .fields #[.ref l, .int 0 0] })
      (o := { cls := .type "enumerate", data := .fields #[.none, .bool false, .ref s.heap.objs.size, rawInt 0, .none, .none] }) rfl
    rw [hz] at this; exact this
  refine ⟨⟨_, he, rfl⟩, h _ he ⟨_, Heap.get?_push_of_some _ (Heap.get?_push_size _ rfl), rfl, rfl⟩ (by rw [Heap.size_push, hz]) fun b o x => Heap.get?_push_of_some _ (Heap.get?_push_of_some _ x)⟩
theorem g_enum_endT {prog : Program} {w : World} {A : Around} {E : Value → Shared → Prop} {s : Shared} {e it t : Addr} {i : Nat} {k : Int} {items : Array Value} {old : Value} {Q : Option Value → Shared → Prop} (hh : A.handled = none)
    (he : IsEnum s.heap e it k old) (hit : s.heap.IsTupleIter it t i) (ht : s.heap.IsTuple t items) (hx : items[i]? = none) (hQ : ∀ h', Heap.ExtBut it s.heap h' → Q none { s with heap := h' }) : wpAny (model prog w) A (pyNext (.ref e)) Q E s := by
  have hT : s.TypeIs (.ref e) "enumerate" := ⟨_, he, rfl⟩
  unfold pyNext
  refine wpAny_bind (wpAny_attempt (wpAny_callSpecial?_slot (name := Str.ofString "__next__") hT F.slot_enumerate_next
    (wpAny_call_entry F.slot_enumerate_next hT F.entry_enumerate_next ?_ (F.args_enumerate_next_1 _))))
  show wpAny _ _ (field (.ref e) 2 >>= _) _ _ _
  refine wpAny_bind (wpAny_field he rfl (x := .ref it) rfl ?_)
  refine wpAny_bind (wpAny_nextOf_tuple_end (A := A.in1) hh hit ht hx fun h' x he' hx' => ?_)
  obtain ⟨o, ho, hc⟩ := hx'
  refine wpAny_bind (wpAny_isInstance (T := "StopIteration") (b := true) ⟨o, ho, hc⟩ isSubtype_stop ?_)
  exact wpAny_pure (hQ _ he')
end PySem
namespace G
open PySem PySem.Spec PyProof.Rows L2
def IteT (K : PySem.W.Frag) (a : Addr) : It :=
  ⟨fun i H => ∃ (xs : List V) (x : V), SqT K H a xs ∧ xs[i]? = some x, fun i H v H' => ∃ T x, v = .ref T ∧ H T = none ∧ H' = upd H T (.tup [.int (i : Nat), x]) ∧ ∀ xs, SqT K H a xs → xs[i]? = some x, fun i H => ∃ xs : List V, SqT K H a xs ∧ xs.length ≤ i⟩
theorem cls_ne {h : Heap} {a b : Addr} {S T : String} (x : ∃ o, h.get? a = some o ∧ o.cls = .type S) (y : ∃ o, h.get? b = some o ∧ o.cls = .type T) (n : S ≠ T) : a ≠ b := fun e => by
  obtain ⟨o, h1, c1⟩ := x
  obtain ⟨o', h2, c2⟩ := y
  rw [e, h2] at h1
  cases h1
  rw [c1] at c2
  cases c2
  exact n rfl
theorem turn_enumT {P : Program} {w : World} {K : PySem.W.Frag} {elts : List Expr} {kk : Nat} {tpos : Pos} (a e it : Addr) :
    Turn P w K (.Tuple elts kk tpos) (IteT K a) [e, it] e (fun i h => (∃ old, IsEnum h e it ((i : Nat) : Int) old) ∧ h.IsTupleIter it a i ∧ e ≠ it) where
  mem := by simp
  obj := fun i h st b hb => by
    obtain ⟨⟨old, he⟩, ⟨o, ho, hc, hd⟩, _⟩ := st
    have e' : b = e ∨ b = it := by simpa using hb
    rcases e' with z | z
    · rw [z]; exact ⟨_, he, fun v q => nomatch q⟩
    · rw [z]; exact ⟨o, ho, fun v q => by rw [hd] at q; cases q⟩
  keep := fun i h h' st k => let ⟨⟨old, he⟩, hi, hne⟩ := st; ⟨⟨old, k e (by simp) _ he⟩, hi.at fun o q => k it (by simp) o q, hne⟩
  item := by
    intro X hP hw hK hc i pins s σ H E I hf st hg
    subst hP hw hK
    obtain ⟨⟨old, he⟩, hit, hne⟩ := st
    obtain ⟨xs, x, hq, hx⟩ := hg
    obtain ⟨its, rv, p, hz⟩ := I.tuple hq
    obtain ⟨u, hu, ru⟩ := rv.get hx
    have hel : e < s.heap.objs.size := Heap.lt_size he
    have hil : it < s.heap.objs.size := by obtain ⟨_, q, _⟩ := hit; exact Heap.lt_size q
    have pT : ∃ o, s.heap.get? a = some o ∧ o.cls = .type "tuple" := by
      obtain ⟨o, h1, h2, _⟩ := p
      exact ⟨o, h1, h2⟩
    have iT : ∃ o, s.heap.get? it = some o ∧ o.cls = .type "tuple_iterator" := by
      obtain ⟨o, h1, h2, _⟩ := hit
      exact ⟨o, h1, h2⟩
    have ai : a ≠ it := cls_ne pT iT (by decide)
    have ea : e ≠ a := cls_ne ⟨_, he, rfl⟩ pT (by decide)
    have hlt : i < its.toArray.size := by
      have := (List.getElem?_eq_some_iff.mp hu).1
      simpa using this
    refine wpAny_pyNext_enum_itemD (Draws.tuple (A := X.A.in1) (I.ok.hd hc) it a ai its.toArray) he ⟨hit, p⟩ hlt hne (by simp [hne, ea]) fun u' h' tk hu' ho hst hT hsz hk => ?_
    obtain rfl : u' = u := by
      have : its.toArray[i]? = some u := by simpa using hu
      exact Option.some.inj (hu'.symm.trans this)
    refine ⟨_, rfl, wpAny_letOwnedTupleGo_enum (s := { s with heap := h', toks := tk + 1 }) ho fun h'' he' sb => ?_⟩
    have hT2 : h''.get? s.heap.objs.size = some { cls := .type "tuple", data := .seq #[.int i tk, u'] } := (sb.2 _ (Nat.ne_of_gt hel)).trans hT
    have new : ObjOk X.prog X.w (upd H s.heap.objs.size (.tup [.int (i : Nat), x])) h'' s.heap.objs.size (.tup [.int (i : Nat), x]) :=
      ⟨by show 2 ≤ sizeLine; decide, [.int i tk, u'], .cons ⟨_, rfl⟩ (.cons ru .nil), ⟨_, hT2, rfl, _, rfl⟩⟩
    have I1 : Inv X pins σ (upd H s.heap.objs.size (.tup [.int (i : Nat), x])) { s with heap := h'', toks := tk + 1 } :=
      I.turnedNew (ch := [e, it]) (fun b ob hb q => (sb.2 b (fun z => hb (by simp [z]))).trans (hk b ob (fun z => hb (by simp [z])) (fun z => hb (by simp [z])) q)) hf (Nat.le_refl _) new
    refine ⟨.ref s.heap.objs.size, _, I1, rfl, ⟨_, x, rfl, I.hok.fresh (Nat.le_refl _), rfl, fun ys hy => by rw [I.tuple_inj hy hq]; exact hx⟩, ⟨⟨u', ?_⟩, hst.1.at fun o q => (sb.2 it (Ne.symm hne)).trans q, hne⟩, fun b hb => ?_⟩
    · have e1 : ((i + 1 : Nat) : Int) = (i : Int) + 1 := by omega
      rw [e1]; exact he'
    · have hb' : b < s.heap.objs.size := by
        have e' : b = e ∨ b = it := by simpa using hb
        rcases e' with z | z
        · rw [z]; exact hel
        · rw [z]; exact hil
      rw [upd_ne (Nat.ne_of_lt hb')]
      exact (hf b hb).1
  done := by
    intro X hP hw hK hc i pins s σ H E I hf st hg
    subst hP hw hK
    obtain ⟨⟨old, he⟩, hit, hne⟩ := st
    obtain ⟨xs, hq, hx⟩ := hg
    obtain ⟨its, rv, p, hz⟩ := I.tuple hq
    obtain ⟨f0, f1, f2, f3, f4, f5⟩ := hf it (by simp)
    have hl := rv.length
    exact g_enum_endT (I.ok.hd hc) he hit p (by simp; omega) fun h' eb => ⟨rfl, I.turned (t' := s.toks) (fun b o hb q => eb b o hb q) f0 f1 f3 f4 f5⟩
  self := fun A i s Q E st h => let ⟨⟨_, he⟩, _⟩ := st; wpAny_pyIter_enum he h
def iEnumT (K : PySem.W.Frag) (ta : TA) : TI := fun σ H R => ta σ H fun vs H1 => ∃ a xs, vs = [.ref a] ∧ SqT K H1 a xs ∧ R (IteT K a) H1
theorem pi_enumT {X : Cx} {e : Expr} {ta : TA} {p pos tpos : Pos} {elts : List Expr} {kk : Nat} (hg : Gl X "enumerate") (hm : X.mg "enumerate" = none) (ha : PA X [e] ta) (hs : starEach [e] X.env = [(false, eval e X.env)] := by rfl) :
    PI X (.Tuple elts kk tpos) (.Call (.Name "enumerate" p) [e] [] pos) (iEnumT X.K ta) := by
  refine ⟨fun pins s σ H R I h => ?_⟩
  refine Call_ (ld_blt I hg hm boot_enumerate (PyProof.Rows.callWith_type1 (thn (ha.run pos pins s σ H _ I h) fun us s1 ⟨vs, H1, I1, r1, q1⟩ => ?_) hs rfl))
  obtain ⟨a, xs, ex, hq, q⟩ := q1
  subst ex
  cases r1 with
  | cons r rr =>
    cases rr
    cases r
    obtain ⟨its, rv, p', hz⟩ := I1.tuple hq
    refine g_call_enumT p' fun h' he hit hsz hk => wpAny_pyIter_enum he ?_
    have I2 : Inv X pins σ H1 { s1 with heap := h' } := I1.kept (t' := s1.toks) hk
    refine ⟨s1.heap.objs.size + 1, [s1.heap.objs.size + 1, s1.heap.objs.size], _, _, H1, rfl, I2, turn_enumT a (s1.heap.objs.size + 1) s1.heap.objs.size, ⟨⟨.none, he⟩, hit, Nat.succ_ne_self _⟩, fun b hb => ?_, q⟩
    have e' : b = s1.heap.objs.size + 1 ∨ b = s1.heap.objs.size := by simpa using hb
    have hle : s1.heap.objs.size ≤ b := by
      rcases e' with z | z
      · rw [z]; exact Nat.le_add_right _ _
      · rw [z]; exact Nat.le_refl _
    exact I1.fpOk hle (I1.hok.fresh hle)
theorem walk_enumT {K : PySem.W.Frag} {a : Addr} {xs : List V} : Walk (IteT K a) xs.length (fun H => SqT K H a xs) (YPair (fun i => some (.int (i : Nat))) (fun i => xs[i]?)) := by
  refine ⟨fun i _ hi q => ⟨xs, xs[i], q, by simp [hi]⟩, fun _ q => ⟨xs, q, Nat.le_refl _⟩, fun i H v H' _ q y => ?_⟩
  obtain ⟨T, x, h1, h2, h3, h4⟩ := y
  exact ⟨T, .int (i : Nat), x, h1, h2, h3, rfl, h4 xs q⟩
section
variable {X : Cx} {η : En} {L : Lg} {e : Expr} {elts : List Expr} {kk : Nat} {tpos p pos : Pos} {Q : Src → Lg → Prop}
theorem gi_enumT (h : GA X [e] η L fun vs L1 => ∃ q xs, vs = [.ref q] ∧ (q, HO.tup xs) ∈ L1 ∧ Q ⟨xs.length, KeepT q xs, itemPr (fun i => some (.int (i : Nat))) (fun i => xs[i]?)⟩ L1) (hm : X.mg "enumerate" = none) (hg : Gl X "enumerate" := by rfl)
    (hs' : starEach [e] X.env = [(false, eval e X.env)] := by rfl) : GI X (.Tuple elts kk tpos) (.Call (.Name "enumerate" p) [e] [] pos) η L Q := fun hN H hH =>
  WI.of (pi_enumT hg hm pa_W hs') (h.then hN hH fun vs L1 H1 k1 ⟨q, xs, e1, m, z⟩ => ⟨q, xs, e1, sqt k1 m, L1, _, k1, SrcOk.of walk_enumT (fun H M hM k => sqt hM k) (fun i H x H' M _ hM _ y => y_pr hM y), z⟩)
end
end G
set_option Elab.async false
set_option linter.all false
set_option maxRecDepth 100000
set_option maxHeartbeats 4000000
namespace G
open PySem PySem.Spec PyProof.Rows L2
abbrev P2 (p : Int × Int) : PyData := .tuple [.int p.1, .int p.2]
def lt2 (p q : Int × Int) : Bool := decide (p.1 < q.1 ∨ (p.1 = q.1 ∧ p.2 < q.2))
theorem alike2 (p q : Int × Int) : PySem.W.alike (P2 p) (P2 q) = true := by simp [PySem.W.alike, PySem.W.alikeAll]
/-- not greater, by the first, then by the second -/
def le2 (p q : Int × Int) : Prop := p.1 < q.1 ∨ (p.1 = q.1 ∧ p.2 ≤ q.2)
theorem depth2 : ∀ ps : List (Int × Int), PyData.depthAll (ps.map P2) ≤ 1
  | [] => by simp [PyData.depthAll]
  | p :: r => by
    have e := depth2 r
    simp only [List.map_cons, PyData.depthAll, PyData.depth]
    omega
/-- pairs in the ledger -/
abbrev Pr2 := Addr × Int × Int
section
variable {X : Cx} {L : Lg} {Q : QV} {q : Addr} {j : Nat}
theorem dls_prs : ∀ {ps : List Pr2}, (∀ e ∈ ps, (e.1, HO.tup [.int e.2.1, .int e.2.2]) ∈ L) → Dls L (ps.map fun e => V.ref e.1) ((ps.map fun e => e.2).map P2)
  | [], _ => dls_nil
  | e :: r, h => dls_cons (dl_tup (h e (List.mem_cons_self ..)) (dls_cons dl_int (dls_cons dl_int dls_nil))) (dls_prs fun x hx => h x (List.mem_cons_of_mem _ hx))
end
end G
set_option Elab.async false
set_option linter.all false
set_option maxRecDepth 100000
set_option maxHeartbeats 4000000
namespace PySem.W
open PySem PySem.Calls PySem.Spec PyProof.Rows
end PySem.W
namespace G
open PySem PySem.Spec PyProof.Rows L2
end G
set_option Elab.async false
set_option linter.all false
set_option maxRecDepth 100000
set_option maxHeartbeats 4000000
namespace G
open PySem PySem.Spec PyProof.Rows L2
def RowO (o : HO) (xs : List V) : Prop := o = .lst xs ∨ o = .tup xs
section
variable {X : Cx} {η : En} {L : Lg} {e tg : Expr} {elts : List Expr} {kk : Nat} {tpos p pos : Pos} {Q : Src → Lg → Prop} {o : HO} {xs : List V}
theorem gi_rowO (ro : RowO o xs) (h : GE X e η L fun v L1 => ∃ q, v = .ref q ∧ (q, o) ∈ L1 ∧ Q ⟨xs.length, fun M => (q, o) ∈ M, itemAt xs⟩ L1) : GI X tg e η L Q := by
  rcases ro with rfl | rfl
  · exact gi_list (h.imp fun v L1 ⟨q, ev, m, z⟩ => ⟨q, xs, ev, m, z⟩)
  · exact gi_tuple (h.imp fun v L1 ⟨q, ev, m, z⟩ => ⟨q, xs, ev, m, z⟩)
end
end G
namespace G
open PySem PySem.Spec PyProof.Rows L2
end G
set_option Elab.async false
set_option linter.all false
set_option maxRecDepth 100000
set_option maxHeartbeats 4000000
namespace G
open PySem PySem.Spec PyProof.Rows L2
theorem memR {α : Type} {a : α} {l r : List α} (h : a ∈ r) : a ∈ l ++ r := List.mem_append_right _ h
theorem Swap.right {p : Addr} {o : HO} {L M : Lg} (s : Swap p o L M) : ∀ {E : Lg}, Swap p o (E ++ L) (E ++ M)
  | [] => s
  | _ :: E => .there (Swap.right s (E := E))
theorem subl_app {α : Type} {l e r : List α} (h : List.Sublist l r) : List.Sublist l (e ++ r) := h.trans (List.sublist_append_right e r)
section
variable {a b x : Addr × HO} {R L es : Lg}
theorem rotStep (s : Sub (a :: b :: R) L) : Sub (a :: b :: x :: R) (x :: L) := rot12.trans (Sub.cons s)
theorem rotApp (s : Sub (a :: b :: R) L) : Sub (a :: b :: (es ++ R)) (es ++ L) := (rotL es).trans (Sub.append s)
end
/-- the references of entries -/
abbrev refs (es : Lg) : List V := es.map fun e => V.ref e.1
section
variable {X : Cx} {η : En} {L : Lg} {elt iter tg : Expr} {ifs : List Expr} {scope : Scope} {pos p1 p2 p3 : Pos} {x y : Str} {f : V → En} {g : V → V → En} {Q : QV}
/-- a turn: the test, then the element, a new object o -/
abbrev TurnF (X : Cx) (scope : Scope) (ifs : List Expr) (elt : Expr) (R : Lg) (θ : En) (b0 : Bool) (o : HO) : Prop := AllBlk X scope fun B => GTs B ifs θ R fun b M1 => b = b0 ∧ Sub R M1 ∧ (b = true → AllBlk X scope fun B => GE B elt θ M1 fun z M2 => ∃ a, z = .ref a ∧ Sub ((a, o) :: R) M2)
theorem turnF_use {θ : En} {b0 : Bool} {o : HO} {R M : Lg} (h : TurnF X scope ifs elt R θ b0 o) (s : Sub R M) :
    AllBlk X scope fun B => GTs B ifs θ M fun b M1 => b = b0 ∧ Sub R M1 ∧ (b = true → AllBlk X scope fun B => GE B elt θ M1 fun z M2 => ∃ a, z = .ref a ∧ Sub ((a, o) :: R) M2) := fun s1 H1 C1 cl1 fp1 => by
  refine GTs.sub s ?_
  have k := h s1 H1 C1 cl1 fp1
  have key : ∀ b M1, (b = b0 ∧ Sub R M1 ∧ (b = true → AllBlk X scope fun B => GE B elt θ M1 fun z M2 => ∃ a, z = .ref a ∧ Sub ((a, o) :: R) M2)) → ∀ M2, Sub M1 M2 → b = b0 ∧ Sub R M2 ∧ (b = true → AllBlk X scope fun B => GE B elt θ M2 fun z M2 => ∃ a, z = .ref a ∧ Sub ((a, o) :: R) M2) :=
    fun b M1 ⟨e, s1, k⟩ M2 s2 => ⟨e, s1.trans s2, fun hb s3 H3 C3 cl3 fp3 => GE.sub s2 (k hb s3 H3 C3 cl3 fp3)⟩
  match ifs, k with
  | [], k => exact key _ _ k
  | [c], k => exact k.imp key
/-- what such a comprehension is shown of -/
structure FreshC (X : Cx) (scope : Scope) (ifs : List Expr) (elt : Expr) (S : Src) (L : Lg) (st : V → Lg → (En → Lg → Prop) → Prop) (p : Nat → Bool) (pl : Nat → HO) : Prop where
  n : S.n ≤ 1000000
  kp : ∀ M, (∀ e ∈ L, e ∈ M) → S.keep M
  tn : ∀ i x E R M, i < S.n → S.item i x E → ((E ++ M).map (·.1)).Nodup → (∀ e ∈ L, e ∈ R) → Sub R M → st x (E ++ M) fun θ M' => AllBlk X scope fun B => GTs B ifs θ M' fun b M1 => b = p i ∧ Sub R M1 ∧ (b = true → AllBlk X scope fun B => GE B elt θ M1 fun z M2 => ∃ a, z = .ref a ∧ Sub ((a, pl i) :: R) M2)
theorem range_moreO {p : Nat → Bool} {g : Nat → HO} {i : Nat} : ((List.range (i + 1)).filter p).map g = ((List.range i).filter p).map g ++ (if p i = true then [g i] else []) := by
  rw [List.range_succ, List.filter_append, List.map_append]
  congr 1
  by_cases h : p i = true
  · rw [if_pos h, List.filter_cons_of_pos h]
    rfl
  · rw [if_neg h, List.filter_cons_of_neg h]
    rfl
theorem rotE {a b : Addr × HO} {es L : Lg} : Sub (b :: ((es ++ [a]) ++ L)) (b :: a :: (es ++ L)) := Sub.perm (by
  refine .cons b ?_
  rw [List.append_assoc]
  exact List.perm_middle)
theorem rotE2 {a b : Addr × HO} {R : Lg} : Sub (b :: a :: R) (a :: b :: R) := Sub.perm (.swap _ _ _)
theorem FreshC.lc {S : Src} {st : V → Lg → (En → Lg → Prop) → Prop} {p : Nat → Bool} {pl : Nat → HO} (h : FreshC X scope ifs elt S L st p pl) (mono : ∀ v M (k k' : En → Lg → Prop), (∀ θ M', k θ M' → k' θ M') → st v M k → st v M k') (D : Addr)
    (q : ∀ es : Lg, es.map (·.2) = ((List.range S.n).filter p).map pl → Q (.ref D) ((D, .lst (refs es)) :: (es ++ L))) : ∃ Pv, LcS X scope ifs elt S D L st Pv (drp Q) := by
  refine ⟨fun i M => ∃ es : Lg, es.map (·.2) = ((List.range i).filter p).map pl ∧ Sub ((D, .lst (refs es)) :: (es ++ L)) M, ⟨[], rfl, Sub.refl⟩, fun i M _ nd ⟨es, _, s⟩ => h.kp M fun e m => (s.to nd).2 e (List.mem_cons_of_mem _ (memR m)), fun i x E M hi it nd ⟨es, e0, s⟩ => ?_, fun M ⟨es, e0, s⟩ => ⟨_, s, q es e0⟩⟩
  refine mono x (E ++ M) _ _ (fun θ M' k => ?_) (h.tn i x E _ M hi it nd (fun e m => List.mem_cons_of_mem _ (memR m)) s)
  intro s1 H1 C1 cl1 fp1
  have k1 := k s1 H1 C1 cl1 fp1
  have more := range_moreO (p := p) (g := pl) (i := i)
  have key : ∀ b M1, (b = p i ∧ Sub ((D, .lst (refs es)) :: (es ++ L)) M1 ∧ (b = true → AllBlk X scope fun B => GE B elt θ M1 fun z M2 => ∃ a, z = .ref a ∧ Sub ((a, pl i) :: (D, .lst (refs es)) :: (es ++ L)) M2)) →
      if b = true then AllBlk X scope fun B => GE B elt θ M1 fun y M2 => ∃ acc M3, (D, HO.lst acc) ∈ M2 ∧ acc.length < sizeLine ∧ Swap D (.lst (acc ++ [y])) M2 M3 ∧ ∃ es : Lg, es.map (·.2) = ((List.range (i + 1)).filter p).map pl ∧ Sub ((D, .lst (refs es)) :: (es ++ L)) M3
      else ∃ es : Lg, es.map (·.2) = ((List.range (i + 1)).filter p).map pl ∧ Sub ((D, .lst (refs es)) :: (es ++ L)) M1 := fun b M1 ⟨eb, sb, hb⟩ => by
    cases b with
    | true =>
      rw [if_pos rfl]
      intro s2 H2 C2 cl2 fp2
      refine GE.nd ((hb rfl s2 H2 C2 cl2 fp2).imp fun y M2 ⟨a, ey, s3⟩ nd => ?_)
      have s4 : Sub ((D, .lst (refs es)) :: (a, pl i) :: (es ++ L)) M2 := rotE2.trans s3
      have m2 := (s4.to nd).2 _ List.mem_cons_self
      obtain ⟨M3, sw⟩ := Swap.ex (o := .lst (refs es ++ [y])) (u := .lst (refs es)) rfl m2
      have len : es.length ≤ i := by
        have e1 := congrArg List.length e0
        rw [List.length_map, List.length_map] at e1
        have := List.length_filter_le p (List.range i)
        rw [List.length_range] at this
        omega
      refine ⟨_, M3, m2, ?_, sw, es ++ [(a, pl i)], ?_, ?_⟩
      · rw [List.length_map, sizeLine_eq]
        have := h.n
        omega
      · rw [more, if_pos eb.symm, List.map_append, e0]
        rfl
      · subst ey
        have z : Sub ((D, .lst (refs es ++ [V.ref a])) :: (a, pl i) :: (es ++ L)) M3 := s4.swap sw
        have e2 : refs (es ++ [(a, pl i)]) = refs es ++ [V.ref a] := by
          show List.map _ _ = _
          rw [List.map_append]
          rfl
        rw [e2]
        exact rotE.trans z
    | false =>
      rw [if_neg Bool.false_ne_true]
      refine ⟨es, ?_, sb⟩
      rw [more, if_neg (by rw [← eb]; exact Bool.false_ne_true), List.append_nil]
      exact e0
  match ifs, k1 with
  | [], k1 => exact key _ _ k1
  | [c], k1 => exact k1.imp fun b M1 z => key b M1 z
def FreshL (X : Cx) (scope : Scope) (ifs : List Expr) (elt : Expr) (st : V → Lg → (En → Lg → Prop) → Prop) (R : V → Lg → Prop) (S : Src) (L1 : Lg) : Prop := ∃ p pl, FreshC X scope ifs elt S L1 st p pl ∧ ∀ D es, es.map (·.2) = ((List.range S.n).filter p).map pl → R (.ref D) ((D, .lst (refs es)) :: (es ++ L1))
/-- [elt for x in iter if ..], each turn makes one new object -/
theorem ge_lcF (P : PutF x η f) (h : GI X (.Name x p1) iter η L (FreshL X scope ifs elt (stOne f) Q)) (hb : blkC X.N X.env.scope scope [(x, X.N.idxOf x)] = true) (hlx : LocB X scope x := by exact fun _ _ _ _ _ => ⟨.inl rfl, .inr rfl⟩)
    (hN : X.N.Nodup := by assumption) (hc : X.calm = true := by rfl) (hs : ∀ z, foldedSetIterable iter X.env z = pure z := by intro _; rfl) : GE X (.ListComp elt [⟨.Name x p1, iter, ifs, 0⟩] scope pos) η L Q :=
  GE.undrp (ge_lc1 P (h.imp fun S L1 ⟨p, g, pc, q⟩ D => pc.lc monoOne D (q D)) hb hlx hN hc hs)
theorem ge_lcF2 {kt : Nat} {pt : Pos} (P : PutF x η f) (R : ∀ v, PutF y (f v) (g v)) (h : GI X (.Tuple [.Name x p1, .Name y p2] kt pt) iter η L (FreshL X scope ifs elt (stTwo g) Q)) (hxy : x ≠ y) (hb : blkC X.N X.env.scope scope [(x, X.N.idxOf x), (y, X.N.idxOf y)] = true) (hlx : LocB X scope x := by exact fun _ _ _ _ _ => ⟨.inl rfl, .inr rfl⟩) (hly : LocB X scope y := by exact fun _ _ _ _ _ => ⟨.inl rfl, .inr rfl⟩)
    (hN : X.N.Nodup := by assumption) (hc : X.calm = true := by rfl) (hs : ∀ z, foldedSetIterable iter X.env z = pure z := by intro _; rfl) : GE X (.ListComp elt [⟨.Tuple [.Name x p1, .Name y p2] kt pt, iter, ifs, 0⟩] scope pos) η L Q :=
  GE.undrp (ge_lc2 P R (h.imp fun S L1 ⟨p, g, pc, q⟩ D => pc.lc monoTwo D (q D)) hxy hb hlx hly hN hc hs)
theorem gs_lcF2 {D : GD} {fy : V → En} {z : Str} {pz : Pos} {kt : Nat} {pt : Pos} (Pz : PutF z η fy) (P : PutF x η f) (R : ∀ v, PutF y (f v) (g v)) (h : GI X (.Tuple [.Name x p1, .Name y p2] kt pt) iter η L (FreshL X scope ifs elt (stTwo g) fun v M => D.nx (fy v) M)) (hxy : x ≠ y) (hb : blkC X.N X.env.scope scope [(x, X.N.idxOf x), (y, X.N.idxOf y)] = true) (hlx : LocB X scope x := by exact fun _ _ _ _ _ => ⟨.inl rfl, .inr rfl⟩) (hly : LocB X scope y := by exact fun _ _ _ _ _ => ⟨.inl rfl, .inr rfl⟩)
    (hzl : X.env.scope.names.lookup z = some .local := by rfl) (hsw : swapsWith (.ListComp elt [⟨.Tuple [.Name x p1, .Name y p2] kt pt, iter, ifs, 0⟩] scope pos) (some (.Name z pz)) p3.line X.env = pure true := by rfl)
    (hN : X.N.Nodup := by assumption) (hc : X.calm = true := by rfl) (hs : ∀ z, foldedSetIterable iter X.env z = pure z := by intro _; rfl) : GS X (.Assign [.Name z pz] (.ListComp elt [⟨.Tuple [.Name x p1, .Name y p2] kt pt, iter, ifs, 0⟩] scope pos) p3) D η L :=
  GS.undrp (gs_lc2 Pz P R (h.imp fun S L1 ⟨p, g, pc, q⟩ d => pc.lc (Q := fun v M => D.nx (fy v) M) monoTwo d (q d)) hxy hb hlx hly hzl hsw hN hc hs)
variable {R : V → Lg → Prop} {q : Addr} {o : HO} {xs : List V} {p : Nat → Bool} {pl : Nat → HO}
/-- over a row -/
theorem fresh_rowO (mq : (q, o) ∈ L) (hl : xs.length ≤ 1000000) (ht : ∀ i v R, xs[i]? = some v → (∀ e ∈ L, e ∈ R) → TurnF X scope ifs elt R (f v) (p i) (pl i)) (r : ∀ D es, es.map (·.2) = ((List.range xs.length).filter p).map pl → R (.ref D) ((D, .lst (refs es)) :: (es ++ L))) : FreshL X scope ifs elt (stOne f) R ⟨xs.length, fun M => (q, o) ∈ M, itemAt xs⟩ L := by
  refine ⟨p, pl, ⟨hl, fun M h => h _ mq, fun i x E R M hi ⟨hx, hE⟩ _ hR s => ?_⟩, r⟩
  subst hE
  exact turnF_use (ht i x R hx hR) s
/-- pairs of a row that stand in the ledger -/
theorem fresh_row2 (mq : (q, o) ∈ L) (hl : xs.length ≤ 1000000) (ht : ∀ i v, xs[i]? = some v → ∃ t a b, v = .ref t ∧ (t, HO.tup [a, b]) ∈ L ∧ ∀ R, (∀ e ∈ L, e ∈ R) → TurnF X scope ifs elt R (g a b) (p i) (pl i)) (r : ∀ D es, es.map (·.2) = ((List.range xs.length).filter p).map pl → R (.ref D) ((D, .lst (refs es)) :: (es ++ L))) : FreshL X scope ifs elt (stTwo g) R ⟨xs.length, fun M => (q, o) ∈ M, itemAt xs⟩ L := by
  refine ⟨p, pl, ⟨hl, fun M h => h _ mq, fun i x E R M hi ⟨hx, hE⟩ nd hR s => ?_⟩, r⟩
  subst hE
  obtain ⟨t, a, b, ev, m, k⟩ := ht i x hx
  exact ⟨t, a, b, ev, (s.to nd).2 _ (hR _ m), turnF_use (k R hR) s⟩
/-- a pure comprehension over pairs that stand in the ledger -/
theorem pure_row2 {pg : Nat → V} {pt : Nat → Bool} (mq : (q, o) ∈ L) (hl : xs.length ≤ 1000000) (ht : ∀ i v, xs[i]? = some v → ∃ t a b, v = .ref t ∧ (t, HO.tup [a, b]) ∈ L ∧ TurnP X scope ifs elt L (g a b) (pt i) (pg i)) (r : ∀ D, R (.ref D) ((D, .lst (((List.range xs.length).filter pt).map pg)) :: L)) : PureL X scope ifs elt (stTwo g) R ⟨xs.length, fun M => (q, o) ∈ M, itemAt xs⟩ L := by
  refine ⟨pt, pg, ⟨hl, fun M h => h _ mq, fun i x E D acc M hi ⟨hx, hE⟩ nd s => ?_⟩, r⟩
  subst hE
  obtain ⟨t, a, b, ev, m, k⟩ := ht i x hx
  exact ⟨t, a, b, ev, (s.to nd).2 _ (memS m), turnP_use (st := stTwo g) k s⟩
end
theorem at_ints {l : List Int} {i : Nat} (h : i < l.length) : atI (l.map V.int) (i : Int) = some (.int (l.getD i 0)) := atI_nat (by rw [List.getElem?_map, List.getD_eq_getElem?_getD, List.getElem?_eq_getElem h] <;> rfl)
theorem es_pairs : ∀ {es : Lg} {ds : List (Int × Int)}, es.map (·.2) = ds.map (fun d => HO.tup [.int d.1, .int d.2]) → ∃ ps : List Pr2, ps.map (fun e => (e.1, HO.tup [.int e.2.1, .int e.2.2])) = es ∧ ps.map (·.2) = ds
  | [], [], _ => ⟨[], rfl, rfl⟩
  | [], _ :: _, h => by cases h
  | _ :: _, [], h => by cases h
  | e :: es, d :: ds, h => by
    rw [List.map_cons, List.map_cons] at h
    injection h with h1 h2
    obtain ⟨ps, l, e2⟩ := es_pairs h2
    refine ⟨(e.1, d) :: ps, ?_, by rw [List.map_cons, e2]⟩
    rw [List.map_cons, l, ← h1]
section
variable {X : Cx} {η : En} {L : Lg} {a b c : Expr} {op op' : CmpOp} {pos : Pos} {Q : Bool → Lg → Prop}
/-- a < b < c as a test -/
theorem gt_chain (h : GE X a η L fun x L1 => GE X b η L1 fun y L2 => GOp X (compareOp op) x y L2 fun z L3 => ∃ k, z = .bl k ∧ if k = true then GE X c η L3 fun w L4 => GOp X (compareOp op') y w L4 fun z L5 => ∃ k, z = .bl k ∧ Q k L5 else Q false L3)
    (hm : lastMarks [op, op'] [b, c] = false := by with_unfolding_all rfl) : GT X (.Compare a [op, op'] [b, c] pos) η L Q := fun hN H hH =>
  WT.of (pt_chain (r := fun x y H' Q' => ∀ pins s σ v u, Inv X pins σ H' s → RelV x v → RelV y u → wpAny (model X.prog X.w) X.A (compareOp op v u) (EP X pins σ Q') X.xe s)
    (r' := fun x y H' Q' => ∀ pins s σ v u, Inv X pins σ H' s → RelV x v → RelV y u → wpAny (model X.prog X.w) X.A (compareOp op' v u) (EP X pins σ Q') X.xe s)
    (fun pins s σ H' x y v u Q' I r1 r2 q => q pins s σ v u I r1 r2) (fun pins s σ H' x y v u Q' I r1 r2 q => q pins s σ v u I r1 r2) pe_W pe_W pe_W hm)
    (h.then hN hH fun x _ _ h1 q1 => q1.then hN h1 fun y _ _ h2 q2 => fun pins s σ v u I r1 r2 => by
      refine wpAny_mono (q2 pins s σ _ v u h2 I r1 r2) (fun z s' zz => ?_) fun _ _ z => z
      obtain ⟨zv, H3, I3, r3, L3, h3, k, ek, q3⟩ := zz
      refine ⟨zv, H3, I3, r3, k, ek, ?_⟩
      cases k with
      | true =>
        rw [if_pos rfl] at q3
        rw [if_pos rfl]
        exact q3.then hN h3 fun w L4 H4 h4 q4 => fun pins s σ v u I r1 r2 => thn (q4 pins s σ _ v u h4 I r1 r2) fun _ _ ⟨z, H5, J, r5, L5, h5, k5, ek5, q5⟩ => ⟨z, H5, J, r5, k5, ek5, L5, h5, q5⟩
      | false =>
        rw [if_neg Bool.false_ne_true] at q3
        rw [if_neg Bool.false_ne_true]
        exact ⟨false, rfl, L3, h3, q3⟩)
end
theorem gat_fldA {X : Cx} {L : Lg} {Q : QV} {a C dx : Addr} {fs : List (Str × V)} {n : Str} {v : V} (mm : (a, HO.ins C dx fs) ∈ L) (c : L2.Cls X.K C) (no : NoAttr X.K C n) (l : fs.lookup n = some v) (q : Q v L) : GAt X n (.ref a) L Q := gat_fld c no mm l q
section
variable {X : Cx} {L : Lg} {Q : QV} {p : Addr} {xs : List V}
theorem gc_tupL (m : (p, HO.lst xs) ∈ L) (h : ∀ q, Q (.ref q) ((q, .tup xs) :: L)) : GC X (.type "tuple") [.ref p] L Q := GC.of call_tuple_of fun H hH => ⟨p, xs, rfl, .inl ⟨sql hH m, fun l hl => ⟨_, hH.new hl, h l⟩⟩⟩
end
end G
set_option Elab.async false
set_option linter.all false
set_option maxRecDepth 100000
set_option maxHeartbeats 4000000
namespace G
open PySem PySem.Spec PyProof.Rows L2 NdefX ClX
def GJs (X : Cx) (es : List Expr) (η : En) (acc : Str) (L : Lg) (Q : Str → Lg → Prop) : Prop := match es with
  | [] => Q acc L
  | e :: r => GE X e η L fun x L1 => ∃ y : Str, x = .str y ∧ (acc ++ y).length ≤ sizeLine ∧ GJs X r η (acc ++ y) L1 Q
section
variable {X : Cx} {η : En} {L : Lg} {Q : QV} {e : Expr} {pos : Pos}
theorem GJs.to : ∀ {es : List Expr} {acc : Str} {L : Lg} {Q : Str → Lg → Prop} {Q' : Str → Hp → Prop}, GJs X es η acc L Q → X.N = names η → ∀ {H : Hp}, Has H L → (∀ v L1 H1, Has H1 L1 → Q v L1 → Q' v H1) → tJs (es.map (WE X)) acc (vals η) H Q'
  | [], acc, L, Q, Q', h, hN, H, hH, m => m _ _ _ hH h
  | e :: r, acc, L, Q, Q', h, hN, H, hH, m => GE.then h hN hH fun x L1 H1 h1 ⟨y, ey, z, q⟩ => ⟨y, ey, z, GJs.to q hN h1 m⟩
end
end G
set_option Elab.async false
set_option linter.all false
set_option maxRecDepth 100000
set_option maxHeartbeats 4000000
namespace PySem.W
open PySem PySem.Calls PyProof.Rows
end PySem.W
namespace G
open PySem PySem.Spec PyProof.Rows L2
end G
set_option Elab.async false
set_option linter.all false
set_option maxRecDepth 100000
set_option maxHeartbeats 4000000
namespace PySem.HandSPX
open Builtin Builtin.ObjectAttr
end PySem.HandSPX
set_option Elab.async false
set_option linter.all false
set_option maxRecDepth 100000
set_option maxHeartbeats 4000000
namespace G
open PySem PySem.Spec PyProof.Rows L2 NdefX
section
variable {X : Cx} {η : En} {L : Lg} {Q : QV} {a C D dd : Addr} {fs : List (Str × V)} {c v : V} {cv : Value} {b : Bool} {n : Str}
/-- an error object in the ledger, of one class -/
inductive ErO (C : Addr) (a : Addr) (L : Lg) : Prop
  | own {dd : Addr} {fs : List (Str × V)} (m : (a, exo a C (some dd)) ∈ L) (md : (dd, exd dd fs) ∈ L) : ErO C a L
  | bare (m : (a, ExO (.ref C) a) ∈ L) : ErO C a L
theorem ErO.mono {L M : Lg} (h : ErO C a L) (s : ∀ e ∈ L, e ∈ M) : ErO C a M := by
  cases h with
  | own m md => exact .own (s _ m) (s _ md)
  | bare m => exact .bare (s _ m)
end
end G
set_option Elab.async false
set_option linter.all false
set_option maxRecDepth 100000
set_option maxHeartbeats 4000000
namespace G
open PySem PySem.Spec PyProof.Rows L2
/-- v is the value d, read without sys.modules -/
def RdS (L : Lg) (v : V) (d : PyData) : Prop := ∀ (X : Cx) (pins : List (Addr × Obj)) (σ : L2.St) (H : Hp) (s : Shared) (u : Value), Has H L → Inv X pins σ H s → RelV v u → ∃ as, Reads s.heap u d as ∧ sysModules ∉ as
section
variable {L : Lg} {v : V} {d : PyData} {p : Addr} {x : Str} {i : Int} {vs : List V} {ds : List PyData}
theorem RdS.rd (h : RdS L v d) : Rd L v d := fun X pins σ H s u hH I r => by
  obtain ⟨as, q, n⟩ := h X pins σ H s u hH I r
  exact ⟨as, q, fun _ => n⟩
theorem RdS.sub {M : Lg} (s : Sub L M) (h : RdS L v d) : RdS M v d := fun X pins σ H s' u hH I r => h X pins σ H s' u (s H hH) I r
/-- values in a row -/
inductive RdA (L : Lg) : List V → List PyData → Prop
  | nil : RdA L [] []
  | cons {v : V} {d : PyData} {vs : List V} {ds : List PyData} (h : RdS L v d) (r : RdA L vs ds) : RdA L (v :: vs) (d :: ds)
theorem RdA.run {X : Cx} {pins : List (Addr × Obj)} {σ : L2.St} {H : Hp} {s : Shared} (hH : Has H L) (I : Inv X pins σ H s) : ∀ {vs : List V} {ds : List PyData} {us : List Value}, RdA L vs ds → Vals vs us → ∃ as, ReadsAll s.heap us ds as ∧ sysModules ∉ as
  | _, _, _, .nil, .nil => ⟨[], .nil, by simp⟩
  | _, _, _, .cons h r, .cons q t => by
    obtain ⟨as, a1, a2⟩ := h X pins σ H s _ hH I q
    obtain ⟨bs, b1, b2⟩ := r.run hH I t
    exact ⟨as ++ bs, .cons a1 b1, by simp [a2, b2]⟩
end
/-- a value that is shown, alone or in a list -/
structure OddS (L : Lg) (v : V) (d : PyData) : Prop where
  o : Odd L v d
  r : RdS L v d
  dp : d.depth ≤ 10
theorem OddS.drop {L : Lg} {v : V} {d : PyData} {a : Addr × HO} (h : OddS L v d) : OddS (a :: L) v d := ⟨h.o.drop, h.r.sub Sub.drop, h.dp⟩
end G
set_option Elab.async false
set_option linter.all false
set_option maxRecDepth 100000
set_option maxHeartbeats 4000000
namespace G
open PySem PySem.Spec PyProof.Rows L2
section
variable {X : Cx} {L : Lg} {Q : QV} {q : Addr}
theorem gc_anyB {bs : List Bool} (hc : X.calm = true) (m : (q, HO.lst (bs.map V.bl)) ∈ L) (h : Q (.bl (bs.any id)) L) : GC X (.builtin "any") [.ref q] L Q := GC.of (cr_any hc) fun H hH => ⟨q, bs, rfl, sql hH m, L, hH, h⟩
theorem gc_allB {bs : List Bool} (hc : X.calm = true) (m : (q, HO.lst (bs.map V.bl)) ∈ L) (h : Q (.bl (bs.all id)) L) : GC X (.builtin "all") [.ref q] L Q := GC.of (cr_all hc) fun H hH => ⟨q, bs, rfl, sql hH m, L, hH, h⟩
theorem gc_sumI {ns : List Int} (hc : X.calm = true) (m : (q, HO.lst (ns.map V.int)) ∈ L) (h : Q (.int ns.sum) L) : GC X (.builtin "sum") [.ref q] L Q := GC.of (cr_sum hc) fun H hH => ⟨q, ns, rfl, sql hH m, L, hH, h⟩
theorem gc_max2 {i j : Int} (hc : X.calm = true) (h : Q (.int (if j > i then j else i)) L) : GC X (.builtin "max") [.int i, .int j] L Q := GC.of (call_max2 hc) fun H hH => ⟨i, j, rfl, L, hH, h⟩
/-- the pair at an address -/
def keyP (ps : List Pr2) : V → Int × Int
  | .ref a => ((ps.find? fun e => e.1 == a).map (·.2)).getD (0, 0)
  | _ => (0, 0)
theorem keyP_at {ps : List Pr2} {H : Hp} (hH : Has H L) (ht : ∀ e ∈ ps, (e.1, HO.tup [.int e.2.1, .int e.2.2]) ∈ L) {e : Pr2} (he : e ∈ ps) : keyP ps (.ref e.1) = e.2 := by
  have f : ∃ e', ps.find? (fun e' => e'.1 == e.1) = some e' := by
    cases z : ps.find? (fun e' => e'.1 == e.1) with
    | some e' => exact ⟨e', rfl⟩
    | none =>
      have := List.find?_eq_none.mp z e he
      simp at this
  obtain ⟨e', z⟩ := f
  have m' := List.mem_of_find?_eq_some z
  have k' : e'.1 = e.1 := by
    have := List.find?_some z
    simpa using this
  have h1 := hH.get (ht e he)
  have h2 := hH.get (ht e' m')
  rw [k', h1] at h2
  show ((ps.find? fun e' => e'.1 == e.1).map (·.2)).getD (0, 0) = e.2
  rw [z]
  show e'.2 = e.2
  have t := Option.some.inj h2
  injection t with t
  injection t with t1 t2
  injection t2 with t2 _
  exact Prod.ext (V.int.inj t1).symm (V.int.inj t2).symm
/-- sorted of pairs -/
theorem gc_sortedP {ps : List Pr2} (m : (q, HO.lst (ps.map fun e => V.ref e.1)) ∈ L) (ht : ∀ e ∈ ps, (e.1, HO.tup [.int e.2.1, .int e.2.2]) ∈ L)
    (h : ∀ (qs : List Pr2) p, qs.Perm ps → (qs.map (·.2)).Pairwise le2 → Q (.ref p) ((p, .lst (qs.map fun e => V.ref e.1)) :: L)) : GC X (.builtin "sorted") [.ref q] L Q :=
  GC.of cr_sortedPO fun H hH => ⟨q, _, keyP ps, rfl, sql hH m, fun x hx => by
    obtain ⟨e, he, rfl⟩ := List.mem_map.mp hx
    refine ⟨e.1, rfl, ?_⟩
    rw [keyP_at hH ht he]
    exact hH.get (ht e he), fun ys p srt stb hp => by
    obtain ⟨qs, hq, rfl⟩ : ∃ qs : List Pr2, qs.Perm ps ∧ ys = qs.map fun e => V.ref e.1 := by
      clear h
      have pm := stb.perm
      clear stb srt
      generalize e1 : (ps.map fun e => V.ref e.1) = zs at pm
      clear m
      have key : ∀ (ys zs : List V), ys.Perm zs → ∀ ps : List Pr2, (ps.map fun e => V.ref e.1) = zs → ∃ qs : List Pr2, qs.Perm ps ∧ ys = qs.map fun e => V.ref e.1 := fun ys zs pm => by
        induction pm with
        | nil => exact fun ps e => ⟨[], by rw [List.map_eq_nil_iff.mp e], rfl⟩
        | cons x _ ih =>
          intro ps e
          obtain ⟨a, r, rfl, e2, e3⟩ := List.map_eq_cons_iff.mp e
          obtain ⟨qs, h1, h2⟩ := ih r e3
          exact ⟨a :: qs, h1.cons a, by rw [h2, ← e2]; rfl⟩
        | swap x y l =>
          intro ps e
          obtain ⟨a, r, rfl, e2, e3⟩ := List.map_eq_cons_iff.mp e
          obtain ⟨b, s, rfl, e4, e5⟩ := List.map_eq_cons_iff.mp e3
          exact ⟨b :: a :: s, .swap _ _ _, by rw [← e2, ← e4, ← e5]; rfl⟩
        | trans _ _ ih1 ih2 =>
          intro ps e
          obtain ⟨qs, h1, h2⟩ := ih2 ps e
          obtain ⟨rs, h3, h4⟩ := ih1 qs h2.symm
          exact ⟨rs, h3.trans h1, h4⟩
      exact key ys zs pm ps e1
    refine ⟨_, hH.new hp, h qs p hq ?_⟩
    rw [List.pairwise_map]
    have s2 : qs.Pairwise fun x y => SrtO.lexB (keyP ps (.ref y.1)) (keyP ps (.ref x.1)) = false := List.pairwise_map.mp srt
    refine s2.imp_of_mem fun {a b} ha hb z => ?_
    rw [keyP_at hH ht (hq.mem_iff.mp ha), keyP_at hH ht (hq.mem_iff.mp hb)] at z
    have := SrtO.lexB_no.mp z
    unfold le2
    omega⟩
end
theorem bt_any : bootBuiltins "any" = some (.builtin "any") := by decide +kernel
theorem bt_all : bootBuiltins "all" = some (.builtin "all") := by decide +kernel
theorem bt_sum : bootBuiltins "sum" = some (.builtin "sum") := by decide +kernel
theorem bt_max : bootBuiltins "max" = some (.builtin "max") := by decide +kernel
section
variable {X : Cx} {η : En} {L : Lg} {Q : QV} {e : Expr} {es : List Expr} {pos p : Pos}
theorem gb_any (B : Bi X.mg) (h : GA X (e :: es) η L fun xs L1 => GC X (.builtin "any") xs L1 Q) (hg : Gl X "any" := by rfl) (he : starEach (e :: es) X.env = (false, eval e X.env) :: starEach es X.env := by rfl) (hpl : (backTo pos (starEach es X.env)).any (·.1) = false := by rfl) :
    GE X (.Call (.Name "any" p) (e :: es) [] pos) η L Q := ge_B B.any bt_any h hg (by decide) (by decide) he hpl
theorem gb_all (B : Bi X.mg) (h : GA X (e :: es) η L fun xs L1 => GC X (.builtin "all") xs L1 Q) (hg : Gl X "all" := by rfl) (he : starEach (e :: es) X.env = (false, eval e X.env) :: starEach es X.env := by rfl) (hpl : (backTo pos (starEach es X.env)).any (·.1) = false := by rfl) :
    GE X (.Call (.Name "all" p) (e :: es) [] pos) η L Q := ge_B B.all bt_all h hg (by decide) (by decide) he hpl
theorem gb_sum (B : Bi X.mg) (h : GA X (e :: es) η L fun xs L1 => GC X (.builtin "sum") xs L1 Q) (hg : Gl X "sum" := by rfl) (he : starEach (e :: es) X.env = (false, eval e X.env) :: starEach es X.env := by rfl) (hpl : (backTo pos (starEach es X.env)).any (·.1) = false := by rfl) :
    GE X (.Call (.Name "sum" p) (e :: es) [] pos) η L Q := ge_B B.sum bt_sum h hg (by decide) (by decide) he hpl
theorem gb_max (B : Bi X.mg) (h : GA X (e :: es) η L fun xs L1 => GC X (.builtin "max") xs L1 Q) (hg : Gl X "max" := by rfl) (he : starEach (e :: es) X.env = (false, eval e X.env) :: starEach es X.env := by rfl) (hpl : (backTo pos (starEach es X.env)).any (·.1) = false := by rfl) :
    GE X (.Call (.Name "max" p) (e :: es) [] pos) η L Q := ge_B B.max bt_max h hg (by decide) (by decide) he hpl
end
theorem cut_front {ms : List V} {l : V} : cutV (ms ++ [l]) none (some (-1)) = ms := by
  unfold cutV
  have e1 : HT.sIx (ms ++ [l]).length 0 none = 0 := rfl
  have e2 : HT.sIx (ms ++ [l]).length (ms ++ [l]).length (some (-1)) = ms.length := by
    show (if (-1 : Int) < 0 then ((-1 : Int) + ((ms ++ [l]).length : Int)).toNat else min (-1 : Int).toNat (ms ++ [l]).length) = _
    rw [if_pos (by decide), List.length_append, List.length_singleton]
    omega
  rw [e1, e2, List.drop_zero, Nat.sub_zero, List.take_left]
theorem cut_from {xs : List V} {k : Nat} (h : k ≤ xs.length) : cutV xs (some (k : Int)) none = xs.drop k := by
  unfold cutV
  rw [HT.sIx_nat, HT.sIx_none, Nat.min_eq_left h]
  exact List.take_of_length_le (by rw [List.length_drop]; exact Nat.le_refl _)
theorem cut_to {xs : List V} {k : Nat} (h : k ≤ xs.length) : cutV xs none (some (k : Int)) = xs.take k := by
  unfold cutV
  rw [HT.sIx_nat, HT.sIx_none, Nat.min_eq_left h, List.drop_zero, Nat.sub_zero]
theorem cut_mid {ms : List V} {l : V} {k : Nat} (h : k ≤ ms.length) : cutV (ms ++ [l]) (some (k : Int)) (some (-1)) = ms.drop k := by
  unfold cutV
  have e2 : HT.sIx (ms ++ [l]).length (ms ++ [l]).length (some (-1)) = ms.length := by
    show (if (-1 : Int) < 0 then ((-1 : Int) + ((ms ++ [l]).length : Int)).toNat else min (-1 : Int).toNat (ms ++ [l]).length) = _
    rw [if_pos (by decide), List.length_append, List.length_singleton]
    omega
  rw [HT.sIx_nat, e2, Nat.min_eq_left (by rw [List.length_append]; omega), List.drop_append_of_le_length h]
  exact List.take_left' (by rw [List.length_drop])
theorem eqvP2 (p q : Int × Int) : PyData.eqv (P2 p) (P2 q) = decide (p = q) := by
  have e : PyData.eqv (P2 p) (P2 q) = (decide (p.1 = q.1) && decide (p.2 = q.2)) := by
    simp only [PyData.eqv, PyData.eqvAll, Bool.and_true]
    rfl
  rw [e]
  obtain ⟨a, b⟩ := p
  obtain ⟨c, d⟩ := q
  by_cases h : a = c <;> by_cases k : b = d <;> simp [h, k]
theorem eqvPs : ∀ ns ms : List (Int × Int), PyData.eqvAll (ns.map P2) (ms.map P2) = decide (ns = ms)
  | [], [] => by simp [PyData.eqvAll]
  | [], m :: r => by simp [PyData.eqvAll]
  | n :: r, [] => by simp [PyData.eqvAll]
  | n :: r, m :: q => by
    have e := eqvPs r q
    rw [List.map_cons, List.map_cons, PyData.eqvAll, eqvP2, e]
    by_cases h : n = m <;> by_cases k : r = q <;> simp [h, k]
theorem layPs : ∀ ns : List (Int × Int), PyData.canLayAll0 (ns.map P2) = true
  | [] => by simp [PyData.canLayAll0]
  | n :: r => by
    have e := layPs r
    simp [PyData.canLayAll0, PyData.canLay0, e]
theorem depthPs (ns : List (Int × Int)) : PyData.depthAll (ns.map P2) ≤ 1 := depth2 ns
theorem shapedPL (ns : List (Int × Int)) : SeqAt.shaped (.list (ns.map P2)) = true := by
  have a := depthPs ns
  have b := layPs ns
  simp [SeqAt.shaped, PyData.canLay0, PyData.depth, b]
  omega
theorem shapedPT (ns : List (Int × Int)) : SeqAt.shaped (.tuple (ns.map P2)) = true := by
  have a := depthPs ns
  have b := layPs ns
  simp [SeqAt.shaped, PyData.canLay0, PyData.depth, b]
  omega
section
variable {X : Cx} {L : Lg} {Q : QV} {j : Nat} {p q : Addr} {xs ys : List V} {ps qs : List Pr2}
abbrev PrL (ps : List Pr2) (L : Lg) : Prop := ∀ e ∈ ps, (e.1, HO.tup [.int e.2.1, .int e.2.2]) ∈ L
theorem dl_prL (m : (p, HO.lst xs) ∈ L) (e : xs = ps.map fun e => V.ref e.1) (h : PrL ps L) : Dl L (.ref p) (.list ((ps.map (·.2)).map P2)) := dl_lst m (e ▸ dls_prs h)
theorem dl_prT (m : (p, HO.tup xs) ∈ L) (e : xs = ps.map fun e => V.ref e.1) (h : PrL ps L) : Dl L (.ref p) (.tuple ((ps.map (·.2)).map P2)) := dl_tup m (e ▸ dls_prs h)
theorem go_eqPL (hr : RoomG j X.A) (m1 : (p, HO.lst xs) ∈ L) (m2 : (q, HO.lst ys) ∈ L) (e1 : xs = ps.map fun e => V.ref e.1) (e2 : ys = qs.map fun e => V.ref e.1) (h1 : PrL ps L) (h2 : PrL qs L) (h : Q (.bl (decide (ps.map (·.2) = qs.map (·.2)))) L) : GOp X (compareOp .Eq) (.ref p) (.ref q) L Q :=
  go_eqD hr.toRoom (dl_prL m1 e1 h1) (dl_prL m2 e2 h2) (shapedPL _) (shapedPL _) (by
    have e : PyData.eqv (.list ((ps.map (·.2)).map P2)) (.list ((qs.map (·.2)).map P2)) = PyData.eqvAll ((ps.map (·.2)).map P2) ((qs.map (·.2)).map P2) := by simp [PyData.eqv]
    rw [e, eqvPs]
    exact h)
theorem go_nePL (hr : RoomG j X.A) (m1 : (p, HO.lst xs) ∈ L) (m2 : (q, HO.lst ys) ∈ L) (e1 : xs = ps.map fun e => V.ref e.1) (e2 : ys = qs.map fun e => V.ref e.1) (h1 : PrL ps L) (h2 : PrL qs L) (h : Q (.bl (!decide (ps.map (·.2) = qs.map (·.2)))) L) : GOp X (compareOp .NotEq) (.ref p) (.ref q) L Q :=
  go_neD hr.toRoom (dl_prL m1 e1 h1) (dl_prL m2 e2 h2) (shapedPL _) (shapedPL _) (by
    have e : PyData.eqv (.list ((ps.map (·.2)).map P2)) (.list ((qs.map (·.2)).map P2)) = PyData.eqvAll ((ps.map (·.2)).map P2) ((qs.map (·.2)).map P2) := by simp [PyData.eqv]
    rw [e, eqvPs]
    exact h)
theorem go_eqPT (hr : RoomG j X.A) (m1 : (p, HO.tup xs) ∈ L) (m2 : (q, HO.tup ys) ∈ L) (e1 : xs = ps.map fun e => V.ref e.1) (e2 : ys = qs.map fun e => V.ref e.1) (h1 : PrL ps L) (h2 : PrL qs L) (h : Q (.bl (decide (ps.map (·.2) = qs.map (·.2)))) L) : GOp X (compareOp .Eq) (.ref p) (.ref q) L Q :=
  go_eqD hr.toRoom (dl_prT m1 e1 h1) (dl_prT m2 e2 h2) (shapedPT _) (shapedPT _) (by
    have e : PyData.eqv (.tuple ((ps.map (·.2)).map P2)) (.tuple ((qs.map (·.2)).map P2)) = PyData.eqvAll ((ps.map (·.2)).map P2) ((qs.map (·.2)).map P2) := by simp [PyData.eqv]
    rw [e, eqvPs]
    exact h)
/-- a row of pairs and the empty list -/
theorem go_nePN (hr : RoomG j X.A) (m1 : (p, HO.lst xs) ∈ L) (m2 : (q, HO.lst []) ∈ L) (e1 : xs = ps.map fun e => V.ref e.1) (h1 : PrL ps L) (h : Q (.bl (!ps.isEmpty)) L) : GOp X (compareOp .NotEq) (.ref p) (.ref q) L Q :=
  go_nePL (ps := ps) (qs := []) hr m1 m2 e1 rfl h1 (fun _ z => nomatch z) (by
    rw [show decide (ps.map (·.2) = ([] : List Pr2).map (·.2)) = ps.isEmpty by cases ps <;> simp]
    exact h)
end
/-- the pairs at addresses -/
abbrev prV (ps : List Pr2) : List V := ps.map fun e => V.ref e.1
def Prs2 (ps : List Pr2) (L : Lg) : Prop := ∀ e ∈ ps, (e.1, HO.tup [.int e.2.1, .int e.2.2]) ∈ L
theorem Prs2.mono {ps : List Pr2} {L M : Lg} (h : Prs2 ps L) (s : ∀ e ∈ L, e ∈ M) : Prs2 ps M := fun e he => s _ (h e he)
theorem Prs2.snoc {ps : List Pr2} {e : Pr2} {L : Lg} (h : Prs2 ps L) (k : (e.1, HO.tup [.int e.2.1, .int e.2.2]) ∈ L) : Prs2 (ps ++ [e]) L := fun x hx => by
  rcases List.mem_append.mp hx with hx | hx
  · exact h x hx
  · rw [List.mem_singleton.mp hx]
    exact k
theorem GG.nd {X : Cx} {tg : Expr} {v : V} {η : En} {L : Lg} {Q : En → Lg → Prop} (h : (L.map (·.1)).Nodup → GG X tg v η L Q) : GG X tg v η L Q := fun hN H hH => h hH.1 hN H hH
theorem filter_listA {α : Type} {xs : List α} {t : α → Bool} {β : Type} {g : α → β} {p : Nat → Bool} {h : Nat → β} (hp : ∀ i v, xs[i]? = some v → p i = t v ∧ h i = g v) : ((List.range xs.length).filter p).map h = (xs.filter t).map g := by
  have key : ∀ k, k ≤ xs.length → ((List.range k).filter p).map h = ((xs.take k).filter t).map g := fun k => by
    induction k with
    | zero => intro _; rfl
    | succ k ih =>
      intro hk
      have e : xs[k]? = some xs[k] := List.getElem?_eq_getElem (by omega)
      obtain ⟨a, b⟩ := hp k _ e
      rw [List.range_succ, List.filter_append, List.map_append, ih (by omega), List.take_succ, e, List.filter_append, List.map_append]
      congr 1
      show (List.filter p [k]).map h = (List.filter t [xs[k]]).map g
      by_cases z : t xs[k] = true
      · rw [List.filter_cons_of_pos (by rw [a]; exact z), List.filter_cons_of_pos z]
        show [h k] = [g xs[k]]
        rw [b]
      · rw [List.filter_cons_of_neg (by rw [a]; exact z), List.filter_cons_of_neg z]
        rfl
  have z := key xs.length (Nat.le_refl _)
  rw [List.take_length] at z
  exact z
theorem prV_at {ps : List Pr2} {i : Nat} {x : V} (h : (prV ps)[i]? = some x) : ∃ e, ps[i]? = some e ∧ V.ref e.1 = x := by
  unfold prV at h
  rw [List.getElem?_map] at h
  exact Option.map_eq_some_iff.mp h
theorem prV_len {ps : List Pr2} : (prV ps).length = ps.length := List.length_map ..
section
variable {X : Cx} {L : Lg} {elt : Expr} {ifs : List Expr} {scope : Scope} {f : V → En} {R : V → Lg → Prop} {q : Addr} {o : HO} {ps : List Pr2} {t : Pr2 → Bool} {g : Pr2 → V} {pl : Pr2 → HO}
def pr0 : Pr2 := (0, 0, 0)
theorem pure_rowPr (mq : (q, o) ∈ L) (hl : ps.length ≤ 1000000) (ht : ∀ e ∈ ps, TurnP X scope ifs elt L (f (.ref e.1)) (t e) (g e)) (h : ∀ D, R (.ref D) ((D, .lst ((ps.filter t).map g)) :: L)) : PureL X scope ifs elt (stOne f) R ⟨(prV ps).length, fun M => (q, o) ∈ M, itemAt (prV ps)⟩ L := by
  refine ⟨fun i => t (ps.getD i pr0), fun i => g (ps.getD i pr0), ⟨by show (prV ps).length ≤ _; rw [prV_len]; exact hl, fun M h => h _ mq, fun i x E D acc M hi ⟨hx, hE⟩ _ s => ?_⟩, fun D => ?_⟩
  · subst hE
    obtain ⟨e, he, rfl⟩ := prV_at hx
    have k := turnP_use (st := stOne f) (ht e (List.mem_of_getElem? he)) s
    have e2 : ps.getD i pr0 = e := by rw [List.getD_eq_getElem?_getD, he]; rfl
    rw [e2]
    exact k
  · have z := filter_listA (xs := ps) (t := t) (g := g) (p := fun i => t (ps.getD i pr0)) (h := fun i => g (ps.getD i pr0)) fun i v e => by
      have e2 : ps.getD i pr0 = v := by rw [List.getD_eq_getElem?_getD, e]; rfl
      rw [e2]
      exact ⟨rfl, rfl⟩
    show R (.ref D) ((D, .lst (((List.range (prV ps).length).filter _).map _)) :: L)
    rw [prV_len, z]
    exact h D
theorem fresh_rowPr (mq : (q, o) ∈ L) (hl : ps.length ≤ 1000000) (ht : ∀ e ∈ ps, ∀ N, (∀ x ∈ L, x ∈ N) → TurnF X scope ifs elt N (f (.ref e.1)) (t e) (pl e)) (r : ∀ D es, es.map (·.2) = (ps.filter t).map pl → R (.ref D) ((D, .lst (refs es)) :: (es ++ L))) : FreshL X scope ifs elt (stOne f) R ⟨(prV ps).length, fun M => (q, o) ∈ M, itemAt (prV ps)⟩ L := by
  have z := filter_listA (xs := ps) (t := t) (g := pl) (p := fun i => t (ps.getD i pr0)) (h := fun i => pl (ps.getD i pr0)) fun i v e => by
    have e2 : ps.getD i pr0 = v := by rw [List.getD_eq_getElem?_getD, e]; rfl
    rw [e2]
    exact ⟨rfl, rfl⟩
  refine fresh_rowO (p := fun i => t (ps.getD i pr0)) (pl := fun i => pl (ps.getD i pr0)) mq (by rw [prV_len]; exact hl) (fun i v N hx hN => ?_) fun D es he => r D es ?_
  · obtain ⟨e, he, rfl⟩ := prV_at hx
    have e2 : ps.getD i pr0 = e := by rw [List.getD_eq_getElem?_getD, he]; rfl
    rw [e2]
    exact ht e (List.mem_of_getElem? he) N hN
  · rw [he, prV_len, z]
end
section
variable {X : Cx} {L : Lg} {elt : Expr} {ifs : List Expr} {scope : Scope} {g : V → V → En} {R : V → Lg → Prop} {q r : Addr} {xs ys : List V} {p : Nat → Bool} {pl : Nat → HO}
theorem fresh_zip (mq : (q, HO.lst xs) ∈ L) (mr : (r, HO.lst ys) ∈ L) (hl : xs.length ≤ 1000000) (ht : ∀ i x y N, xs[i]? = some x → ys[i]? = some y → (∀ e ∈ L, e ∈ N) → TurnF X scope ifs elt N (g x y) (p i) (pl i)) (h : ∀ D es, es.map (·.2) = ((List.range (min xs.length ys.length)).filter p).map pl → R (.ref D) ((D, .lst (refs es)) :: (es ++ L))) :
    FreshL X scope ifs elt (stTwo g) R ⟨min xs.length ys.length, fun M => (q, HO.lst xs) ∈ M ∧ (r, HO.lst ys) ∈ M, itemPr (fun i => xs[i]?) (fun i => ys[i]?)⟩ L := by
  refine ⟨p, pl, ⟨Nat.le_trans (Nat.min_le_left _ _) hl, fun M h => ⟨h _ mq, h _ mr⟩, fun i x E N M hi it nd hN s => ?_⟩, h⟩
  obtain ⟨T, a, b, rfl, rfl, ea, eb⟩ := it
  exact ⟨T, a, b, rfl, mem0, turnF_use (ht i a b N ea eb hN) (s.trans Sub.drop)⟩
end
/-- the first of what is picked -/
theorem filter_head {n : Nat} {p : Nat → Bool} {i : Nat} {t : List Nat} (h : (List.range n).filter p = i :: t) : i < n ∧ p i = true ∧ ∀ j, j < i → p j = false := by
  have mi : i ∈ (List.range n).filter p := by rw [h]; exact List.mem_cons_self
  obtain ⟨a, b⟩ := List.mem_filter.mp mi
  refine ⟨List.mem_range.mp a, b, fun j hj => ?_⟩
  cases z : p j with
  | false => rfl
  | true =>
    have mj : j ∈ (List.range n).filter p := List.mem_filter.mpr ⟨List.mem_range.mpr (by have := List.mem_range.mp a; omega), z⟩
    have pw : ((List.range n).filter p).Pairwise (· < ·) := List.Pairwise.filter p List.pairwise_lt_range
    rw [h] at mj pw
    rcases List.mem_cons.mp mj with e | m
    · omega
    · have := (List.pairwise_cons.mp pw).1 j m
      omega
end G
set_option Elab.async false
set_option linter.all false
set_option maxRecDepth 100000
set_option maxHeartbeats 4000000
namespace G
open PySem PySem.Spec PyProof.Rows L2 ClX
/-- C.m is a staticmethod: its record at p, its def at g -/
structure CSta (K : PySem.W.Frag) (C : Addr) (mc : Value) (m : Str) (p g : Addr) : Prop where
  r : CRead K C mc
  at_ : PySem.W.findCls K (.ref C) mc m = some (.get (.builtin "staticmethod.__get__") (.ref p) .none (.ref C))
  rc : ∃ rest, PySem.W.recIn K p "staticmethod" = some (.ref g :: rest)
  kp : PySem.W.keepIn K (.ref g) = true
section
variable {X : Cx} {η : En} {L : Lg} {Q : QV} {o e : Expr} {es : List Expr} {kws : List Keyword} {pos pos' : Pos} {C p g : Addr} {mc : Value} {m : Str} {pl : Sem Bool} {φ : List V → Lg → Prop}
theorem getsta_ok {pins : List (Addr × Obj)} {σ : L2.St} {H : Hp} {s : Shared} {A : Around} {E : Value → Shared → Prop} {Q : Value × List Value → Shared → Prop} (I : Inv X pins σ H s) (k : CSta X.K C mc m p g)
    (h : ∀ s', Inv X pins σ H s' → Q (.ref g, []) s') : wpAny (model X.prog X.w) A (getMethod (.ref C) m pl) Q E s := by
  refine PySem.W.method_cls I.kIn k.r.ga ?_
  obtain ⟨rest, hp⟩ := k.rc
  refine PySem.W.cls_bind I.kIn k.r.rd k.at_ ?_
  refine wpAny_call (PySem.W.sm_get (s := { s with toks := s.toks + 1 }) I.kIn hp (PySem.W.handed_on rfl ?_))
  exact h _ (I.tok _)
/-- C.m(e, ..) -/
theorem ge_sta (k : CSta X.K C mc m p g) (F : X.N = names η → GF X η g argsP φ Q) (h : GE X o η L fun x L1 => x = .ref C ∧ GA X (e :: es) η L1 φ)
    (hst : starEach (e :: es) X.env = (false, eval e X.env) :: starEach es X.env := by rfl) (hpl : (backTo pos (starEach es X.env)).any (·.1) = false := by rfl)
    (ht : eval (.Call (.Attribute o m pos') (e :: es) [] pos) X.env = (do
      let ov ← eval o X.env
      standAt pos'.atName
      let (f, first) ← holding [ov] (getMethod ov m pl)
      callWith pos f first (backTo pos (starEach (e :: es) X.env)) (backToKw pos (keywordEach [] X.env))) := by rfl) : GE X (.Call (.Attribute o m pos') (e :: es) [] pos) η L Q := fun hN H hH pins s I => by
  refine PySem.W.methodCall_KW (pl := pl) (thn (h hN H hH pins s I) fun u s1 ⟨x, H1, I1, rx, L1, h1, ex, q⟩ => ?_) ht
  subst ex
  obtain rfl : u = Value.ref C := rx
  refine getsta_ok I1 k fun s2 I2 => ?_
  refine PySem.W.callWith_K (first := []) (h₀ := X.base) I.ok.mod.kin k.kp (thn (q hN H1 h1 pos pins s2 I2) fun us s3 ⟨vs, H2, I3, r, L2, h2, q2⟩ => ⟨I3.kIn, ?_⟩) hst hpl
  exact F hN pins s3 H2 us vs L2 h2 I3 r q2
/-- C.m() -/
theorem ge_sta0 (k : CSta X.K C mc m p g) (F : X.N = names η → GF X η g argsP φ Q) (h : GE X o η L fun x L1 => x = .ref C ∧ φ [] L1)
    (ht : eval (.Call (.Attribute o m pos') [] [] pos) X.env = (do
      let ov ← eval o X.env
      standAt pos'.atName
      let (f, first) ← holding [ov] (getMethod ov m pl)
      callWith pos f first (backTo pos (starEach [] X.env)) (backToKw pos (keywordEach [] X.env))) := by rfl) : GE X (.Call (.Attribute o m pos') [] [] pos) η L Q := fun hN H hH pins s I => by
  refine PySem.W.methodCall_KW (pl := pl) (thn (h hN H hH pins s I) fun u s1 ⟨x, H1, I1, rx, L1, h1, ex, q⟩ => ?_) ht
  subst ex
  obtain rfl : u = Value.ref C := rx
  refine getsta_ok I1 k fun s2 I2 => ?_
  exact PySem.W.callWith_K0 I2.kIn k.kp (F hN pins s2 H1 [] [] L1 h1 I2 .nil q)
end
end G
set_option Elab.async false
set_option linter.all false
set_option maxRecDepth 100000
set_option maxHeartbeats 4000000
namespace PySem.W
open PySem PySem.Calls PySem.Spec PyProof.Rows Builtin
section
variable {prog : Program} {w : World} {M : Model} {A : Around} {E : Value → Shared → Prop} {s : Shared} {K : Frag} {x C f : Addr} {ox : Obj} {odd : Option Obj} {v : Value}
/-- iter(t), t a tuple -/
theorem g_call_iterT {Q : Value → Shared → Prop} {l : Addr} {items : Array Value} (hl : s.heap.IsTuple l items) (h : Q (.ref s.heap.objs.size) { s with heap := s.heap.push { cls := .type "tuple_iterator", data := .fields #[.ref l, .int 0 0] } }) : wpAny (model prog w) A (call (.builtin "iter") [.ref l]) Q E s := by
  refine Calls.call_function_entry (by decide +kernel) (by decide +kernel) PySem.W.kdk_entry_iter (PySem.W.kdk_args_iter _) ?_
  unfold Builtin.«iter»
  refine wpAny_bind (m := someArgs "iter" 1 2 _) (wpAny_of_eq (a := [Value.ref l]) (by first | rfl | kernel_rfl!) ?_)
  show wpAny _ _ (pyIter (.ref l) >>= _) _ _ _
  refine wpAny_bind (wpAny_pyIter_tuple hl ?_)
  exact wpAny_pure ⟨_, rfl, h⟩
end
end PySem.W
namespace G
open PySem PySem.Spec PyProof.Rows L2 ItX
/-- at it a tuple's iterator that was just made -/
def itT (t it : Addr) : HO := .ext fun h => h.IsTupleIter it t 0
theorem itT_ok {P : Program} {w : World} {H : Hp} {h : Heap} {t it : Addr} (e : h.IsTupleIter it t 0) : ObjOk P w H h it (itT t it) := ⟨e, (by obtain ⟨o, ho, _⟩ := e; exact ⟨o, ho⟩), fun h1 h2 q k => by
  obtain ⟨o, ho, r⟩ := q
  exact ⟨o, k o ho, r⟩⟩
/-- a promise at any state of at least n objects -/
def RunN (n : Nat) (P : Program) (w : World) (K : PySem.W.Frag) (mg : Str → Option Value) (base : Heap) (CX : CXT) (k : Nat) (f : Addr) (args : List Value → Args) (sp : Sp) : Prop :=
  ∀ (A : Around) (outer : List Env) (s : Shared) (H : Hp) (us : List Value) (vs : List V) (Q : VK) (E : XK), n ≤ s.heap.objs.size → RoomG k A → Env0 P w K mg base A outer s H → Vals vs us → sp vs H Q E → codeAny (model P w) A (.call (.ref f) (args us)) (CR CX outer P w H s Q E) s
section
variable {P : Program} {w : World} {K : PySem.W.Frag} {mg : Str → Option Value} {base : Heap}
theorem run_plainN {n : Nat} {x q : Str} {st : Stmt} {f : Addr} {fd : FuncData} {N ps : List Str} {k : Nat} {sp : SpL} (F : Fun K x q st f fd) (S : FnScope N ps (defScope st))
    (hb : ∀ (kV doc pm : Value) (an : Option Addr) (cdv ct : Value) (us : List Value), us.length = ps.length → bindArgs (PySem.W.fnOf x q (defArgs st) (defBody st) (defScope st) .none kV doc pm an cdv ct) (argsP us) = pure (ps.zip us))
    (hl : ps.length ≤ N.length) (len : ∀ vs L Q E, sp vs L Q E → vs.length = ps.length)
    (body : ∀ (X : Cx) (f : Addr) (cdv : Value) (A : Around) (outer : List Env) (s : Shared) (H : Hp) (E0 : XK) (L : Lg) (vs : List V) (Q : QV) (E : XL), X = cx0 P w K mg base N q (defScope st) f cdv A outer s H E0 → n ≤ X.s_0.heap.objs.size → X.N.Nodup → RoomG k X.A → sp vs L Q E → GSs X (defBody st) (bodyD Q) (begun N vs) L) :
    RunN n P w K mg base CX0 (k + 1) f argsP (toSp sp) := by
  obtain ⟨oc, od, kV, doc, pm, an, cdv, ct, osl, rfl, lk, hcd⟩ := F.ex
  intro A outer s H us vs Q E hn0 hr e0 r hsp
  obtain ⟨L, Ql, El, hH, h, hq, _⟩ := hsp
  have hn : vs.length = ps.length := len _ L Ql El h
  have hlv : vs.length ≤ N.length := by
    rw [hn]
    exact hl
  exact LamX.run_ofS (CX := CX0) lk hcd S hr.toRoom e0 (.of_eq (hb kV doc pm an cdv ct us (by rw [← r.length]; exact hn))) r hn fun hr2 =>
    ⟨WSs _ (defBody st), PSs.nox pss_W, body_end (X := cx0 P w K mg base N q (defScope st) f cdv A outer s H E) hlv hq hH (body _ f cdv A outer s H E L vs Ql El rfl hn0 S.nd ⟨hr2, guard_deeper hr.gd⟩ h)⟩
end
section
variable {X : Cx} {η : En} {L : Lg} {Q : QV} {e : Expr} {t : Addr} {xs : List V}
theorem bt_iter : bootBuiltins "iter" = some (.builtin "iter") := by decide +kernel
theorem gc_iterT (m : (t, HO.tup xs) ∈ L) (h : ∀ it, X.s_0.heap.objs.size ≤ it → Q (.ref it) ((it, itT t it) :: L)) : GC X (.builtin "iter") [.ref t] L Q := fun pins s σ H us hH I rr => by
  rw [Vals.ref1 rr]
  obtain ⟨its, rv, p, hz⟩ := I.tuple (sqt hH m)
  refine PySem.W.g_call_iterT (show s.heap.IsTuple t its.toArray from p) ?_
  have hn : H s.heap.objs.size = none := I.hok.fresh (Nat.le_refl _)
  exact ⟨.ref s.heap.objs.size, _, I.laid (t' := s.toks) (fun b u e => Heap.get?_push_of_some _ e) (Nat.le_refl _) (itT_ok ⟨_, Heap.get?_push_size _ rfl, rfl, rfl⟩), rfl, _, hH.newB hn (updGrow hn) (holds_of (by rfl) upd_same), h _ I.sz⟩
end
/-- o.__iter__() gives an iterator over the tuple at t, young -/
def spIterT (n : Nat) (φ : Addr → Addr → List V → Lg → Prop) : SpL := fun vs L Q _ => ∃ (a t : Addr) (xs : List V), vs = [.ref a] ∧ φ a t xs L ∧ (t, HO.tup xs) ∈ L ∧ ∀ it, n ≤ it → Q (.ref it) ((it, itT t it) :: L)
section
variable {X : Cx} {L : Lg} {elt : Expr} {ifs : List Expr} {scope : Scope} {f2 : V → V → En} {R : V → Lg → Prop} {q : Addr} {o : HO} {ps : List Pr2} {t : Pr2 → Bool} {g : Pr2 → V} {pl : Pr2 → HO}
/-- over a row of pairs, both items named -/
theorem pure_rowP2 (mq : (q, o) ∈ L) (hp : Prs2 ps L) (hl : ps.length ≤ 1000000) (ht : ∀ e ∈ ps, TurnP X scope ifs elt L (f2 (.int e.2.1) (.int e.2.2)) (t e) (g e)) (h : ∀ D, R (.ref D) ((D, .lst ((ps.filter t).map g)) :: L)) : PureL X scope ifs elt (stTwo f2) R ⟨(prV ps).length, fun M => (q, o) ∈ M, itemAt (prV ps)⟩ L := by
  refine pure_row2 (pt := fun i => t (ps.getD i pr0)) (pg := fun i => g (ps.getD i pr0)) mq (by rw [prV_len]; exact hl) (fun i v hx => ?_) fun D => ?_
  · obtain ⟨e, he, rfl⟩ := prV_at hx
    have em := List.mem_of_getElem? he
    have e2 : ps.getD i pr0 = e := by rw [List.getD_eq_getElem?_getD, he]; rfl
    rw [e2]
    exact ⟨e.1, _, _, rfl, hp e em, ht e em⟩
  · have z := filter_listA (xs := ps) (t := t) (g := g) (p := fun i => t (ps.getD i pr0)) (h := fun i => g (ps.getD i pr0)) fun i v e => by
      have e2 : ps.getD i pr0 = v := by rw [List.getD_eq_getElem?_getD, e]; rfl
      rw [e2]
      exact ⟨rfl, rfl⟩
    rw [prV_len, z]
    exact h D
theorem fresh_rowP2 (mq : (q, o) ∈ L) (hp : Prs2 ps L) (hl : ps.length ≤ 1000000) (ht : ∀ e ∈ ps, ∀ N, (∀ x ∈ L, x ∈ N) → TurnF X scope ifs elt N (f2 (.int e.2.1) (.int e.2.2)) (t e) (pl e)) (r : ∀ D es, es.map (·.2) = (ps.filter t).map pl → R (.ref D) ((D, .lst (refs es)) :: (es ++ L))) : FreshL X scope ifs elt (stTwo f2) R ⟨(prV ps).length, fun M => (q, o) ∈ M, itemAt (prV ps)⟩ L := by
  have z := filter_listA (xs := ps) (t := t) (g := pl) (p := fun i => t (ps.getD i pr0)) (h := fun i => pl (ps.getD i pr0)) fun i v e => by
    have e2 : ps.getD i pr0 = v := by rw [List.getD_eq_getElem?_getD, e]; rfl
    rw [e2]
    exact ⟨rfl, rfl⟩
  refine fresh_row2 (p := fun i => t (ps.getD i pr0)) (pl := fun i => pl (ps.getD i pr0)) mq (by rw [prV_len]; exact hl) (fun i v hx => ?_) fun D es he => r D es ?_
  · obtain ⟨e, he, rfl⟩ := prV_at hx
    have em := List.mem_of_getElem? he
    have e2 : ps.getD i pr0 = e := by rw [List.getD_eq_getElem?_getD, he]; rfl
    rw [e2]
    exact ⟨e.1, _, _, rfl, hp e em, fun N hN => ht e em N hN⟩
  · rw [he, prV_len, z]
end
end G
namespace G
open PySem PySem.Spec PyProof.Rows L2
end G
set_option Elab.async false
set_option linter.all false
set_option maxRecDepth 100000
set_option maxHeartbeats 4000000
namespace PySem.W
open PySem PySem.Calls PySem.Spec PyProof.Rows Builtin
section
variable {prog : Program} {w : World} {A : Around} {E : Value → Shared → Prop} {s : Shared} {K : Frag} {x C f : Addr} {ox : Obj} {odd : Option Obj}
theorem g_len_at {Q : Value → Shared → Prop} (X : K.In s.heap) (I : InstAt s.heap x ox C odd) (hs : findIn K (.ref C) "__len__" = some (some (.ref f))) (hf : isFn K (.ref f) = true)
    (h : wpAny (model prog w) A (call (.ref f) [.ref x]) (fun r s₁ => ∃ (n : Int) (t : Tok), r = Value.int n t ∧ 0 ≤ n ∧ n < 2 ^ 62 ∧ ∀ tk t', Q (.int n t') { s₁ with toks := tk }) E s) :
    wpAny (model prog w) A (Builtin.«len» ⟨[.ref x], []⟩) (fun fin s' => ∃ r, fin = .done (.ret r) ∧ Q r s') E s := by
  unfold Builtin.«len»
  refine wpAny_bind (wpAny_of_eq (a := Value.ref x) (by first | rfl | kernel_rfl) ?_)
  refine wpAny_bind (special_fn X I hs (beq_iff_eq.mp hf) (wpAny_mono h (fun r s₁ hr => ?_) fun _ _ y => y))
  obtain ⟨n, t, rfl, n0, n1, q⟩ := hr
  have ix : asIndex (Value.int n t) = pure n := by first | rfl | kernel_rfl
  dsimp only
  refine wpAny_bind (wpAny_holding (wpAny_of_eq (a := n) ix ?_))
  have c1 : ¬ (n < 0) := by omega
  have c2 : ¬ (n ≥ 2 ^ 63) := by omega
  simp only [c1, c2, if_false]
  repeat lk
  exact ⟨_, rfl, q _ _⟩
/-- its truth -/
theorem g_truthL {Q : Bool → Shared → Prop} (X : K.In s.heap) (I : InstAt s.heap x ox C odd) (hb : findIn K (.ref C) "__bool__" = some none) (hs : findIn K (.ref C) "__len__" = some (some (.ref f))) (hf : isFn K (.ref f) = true)
    (h : wpAny (model prog w) A.in1 (call (.ref f) [.ref x]) (fun r s₁ => ∃ (n : Int) (t : Tok), r = Value.int n t ∧ 0 ≤ n ∧ n < 2 ^ 62 ∧ ∀ tk, Q (n != 0) { s₁ with toks := tk }) E s) : wpAny (model prog w) A (truthy (.ref x)) Q E s := by
  have key : wpAny (model prog w) A (runValue (.builtin "len" ⟨[.ref x], []⟩)) (fun r s' => ∃ (n : Int) (t : Tok), r = .int n t ∧ Q (n != 0) s') E s := by
    refine wpAny_runValue (codeAny_builtin entry_len ?_)
    rw [Around.under_plainId plain_len _]
    refine wpAny_mono (g_len_at (Q := fun r s' => ∃ (n : Int) (t : Tok), r = .int n t ∧ Q (n != 0) s') X I hs hf (wpAny_mono h (fun r s₁ hr => ?_) fun _ _ e => e)) (fun fin s' h' => by obtain ⟨r, rfl, hq⟩ := h'; exact hq) fun _ _ e => e
    obtain ⟨n, t, rfl, n0, n1, q⟩ := hr
    exact ⟨n, t, rfl, n0, n1, fun tk t' => ⟨n, t', rfl, q tk⟩⟩
  have hsp : ∀ {Q' : Option Value → Shared → Prop}, Q' (some (.ref f)) s → wpAny (model prog w) A (specialOf (.ref x) "__len__") Q' E s := fun q => by
    unfold specialOf
    exact wpAny_bind (I.type.here ((looks_findIn X hs).here q))
  unfold truthy
  first
    | refine wpAny_bind (DSub.special_no (name := Str.ofString "__bool__") X I hb ?_)
    | refine wpAny_bind (wpAny_pure (wpAny_bind (DSub.special_no (name := Str.ofString "__bool__") X I hb ?_)))
  first
    | refine wpAny_bind (hsp ?_)
    | refine wpAny_bind (wpAny_pure (wpAny_bind (hsp ?_)))
  first
    | exact wpAny_bind (wpAny_mono key (fun r s' h' => by obtain ⟨n, t, rfl, hq⟩ := h'; exact wpAny_pure hq) fun _ _ e => e)
    | exact wpAny_bind (wpAny_pure (wpAny_bind (wpAny_mono key (fun r s' h' => by obtain ⟨n, t, rfl, hq⟩ := h'; exact wpAny_pure hq) fun _ _ e => e)))
end
end PySem.W
namespace G
open PySem PySem.Spec PyProof.Rows L2
/-- a value's truth -/
def GTr (X : Cx) (x : V) (L : Lg) (Q : Bool → Lg → Prop) : Prop := ∀ pins s σ H v, Has H L → Inv X pins σ H s → RelV x v → wpAny (model X.prog X.w) X.A (truthy v) (TP X pins σ (upB Q)) X.xe s
section
variable {X : Cx} {CX : CXT} {j k : Nat} {C g a dx : Addr} {fs : List (Str × V)} {sp : SpL} {El : XL} {η : En} {L : Lg} {e : Expr} {pos : Pos}
/-- by an own __len__ -/
theorem gtr_len {Q : Bool → Lg → Prop} (hb : PySem.W.findIn X.K (.ref C) "__bool__" = some none) (hs : PySem.W.findIn X.K (.ref C) "__len__" = some (some (.ref g))) (hf : PySem.W.isFn X.K (.ref g) = true) (F : RunG X.prog X.w X.K X.mg X.base CX k g argsP (toSp sp)) (hr : RoomG j X.A) (hx : Passes CX X (upX El)) (ma : (a, HO.ins C dx fs) ∈ L)
    (h : sp [.ref a] L (fun v L' => ∃ n : Int, v = .int n ∧ 0 ≤ n ∧ n < 2 ^ 62 ∧ Q (n != 0) L') El) (hjk : k + 1 ≤ j := by decide) : GTr X (.ref a) L Q := fun pins s σ H v hH I r => by
  obtain rfl : v = Value.ref a := r
  obtain ⟨oe, od, J⟩ := ins_inst I hH ma
  refine PySem.W.g_truthL I.kIn J hb hs hf (wpAny_call (codeAny_mono (F X.A.in1 X.stack s H [.ref a] [.ref a] _ _ (hr.mono hjk).in1 I.env0.in1 (.cons rfl .nil) (up_sp hH h)) fun r s' hq => ?_))
  cases r with
  | error e => exact hx pins σ H s e s' I hq
  | ok fl =>
    cases fl with
    | ret w =>
      obtain ⟨z, H', I', rz, L', h', n, ez, n0, n1, q⟩ := I.after hq
      subst ez
      obtain ⟨t, rfl⟩ := rz
      exact ⟨n, t, rfl, n0, n1, fun tk => ⟨H', I'.tok _, L', h', q⟩⟩
    | next => exact hq.elim
    | brk => exact hq.elim
    | cont => exact hq.elim
/-- a test -/
theorem gt_trM {Q : Bool → Lg → Prop} (h : GE X e η L fun x L1 => GTr X x L1 Q) (he : ∀ whole, isTrue e X.env whole = (do let v ← whole; standAt e.pos; holding [v] (truthy v)) := by intro _; rfl) : GT X e η L Q := fun hN H hH pins s I =>
  isTrue_plain (thn (h hN H hH pins s I) fun v s1 ⟨x, H1, I1, r1, L1, h1, q1⟩ => q1 pins s1 _ H1 v h1 I1 r1) (he _)
end
end G
set_option Elab.async false
set_option linter.all false
set_option maxRecDepth 100000
set_option maxHeartbeats 4000000
namespace PySem.W
open PySem PySem.Calls PySem.Spec PyProof.Rows Builtin
section
variable {prog : Program} {w : World} {A : Around} {E : Value → Shared → Prop} {s : Shared} {K : Frag} {x C f : Addr} {ox : Obj} {od : Option Obj} {nm T : String}
theorem g_bin1T {b : Value} {fo ro rc : Option Value} {Q : Value → Shared → Prop} (X : K.In s.heap) (I : InstAt s.heap x ox C od) (hb : typeOf b = pure (.type T)) (hc : selfFirst K C = true)
    (hs : findIn K (.ref C) (PySem.dunder nm) = some (some (.ref f))) (hf : isFn K (.ref f) = true) (hr : findIn K (.ref C) (dunderR nm) = some rc) (hp : rc = none ∨ ∃ g : Addr, rc = some (.ref g))
    (h1 : findIn K (.type T) (PySem.dunder nm) = some fo) (h2 : findIn K (.type T) (dunderR nm) = some ro) (hsub : subIn K (.type T) (.ref C) = some false)
    (h : wpAny (model prog w) A (call (.ref f) [.ref x, b]) (CmpBack Q) E s) : wpAny (model prog w) A (binaryOp1 nm (.ref x) b) (fun r s' => ∃ v, r = some v ∧ Q v s') E s := by
  obtain ⟨cd, rest, hcd, hm⟩ := ksp_first hc
  have one := ksp_try X I hs hf h
  obtain ⟨hh, g, d, tt, os⟩ := s
  have L1 : Looks (model prog w) hh (typeOf (.ref x)) (.ref C) := I.type
  have L2 : Looks (model prog w) hh (typeOf b) (.type T) := Looks.of_pure hb
  have L3 : Looks (model prog w) hh (fillsNumberSlot (.ref C) nm) true := fills_K X hcd hm hs
  have L4 : Looks (model prog w) hh (fillsNumberSlot (.type T) nm) ((fo.isSome && !isSeqSlot fo) || (ro.isSome && !isSeqSlot ro)) := ksp_fillsT X h1 h2
  have L5 : Looks (model prog w) hh (isSubtype (.type T) (.ref C)) false := looks_subIn X hsub
  have L6 : Looks (model prog w) hh (numberSlotInPython (.ref C) nm) true := ksp_inPy X hs hr hp
  have L7 : Looks (model prog w) hh (numberSlotInPython (.type T) nm) false := Looks.of_pure rfl
  have L8 : Looks (model prog w) hh (typeLookup (.type T) (dunderR nm)) ro := looks_findIn X h2
  generalize ((fo.isSome && !isSeqSlot fo) || (ro.isSome && !isSeqSlot ro)) = right at L4
  have hne : (Value.ref C == Value.type T) = false := Bool.eq_false_iff.mpr fun q => by cases beq_iff_eq.mp q
  unfold binaryOp1
  refine wpAny_bind (L1.at (wpAny_bind (L2.at (wpAny_bind (L3.at ?_)))))
  simp only [hne, Bool.false_eq_true, if_false]
  cases right with
  | false =>
    ksp_lk
    refine wpAny_mono one (fun r s' hr' => ?_) fun _ _ e => e
    obtain ⟨v, rfl, hq⟩ := hr'
    ksp_lk
    exact ⟨v, rfl, hq⟩
  | true =>
    ksp_lk
    refine wpAny_mono one (fun r s' hr' => ?_) fun _ _ e => e
    obtain ⟨v, rfl, hq⟩ := hr'
    ksp_lk
    exact ⟨v, rfl, hq⟩
theorem g_binOf {op : Operator} {a b : Value} {Q : Value → Shared → Prop} (h : wpAny (model prog w) A (binaryOp1 op.info.2 a b) (fun r s' => ∃ v, r = some v ∧ Q v s') E s) : wpAny (model prog w) A (binaryOp op a b) Q E s := by
  unfold binaryOp
  refine wpAny_holding (wpAny_bind (wpAny_mono h (fun r s' hr => ?_) fun _ _ e => e))
  obtain ⟨v, rfl, hq⟩ := hr
  exact wpAny_pure hq
end
end PySem.W
namespace G
open PySem PySem.Spec PyProof.Rows L2
/-- the class C has an operator of its own -/
structure OwnBin (K : PySem.W.Frag) (C : Addr) (nm : String) (g : Addr) : Prop where
  sf : PySem.W.selfFirst K C = true
  at_ : PySem.W.findIn K (.ref C) (PySem.dunder nm) = some (some (.ref g))
  fn : PySem.W.isFn K (.ref g) = true
/-- against a built-in class -/
structure BinT (K : PySem.W.Frag) (C : Addr) (nm : String) (T : String) : Prop where
  r : PySem.W.findIn K (.ref C) (dunderR nm) = some none
  h1 : ∃ fo, PySem.W.findIn K (.type T) (PySem.dunder nm) = some fo
  h2 : ∃ ro, PySem.W.findIn K (.type T) (dunderR nm) = some ro
  sub : PySem.W.subIn K (.type T) (.ref C) = some false
section
variable {X : Cx} {CX : CXT} {j k : Nat} {C g a b dx dy : Addr} {fs gs : List (Str × V)} {sp : SpL} {El : XL} {L : Lg} {Q : QV} {op : Operator} {i : Int}
theorem no_ni {v : V} {u : Value} (r : RelV v u) : u ≠ .notImplemented := by
  intro e
  subst e
  cases v <;> first | exact nomatch (show Value.notImplemented = Value.none from r) | exact nomatch (show Value.notImplemented = Value.bool _ from r) | exact nomatch (show Value.notImplemented = Value.ref _ from r) | exact nomatch (show Value.notImplemented = Value.type _ from r) | (obtain ⟨t, h⟩ := id r; exact nomatch h)
theorem back_of {Q : Value → Shared → Prop} {u : Value} {s : Shared} (n : u ≠ .notImplemented) (h : Q u s) : PySem.W.CmpBack Q u s := by
  cases u <;> first | exact absurd rfl n | exact h
/-- the call of the operator's method -/
theorem own_call {pins : List (Addr × Obj)} {σ : L2.St} {H : Hp} {s : Shared} {us : List Value} {vs : List V} {Qv : Value → Shared → Prop} (F : RunG X.prog X.w X.K X.mg X.base CX k g argsP (toSp sp)) (hr : RoomG j X.A) (hx : Passes CX X (upX El)) (I : Inv X pins σ H s) (hH : Has H L) (rr : Vals vs us)
    (h : sp vs L Q El) (hq : ∀ u s', EP X pins σ (up Q) u s' → Qv u s') (hjk : k ≤ j) : wpAny (model X.prog X.w) X.A (call (.ref g) us) (PySem.W.CmpBack Qv) X.xe s :=
  thn (run_G (args := argsP) F (hr.mono hjk) hx I rr (up_sp hH h)) fun u s' hu => by
    obtain ⟨v, H', J, r, q⟩ := id hu
    exact back_of (no_ni r) (hq u s' hu)
/-- a op i, an integer -/
theorem go_binI (O : OwnBin X.K C op.info.2 g) (O2 : BinT X.K C op.info.2 "int") (F : RunG X.prog X.w X.K X.mg X.base CX k g argsP (toSp sp)) (hr : RoomG j X.A) (hx : Passes CX X (upX El)) (ma : (a, HO.ins C dx fs) ∈ L) (h : sp [.ref a, .int i] L Q El) (hjk : k ≤ j := by decide) : GOp X (binaryOp op) (.ref a) (.int i) L Q := fun pins s σ H v u hH I r1 r2 => by
  obtain rfl : v = Value.ref a := id r1
  obtain ⟨t, rfl⟩ := id r2
  obtain ⟨oe, od, J⟩ := ins_inst I hH ma
  obtain ⟨fo, h1⟩ := O2.h1
  obtain ⟨ro, h2⟩ := O2.h2
  exact PySem.W.g_binOf (PySem.W.g_bin1T I.kIn J rfl O.sf O.at_ O.fn O2.r (.inl rfl) h1 h2 O2.sub (own_call F hr hx I hH (.cons r1 (.cons r2 .nil)) h (fun _ _ z => z) hjk))
end
end G
set_option Elab.async false
set_option linter.all false
set_option maxRecDepth 100000
set_option maxHeartbeats 4000000
namespace G
open PySem PySem.Spec PyProof.Rows L2
theorem wipe_get {σ : L2.St} {k : Nat} : ∀ {vs : List Nat}, (wipe σ vs)[k]? = if k ∈ vs then (if k < σ.length then some none else none) else σ[k]?
  | [] => by simp [wipe]
  | v :: vs => by
    show ((wipe σ vs).set v none)[k]? = _
    rw [List.getElem?_set, wipe_length]
    by_cases e : v = k
    · subst e
      simp
    · rw [if_neg e, wipe_get (vs := vs)]
      have : (k ∈ v :: vs) = (k ∈ vs) := by
        rw [List.mem_cons]
        exact propext ⟨fun h => h.elim (fun z => absurd z.symm e) id, .inr⟩
      simp only [this]
theorem wipe_mem {σ : L2.St} {i : Nat} {a : Option V} {vs : List Nat} (h : i ∈ vs) : wipe (σ.set i a) vs = wipe σ vs := by
  apply List.ext_getElem?
  intro k
  rw [wipe_get, wipe_get, List.length_set]
  by_cases hk : k ∈ vs
  · rw [if_pos hk, if_pos hk]
  · rw [if_neg hk, if_neg hk, List.getElem?_set_ne]
    intro e
    exact hk (e ▸ h)
theorem GI.nd {X : Cx} {tg iter : Expr} {η : En} {L : Lg} {Q : Src → Lg → Prop} (h : GI X tg iter η L fun S L1 => (L1.map (·.1)).Nodup → Q S L1) : GI X tg iter η L Q := fun hN H hH pins s I =>
  wpAny_mono (h hN H hH pins s I) (fun v s1 z => wpAny_mono z (fun itv s2 ⟨it, fp, tn, J, H1, ev, I2, T, t0, f2, L1, S, k1, ok, q⟩ => ⟨it, fp, tn, J, H1, ev, I2, T, t0, f2, L1, S, k1, ok, q k1.1⟩) fun _ _ z => z) fun _ _ z => z
theorem GI.sub {X : Cx} {tg iter : Expr} {η : En} {L M : Lg} {Q : Src → Lg → Prop} (s : Sub M L) (h : GI X tg iter η M Q) : GI X tg iter η L Q := fun hN H hH => h hN H (s.has H hH)
/-- everything but one entry -/
theorem out1 {D : Addr} {o : HO} {R M : Lg} (nd : (M.map (·.1)).Nodup) (s : Sub ((D, o) :: R) M) : ∃ R', M.Perm ((D, o) :: R') ∧ (∀ e ∈ R, e ∈ R') ∧ ∀ e ∈ M, e = (D, o) ∨ e ∈ R' := by
  obtain ⟨n1, n2⟩ := s.to nd
  obtain ⟨a, b, rfl⟩ := List.append_of_mem (n2 _ List.mem_cons_self)
  refine ⟨a ++ b, List.perm_middle, fun e he => ?_, fun e he => ?_⟩
  · have h := n2 e (List.mem_cons_of_mem _ he)
    rcases List.mem_append.mp h with h | h
    · exact List.mem_append_left _ h
    · rcases List.mem_cons.mp h with h | h
      · exact absurd (List.mem_map.mpr ⟨e, he, by rw [h]⟩) (List.nodup_cons.mp n1).1
      · exact List.mem_append_right _ h
  · rcases List.mem_append.mp he with h | h
    · exact .inr (List.mem_append_left _ h)
    · rcases List.mem_cons.mp h with h | h
      · exact .inl h
      · exact .inr (List.mem_append_right _ h)
/-- what a store asks may be asked of less -/
def StLift (st : V → Lg → (En → Lg → Prop) → Prop) : Prop := ∀ v N M (k k' : En → Lg → Prop), (M.map (·.1)).Nodup → Sub N M → (∀ θ, k' θ N → k θ M) → st v N k' → st v M k
theorem lift_one {f : V → En} : StLift (stOne f) := fun _ _ _ _ _ _ _ h z => h _ z
abbrev stThree (g : V → V → V → En) : V → Lg → (En → Lg → Prop) → Prop := fun v M k => ∃ p a b c, v = .ref p ∧ (p, HO.tup [a, b, c]) ∈ M ∧ k (g a b c) M
theorem lift_three {g : V → V → V → En} : StLift (stThree g) := fun _ _ _ _ _ nd s h ⟨p, a, b, c, e, m, z⟩ => ⟨p, a, b, c, e, (s.to nd).2 _ m, h _ z⟩
theorem gts_out {X : Cx} {η : En} {L : Lg} {Q : Bool → Lg → Prop} (h : GTs X [] η L Q) : Q true L := h
theorem yes_in {σ : L2.St} {H : Hp} {Q : Bool → Hp → Prop} (h : Q true H) : tYes σ H Q := h
theorem ite_out {A B : Prop} (h : if true = true then A else B) : A := h
section
variable {X : Cx} {η : En} {L : Lg} {elt iter tg tg1 iter1 : Expr} {scope : Scope} {pos p1 p2 p3 p4 : Pos} {x y z w : Str} {f : V → En} {Q : QV}
/-- each row's values stand for data -/
inductive Reps {α : Type} (R : V → α → Prop) : List V → List α → Prop
  | nil : Reps R [] []
  | cons {v : V} {a : α} {vs : List V} {as : List α} : R v a → Reps R vs as → Reps R (v :: vs) (a :: as)
theorem Reps.snoc {α : Type} {R : V → α → Prop} : ∀ {vs : List V} {as : List α} {v : V} {a : α}, Reps R vs as → R v a → Reps R (vs ++ [v]) (as ++ [a])
  | _, _, _, _, .nil, h => .cons h .nil
  | _, _, _, _, .cons k t, h => .cons k (t.snoc h)
theorem Reps.imp {α : Type} {R R' : V → α → Prop} (m : ∀ v a, R v a → R' v a) : ∀ {vs : List V} {as : List α}, Reps R vs as → Reps R' vs as
  | _, _, .nil => .nil
  | _, _, .cons k t => .cons (m _ _ k) (t.imp m)
theorem Reps.len {α : Type} {R : V → α → Prop} : ∀ {vs : List V} {as : List α}, Reps R vs as → vs.length = as.length
  | _, _, .nil => rfl
  | _, _, .cons _ t => by rw [List.length_cons, List.length_cons, t.len]
theorem Reps.get {α : Type} {R : V → α → Prop} : ∀ {vs : List V} {as : List α} {i : Nat} {v : V}, Reps R vs as → vs[i]? = some v → ∃ a, as[i]? = some a ∧ R v a
  | _, _, _, _, .nil, e => by simp at e
  | _, _, 0, _, .cons r _, e => by simp at e; subst e; exact ⟨_, rfl, r⟩
  | _, _, i + 1, x, .cons _ t, e => by
    obtain ⟨u, h1, h2⟩ := t.get (i := i) (v := x) (by simpa using e)
    exact ⟨u, by simpa using h1, h2⟩
/-- what a kind of standing for must keep -/
def RepMono {α : Type} (Rep : Lg → V → α → Prop) : Prop := ∀ M N v a, (∀ e ∈ M, e ∈ N) → Rep M v a → Rep N v a
/-- what a turn's element is shown of -/
abbrev EltR {α : Type} (X : Cx) (scope : Scope) (elt : Expr) (Rep : Lg → V → α → Prop) (D : Addr) (zs : List V) (R : Lg) (a : α) (θ : En) (M : Lg) : Prop :=
  AllBlk X scope fun B => GE B elt θ M fun z M2 => ∃ R', Sub ((D, .lst zs) :: R') M2 ∧ (∀ e ∈ R, e ∈ R') ∧ Rep R' z a
theorem elt_turn {α : Type} {Rep : Lg → V → α → Prop} (mono : RepMono Rep) {D : Addr} {zs : List V} {R N M : Lg} {a : α} {as : List α} {θ : En} (hz : zs.length < 10000000) (rp : Reps (Rep R) zs as) (h : EltR X scope elt Rep D zs R a θ N) (s : Sub N M) :
    LcTurn X scope [] elt D (fun M => ∃ zs R', Sub ((D, .lst zs) :: R') M ∧ (∀ e ∈ R, e ∈ R') ∧ Reps (Rep R') zs (as ++ [a])) θ M := by
  intro s1 H1 C1 cl1 fp1
  refine gts_nil (ite_t ?_)
  intro s2 H2 C2 cl2 fp2
  refine GE.sub s (GE.nd ((h s2 H2 C2 cl2 fp2).imp fun y M2 ⟨R', sb, up, rq⟩ => fun nd => ?_))
  have m2 := (sb.to nd).2 _ List.mem_cons_self
  obtain ⟨M3, sw⟩ := Swap.ex (o := .lst (zs ++ [y])) rfl m2
  exact ⟨zs, M3, m2, Nat.lt_of_lt_of_le hz (szL (by decide)), sw, zs ++ [y], R', sb.swap sw, up, (rp.imp fun v b k => mono _ _ _ _ up k).snoc rq⟩
def wiB (X : Cx) (scope : Scope) (tg1 iter1 : Expr) : TI := fun σ H R => AllBlk X scope fun B => WI B tg1 iter1 σ H R
theorem pi_wiB (s : Shared) (H : Hp) (C : Addr) (cl : List (Str × Addr)) (fp : List Addr) : PI (blkX X s H scope C cl fp) tg1 iter1 (wiB X scope tg1 iter1) := ⟨fun pins s1 σ H1 R I h => h s H C cl fp pins s1 I⟩
/-- the turns within a turn -/
structure InnS (X : Cx) (scope : Scope) (elt : Expr) (S : Src) (D : Addr) (L : Lg) (st : V → Lg → (En → Lg → Prop) → Prop) (Pw : Nat → Lg → Prop) (Nx : Lg → Prop) : Prop where
  h0 : Pw 0 L
  kp : ∀ i M, i ≤ S.n → (M.map (·.1)).Nodup → Pw i M → S.keep M
  hs : ∀ i x E M, i < S.n → S.item i x E → ((E ++ M).map (·.1)).Nodup → Pw i M → st x (E ++ M) fun θ M' => LcTurn X scope [] elt D (Pw (i + 1)) θ M'
  hd : ∀ M, Pw S.n M → Nx M
structure Lc2S (X : Cx) (scope : Scope) (tg1 iter1 elt : Expr) (S : Src) (D : Addr) (L : Lg) (st : V → Lg → (En → Lg → Prop) → Prop) (st1 : En → V → Lg → (En → Lg → Prop) → Prop) (Pv : Nat → Lg → Prop) (Q : QV) : Prop where
  h0 : Pv 0 ((D, .lst []) :: L)
  kp : ∀ i M, i ≤ S.n → (M.map (·.1)).Nodup → Pv i M → S.keep M
  hs : ∀ i x E M, i < S.n → S.item i x E → ((E ++ M).map (·.1)).Nodup → Pv i M → st x (E ++ M) fun θ M' => AllBlk X scope fun B => GI B tg1 iter1 θ M' fun S1 M2 => ∃ Pw, InnS X scope elt S1 D M2 (st1 θ) Pw (Pv (i + 1))
  hd : ∀ M, Pv S.n M → Q (.ref D) M
theorem lc2_core' {g g1 : TG} {vs vs1 : List Nat} {st : V → Lg → (En → Lg → Prop) → Prop} {st1 : En → V → Lg → (En → Lg → Prop) → Prop} (nη : X.N = names η) {H : Hp} (hH : Has H L) {Qh : VK} (hq : ∀ D M H', Has H' M → Q (.ref D) M → Qh (.ref D) H')
    (hst : ∀ v M H' k Qk, Has H' M → st v M k → (∀ θ M' H2, X.N = names θ → Has H2 M' → k θ M' → wipe (vals θ) vs = wipe (vals η) vs → Qk (vals θ) H2) → g v (wipe (vals η) vs) H' Qk)
    (hst1 : ∀ θ, X.N = names θ → ∀ v M H' k Qk, Has H' M → st1 θ v M k → (∀ θ' M' H2, X.N = names θ' → Has H2 M' → k θ' M' → wipe (vals θ') vs1 = wipe (vals θ) vs1 → Qk (vals θ') H2) → g1 v (wipe (vals θ) vs1) H' Qk)
    (h : GI X tg iter η L fun S L1 => ∀ D, ∃ Pv, Lc2S X scope tg1 iter1 elt S D L1 st st1 Pv Q) : tLc2 (WI X tg iter) g tYes (wiB X scope tg1 iter1) g1 tYes (teB X scope elt) vs vs1 (vals η) H Qh := by
  intro pins s I
  refine wpAny_mono (h nη H hH pins s I) (fun v s1 z => wpAny_mono z (fun itv s2 z2 => ?_) fun _ _ z => z) fun _ _ z => z
  obtain ⟨it, fp, tn, J, H1, ev, I2, T, t0, f2, L1, S, k1, ok, l⟩ := z2
  refine ⟨it, fp, tn, J, H1, ev, I2, T, t0, f2, fun D nD => ?_⟩
  obtain ⟨Pv, l⟩ := l D
  refine ⟨fun i m H => m = S.n - i ∧ i ≤ S.n ∧ ∃ M, Has H M ∧ Pv i M, ⟨S.n, by simp, Nat.zero_le _, _, k1.new nD, l.h0⟩, ?_⟩
  rintro t m H2 ⟨rfl, hi2, M, h3, q1⟩
  have kk := l.kp t M hi2 h3.1 q1
  by_cases hlt : t < S.n
  · refine .inr ⟨ok.goes t H2 M hlt h3 kk, fun H' => ∃ M, Has H' M ∧ Pv (t + 1) M, fun H' p' => ⟨S.n - (t + 1), by omega, rfl, hlt, p'⟩, fun v H3 y => ?_⟩
    obtain ⟨E, it', h4⟩ := ok.yields t H2 v H3 M hlt h3 kk y
    refine hst v (E ++ M) H3 _ _ h4 (l.hs t v E M hlt it' h4.1 q1) fun θ M' H5 nθ h5 q2 ew => ⟨ew, ?_⟩
    refine yes_in (ite_t ?_)
    intro s' H' C cl fp' pins2 s3 I3
    refine wpAny_mono (q2 s' H' C cl fp' nθ H5 h5 pins2 s3 I3) (fun v s1 z => wpAny_mono z (fun itv s2 z2 => ?_) fun _ _ z => z) fun _ _ z => z
    obtain ⟨it2, fp2, tn2, J2, H6, ev2, I4, T2, t02, f3, L2, S1, k2, ok1, Pw, w⟩ := z2
    refine ⟨it2, fp2, tn2, J2, H6, ev2, I4, T2, t02, f3, fun j m H => m = S1.n - j ∧ j ≤ S1.n ∧ ∃ M, Has H M ∧ Pw j M, ⟨S1.n, by simp, Nat.zero_le _, _, k2, w.h0⟩, ?_⟩
    rintro j m2 H7 ⟨rfl, hj2, M7, h7, p7⟩
    have kk1 := w.kp j M7 hj2 h7.1 p7
    by_cases hlt1 : j < S1.n
    · refine .inr ⟨ok1.goes j H7 M7 hlt1 h7 kk1, fun H' => ∃ M, Has H' M ∧ Pw (j + 1) M, fun H' p' => ⟨S1.n - (j + 1), by omega, rfl, hlt1, p'⟩, fun v1 H8 y1 => ?_⟩
      obtain ⟨E1, it1, h8⟩ := ok1.yields j H7 v1 H8 M7 hlt1 h7 kk1 y1
      refine hst1 θ nθ v1 (E1 ++ M7) H8 _ _ h8 (w.hs j v1 E1 M7 hlt1 it1 h8.1 p7) fun θ' M8 H9 nθ' h9 q9 ew1 => ⟨ew1, ?_⟩
      refine yes_in (ite_t ?_)
      intro s4 H10 C1 cl1 fp1
      refine (ite_out (gts_out (q9 s4 H10 C1 cl1 fp1)) s4 H10 C1 cl1 fp1).then nθ' h9 fun y2 M2 H11 h11 q4 => ?_
      obtain ⟨acc, M3, m2, z, sw, q5⟩ := q4
      exact ⟨acc, h11.get m2, z, M3, h11.swap sw, q5⟩
    · have e : j = S1.n := by omega
      subst e
      exact .inl ⟨ok1.stops H7 M7 h7 kk1, M7, h7, w.hd M7 p7⟩
  · have e : t = S.n := by omega
    subst e
    exact .inl ⟨ok.stops H2 M h3 kk, hq D M H2 h3 (l.hd M q1)⟩
/-- the store of an inner item: one name -/
abbrev stPut (y : Str) : En → V → Lg → (En → Lg → Prop) → Prop := fun θ v M k => ∃ θ', Put y v θ θ' ∧ k θ' M
theorem lift_put {θ : En} : StLift (stPut y θ) := fun _ _ _ _ _ _ _ h ⟨θ', p, z⟩ => ⟨θ', p, h _ z⟩
theorem st_put {j : Nat} (hj : X.N[j]? = some y) (hN : X.N.Nodup) : ∀ θ, X.N = names θ → ∀ v M H' k Qk, Has H' M → stPut y θ v M k → (∀ θ' M' H2, X.N = names θ' → Has H2 M' → k θ' M' → wipe (vals θ') [j] = wipe (vals θ) [j] → Qk (vals θ') H2) → gName j v (wipe (vals θ) [j]) H' Qk := fun θ nθ v M H' k Qk hM ⟨θ', p, q⟩ hk => by
  obtain ⟨i, h1, h2, h3⟩ := p.idx
  have ij : j = i := idxU hN hj (by rw [nθ]; exact h1)
  subst ij
  have e1 : (wipe (vals θ) [j]).set j (some v) = vals θ' := by
    rw [h2]
    show ((vals θ).set j none).set j (some v) = _
    rw [List.set_set]
  have z := hk θ' M H' (by rw [h3]; exact nθ) hM q (by rw [h2]; exact wipe_one)
  show Qk ((wipe (vals θ) [j]).set j (some v)) H'
  rw [e1]
  exact z
/-- [elt for x, y, z in iter for w in iter1] -/
theorem ge_lc31 {g : V → V → En} {g3 : V → V → V → En} {kt : Nat} {pt : Pos} (P : PutF x η f) (R : ∀ v, PutF y (f v) (g v)) (T : ∀ v u, PutF z (g v u) (g3 v u)) (h : GI X (.Tuple [.Name x p1, .Name y p2, .Name z p3] kt pt) iter η L fun S L1 => ∀ D, ∃ Pv, Lc2S X scope (.Name w p4) iter1 elt S D L1 (stThree g3) (stPut w) Pv Q) (hwN : w ∈ X.N)
    (hb : blkC X.N X.env.scope scope [(x, X.N.idxOf x), (y, X.N.idxOf y), (z, X.N.idxOf z), (w, X.N.idxOf w)] = true) (hw : wipe (vals η) [X.N.idxOf x, X.N.idxOf y, X.N.idxOf z, X.N.idxOf w] = vals η)
    (hlx : LocB X scope x := by exact fun _ _ _ _ _ => ⟨.inl rfl, .inr rfl⟩) (hly : LocB X scope y := by exact fun _ _ _ _ _ => ⟨.inl rfl, .inr rfl⟩) (hlz : LocB X scope z := by exact fun _ _ _ _ _ => ⟨.inl rfl, .inr rfl⟩) (hlw : LocB X scope w := by exact fun _ _ _ _ _ => ⟨.inl rfl, .inr rfl⟩)
    (hN : X.N.Nodup := by assumption) (hc : X.calm = true := by rfl) (hs : ∀ z, foldedSetIterable iter X.env z = pure z := by intro _; rfl) (hs1 : ∀ env z, foldedSetIterable iter1 env z = pure z := by intro _ _; rfl) : GE X (.ListComp elt [⟨.Tuple [.Name x p1, .Name y p2, .Name z p3] kt pt, iter, [], 0⟩, ⟨.Name w p4, iter1, [], 0⟩] scope pos) η L Q := fun nη H hH => by
  obtain ⟨i, h1, h2⟩ := P.idx
  obtain ⟨i2, k1, -⟩ := (R .non).idx
  obtain ⟨i3, l1, -⟩ := (T .non .non).idx
  have nf : ∀ v, X.N = names (f v) := fun v => by rw [(h2 v).2]; exact nη
  have hi : X.N[i]? = some x := by rw [nη]; exact h1
  have hi2 : X.N[i2]? = some y := by rw [nf .non]; exact k1
  have ng : ∀ v u, X.N = names (g v u) := fun v u => (nf v).trans ((R v).at hN (nf v) hi2 u).2.symm
  have hi3 : X.N[i3]? = some z := by rw [ng .non .non]; exact l1
  have jl := List.idxOf_lt_length_of_mem hwN
  have hj : X.N[X.N.idxOf w]? = some w := by rw [List.getElem?_eq_getElem jl, List.getElem_idxOf jl]
  generalize X.N.idxOf w = j at *
  rw [idxEq hN hi, idxEq hN hi2, idxEq hN hi3] at hb hw
  refine WE.of (pe_lc2 (own := [(x, i), (y, i2), (z, i3), (w, j)]) (vs1 := [j]) (g := gTup X.K 3 (gCons (gName i) (gCons (gName i2) (gCons (gName i3) gNil)))) hc hN pi_W (blkOk_by hb) (by simp) (fun s H C cl fp => pg_tup (X := blkX X s H scope C cl fp) (n := 3) hc (pgs_cons (pg_name hN hi (hlx s H C cl fp).1 (hlx s H C cl fp).2) (pgs_cons (pg_name hN hi2 (hly s H C cl fp).1 (hly s H C cl fp).2) (pgs_cons (pg_name hN hi3 (hlz s H C cl fp).1 (hlz s H C cl fp).2) pgs_nil))) rfl rfl) (fun s H C cl fp => pts_nil) pi_wiB (fun s H C cl fp => pg_name (X := blkX X s H scope C cl fp) hN hj (hlw s H C cl fp).1 (hlw s H C cl fp).2) (fun s H C cl fp => pts_nil) pe_teB hs hs1)
    (lc2_core' (Qh := up Q) (st := stThree g3) nη hH (fun D M H' hM q => ⟨M, hM, q⟩) (fun v M H' k Qk hM ⟨p, a, b, c, ev, mp, q⟩ hk => ?_) (st_put hj hN) h)
  have e3 : vals (g3 a b c) = (((vals η).set i (some a)).set i2 (some b)).set i3 (some c) := by
    rw [((T a b).at hN (ng a b) hi3 c).1, ((R a).at hN (nf a) hi2 b).1, (h2 a).1]
  have nθ : X.N = names (g3 a b c) := (ng a b).trans ((T a b).at hN (ng a b) hi3 c).2.symm
  refine ⟨p, [a, b, c], ev, sqt hM mp, rfl, a, [b, c], rfl, b, [c], rfl, c, [], rfl, rfl, ?_⟩
  have zz := hk (g3 a b c) M H' nθ hM q (by rw [e3, wipe_mem (by simp), wipe_mem (by simp), wipe_mem (by simp)])
  rw [e3] at zz
  show Qk ((((wipe (vals η) [i, i2, i3, j]).set i (some a)).set i2 (some b)).set i3 (some c)) H'
  rw [hw]
  exact zz
end
section
variable {X : Cx} {η : En} {L : Lg} {elt iter tg tg1 iter1 : Expr} {scope : Scope} {pos p1 p2 p3 p4 : Pos} {x y z w : Str} {f : V → En} {Q : QV}
/-- what the turns within a turn are shown of -/
abbrev InnR {α : Type} (X : Cx) (scope : Scope) (elt : Expr) (st1 : En → V → Lg → (En → Lg → Prop) → Prop) (Rep : Lg → V → α → Prop) (D : Addr) (zs : List V) (R : Lg) (ds : List α) (θ : En) (S1 : Src) (N : Lg) : Prop :=
  ∃ R', Sub ((D, .lst zs) :: R') N ∧ (∀ e ∈ R, e ∈ R') ∧ S1.n = ds.length ∧ (∀ M, (∀ e ∈ R', e ∈ M) → S1.keep M) ∧
    ∀ j y E zs2 R2, j < S1.n → S1.item j y E → (∀ e ∈ R', e ∈ R2) → ((E ++ ((D, HO.lst zs2) :: R2)).map (·.1)).Nodup → ∃ a, ds[j]? = some a ∧ st1 θ y (E ++ ((D, .lst zs2) :: R2)) fun θ' M' => EltR X scope elt Rep D zs2 R2 a θ' M'
def Rep2L (X : Cx) (scope : Scope) (tg1 iter1 elt : Expr) (st : V → Lg → (En → Lg → Prop) → Prop) (st1 : En → V → Lg → (En → Lg → Prop) → Prop) (Q : V → Lg → Prop) (S : Src) (L1 : Lg) : Prop :=
  ∃ (α : Type) (Rep : Lg → V → α → Prop) (ds : Nat → List α), RepMono Rep ∧ ((List.range S.n).flatMap ds).length ≤ 1000000 ∧ (∀ M, (∀ e ∈ L1, e ∈ M) → S.keep M) ∧
    (∀ D i x E zs R, i < S.n → S.item i x E → (∀ e ∈ L1, e ∈ R) → ((E ++ ((D, HO.lst zs) :: R)).map (·.1)).Nodup → st x (E ++ ((D, .lst zs) :: R)) fun θ M' => AllBlk X scope fun B => GI B tg1 iter1 θ M' fun S1 N => InnR X scope elt st1 Rep D zs R (ds i) θ S1 N) ∧
    ∀ D zs R, (∀ e ∈ L1, e ∈ R) → Reps (Rep R) zs ((List.range S.n).flatMap ds) → Q (.ref D) ((D, .lst zs) :: R)
theorem lc2_rep {st : V → Lg → (En → Lg → Prop) → Prop} {st1 : En → V → Lg → (En → Lg → Prop) → Prop} (lift : StLift st) (lift1 : ∀ θ, StLift (st1 θ)) {S : Src} (h : Rep2L X scope tg1 iter1 elt st st1 Q S L) (D : Addr) : ∃ Pv, Lc2S X scope tg1 iter1 elt S D L st st1 Pv (drp Q) := by
  obtain ⟨α, Rep, ds, mono, hn, kp, tn, q⟩ := h
  have pre : ∀ i, i ≤ S.n → ∃ r, (List.range S.n).flatMap ds = (List.range i).flatMap ds ++ r := fun i hi => by
    have e : List.range S.n = List.range i ++ (List.range (S.n - i)).map (i + ·) := by
      rw [show S.n = i + (S.n - i) by omega, List.range_add]
      simp
    rw [e, List.flatMap_append]
    exact ⟨_, rfl⟩
  refine ⟨fun i M => ∃ zs R, Sub ((D, .lst zs) :: R) M ∧ (∀ e ∈ L, e ∈ R) ∧ Reps (Rep R) zs ((List.range i).flatMap ds), ⟨[], L, Sub.refl, fun _ h => h, .nil⟩, ?_, ?_, ?_⟩
  · rintro i M _ nd ⟨zs, R, sb, up, -⟩
    exact kp M fun e he => (sb.to nd).2 _ (List.mem_cons_of_mem _ (up e he))
  · rintro i x E M hi it nd ⟨zs, R, sb, up, rp⟩
    have sE := Sub.append sb (E := E)
    refine lift _ _ _ _ _ nd sE (fun θ h => ?_) (tn D i x E zs R hi it up (sE.to nd).1)
    intro s1 H1 C1 cl1 fp1
    refine GI.sub sE ((h s1 H1 C1 cl1 fp1).imp fun S1 N ⟨R', sb1, up1, en, kp1, tn1⟩ => ?_)
    refine ⟨fun j M => ∃ zs2 R2, Sub ((D, .lst zs2) :: R2) M ∧ (∀ e ∈ R', e ∈ R2) ∧ Reps (Rep R2) zs2 ((List.range i).flatMap ds ++ (ds i).take j), ⟨zs, R', sb1, fun _ h => h, by rw [List.take_zero, List.append_nil]; exact rp.imp fun v b k => mono _ _ _ _ up1 k⟩, ?_, ?_, ?_⟩
    · rintro j M2 _ nd2 ⟨zs2, R2, sb2, up2, -⟩
      exact kp1 M2 fun e he => (sb2.to nd2).2 _ (List.mem_cons_of_mem _ (up2 e he))
    · rintro j y E1 M2 hj it1 nd2 ⟨zs2, R2, sb2, up2, rp2⟩
      have sE2 := Sub.append sb2 (E := E1)
      obtain ⟨a, ga, tt⟩ := tn1 j y E1 zs2 R2 hj it1 up2 (sE2.to nd2).1
      refine lift1 θ _ _ _ _ _ nd2 sE2 (fun θ' h' => ?_) tt
      have hl := rp2.len
      have small : zs2.length < 10000000 := by
        obtain ⟨r, er⟩ := pre (i + 1) (by omega)
        rw [er, List.range_succ, List.flatMap_append, List.length_append, List.length_append] at hn
        simp only [List.flatMap_cons, List.flatMap_nil, List.append_nil] at hn
        rw [List.length_append, List.length_take] at hl
        omega
      have z := elt_turn mono small rp2 h' sE2
      have e : (List.range i).flatMap ds ++ (ds i).take j ++ [a] = (List.range i).flatMap ds ++ (ds i).take (j + 1) := by
        rw [List.append_assoc, List.take_succ, ga]
        rfl
      rw [e] at z
      intro s2 H2 C2 cl2 fp2
      refine gts_nil (ite_t ?_)
      intro s3 H3 C3 cl3 fp3
      exact (ite_out (gts_out (z s2 H2 C2 cl2 fp2)) s3 H3 C3 cl3 fp3).imp fun y M2 ⟨acc, M3, a1, a2, a3, zs', R3, b1, b2, b3⟩ => ⟨acc, M3, a1, a2, a3, zs', R3, b1, fun e he => b2 _ (up2 e he), b3⟩
    · rintro M2 ⟨zs2, R2, sb2, up2, rp2⟩
      refine ⟨zs2, R2, sb2, fun e he => up2 _ (up1 _ (up e he)), ?_⟩
      rw [List.take_of_length_le (by omega)] at rp2
      rw [List.range_succ, List.flatMap_append]
      simpa using rp2
  · rintro M ⟨zs, R, sb, up, rp⟩
    exact ⟨_, sb, q D zs R up rp⟩
theorem ge_lcR31 {g : V → V → En} {g3 : V → V → V → En} {kt : Nat} {pt : Pos} (P : PutF x η f) (R : ∀ v, PutF y (f v) (g v)) (T : ∀ v u, PutF z (g v u) (g3 v u)) (h : GI X (.Tuple [.Name x p1, .Name y p2, .Name z p3] kt pt) iter η L (Rep2L X scope (.Name w p4) iter1 elt (stThree g3) (stPut w) Q)) (hwN : w ∈ X.N)
    (hb : blkC X.N X.env.scope scope [(x, X.N.idxOf x), (y, X.N.idxOf y), (z, X.N.idxOf z), (w, X.N.idxOf w)] = true) (hw : wipe (vals η) [X.N.idxOf x, X.N.idxOf y, X.N.idxOf z, X.N.idxOf w] = vals η)
    (hlx : LocB X scope x := by exact fun _ _ _ _ _ => ⟨.inl rfl, .inr rfl⟩) (hly : LocB X scope y := by exact fun _ _ _ _ _ => ⟨.inl rfl, .inr rfl⟩) (hlz : LocB X scope z := by exact fun _ _ _ _ _ => ⟨.inl rfl, .inr rfl⟩) (hlw : LocB X scope w := by exact fun _ _ _ _ _ => ⟨.inl rfl, .inr rfl⟩)
    (hN : X.N.Nodup := by assumption) (hc : X.calm = true := by rfl) (hs : ∀ z, foldedSetIterable iter X.env z = pure z := by intro _; rfl) (hs1 : ∀ env z, foldedSetIterable iter1 env z = pure z := by intro _ _; rfl) : GE X (.ListComp elt [⟨.Tuple [.Name x p1, .Name y p2, .Name z p3] kt pt, iter, [], 0⟩, ⟨.Name w p4, iter1, [], 0⟩] scope pos) η L Q :=
  GE.undrp (ge_lc31 P R T (h.imp fun S L1 r D => lc2_rep lift_three (fun _ => lift_put) r D) hwN hb hw hlx hly hlz hlw hN hc hs hs1)
end
section
variable {X : Cx} {η : En} {L : Lg} {Q : QV} {f : Addr} {x : Str} {e : Expr} {es : List Expr} {pos p1 : Pos}
/-- x(e, .., *es) -/
theorem ge_callFS {φ : List V → Lg → Prop} (hm : X.mg x = some (.ref f)) (hk : PySem.W.keepIn X.K (.ref f) = true) (F : X.N = names η → GF X η f argsP φ Q) (h : GA X (e :: es) η L φ) (hg : Gl X x := by rfl) (hd : (x == ("__debug__" : Str)) = false := by decide)
    (he : starEach (e :: es) X.env = (false, eval e X.env) :: starEach es X.env := by rfl) (hst : (backTo pos (starEach es X.env)).any (·.1) = true := by rfl) : GE X (.Call (.Name x p1) (e :: es) [] pos) η L Q := fun hN H hH pins s I => by
  refine wpAny_Call_Name_kw (ld_glob I hg hm ?_ hd)
  refine PySem.W.callWith_S2 (h₀ := X.base) I.ok.mod.kin hk ?_ he hst
  exact thn (h hN H hH pos pins s I) fun us s1 ⟨vs, H1, J, r, L1, h1, q⟩ => ⟨J.kIn, F hN pins s1 H1 us vs L1 h1 J r q⟩
end
end G
set_option Elab.async false
set_option linter.all false
set_option maxRecDepth 100000
set_option maxHeartbeats 4000000
namespace G
open PySem PySem.Spec PyProof.Rows L2
section
variable {X : Cx} {η : En} {L : Lg} {elt iter tg tg1 iter1 : Expr} {scope : Scope} {pos p1 p2 p3 p4 : Pos} {x y z w : Str} {f : V → En} {Q : QV}
/-- u = [elt for x in iter for y in iter1] -/
theorem gs_lc11 {D : GD} {u : Str} {fu : V → En} {pu : Pos} (Pu : PutF u η fu) (P : PutF x η f) (h : GI X (.Name x p1) iter η L fun S L1 => ∀ d, ∃ Pv, Lc2S X scope (.Name y p2) iter1 elt S d L1 (stOne f) (stPut y) Pv fun v M => D.nx (fu v) M) (hyN : y ∈ X.N) (hb : blkC X.N X.env.scope scope [(x, X.N.idxOf x), (y, X.N.idxOf y)] = true) (hw : wipe (vals η) [X.N.idxOf x, X.N.idxOf y] = vals η)
    (hlx : LocB X scope x := by exact fun _ _ _ _ _ => ⟨.inl rfl, .inr rfl⟩) (hly : LocB X scope y := by exact fun _ _ _ _ _ => ⟨.inl rfl, .inr rfl⟩)
    (hul : X.env.scope.names.lookup u = some .local := by rfl) (hsw : swapsWith (.ListComp elt [⟨.Name x p1, iter, [], 0⟩, ⟨.Name y p2, iter1, [], 0⟩] scope pos) (some (.Name u pu)) p3.line X.env = pure true := by rfl)
    (hN : X.N.Nodup := by assumption) (hc : X.calm = true := by rfl) (hs : ∀ z, foldedSetIterable iter X.env z = pure z := by intro _; rfl) (hs1 : ∀ env z, foldedSetIterable iter1 env z = pure z := by intro _ _; rfl) : GS X (.Assign [.Name u pu] (.ListComp elt [⟨.Name x p1, iter, [], 0⟩, ⟨.Name y p2, iter1, [], 0⟩] scope pos) p3) D η L := fun nη H hH => by
  obtain ⟨i, h1, h2⟩ := P.idx
  obtain ⟨k, k1, k2⟩ := Pu.idx
  have hi : X.N[i]? = some x := by rw [nη]; exact h1
  have hk : X.N[k]? = some u := by rw [nη]; exact k1
  have jl := List.idxOf_lt_length_of_mem hyN
  have hj : X.N[X.N.idxOf y]? = some y := by rw [List.getElem?_eq_getElem jl, List.getElem_idxOf jl]
  generalize X.N.idxOf y = j at *
  rw [idxEq hN hi] at hb hw
  refine WS.of (ps_setLc2 (own := [(x, i), (y, j)]) (vs1 := [j]) hc hN hk hul hsw pi_W (blkOk_by hb) (by simp) (fun s H C cl fp => pg_name (X := blkX X s H scope C cl fp) hN hi (hlx s H C cl fp).1 (hlx s H C cl fp).2) (fun s H C cl fp => pts_nil) pi_wiB (fun s H C cl fp => pg_name (X := blkX X s H scope C cl fp) hN hj (hly s H C cl fp).1 (hly s H C cl fp).2) (fun s H C cl fp => pts_nil) pe_teB hs hs1) ?_
  refine lc2_core' (Qh := fun v H1 => gName k v (vals η) H1 (D.ends X).nx) (st := stOne f) nη hH (fun d M H' hM q => ?_) (fun v M H' k Qk hM q hk => ?_) (st_put hj hN) h
  · show upS X D.nx ((vals η).set k (some (.ref d))) H'
    exact ⟨fu (.ref d), M, by rw [(k2 _).2]; exact nη, (k2 _).1.symm, hM, q⟩
  · show Qk ((wipe (vals η) [i, j]).set i (some v)) H'
    rw [hw]
    have z := hk (f v) M H' (by rw [(h2 v).2]; exact nη) hM q (by rw [(h2 v).1]; exact wipe_mem (by simp))
    rw [(h2 v).1] at z
    exact z
theorem gs_lcR11 {D : GD} {u : Str} {fu : V → En} {pu : Pos} (Pu : PutF u η fu) (P : PutF x η f) (h : GI X (.Name x p1) iter η L (Rep2L X scope (.Name y p2) iter1 elt (stOne f) (stPut y) fun v M => D.nx (fu v) M)) (hyN : y ∈ X.N) (hb : blkC X.N X.env.scope scope [(x, X.N.idxOf x), (y, X.N.idxOf y)] = true) (hw : wipe (vals η) [X.N.idxOf x, X.N.idxOf y] = vals η)
    (hlx : LocB X scope x := by exact fun _ _ _ _ _ => ⟨.inl rfl, .inr rfl⟩) (hly : LocB X scope y := by exact fun _ _ _ _ _ => ⟨.inl rfl, .inr rfl⟩)
    (hul : X.env.scope.names.lookup u = some .local := by rfl) (hsw : swapsWith (.ListComp elt [⟨.Name x p1, iter, [], 0⟩, ⟨.Name y p2, iter1, [], 0⟩] scope pos) (some (.Name u pu)) p3.line X.env = pure true := by rfl)
    (hN : X.N.Nodup := by assumption) (hc : X.calm = true := by rfl) (hs : ∀ z, foldedSetIterable iter X.env z = pure z := by intro _; rfl) (hs1 : ∀ env z, foldedSetIterable iter1 env z = pure z := by intro _ _; rfl) : GS X (.Assign [.Name u pu] (.ListComp elt [⟨.Name x p1, iter, [], 0⟩, ⟨.Name y p2, iter1, [], 0⟩] scope pos) p3) D η L :=
  GS.undrp (gs_lc11 Pu P (h.imp fun S L1 r d => lc2_rep (Q := fun v M => D.nx (fu v) M) lift_one (fun _ => lift_put) r d) hyN hb hw hlx hly hul hsw hN hc hs hs1)
end
end G
set_option Elab.async false
set_option linter.all false
set_option maxRecDepth 100000
set_option maxHeartbeats 4000000
namespace G
open PySem PySem.Spec PyProof.Rows L2
end G
set_option Elab.async false
set_option linter.all false
set_option maxRecDepth 100000
set_option maxHeartbeats 4000000
namespace SrtO
open PySem PySem.Spec PyProof.Rows
abbrev I3 := Int × Int × Int
/-- by the first, then by the second, then by the third -/
def lex3 (p q : I3) : Bool := if p.1 = q.1 then (if p.2.1 = q.2.1 then decide (p.2.2 < q.2.2) else decide (p.2.1 < q.2.1)) else decide (p.1 < q.1)
theorem lex3_iff {p q : I3} : lex3 p q = true ↔ p.1 < q.1 ∨ (p.1 = q.1 ∧ (p.2.1 < q.2.1 ∨ (p.2.1 = q.2.1 ∧ p.2.2 < q.2.2))) := by
  unfold lex3
  split
  · split <;> (rw [decide_eq_true_iff]; omega)
  · rw [decide_eq_true_iff]
    omega
theorem lex3_no {p q : I3} : lex3 p q = false ↔ ¬ (p.1 < q.1 ∨ (p.1 = q.1 ∧ (p.2.1 < q.2.1 ∨ (p.2.1 = q.2.1 ∧ p.2.2 < q.2.2)))) := by
  rw [← lex3_iff, Bool.not_eq_true]
theorem swo3 {α : Type} (k : α → I3) : Swo fun v u => lex3 (k v) (k u) := by
  refine ⟨fun x y h => ?_, fun x y z h1 h2 => ?_⟩
  · have := lex3_iff.mp h
    exact lex3_no.mpr (by omega)
  · have := lex3_no.mp h1
    have := lex3_no.mp h2
    exact lex3_no.mpr (by omega)
/-- a tuple of three ints in the heap -/
def IsTrip (h : Heap) (v : Value) (p : I3) : Prop := ∃ a o t u y n, v = .ref a ∧ h.get? a = some o ∧ o.cls = .type "tuple" ∧ o.data = .seq #[.int p.1 t, .int p.2.1 u, .int p.2.2 y] n
section
variable {prog : Program} {w : World} {A : Around} {E : Value → Shared → Prop} {s : Shared}
theorem trip_cmp {vs : List Value} {k : Value → I3} (hp : ∀ v ∈ vs, IsTrip s.heap v (k v)) : Cmp prog w A s (tuples' true) (fun p => p.1 ∈ vs) (lt2 fun v u => lex3 (k v) (k u)) := by
  intro p q hm hm'
  have h1 := hp _ hm
  have h2 := hp _ hm'
  show wpAny (model prog w) A (keyLt' (tuples' true) p.1 q.1) (fun r s' => s' = s ∧ r = lex3 (k p.1) (k q.1)) (fun _ _ => False) s
  unfold lex3
  generalize k p.1 = a at h1 ⊢
  generalize k q.1 = b at h2 ⊢
  obtain ⟨x, y, z⟩ := a
  obtain ⟨x', y', z'⟩ := b
  obtain ⟨i, o, t, u, v, n, e, ho, -, hd⟩ := h1
  obtain ⟨i', o', t', u', v', n', e', ho', -, hd'⟩ := h2
  dsimp only at hd hd' ⊢
  rw [e, e']
  refine PySem.W.kat_lt ho hd ho' hd' ?_
  show PySem.W.KatLex prog w A true (decide (3 < 3)) _ [(.int x t, .int x' t'), (.int y u, .int y' u'), (.int z v, .int z' v')] 0 s
  refine PySem.W.kat_cons (SeqAt.EqAt.int_int x t x' t' prog w _ _ ?_)
  refine PySem.W.kat_go (fun e1 => ?_) (fun e1 => ?_)
  · have ex : x = x' := by simpa using e1
    rw [if_pos ex]
    refine PySem.W.kat_yes (PySem.W.kat_cons (SeqAt.EqAt.int_int y u y' u' prog w _ _ ?_))
    refine PySem.W.kat_go (fun e2 => ?_) (fun e2 => ?_)
    · have ey : y = y' := by simpa using e2
      rw [if_pos ey]
      refine PySem.W.kat_yes (PySem.W.kat_cons (SeqAt.EqAt.int_int z v z' v' prog w _ _ ?_))
      refine PySem.W.kat_go (fun e3 => ?_) (fun e3 => ?_)
      · have ez : z = z' := by simpa using e3
        exact PySem.W.kat_yes (PySem.W.kat_nil ⟨rfl, by rw [ez]; exact (decide_eq_false (Int.lt_irrefl _)).symm⟩)
      · refine PySem.W.kat_no (PySem.W.kat_one _ _ (PyProof.Rows.lt_int ?_))
        exact (show s = s ∧ decide (z < z') = decide (z < z') from ⟨rfl, rfl⟩)
    · have ey : ¬ y = y' := by simpa using e2
      rw [if_neg ey]
      refine PySem.W.kat_no (PySem.W.kat_one _ _ (PyProof.Rows.lt_int ?_))
      exact (show s = s ∧ decide (y < y') = decide (y < y') from ⟨rfl, rfl⟩)
  · have ex : ¬ x = x' := by simpa using e1
    rw [if_neg ex]
    exact PySem.W.kat_no (oneLt_int ⟨rfl, rfl⟩)
theorem firsts3 {h : Heap} : ∀ {vs : List Value}, (∀ v ∈ vs, ∃ p, IsTrip h v p) → ∃ fs : List Value, PySem.W.KatTups h vs fs ∧ fs.length = vs.length ∧ ∀ f ∈ fs, ∃ x t, f = Value.int x t
  | [], _ => ⟨[], PySem.W.KatTups.nil, rfl, fun _ hm => absurd hm List.not_mem_nil⟩
  | v :: vs, hp => by
    obtain ⟨fs, h1, h2, h3⟩ := firsts3 fun u hu => hp u (List.mem_cons_of_mem v hu)
    obtain ⟨p, a, o, t, u, y, n, rfl, ho, hc, hd⟩ := hp v List.mem_cons_self
    refine ⟨.int p.1 t :: fs, PySem.W.KatTups.cons ho hc hd rfl h1, congrArg (· + 1) h2, fun f hm => (List.mem_cons.mp hm).elim (fun e => ⟨_, _, e⟩) (h3 f)⟩
theorem sorted_trips {l : Addr} {vs : List Value} {k : Value → I3} {Q : Value → Shared → Prop} (hl : s.heap.IsList l vs.toArray) (hz : vs.length ≤ sizeLine) (hp : ∀ v ∈ vs, IsTrip s.heap v (k v))
    (h : ∀ (h' : Heap) (d : Addr) (out : List Value), Srtd (fun v u => lex3 (k v) (k u)) out → Stb (fun v u => lex3 (k v) (k u)) out vs → (∀ b o, s.heap.get? b = some o → h'.get? b = some o) → s.heap.objs.size ≤ d → (∃ n, h'.get? d = some (seqObj "list" out.toArray n)) → Q (.ref d) { s with heap := h' }) :
    wpAny (model prog w) A (call (.builtin "sorted") [.ref l]) Q E s := by
  refine sorted_ord (swo3 k) hl hz (fun h2 h₁ a ha kk h' keep => ?_) fun out hs hb => h _ _ out hs hb (fun b o e => sortedAll_old e) (Nat.le_succ _) (sortedAll_at s.heap vs out.toArray)
  have hp' : ∀ v ∈ vs, IsTrip h' v (k v) := fun v hm => by
    obtain ⟨b, o, t, u, y, n, e, ho, hc, hd⟩ := hp v hm
    obtain ⟨ne, hb⟩ := kk b o ho
    exact ⟨b, o, t, u, y, n, e, keep b o ne hb, hc, hd⟩
  obtain ⟨fs, g1, g2, g3⟩ := firsts3 fun v hm => ⟨_, hp' v hm⟩
  refine ⟨tuples' true, fun Q E hq => PySem.W.kat_kind (T := .type "int") g1 (by omega) (fun f hm => ?_) (by rfl) ?_, trip_cmp hp'⟩
  · obtain ⟨x, t, rfl⟩ := g3 f hm
    exact PySem.W.Looks.now
  · rw [show (Value.type "int" != Value.type "tuple") = true by decide +kernel]
    exact hq
end
end SrtO
namespace L2
open PySem PySem.Spec PyProof.Rows
/-- sorted of a list of triples of ints: a rearrangement, ascending -/
def rSorted3 (K : PySem.W.Frag) : List V → Hp → VK → Prop := fun vs H Q => ∃ (a : Addr) (xs : List V) (k : V → SrtO.I3), vs = [V.ref a] ∧ SqL K H a xs ∧ (∀ x ∈ xs, ∃ t, x = V.ref t ∧ H t = some (.tup [.int (k x).1, .int (k x).2.1, .int (k x).2.2])) ∧
  ∀ ys p, (ys.Pairwise fun x y => SrtO.lex3 (k y) (k x) = false) → ys.Perm xs → H p = none → Q (.ref p) (upd H p (.lst ys))
theorem cr_sorted3 {X : Cx} : CallR X (.builtin "sorted") (rSorted3 X.K) := by
  intro pins s σ H vs us Q I r h
  obtain ⟨a, xs, k, rfl, hs, hx, q⟩ := h
  obtain ⟨its, rv, hl, hz⟩ := I.list hs
  obtain ⟨u, rfl, ru⟩ := vals1 r
  obtain rfl : u = Value.ref a := ru
  obtain ⟨e1, e2⟩ := refs_back rv fun x m => (hx x m).imp fun t h => h.1
  refine SrtO.sorted_trips (k := fun u => k (backV u)) hl.isList (by rw [← rv.length]; exact hz) (fun v hv => ?_) fun h' d out h1 h2 kp hd hn => ?_
  · obtain ⟨t, rfl⟩ := e2 v hv
    obtain ⟨t', e, ht⟩ := hx (V.ref t) (by rw [e1]; exact List.mem_map.mpr ⟨_, hv, rfl⟩)
    cases e
    obtain ⟨_, its2, r2, o, ho, hc, n, hd⟩ := I.hok _ _ ht
    cases r2 with
    | cons ra rb =>
    cases rb with
    | cons rb rc =>
    cases rc with
    | cons rc rd =>
    cases rd
    obtain ⟨t1, rfl⟩ := ra
    obtain ⟨t2, rfl⟩ := rb
    obtain ⟨t3, rfl⟩ := rc
    exact ⟨t, o, t1, t2, t3, n, rfl, ho, hc, hd⟩
  · have h3 : ∀ u ∈ out, ∃ a, u = Value.ref a := fun u hu => e2 u (h2.perm.mem_iff.mp hu)
    obtain ⟨n, hn⟩ := hn
    have pm : (out.map backV).Perm xs := by
      rw [e1]
      exact h2.perm.map backV
    refine ⟨.ref d, upd H d (.lst (out.map backV)), I.laid (t' := s.toks) kp hd ⟨?_, out, n, vals_back h3, hn⟩, rfl, q _ d (List.pairwise_map.mpr h1) pm (I.hok.fresh hd)⟩
    rw [pm.length_eq]
    exact hz
end L2
namespace G
open PySem PySem.Spec PyProof.Rows L2
abbrev Tr3 := Addr × SrtO.I3
def trV (ts : List Tr3) : List V := ts.map fun e => .ref e.1
def trO (p : SrtO.I3) : HO := .tup [.int p.1, .int p.2.1, .int p.2.2]
def Trs (ts : List Tr3) (L : Lg) : Prop := ∀ e ∈ ts, (e.1, trO e.2) ∈ L
/-- the triple at an address -/
def key3 (ts : List Tr3) : V → SrtO.I3
  | .ref a => ((ts.find? fun e => e.1 == a).map (·.2)).getD (0, 0, 0)
  | _ => (0, 0, 0)
theorem key3_at {ts : List Tr3} {L : Lg} {H : Hp} (hH : Has H L) (ht : Trs ts L) {e : Tr3} (he : e ∈ ts) : key3 ts (.ref e.1) = e.2 := by
  obtain ⟨d, z⟩ : ∃ d, ts.find? (fun d => d.1 == e.1) = some d := by
    cases z : ts.find? (fun d => d.1 == e.1) with
    | some d => exact ⟨d, rfl⟩
    | none => exact absurd (List.find?_eq_none.mp z e he) (by simp)
  have k : d.1 = e.1 := by simpa using List.find?_some z
  have h1 := hH.get (ht e he)
  have h2 := hH.get (ht d (List.mem_of_find?_eq_some z))
  rw [k, h1] at h2
  show ((ts.find? fun d => d.1 == e.1).map (·.2)).getD (0, 0, 0) = e.2
  rw [z]
  injection Option.some.inj h2 with t
  injection t with t1 t
  injection t with t2 t
  injection t with t3 _
  exact Prod.ext (V.int.inj t1).symm (Prod.ext (V.int.inj t2).symm (V.int.inj t3).symm)
theorem perm_lift {α : Type} {f : α → V} {ys zs : List V} (pm : ys.Perm zs) : ∀ ps : List α, ps.map f = zs → ∃ qs : List α, qs.Perm ps ∧ ys = qs.map f := by
  induction pm with
  | nil => exact fun ps e => ⟨[], by rw [List.map_eq_nil_iff.mp e], rfl⟩
  | cons x _ ih =>
    intro ps e
    obtain ⟨a, r, rfl, e2, e3⟩ := List.map_eq_cons_iff.mp e
    obtain ⟨qs, h1, h2⟩ := ih r e3
    exact ⟨a :: qs, h1.cons a, by rw [h2, ← e2]; rfl⟩
  | swap x y l =>
    intro ps e
    obtain ⟨a, r, rfl, e2, e3⟩ := List.map_eq_cons_iff.mp e
    obtain ⟨b, s, rfl, e4, e5⟩ := List.map_eq_cons_iff.mp e3
    exact ⟨b :: a :: s, .swap _ _ _, by rw [← e2, ← e4, ← e5]; rfl⟩
  | trans _ _ ih1 ih2 =>
    intro ps e
    obtain ⟨qs, h1, h2⟩ := ih2 ps e
    obtain ⟨rs, h3, h4⟩ := ih1 qs h2.symm
    exact ⟨rs, h3.trans h1, h4⟩
theorem gc_sorted3 {X : Cx} {L : Lg} {Q : QV} {q : Addr} {ts : List Tr3} (m : (q, HO.lst (trV ts)) ∈ L) (ht : Trs ts L)
    (h : ∀ (qs : List Tr3) p, qs.Perm ts → (qs.Pairwise fun a b => a.2.1 ≤ b.2.1) → Q (.ref p) ((p, .lst (trV qs)) :: L)) : GC X (.builtin "sorted") [.ref q] L Q :=
  GC.of cr_sorted3 fun H hH => ⟨q, _, key3 ts, rfl, sql hH m, fun x hx => by
    obtain ⟨e, he, rfl⟩ := List.mem_map.mp hx
    refine ⟨e.1, rfl, ?_⟩
    rw [key3_at hH ht he]
    exact hH.get (ht e he), fun ys p srt pm hp => by
    obtain ⟨qs, hq, rfl⟩ := perm_lift pm ts rfl
    refine ⟨_, hH.new hp, h qs p hq ?_⟩
    have s2 : qs.Pairwise fun x y => SrtO.lex3 (key3 ts (.ref y.1)) (key3 ts (.ref x.1)) = false := List.pairwise_map.mp srt
    refine s2.imp_of_mem fun {a b} ha hb z => ?_
    rw [key3_at hH ht (hq.mem_iff.mp ha), key3_at hH ht (hq.mem_iff.mp hb)] at z
    have := SrtO.lex3_no.mp z
    omega⟩
end G
set_option Elab.async false
set_option linter.all false
set_option maxRecDepth 100000
set_option maxHeartbeats 4000000
namespace G
open PySem PySem.Spec PyProof.Rows L2
section
variable {X : Cx} {η : En} {L : Lg} {elt iter : Expr} {ifs : List Expr} {scope : Scope} {pos p1 p2 p3 p4 : Pos} {x y z : Str} {f : V → En}
theorem monoThree {g : V → V → V → En} : ∀ v M (k k' : En → Lg → Prop), (∀ θ M', k θ M' → k' θ M') → stThree g v M k → stThree g v M k' := fun _ _ _ _ m ⟨p, a, b, c, e, h, z⟩ => ⟨p, a, b, c, e, h, m _ _ z⟩
/-- u = [elt for x, y, z in iter if ..] -/
theorem gs_lc3 {D : GD} {u : Str} {fu : V → En} {pu : Pos} {g : V → V → En} {g3 : V → V → V → En} {kt : Nat} {pt : Pos} (Pu : PutF u η fu) (P : PutF x η f) (R : ∀ v, PutF y (f v) (g v)) (T : ∀ v u, PutF z (g v u) (g3 v u))
    (h : GI X (.Tuple [.Name x p1, .Name y p2, .Name z p3] kt pt) iter η L fun S L1 => ∀ d, ∃ Pv, LcS X scope ifs elt S d L1 (stThree g3) Pv fun v M => D.nx (fu v) M)
    (hb : blkC X.N X.env.scope scope [(x, X.N.idxOf x), (y, X.N.idxOf y), (z, X.N.idxOf z)] = true) (hw : wipe (vals η) [X.N.idxOf x, X.N.idxOf y, X.N.idxOf z] = vals η)
    (hlx : LocB X scope x := by exact fun _ _ _ _ _ => ⟨.inl rfl, .inr rfl⟩) (hly : LocB X scope y := by exact fun _ _ _ _ _ => ⟨.inl rfl, .inr rfl⟩) (hlz : LocB X scope z := by exact fun _ _ _ _ _ => ⟨.inl rfl, .inr rfl⟩)
    (hul : X.env.scope.names.lookup u = some .local := by rfl) (hsw : swapsWith (.ListComp elt [⟨.Tuple [.Name x p1, .Name y p2, .Name z p3] kt pt, iter, ifs, 0⟩] scope pos) (some (.Name u pu)) p4.line X.env = pure true := by rfl)
    (hN : X.N.Nodup := by assumption) (hc : X.calm = true := by rfl) (hs : ∀ z, foldedSetIterable iter X.env z = pure z := by intro _; rfl) : GS X (.Assign [.Name u pu] (.ListComp elt [⟨.Tuple [.Name x p1, .Name y p2, .Name z p3] kt pt, iter, ifs, 0⟩] scope pos) p4) D η L := fun nη H hH => by
  obtain ⟨l, m1, m2⟩ := Pu.idx
  obtain ⟨i, h1, h2⟩ := P.idx
  obtain ⟨i2, k1, -⟩ := (R .non).idx
  obtain ⟨i3, l1, -⟩ := (T .non .non).idx
  have hl : X.N[l]? = some u := nη ▸ m1
  have nf : ∀ v, X.N = names (f v) := fun v => (h2 v).2 ▸ nη
  have hi : X.N[i]? = some x := nη ▸ h1
  have hi2 : X.N[i2]? = some y := nf .non ▸ k1
  have ng : ∀ v u, X.N = names (g v u) := fun v u => (nf v).trans ((R v).at hN (nf v) hi2 u).2.symm
  have hi3 : X.N[i3]? = some z := ng .non .non ▸ l1
  rw [idxEq hN hi, idxEq hN hi2, idxEq hN hi3] at hb hw
  refine WS.of (ps_setLc (own := [(x, i), (y, i2), (z, i3)]) (g := gTup X.K 3 (gCons (gName i) (gCons (gName i2) (gCons (gName i3) gNil)))) hc hN hl hul hsw pi_W (blkOk_by hb) (fun s H C cl fp => pg_tup (X := blkX X s H scope C cl fp) (n := 3) hc (pgs_cons (pg_name hN hi (hlx s H C cl fp).1 (hlx s H C cl fp).2) (pgs_cons (pg_name hN hi2 (hly s H C cl fp).1 (hly s H C cl fp).2) (pgs_cons (pg_name hN hi3 (hlz s H C cl fp).1 (hlz s H C cl fp).2) pgs_nil))) rfl rfl) pts_ttB pe_teB hs) ?_
  refine lc_core' (Qh := fun v H1 => gName l v (vals η) H1 (D.ends X).nx) (st := stThree g3) nη hH (fun d M H' hM q => ?_) (fun v M H' k Qk hM ⟨p, a, b, c, ev, mp, q⟩ hk => ?_) h
  · show upS X D.nx ((vals η).set l (some (.ref d))) H'
    exact ⟨fu (.ref d), M, by rw [(m2 _).2]; exact nη, (m2 _).1.symm, hM, q⟩
  · have e3 : vals (g3 a b c) = (((vals η).set i (some a)).set i2 (some b)).set i3 (some c) := by
      rw [((T a b).at hN (ng a b) hi3 c).1, ((R a).at hN (nf a) hi2 b).1, (h2 a).1]
    have nθ : X.N = names (g3 a b c) := (ng a b).trans ((T a b).at hN (ng a b) hi3 c).2.symm
    refine ⟨p, [a, b, c], ev, sqt hM mp, rfl, a, [b, c], rfl, b, [c], rfl, c, [], rfl, rfl, ?_⟩
    have zz := hk (g3 a b c) M H' nθ hM q (by rw [e3, wipe_mem (by simp), wipe_mem (by simp), wipe_mem (by simp)])
    rw [e3] at zz
    show Qk (((wipe (vals η) [i, i2, i3]).set i (some a)).set i2 (some b) |>.set i3 (some c)) H'
    rw [hw]
    exact zz
theorem gs_lcF3 {D : GD} {u : Str} {fu : V → En} {pu : Pos} {g : V → V → En} {g3 : V → V → V → En} {kt : Nat} {pt : Pos} (Pu : PutF u η fu) (P : PutF x η f) (R : ∀ v, PutF y (f v) (g v)) (T : ∀ v u, PutF z (g v u) (g3 v u))
    (h : GI X (.Tuple [.Name x p1, .Name y p2, .Name z p3] kt pt) iter η L (FreshL X scope ifs elt (stThree g3) fun v M => D.nx (fu v) M))
    (hb : blkC X.N X.env.scope scope [(x, X.N.idxOf x), (y, X.N.idxOf y), (z, X.N.idxOf z)] = true) (hw : wipe (vals η) [X.N.idxOf x, X.N.idxOf y, X.N.idxOf z] = vals η)
    (hlx : LocB X scope x := by exact fun _ _ _ _ _ => ⟨.inl rfl, .inr rfl⟩) (hly : LocB X scope y := by exact fun _ _ _ _ _ => ⟨.inl rfl, .inr rfl⟩) (hlz : LocB X scope z := by exact fun _ _ _ _ _ => ⟨.inl rfl, .inr rfl⟩)
    (hul : X.env.scope.names.lookup u = some .local := by rfl) (hsw : swapsWith (.ListComp elt [⟨.Tuple [.Name x p1, .Name y p2, .Name z p3] kt pt, iter, ifs, 0⟩] scope pos) (some (.Name u pu)) p4.line X.env = pure true := by rfl)
    (hN : X.N.Nodup := by assumption) (hc : X.calm = true := by rfl) (hs : ∀ z, foldedSetIterable iter X.env z = pure z := by intro _; rfl) : GS X (.Assign [.Name u pu] (.ListComp elt [⟨.Tuple [.Name x p1, .Name y p2, .Name z p3] kt pt, iter, ifs, 0⟩] scope pos) p4) D η L :=
  GS.undrp (gs_lc3 Pu P R T (h.imp fun S L1 ⟨p, g, pc, q⟩ d => pc.lc (Q := fun v M => D.nx (fu v) M) monoThree d (q d)) hb hw hlx hly hlz hul hsw hN hc hs)
variable {R : V → Lg → Prop} {q : Addr} {o : HO} {xs : List V} {p : Nat → Bool} {pl : Nat → HO}
/-- triples of a row that stand in the ledger -/
theorem fresh_row3 {g : V → V → V → En} (mq : (q, o) ∈ L) (hl : xs.length ≤ 1000000) (ht : ∀ i v, xs[i]? = some v → ∃ t a b c, v = .ref t ∧ (t, HO.tup [a, b, c]) ∈ L ∧ ∀ R, (∀ e ∈ L, e ∈ R) → TurnF X scope ifs elt R (g a b c) (p i) (pl i)) (r : ∀ D es, es.map (·.2) = ((List.range xs.length).filter p).map pl → R (.ref D) ((D, .lst (refs es)) :: (es ++ L))) : FreshL X scope ifs elt (stThree g) R ⟨xs.length, fun M => (q, o) ∈ M, itemAt xs⟩ L := by
  refine ⟨p, pl, ⟨hl, fun M h => h _ mq, fun i x E R M hi ⟨hx, hE⟩ nd hR s => ?_⟩, r⟩
  subst hE
  obtain ⟨t, a, b, c, ev, m, k⟩ := ht i x hx
  exact ⟨t, a, b, c, ev, (s.to nd).2 _ (hR _ m), turnF_use (k R hR) s⟩
end
end G
set_option Elab.async false
set_option linter.all false
set_option maxRecDepth 100000
set_option maxHeartbeats 4000000
namespace L2
open PySem PySem.Spec PyProof.Rows
theorem turn_long {P : Program} {w : World} {K : PySem.W.Frag} {tg : Expr} (it : Addr) (lo c : Int) (n : Nat) : Turn P w K tg (Itc lo c n) [it] it (fun i h => IsLongIter h it (lo + (i : Nat) * c) ((n : Int) - (i : Nat)) c) where
  mem := by simp
  obj := fun i h st b hb => by
    have e : b = it := by simpa using hb
    subst e
    exact ⟨_, st, fun v z => nomatch z⟩
  keep := fun i h h' st k => k it (by simp) _ st
  item := by
    intro X hP hw hK hc i pins s σ H E I hf st hg
    subst hP hw hK
    obtain ⟨f0, f1, f2, f3, f4, f5⟩ := hf it (by simp)
    refine (Walks.longrange (prog := X.prog) (w := X.w) (I.ok.hd hc) it lo c n).item i s _ _ hg st fun v h' tk hv st' kk => ?_
    obtain ⟨t, rfl⟩ := hv
    have I1 : Inv X pins σ H { s with heap := h', toks := tk } := I.turned (fun b o hb e => kk b o (by simpa using hb) e) f0 f1 f3 f4 f5
    exact ⟨_, rfl, go_of (s := { s with heap := h', toks := tk }) (n := "longrange_iterator") st' rfl rfl (by decide) ⟨.int (lo + (i : Nat) * c), H, I1, ⟨t, rfl⟩, ⟨rfl, rfl⟩, st', fun b hb => (hf b hb).1⟩⟩
  done := by
    intro X hP hw hK hc i pins s σ H E I hf st hg
    subst hP hw hK
    obtain ⟨f0, f1, f2, f3, f4, f5⟩ := hf it (by simp)
    exact wpAny_pyNext_long_end (I.ok.hd hc) st (by have : n ≤ i := hg; omega) fun h' eb => ⟨rfl, I.turned (t' := s.toks) (fun b o hb e => eb b o hb e) f0 f1 f3 f4 f5⟩
  self := fun A i s Q E st h => wpAny_pyIter_longiter st h
/-- n items, the step above 0 -/
def RgB (i j c : Int) (n : Nat) : Prop := 0 < c ∧ c.natAbs.log2 < 9000 ∧ Builtin.Range.rangeSize i j c = n
def iRngB (ta : TA) : TI := fun σ H R => ta σ H fun vs H1 => ∃ (i j c : Int) (n : Nat), vs = [.int i, .int j, .int c] ∧ RgB i j c n ∧ R (Itc i c n) H1
theorem pi_rangeB {X : Cx} {tg a b c : Expr} {ta : TA} {p pos : Pos} (hg : Gl X "range") (hm : X.mg "range" = none) (ha : PA X [a, b, c] ta)
    (hs : starEach [a, b, c] X.env = (false, eval a X.env) :: starEach [b, c] X.env := by rfl) (hpl : (backTo pos (starEach [b, c] X.env)).any (·.1) = false := by rfl) :
    PI X tg (.Call (.Name "range" p) [a, b, c] [] pos) (iRngB ta) := by
  refine ⟨fun pins s σ H R I h => ?_⟩
  refine Call_ (ld_blt I hg hm boot_range (PyProof.Rows.callWith_type1 (thn (ha.run pos pins s σ H _ I h) fun us s1 ⟨vs, H1, I1, r1, q1⟩ => ?_) hs hpl))
  obtain ⟨i, j, k, n, e, ⟨c0, c1, c3⟩, q⟩ := q1
  subst e
  cases r1 with
  | cons r rr =>
    cases rr with
    | cons r' rr =>
      cases rr with
      | cons r'' rr =>
        cases rr
        obtain ⟨t, rfl⟩ := r
        obtain ⟨t', rfl⟩ := r'
        obtain ⟨t'', rfl⟩ := r''
        refine call_range_3 (by omega) ?_ (.inl (PyProof.noPylong_of_log2 c1))
        have I2 : Inv X pins σ H1 { s1 with heap := s1.heap.push { cls := .type "range", data := .fields #[.int i t, .int j t', .int k t''] } } := I1.kept (t' := s1.toks) fun b o e => Heap.get?_push_of_some _ e
        have e1 : i + ((0 : Nat) : Int) * k = i := by simp
        have e2 : (n : Int) - ((0 : Nat) : Int) = Builtin.Range.rangeSize i j k := by rw [c3]; simp
        by_cases sm : Builtin.Range.small i j k = true
        · refine wpAny_pyIter_range (IsRange.new ..) sm ?_
          refine pi_one (tk := s1.toks) I2 _ (turn_rangeC _ i k n) ?_ q
          show IsRangeIter _ _ (i + ((0 : Nat) : Int) * k) ((n : Int) - ((0 : Nat) : Int)) k
          rw [e1, e2]
          exact Heap.get?_push_size _ rfl
        · refine wpAny_pyIter_longrange (IsRange.new ..) (by simpa using sm) ?_
          refine pi_one (tk := s1.toks) I2 _ (turn_long _ i k n) ?_ q
          show IsLongIter _ _ (i + ((0 : Nat) : Int) * k) ((n : Int) - ((0 : Nat) : Int)) k
          rw [e1, e2]
          exact Heap.get?_push_size _ rfl
end L2
namespace G
open PySem PySem.Spec PyProof.Rows L2
/-- how many are from i on and below j, by a step -/
def stepsN (i j c : Int) : Nat := if i < j then ((j - i - 1) / c).toNat + 1 else 0
theorem RgB.of {i j c : Int} (c0 : 0 < c) (cb : c.natAbs.log2 < 9000) : RgB i j c (stepsN i j c) := by
  refine ⟨c0, cb, ?_⟩
  unfold Builtin.Range.rangeSize stepsN
  rw [if_pos c0]
  split
  · have := Int.ediv_nonneg (a := j - i - 1) (b := c) (by omega) (by omega)
    omega
  · rfl
theorem log2_lt {c : Int} {k : Nat} (h : c.natAbs < 2 ^ k) (hk : k ≤ 9000) : c.natAbs.log2 < 9000 := by
  by_cases h0 : c.natAbs = 0
  · rw [h0]
    decide +kernel
  · have := (Nat.log2_lt h0).mpr h
    omega
section
variable {X : Cx} {η : En} {L : Lg} {Q : Src → Lg → Prop} {a b c tg : Expr} {p pos : Pos}
theorem gi_rangeB (h : GA X [a, b, c] η L fun vs L1 => ∃ (i j k : Int), vs = [.int i, .int j, .int k] ∧ 0 < k ∧ k.natAbs.log2 < 9000 ∧ Q ⟨stepsN i j k, fun _ => True, itemFn fun t => .int (i + (t : Nat) * k)⟩ L1) (hm : X.mg "range" = none) (hg : Gl X "range" := by rfl)
    (hs' : starEach [a, b, c] X.env = (false, eval a X.env) :: starEach [b, c] X.env := by rfl) (hs2 : (backTo pos (starEach [b, c] X.env)).any (·.1) = false := by rfl) : GI X tg (.Call (.Name "range" p) [a, b, c] [] pos) η L Q := fun hN H hH =>
  WI.of (pi_rangeB hg hm pa_W hs' hs2) (h.then hN hH fun vs L1 H1 k1 ⟨i, j, k, e1, b0, b1, q⟩ => ⟨i, j, k, _, e1, RgB.of b0 b1, L1, _, k1, SrcOk.of walk_rangeC (fun _ _ _ _ => True.intro) (fun i H x H' M _ hM _ y => y_fn hM y), q⟩)
end
end G
set_option Elab.async false
set_option linter.all false
set_option maxRecDepth 100000
set_option maxHeartbeats 4000000
namespace G
open PySem PySem.Spec PyProof.Rows L2
theorem map_at {α : Type} {as : List α} {val : α → V} {i : Nat} {x : V} (h : (as.map val)[i]? = some x) : ∃ a, as[i]? = some a ∧ val a = x := by
  rw [List.getElem?_map] at h
  exact Option.map_eq_some_iff.mp h
theorem range_mapsG {α β : Type} {l : List α} {f : Nat → β} {g : α → β} (h : ∀ i a, l[i]? = some a → f i = g a) : (List.range l.length).map f = l.map g := by
  apply List.ext_getElem?
  intro i
  rw [List.getElem?_map, List.getElem?_map]
  by_cases hi : i < l.length
  · rw [List.getElem?_range hi, List.getElem?_eq_getElem hi]
    exact congrArg some (h i _ (List.getElem?_eq_getElem hi))
  · rw [List.getElem?_eq_none (by rw [List.length_range]; omega), List.getElem?_eq_none (by omega)]
    rfl
section
variable {X : Cx} {L : Lg} {elt : Expr} {ifs : List Expr} {scope : Scope} {f : V → En} {f3 : V → V → V → En} {R : V → Lg → Prop} {q : Addr} {o : HO} {α : Type} {as : List α} {val : α → V} {t : α → Bool} {g : α → V} {pl : α → HO}
/-- the n-th of a list, told -/
def gotA {α β : Type} (as : List α) (h : α → β) (d : β) (i : Nat) : β := ((as[i]?).map h).getD d
theorem gotA_at {α β : Type} {as : List α} {h : α → β} {d : β} {i : Nat} {a : α} (e : as[i]? = some a) : gotA as h d i = h a := by
  unfold gotA
  rw [e]
  rfl
theorem gotA_all {α β : Type} {as : List α} {t : α → Bool} {h : α → β} {d : β} : ((List.range as.length).filter (gotA as t false)).map (gotA as h d) = (as.filter t).map h :=
  filter_listA fun i v e => ⟨gotA_at e, gotA_at e⟩
theorem pure_rowA (mq : (q, o) ∈ L) (hl : as.length ≤ 1000000) (ht : ∀ a ∈ as, TurnP X scope ifs elt L (f (val a)) (t a) (g a)) (h : ∀ D, R (.ref D) ((D, .lst ((as.filter t).map g)) :: L)) : PureL X scope ifs elt (stOne f) R ⟨(as.map val).length, fun M => (q, o) ∈ M, itemAt (as.map val)⟩ L := by
  refine ⟨gotA as t false, gotA as g .non, ⟨by show (as.map val).length ≤ _; rw [List.length_map]; exact hl, fun M h => h _ mq, fun i x E D acc M hi ⟨hx, hE⟩ _ s => ?_⟩, fun D => ?_⟩
  · subst hE
    obtain ⟨a, he, rfl⟩ := map_at hx
    have k := turnP_use (st := stOne f) (ht a (List.mem_of_getElem? he)) s
    rw [gotA_at he, gotA_at he]
    exact k
  · show R (.ref D) ((D, .lst (((List.range (as.map val).length).filter _).map _)) :: L)
    rw [List.length_map, gotA_all]
    exact h D
/-- over a row of triples, all items named -/
theorem fresh_rowA3 {x y z : α → V} (mq : (q, o) ∈ L) (hl : as.length ≤ 1000000) (ht : ∀ a ∈ as, ∃ b, val a = .ref b ∧ (b, HO.tup [x a, y a, z a]) ∈ L ∧ ∀ N, (∀ x ∈ L, x ∈ N) → TurnF X scope ifs elt N (f3 (x a) (y a) (z a)) (t a) (pl a)) (r : ∀ D es, es.map (·.2) = (as.filter t).map pl → R (.ref D) ((D, .lst (refs es)) :: (es ++ L))) : FreshL X scope ifs elt (stThree f3) R ⟨(as.map val).length, fun M => (q, o) ∈ M, itemAt (as.map val)⟩ L := by
  refine fresh_row3 (p := gotA as t false) (pl := gotA as pl (.lst [])) mq (by rw [List.length_map]; exact hl) (fun i v hx => ?_) fun D es he => r D es ?_
  · obtain ⟨a, he, rfl⟩ := map_at hx
    obtain ⟨b, e1, e2, e3⟩ := ht a (List.mem_of_getElem? he)
    rw [gotA_at he, gotA_at he]
    exact ⟨b, _, _, _, e1, e2, e3⟩
  · rw [he, List.length_map, gotA_all]
end
end G
set_option Elab.async false
set_option linter.all false
set_option maxRecDepth 100000
set_option maxHeartbeats 4000000
namespace G
open PySem PySem.Spec PyProof.Rows L2
end G
set_option Elab.async false
set_option linter.all false
set_option maxRecDepth 100000
set_option maxHeartbeats 4000000
namespace G
open PySem PySem.Spec PyProof.Rows L2
end G
set_option Elab.async false
set_option linter.all false
set_option maxRecDepth 100000
set_option maxHeartbeats 4000000
namespace G
open PySem PySem.Spec PyProof.Rows L2
class St (P : Prop) (P' : outParam Prop) : Prop where
  to : P' → P
class AtI (x : Str) (v : outParam V) (η : En) : Prop where
  h : At x v η
instance (priority := high) atiH {x : Str} {v : V} {η : En} : AtI x v ((x, some v) :: η) := ⟨.here⟩
instance (priority := low) atiT {x : Str} {v : V} {e : Str × Option V} {η : En} [a : AtI x v η] : AtI x v (e :: η) := ⟨.there a.h⟩
class MemI (p : Addr) (o : outParam HO) (L : Lg) : Prop where
  h : (p, o) ∈ L
instance (priority := high) memiH {p : Addr} {o : HO} {L : Lg} : MemI p o ((p, o) :: L) := ⟨mem0⟩
instance (priority := low) memiT {p : Addr} {o : HO} {e : Addr × HO} {L : Lg} [m : MemI p o L] : MemI p o (e :: L) := ⟨memS m.h⟩
class NStar (e : Expr) : Prop where
  h : ∀ es env, starEach (e :: es) env = (false, eval e env) :: starEach es env
instance {a b} : NStar (.Name a b) := ⟨fun _ _ => rfl⟩
instance {a b c} : NStar (.Constant a b c) := ⟨fun _ _ => rfl⟩
instance {a b c d} : NStar (.BinOp a b c d) := ⟨fun _ _ => rfl⟩
instance {a b c} : NStar (.UnaryOp a b c) := ⟨fun _ _ => rfl⟩
instance {a b c} : NStar (.BoolOp a b c) := ⟨fun _ _ => rfl⟩
instance {a b c d} : NStar (.Compare a b c d) := ⟨fun _ _ => rfl⟩
instance {a b c d} : NStar (.Call a b c d) := ⟨fun _ _ => rfl⟩
instance {a b c} : NStar (.Attribute a b c) := ⟨fun _ _ => rfl⟩
instance {a b c} : NStar (.Subscript a b c) := ⟨fun _ _ => rfl⟩
instance {a b c} : NStar (.Tuple a b c) := ⟨fun _ _ => rfl⟩
instance {a b} : NStar (.List a b) := ⟨fun _ _ => rfl⟩
instance {a b c d} : NStar (.IfExp a b c d) := ⟨fun _ _ => rfl⟩
instance {a b c} : NStar (.NamedExpr a b c) := ⟨fun _ _ => rfl⟩
instance {a b c d} : NStar (.Lambda a b c d) := ⟨fun _ _ => rfl⟩
instance {a b c} : NStar (.Dict a b c) := ⟨fun _ _ => rfl⟩
instance {a b c} : NStar (.Set a b c) := ⟨fun _ _ => rfl⟩
instance {a b c d} : NStar (.ListComp a b c d) := ⟨fun _ _ => rfl⟩
instance {a b c d} : NStar (.SetComp a b c d) := ⟨fun _ _ => rfl⟩
instance {a b c d f} : NStar (.DictComp a b c d f) := ⟨fun _ _ => rfl⟩
instance {a b c d} : NStar (.GeneratorExp a b c d) := ⟨fun _ _ => rfl⟩
instance {a b} : NStar (.JoinedStr a b) := ⟨fun _ _ => rfl⟩
instance {a b c d} : NStar (.FormattedValue a b c d) := ⟨fun _ _ => rfl⟩
class NMark (op : CmpOp) (b : Expr) : Prop where
  h : behindInMarks op b = false
instance {op a b} : NMark op (.Name a b) := ⟨rfl⟩
instance {op a b c} : NMark op (.Constant a b c) := ⟨rfl⟩
instance {op a b c d} : NMark op (.BinOp a b c d) := ⟨rfl⟩
instance {op a b c} : NMark op (.UnaryOp a b c) := ⟨rfl⟩
instance {op a b c d} : NMark op (.Call a b c d) := ⟨rfl⟩
instance {op a b c} : NMark op (.Attribute a b c) := ⟨rfl⟩
instance {op a b c} : NMark op (.Subscript a b c) := ⟨rfl⟩
instance {op a b c} : NMark op (.Tuple a b c) := ⟨rfl⟩
instance {op a b} : NMark op (.List a b) := ⟨rfl⟩
instance {op a b c} : NMark op (.NamedExpr a b c) := ⟨rfl⟩
instance {op a b c d} : NMark op (.Lambda a b c d) := ⟨rfl⟩
instance {op a b c} : NMark op (.Dict a b c) := ⟨rfl⟩
instance {op a b c d} : NMark op (.ListComp a b c d) := ⟨rfl⟩
instance {op a b c d} : NMark op (.SetComp a b c d) := ⟨rfl⟩
instance {op a b c d f} : NMark op (.DictComp a b c d f) := ⟨rfl⟩
instance {op a b c d} : NMark op (.GeneratorExp a b c d) := ⟨rfl⟩
instance {op a b} : NMark op (.JoinedStr a b) := ⟨rfl⟩
instance {op a b c d} : NMark op (.FormattedValue a b c d) := ⟨rfl⟩
instance {op a b c} : NMark op (.BoolOp a b c) := ⟨rfl⟩
instance {op a b c d} : NMark op (.Compare a b c d) := ⟨rfl⟩
instance {op a b c d} : NMark op (.IfExp a b c d) := ⟨rfl⟩
section
variable {X : Cx} {η : En} {L : Lg} {Q : QV} {a b c e : Expr} {pos : Pos}
instance {i : Int} {j} : St (GE X (.Constant (.int i) j pos) η L Q) (Q (.int i) L) := ⟨ge_int⟩
instance {i : Bool} {j} : St (GE X (.Constant (.bool i) j pos) η L Q) (Q (.bl i) L) := ⟨ge_bl⟩
instance {j} : St (GE X (.Constant .none j pos) η L Q) (Q .non L) := ⟨ge_non⟩
instance {i : Str} {j} : St (GE X (.Constant (.str i) j pos) η L Q) (Q (.str i) L) := ⟨ge_str⟩
instance {op : Operator} : St (GE X (.BinOp a op b pos) η L Q) (GE X a η L fun x L1 => GE X b η L1 fun y L2 => GOp X (binaryOp op) x y L2 Q) := ⟨ge_bin⟩
instance {op : UnaryOp} : St (GE X (.UnaryOp op a pos) η L Q) (GE X a η L fun x L1 => GUn X (unaryOp op) x L1 Q) := ⟨ge_un⟩
instance (priority := high) : St (GE X (.UnaryOp .Not a pos) η L Q) (GE X a η L fun x L1 => ∃ k, x = .bl k ∧ Q (.bl (!k)) L1) := ⟨ge_not⟩
instance {op : CmpOp} [m : NMark op b] : St (GE X (.Compare a [op] [b] pos) η L Q) (GE X a η L fun x L1 => GE X b η L1 fun y L2 => GOp X (compareOp op) x y L2 Q) := ⟨fun h => ge_cmp h m.h⟩
instance {op : BoolOp} : St (GE X (.BoolOp op [a] pos) η L Q) (GE X a η L Q) := ⟨ge_one⟩
instance {rest : List Expr} : St (GE X (.BoolOp .And (a :: b :: rest) pos) η L Q) (GE X a η L fun x L1 => ∃ k, x = .bl k ∧ if k = true then GE X (.BoolOp .And (b :: rest) pos) η L1 Q else Q (.bl false) L1) := ⟨ge_and⟩
instance {rest : List Expr} : St (GE X (.BoolOp .Or (a :: b :: rest) pos) η L Q) (GE X a η L fun x L1 => ∃ k, x = .bl k ∧ if k = true then Q (.bl true) L1 else GE X (.BoolOp .Or (b :: rest) pos) η L1 Q) := ⟨ge_or⟩
instance : St (GE X (.IfExp c a b pos) η L Q) (GT X c η L fun k L1 => if k = true then GE X a η L1 Q else GE X b η L1 Q) := ⟨ge_if⟩
instance {es : List Expr} {x1} : St (GE X (.Tuple es x1 pos) η L Q) (GA X es η L fun xs L1 => xs.length ≤ sizeLine ∧ ∀ p, Q (.ref p) ((p, .tup xs) :: L1)) := ⟨ge_tup⟩
instance {es : List Expr} : St (GE X (.List es pos) η L Q) (GA X es η L fun xs L1 => xs.length ≤ sizeLine ∧ ∀ p, Q (.ref p) ((p, .lst xs) :: L1)) := ⟨ge_lst⟩
instance {Q : List V → Lg → Prop} : St (GA X [] η L Q) (Q [] L) := ⟨ga_nil⟩
instance {es : List Expr} {Q : List V → Lg → Prop} [n : NStar e] : St (GA X (e :: es) η L Q) (GE X e η L fun x L1 => GA X es η L1 fun xs L2 => Q (x :: xs) L2) := ⟨fun h => ga_cons h (n.h _ _)⟩
instance {i j : Int} : St (GOp X (binaryOp .Add) (.int i) (.int j) L Q) (Q (.int (i + j)) L) := ⟨go_add⟩
instance {i j : Int} : St (GOp X (binaryOp .Sub) (.int i) (.int j) L Q) (Q (.int (i - j)) L) := ⟨go_sub⟩
instance {i j : Int} : St (GOp X (compareOp .Lt) (.int i) (.int j) L Q) (Q (.bl (decide (i < j))) L) := ⟨go_lt⟩
instance {i j : Int} : St (GOp X (compareOp .LtE) (.int i) (.int j) L Q) (Q (.bl (decide (i ≤ j))) L) := ⟨go_le⟩
instance {i j : Int} : St (GOp X (compareOp .Eq) (.int i) (.int j) L Q) (Q (.bl (decide (i = j))) L) := ⟨go_eq⟩
instance {i j : Int} : St (GOp X (compareOp .Gt) (.int i) (.int j) L Q) (Q (.bl (decide (j < i))) L) := ⟨go_gt⟩
instance {i j : Int} : St (GOp X (compareOp .GtE) (.int i) (.int j) L Q) (Q (.bl (decide (j ≤ i))) L) := ⟨go_ge⟩
instance {i j : Int} : St (GOp X (compareOp .NotEq) (.int i) (.int j) L Q) (Q (.bl (!decide (i = j))) L) := ⟨go_ne⟩
end
section
variable {X : Cx} {η : En} {L : Lg} {Q : Bool → Lg → Prop} {a b c e : Expr} {pos : Pos}
instance {op : CmpOp} [m : NMark op b] : St (GT X (.Compare a [op] [b] pos) η L Q) (GE X a η L fun x L1 => GE X b η L1 fun y L2 => GOp X (compareOp op) x y L2 fun z L3 => ∃ k, z = .bl k ∧ Q k L3) := ⟨fun h => gt_cmp h m.h⟩
instance {op : BoolOp} {es : List Expr} : St (GT X (.BoolOp op es pos) η L Q) (GW X (.BoolOp op es pos) η L Q) := ⟨gt_w⟩
instance : St (GT X (.UnaryOp .Not a pos) η L Q) (GT X a η L fun k L1 => Q (!k) L1) := ⟨gt_not⟩
instance {x : Str} : St (GT X (.Name x pos) η L Q) (GE X (.Name x pos) η L fun x L1 => ∃ k, x = .bl k ∧ Q k L1) := ⟨gt_val⟩
instance {f : Expr} {es ks} : St (GT X (.Call f es ks pos) η L Q) (GE X (.Call f es ks pos) η L fun x L1 => ∃ k, x = .bl k ∧ Q k L1) := ⟨gt_val⟩
instance : St (GW X (.BoolOp .And [a] pos) η L Q) (GT X a η L Q) := ⟨gw_and1⟩
instance : St (GW X (.BoolOp .Or [a] pos) η L Q) (GT X a η L Q) := ⟨gw_or1⟩
instance {rest : List Expr} : St (GW X (.BoolOp .And (a :: b :: rest) pos) η L Q) (GT X a η L fun k L1 => if k = true then GW X (.BoolOp .And (b :: rest) pos) η L1 Q else Q false L1) := ⟨gw_and⟩
instance {rest : List Expr} : St (GW X (.BoolOp .Or (a :: b :: rest) pos) η L Q) (GT X a η L fun k L1 => if k = true then Q true L1 else GW X (.BoolOp .Or (b :: rest) pos) η L1 Q) := ⟨gw_or⟩
end
section
variable {X : Cx} {η : En} {L : Lg} {e : Expr} {pos : Pos} {D : GD}
instance {st : Stmt} {rest : List Stmt} : St (GSs X (st :: rest) D η L) (GS X st { nx := fun θ L1 => GSs X rest D θ L1, rt := D.rt, bk := D.bk, ct := D.ct } η L) := ⟨gss_cons⟩
instance : St (GSs X [] D η L) (D.nx η L) := ⟨gss_nil⟩
instance : St (GS X (.Return (some e) pos) D η L) (GE X e η L D.rt) := ⟨gs_ret⟩
instance : St (GS X (.Return none pos) D η L) (D.rt .non L) := ⟨gs_retN⟩
instance : St (GS X (.Pass pos) D η L) (D.nx η L) := ⟨gs_pass⟩
instance : St (GS X (.Break pos) D η L) (D.bk η L) := ⟨gs_break⟩
instance : St (GS X (.Continue pos) D η L) (D.ct η L) := ⟨gs_continue⟩
instance {Q : En → Lg → Prop} : St (GGs X [] [] η L Q) (Q η L) := ⟨ggs_nil⟩
end
instance {p q : Prop} : St (if true = true then p else q) p := ⟨fun h => h⟩
instance {p q : Prop} : St (if false = true then p else q) q := ⟨fun h => h⟩
instance {p q : Prop} : St (if (!true) = true then p else q) q := ⟨fun h => h⟩
instance {p q : Prop} : St (if (!false) = true then p else q) p := ⟨fun h => h⟩
instance {k : Bool} {q : Bool → Prop} : St (∃ j, V.bl k = .bl j ∧ q j) (q k) := ⟨fun h => ⟨_, rfl, h⟩⟩
/-- the names of a def, as its scope has them -/
def chkN (N : List Str) (sc : Scope) : Bool := N.all fun x => (sc.names.lookup x == some .local || sc.names.lookup x == some .cell) && !(x == ("__debug__" : Str)) && !(x == ("__classdict__" : Str))
class OkL (sc : Scope) (M : outParam (List Str)) : Prop where
  k : chkN M sc = true
class InS (x : Str) (M : List Str) : Prop where
  h : x ∈ M
instance (priority := high) insH {x : Str} {M : List Str} : InS x (x :: M) := ⟨mem0⟩
instance (priority := low) insT {x y : Str} {M : List Str} [i : InS x M] : InS x (y :: M) := ⟨memS i.h⟩
class NdI (N : List Str) : Prop where
  n : N.Nodup
class VisX (X : Cx) : Prop where
  n : X.N.Nodup
  f : ∀ x, X.fn x = true
  c : X.calm = true
class OkX (X : Cx) (x : Str) : Prop where
  l : Loc X.env.scope x
  d : (x == ("__debug__" : Str)) = false ∧ (x == ("__classdict__" : Str)) = false
theorem chkN_at {N : List Str} {sc : Scope} (h : chkN N sc = true) {x : Str} (m : x ∈ N) : Loc sc x ∧ (x == ("__debug__" : Str)) = false ∧ (x == ("__classdict__" : Str)) = false := by
  have := List.all_eq_true.mp h x m
  simp only [Bool.and_eq_true, Bool.or_eq_true, beq_iff_eq, Bool.not_eq_true'] at this
  exact ⟨this.1.1, this.1.2, this.2⟩
instance {P : Program} {w : World} {K : PySem.W.Frag} {mg : Str → Option Value} {base : Heap} {N : List Str} {x : Str} {sc : Scope} {f : Addr} {cdv : Value} {A : Around} {outer : List Env} {s : Shared} {H : Hp} {E0 : XK} [k : NdI N] : VisX (cx0 P w K mg base N x sc f cdv A outer s H E0) := ⟨k.n, fun _ => rfl, rfl⟩
instance {P : Program} {w : World} {K : PySem.W.Frag} {mg : Str → Option Value} {base : Heap} {N : List Str} {x : Str} {sc : Scope} {f : Addr} {cdv : Value} {A : Around} {outer : List Env} {s : Shared} {H : Hp} {E0 : XK} {y : Str} {M : List Str} [k : OkL sc M] [i : InS y M] : OkX (cx0 P w K mg base N x sc f cdv A outer s H E0) y := ⟨(chkN_at k.k i.h).1, (chkN_at k.k i.h).2⟩
class PutFI (x : Str) (η : En) (f : outParam (V → En)) : Prop where
  h : PutF x η f
instance (priority := high) putfiH {x : Str} {o : Option V} {η : En} : PutFI x ((x, o) :: η) (fun v => (x, some v) :: η) := ⟨.here⟩
instance (priority := low) putfiT {x : Str} {e : Str × Option V} {η : En} {f : V → En} [p : PutFI x η f] : PutFI x (e :: η) (fun v => e :: f v) := ⟨.there p.h⟩
class PutI (x : Str) (v : V) (η : En) (θ : outParam En) : Prop where
  h : Put x v η θ
instance (priority := high) putiH {x : Str} {v : V} {o : Option V} {η : En} : PutI x v ((x, o) :: η) ((x, some v) :: η) := ⟨.here⟩
instance (priority := low) putiT {x : Str} {v : V} {e : Str × Option V} {η θ : En} [p : PutI x v η θ] : PutI x v (e :: η) (e :: θ) := ⟨.there p.h⟩
class NSwap (e : Expr) : Prop where
  h : ∀ t l env, swapsWith e t l env = pure false
instance {a b} : NSwap (.Name a b) := ⟨fun _ _ _ => rfl⟩
instance {a b c} : NSwap (.Constant a b c) := ⟨fun _ _ _ => rfl⟩
instance {a b c d} : NSwap (.BinOp a b c d) := ⟨fun _ _ _ => rfl⟩
instance {a b c} : NSwap (.UnaryOp a b c) := ⟨fun _ _ _ => rfl⟩
instance {a b c} : NSwap (.BoolOp a b c) := ⟨fun _ _ _ => rfl⟩
instance {a b c d} : NSwap (.Compare a b c d) := ⟨fun _ _ _ => rfl⟩
instance {a b c d} : NSwap (.Call a b c d) := ⟨fun _ _ _ => rfl⟩
instance {a b c} : NSwap (.Attribute a b c) := ⟨fun _ _ _ => rfl⟩
instance {a b c} : NSwap (.Subscript a b c) := ⟨fun _ _ _ => rfl⟩
instance {a b c} : NSwap (.Tuple a b c) := ⟨fun _ _ _ => rfl⟩
instance {a b} : NSwap (.List a b) := ⟨fun _ _ _ => rfl⟩
instance {a b c d} : NSwap (.IfExp a b c d) := ⟨fun _ _ _ => rfl⟩
instance {a b c} : NSwap (.NamedExpr a b c) := ⟨fun _ _ _ => rfl⟩
instance {a b c d} : NSwap (.Lambda a b c d) := ⟨fun _ _ _ => rfl⟩
instance {a b c} : NSwap (.Dict a b c) := ⟨fun _ _ _ => rfl⟩
instance {a b c} : NSwap (.Set a b c) := ⟨fun _ _ _ => rfl⟩
instance {a b c d} : NSwap (.GeneratorExp a b c d) := ⟨fun _ _ _ => rfl⟩
instance {a b} : NSwap (.JoinedStr a b) := ⟨fun _ _ _ => rfl⟩
instance {a b c d} : NSwap (.FormattedValue a b c d) := ⟨fun _ _ _ => rfl⟩
class PIx (e : Expr) : Prop where
  h : PlainIx e
instance {a b} : PIx (.Name a b) := ⟨fun _ _ => rfl⟩
instance {a b c} : PIx (.Constant a b c) := ⟨fun _ _ => rfl⟩
instance {a b c d} : PIx (.BinOp a b c d) := ⟨fun _ _ => rfl⟩
instance {a b c} : PIx (.UnaryOp a b c) := ⟨fun _ _ => rfl⟩
instance {a b c} : PIx (.BoolOp a b c) := ⟨fun _ _ => rfl⟩
instance {a b c d} : PIx (.Compare a b c d) := ⟨fun _ _ => rfl⟩
instance {a b c d} : PIx (.Call a b c d) := ⟨fun _ _ => rfl⟩
instance {a b c} : PIx (.Attribute a b c) := ⟨fun _ _ => rfl⟩
instance {a b c} : PIx (.Subscript a b c) := ⟨fun _ _ => rfl⟩
instance {a b c} : PIx (.Tuple a b c) := ⟨fun _ _ => rfl⟩
instance {a b} : PIx (.List a b) := ⟨fun _ _ => rfl⟩
instance {a b c d} : PIx (.IfExp a b c d) := ⟨fun _ _ => rfl⟩
instance {a b c} : PIx (.NamedExpr a b c) := ⟨fun _ _ => rfl⟩
instance {a b c d} : PIx (.Lambda a b c d) := ⟨fun _ _ => rfl⟩
instance {a b c} : PIx (.Dict a b c) := ⟨fun _ _ => rfl⟩
instance {a b c} : PIx (.Set a b c) := ⟨fun _ _ => rfl⟩
instance {a b c d} : PIx (.ListComp a b c d) := ⟨fun _ _ => rfl⟩
instance {a b c d} : PIx (.SetComp a b c d) := ⟨fun _ _ => rfl⟩
instance {a b c d f} : PIx (.DictComp a b c d f) := ⟨fun _ _ => rfl⟩
instance {a b c d} : PIx (.GeneratorExp a b c d) := ⟨fun _ _ => rfl⟩
instance {a b} : PIx (.JoinedStr a b) := ⟨fun _ _ => rfl⟩
instance {a b c d} : PIx (.FormattedValue a b c d) := ⟨fun _ _ => rfl⟩
class NBase (e : Expr) : Prop where
  h : ∀ n env, attributeBase e n env (eval e env) = eval e env
instance {a b} : NBase (.Name a b) := ⟨fun _ _ => rfl⟩
instance {a b c} : NBase (.Attribute a b c) := ⟨fun _ _ => rfl⟩
instance {a b c} : NBase (.Subscript a b c) := ⟨fun _ _ => rfl⟩
class NTgt (e : Expr) : Prop where
  h : ∀ ts env, assignEach (e :: ts) env = (false, assign e env) :: assignEach ts env
instance {a b} : NTgt (.Name a b) := ⟨fun _ _ => rfl⟩
instance {a b c} : NTgt (.Attribute a b c) := ⟨fun _ _ => rfl⟩
instance {a b c} : NTgt (.Subscript a b c) := ⟨fun _ _ => rfl⟩
instance {a b c} : NTgt (.Tuple a b c) := ⟨fun _ _ => rfl⟩
class NTgts (es : List Expr) : Prop where
  h : ∀ env, (assignEach es env).length = es.length ∧ (assignEach es env).findIdx? (·.1) = none
instance : NTgts [] := ⟨fun _ => ⟨rfl, rfl⟩⟩
instance {e : Expr} {es : List Expr} [a : NTgt e] [b : NTgts es] : NTgts (e :: es) := ⟨fun env => by
  have := b.h env
  rw [a.h]
  exact ⟨by simp [this.1], by simp [List.findIdx?_cons, this.2]⟩⟩
class SLen {α β : Type} (xs : List α) (es : List β) : Prop where
  h : xs.length = es.length
instance {α β : Type} : SLen ([] : List α) ([] : List β) := ⟨rfl⟩
instance {α β : Type} {x : α} {xs : List α} {y : β} {ys : List β} [a : SLen xs ys] : SLen (x :: xs) (y :: ys) := ⟨by simp [a.h]⟩
section
variable {X : Cx} {η : En} {L : Lg} {Q : QV} {a b e : Expr} {pos : Pos} {D : GD}
instance {x : Str} {v : V} [k : OkX X x] [t : AtI x v η] : St (GE X (.Name x pos) η L Q) (Q v L) := ⟨fun q => ge_var t.h q (k.l.elim .inl fun z => .inr (.inl z)) k.d.1 k.d.2⟩
instance [i : PIx b] : St (GE X (.Subscript a b pos) η L Q) (GE X a η L fun x L1 => GE X b η L1 fun y L2 => GIx X x y L2 Q) := ⟨fun h => ge_ix h i.h⟩
instance {n : Str} [i : NBase e] : St (GE X (.Attribute e n pos) η L Q) (GE X e η L fun x L1 => GAt X n x L1 Q) := ⟨fun h => ge_attr h (i.h _ _)⟩
instance {x : Str} {f : V → En} {pos' : Pos} [k : VisX X] [o : OkX X x] [p : PutFI x η f] [s : NSwap e] : St (GS X (.Assign [.Name x pos'] e pos) D η L) (GE X e η L fun v L1 => D.nx (f v) L1) := ⟨fun h => gs_set p.h h k.n o.l (s.h _ _ _) (.inl (k.f x))⟩
instance [s : NSwap e] : St (GS X (.Expr e pos) D η L) (GE X e η L fun x L1 => D.nx η L1) := ⟨fun h => gs_expr h (s.h _ _ _)⟩
instance {x : Str} {y : V} {f : V → En} {pos' : Pos} {op : Operator} [k : VisX X] [o : OkX X x] [t : AtI x y η] [p : PutFI x η f] : St (GS X (.AugAssign (.Name x pos') op e pos) D η L) (GE X e η L fun z L1 => GIp X op y z L1 fun w L2 => D.nx (f w) L2) := ⟨fun h => gs_aug t.h p.h h k.n o.l (.inl (k.f x))⟩
instance {x : Str} {v : V} {θ : En} {Q : En → Lg → Prop} [k : VisX X] [o : OkX X x] [p : PutI x v η θ] : St (GG X (.Name x pos) v η L Q) (Q θ L) := ⟨fun h => gg_name p.h h k.n o.l (.inl (k.f x))⟩
instance {v : V} {ts : List Expr} {vs : List V} {Q : En → Lg → Prop} [n : NTgt e] : St (GGs X (e :: ts) (v :: vs) η L Q) (GG X e v η L fun θ L1 => GGs X ts vs θ L1 Q) := ⟨fun h => ggs_cons h (by rw [n.h]; rfl)⟩
instance {es : List Expr} {k : Nat} {p : Addr} {xs : List V} {Q : En → Lg → Prop} [v : VisX X] [m : MemI p (.tup xs) L] [n : NTgts es] [s : SLen xs es] : St (GG X (.Tuple es k pos) (.ref p) η L Q) (GGs X es xs η L Q) := ⟨fun h => gg_tup m.h h s.h v.c (n.h _).1 (n.h _).2⟩
instance {i j : Int} : St (GIp X .Add (.int i) (.int j) L Q) (Q (.int (i + j)) L) := ⟨gp_add⟩
instance {i j : Int} : St (GIp X .Sub (.int i) (.int j) L Q) (Q (.int (i - j)) L) := ⟨gp_sub⟩
instance {i : Int} : St (GUn X (unaryOp .USub) (.int i) L Q) (Q (.int (-i)) L) := ⟨gu_neg⟩
instance : St (GOp X (compareOp .Is) .non .non L Q) (Q (.bl true) L) := ⟨isN_non⟩
instance : St (GOp X (compareOp .IsNot) .non .non L Q) (Q (.bl false) L) := ⟨notN_non⟩
instance {i : Int} : St (GOp X (compareOp .Is) (.int i) .non L Q) (Q (.bl false) L) := ⟨isN_int⟩
instance {i : Int} : St (GOp X (compareOp .IsNot) (.int i) .non L Q) (Q (.bl true) L) := ⟨notN_int⟩
instance {i : Addr} : St (GOp X (compareOp .Is) (.ref i) .non L Q) (Q (.bl false) L) := ⟨isN_ref⟩
instance {i : Addr} : St (GOp X (compareOp .IsNot) (.ref i) .non L Q) (Q (.bl true) L) := ⟨notN_ref⟩
end
instance {i : Int} {q : Int → Prop} : St (∃ j, V.int i = .int j ∧ q j) (q i) := ⟨fun h => ⟨_, rfl, h⟩⟩
instance {i : Addr} {q : Addr → Prop} : St (∃ j, V.ref i = .ref j ∧ q j) (q i) := ⟨fun h => ⟨_, rfl, h⟩⟩
instance {a : V} {q : V → Prop} : St (∃ v, [a] = [v] ∧ q v) (q a) := ⟨fun h => ⟨_, rfl, h⟩⟩
instance {a b : V} {q : V → V → Prop} : St (∃ v w, [a, b] = [v, w] ∧ q v w) (q a b) := ⟨fun h => ⟨_, _, rfl, h⟩⟩
instance {a b c : V} {q : V → V → V → Prop} : St (∃ u v w, [a, b, c] = [u, v, w] ∧ q u v w) (q a b c) := ⟨fun h => ⟨_, _, _, rfl, h⟩⟩
class NSt (t e : Expr) : Prop where
  h : ∀ env, swappedStores [t] e env = pure none
instance {ts k p a b} : NSt (.Tuple ts k p) (.Name a b) := ⟨fun _ => rfl⟩
instance {ts k p a b c} : NSt (.Tuple ts k p) (.Constant a b c) := ⟨fun _ => rfl⟩
instance {ts k p a b c d} : NSt (.Tuple ts k p) (.BinOp a b c d) := ⟨fun _ => rfl⟩
instance {ts k p a b c} : NSt (.Tuple ts k p) (.UnaryOp a b c) := ⟨fun _ => rfl⟩
instance {ts k p a b c} : NSt (.Tuple ts k p) (.BoolOp a b c) := ⟨fun _ => rfl⟩
instance {ts k p a b c d} : NSt (.Tuple ts k p) (.Compare a b c d) := ⟨fun _ => rfl⟩
instance {ts k p a b c d} : NSt (.Tuple ts k p) (.Call a b c d) := ⟨fun _ => rfl⟩
instance {ts k p a b c} : NSt (.Tuple ts k p) (.Attribute a b c) := ⟨fun _ => rfl⟩
instance {ts k p a b c} : NSt (.Tuple ts k p) (.Subscript a b c) := ⟨fun _ => rfl⟩
instance {ts k p a b} : NSt (.Tuple ts k p) (.List a b) := ⟨fun _ => rfl⟩
instance {ts k p a b c d} : NSt (.Tuple ts k p) (.IfExp a b c d) := ⟨fun _ => rfl⟩
instance {u v p e} : NSt (.Subscript u v p) e := ⟨fun _ => by cases e <;> rfl⟩
class NAsg (t : Expr) : Prop where
  h : ∀ env, (assignEach [t] env).map (·.2) = [assign t env]
instance {ts k p} : NAsg (.Tuple ts k p) := ⟨fun _ => rfl⟩
instance {u v p} : NAsg (.Subscript u v p) := ⟨fun _ => rfl⟩
instance {X : Cx} {η : En} {L : Lg} {t e : Expr} {pos : Pos} {D : GD} [s : NSwap e] [n : NSt t e] [a : NAsg t] : St (GS X (.Assign [t] e pos) D η L) (GE X e η L fun v L1 => GG X t v η L1 D.nx) := ⟨fun h => gs_asg h (s.h _ _ _) (n.h _) (a.h _)⟩
/-- a step by a built-in's name -/
class StB (P : Prop) (mg : outParam (Str → Option Value)) (C P' : outParam Prop) : Prop where
  to : Bi mg → C → P' → P
section
variable {X : Cx} {η : En} {L : Lg} {Q : QV} {e : Expr} {es : List Expr} {pos p : Pos}
instance [n : NStar e] : StB (GE X (.Call (.Name "len" p) (e :: es) [] pos) η L Q) X.mg (Gl X "len" ∧ (backTo pos (starEach es X.env)).any (·.1) = false) (GA X (e :: es) η L fun xs L1 => GC X (.builtin "len") xs L1 Q) := ⟨fun B c h => gb_len B h c.1 (n.h _ _) c.2⟩
instance [n : NStar e] : StB (GE X (.Call (.Name "abs" p) (e :: es) [] pos) η L Q) X.mg (Gl X "abs" ∧ (backTo pos (starEach es X.env)).any (·.1) = false) (GA X (e :: es) η L fun xs L1 => GC X (.builtin "abs") xs L1 Q) := ⟨fun B c h => gb_abs B h c.1 (n.h _ _) c.2⟩
instance [n : NStar e] : StB (GE X (.Call (.Name "min" p) (e :: es) [] pos) η L Q) X.mg (Gl X "min" ∧ (backTo pos (starEach es X.env)).any (·.1) = false) (GA X (e :: es) η L fun xs L1 => GC X (.builtin "min") xs L1 Q) := ⟨fun B c h => gb_min B h c.1 (n.h _ _) c.2⟩
instance [n : NStar e] : StB (GE X (.Call (.Name "max" p) (e :: es) [] pos) η L Q) X.mg (Gl X "max" ∧ (backTo pos (starEach es X.env)).any (·.1) = false) (GA X (e :: es) η L fun xs L1 => GC X (.builtin "max") xs L1 Q) := ⟨fun B c h => gb_max B h c.1 (n.h _ _) c.2⟩
instance [n : NStar e] : StB (GE X (.Call (.Name "sum" p) (e :: es) [] pos) η L Q) X.mg (Gl X "sum" ∧ (backTo pos (starEach es X.env)).any (·.1) = false) (GA X (e :: es) η L fun xs L1 => GC X (.builtin "sum") xs L1 Q) := ⟨fun B c h => gb_sum B h c.1 (n.h _ _) c.2⟩
instance [n : NStar e] : StB (GE X (.Call (.Name "sorted" p) (e :: es) [] pos) η L Q) X.mg (Gl X "sorted" ∧ (backTo pos (starEach es X.env)).any (·.1) = false) (GA X (e :: es) η L fun xs L1 => GC X (.builtin "sorted") xs L1 Q) := ⟨fun B c h => gb_sorted B h c.1 (n.h _ _) c.2⟩
instance [n : NStar e] : StB (GE X (.Call (.Name "any" p) (e :: es) [] pos) η L Q) X.mg (Gl X "any" ∧ (backTo pos (starEach es X.env)).any (·.1) = false) (GA X (e :: es) η L fun xs L1 => GC X (.builtin "any") xs L1 Q) := ⟨fun B c h => gb_any B h c.1 (n.h _ _) c.2⟩
instance [n : NStar e] : StB (GE X (.Call (.Name "all" p) (e :: es) [] pos) η L Q) X.mg (Gl X "all" ∧ (backTo pos (starEach es X.env)).any (·.1) = false) (GA X (e :: es) η L fun xs L1 => GC X (.builtin "all") xs L1 Q) := ⟨fun B c h => gb_all B h c.1 (n.h _ _) c.2⟩
instance [n : NStar e] : StB (GE X (.Call (.Name "isinstance" p) (e :: es) [] pos) η L Q) X.mg (Gl X "isinstance" ∧ (backTo pos (starEach es X.env)).any (·.1) = false) (GA X (e :: es) η L fun xs L1 => GC X (.builtin "isinstance") xs L1 Q) := ⟨fun B c h => gb_isinstance B h c.1 (n.h _ _) c.2⟩
instance [n : NStar e] : StB (GE X (.Call (.Name "int" p) (e :: es) [] pos) η L Q) X.mg (Gl X "int" ∧ (backTo pos (starEach es X.env)).any (·.1) = false) (GA X (e :: es) η L fun xs L1 => GC X (.type "int") xs L1 Q) := ⟨fun B c h => gb_int B h c.1 (n.h _ _) c.2⟩
instance [n : NStar e] : StB (GE X (.Call (.Name "list" p) (e :: es) [] pos) η L Q) X.mg (Gl X "list" ∧ (backTo pos (starEach es X.env)).any (·.1) = false) (GA X (e :: es) η L fun xs L1 => GC X (.type "list") xs L1 Q) := ⟨fun B c h => gb_list B h c.1 (n.h _ _) c.2⟩
instance [n : NStar e] : StB (GE X (.Call (.Name "tuple" p) (e :: es) [] pos) η L Q) X.mg (Gl X "tuple" ∧ (backTo pos (starEach es X.env)).any (·.1) = false) (GA X (e :: es) η L fun xs L1 => GC X (.type "tuple") xs L1 Q) := ⟨fun B c h => gb_tuple B h c.1 (n.h _ _) c.2⟩
instance [n : NStar e] : StB (GE X (.Call (.Name "bool" p) (e :: es) [] pos) η L Q) X.mg (Gl X "bool" ∧ (backTo pos (starEach es X.env)).any (·.1) = false) (GA X (e :: es) η L fun xs L1 => GC X (.type "bool") xs L1 Q) := ⟨fun B c h => gb_bool B h c.1 (n.h _ _) c.2⟩
instance [n : NStar e] : StB (GE X (.Call (.Name "str" p) (e :: es) [] pos) η L Q) X.mg (Gl X "str" ∧ (backTo pos (starEach es X.env)).any (·.1) = false) (GA X (e :: es) η L fun xs L1 => GC X (.type "str") xs L1 Q) := ⟨fun B c h => gb_str B h c.1 (n.h _ _) c.2⟩
instance : StB (GE X (.Name "int" pos) η L Q) X.mg (Gl X "int" ∧ 0 = 0) (Q (.ty "int") L) := ⟨fun B c q => gv_int B q c.1⟩
instance : StB (GE X (.Name "bool" pos) η L Q) X.mg (Gl X "bool" ∧ 0 = 0) (Q (.ty "bool") L) := ⟨fun B c q => gv_bool B q c.1⟩
instance : StB (GE X (.Name "tuple" pos) η L Q) X.mg (Gl X "tuple" ∧ 0 = 0) (Q (.ty "tuple") L) := ⟨fun B c q => gv_tuple B q c.1⟩
instance : StB (GE X (.Name "list" pos) η L Q) X.mg (Gl X "list" ∧ 0 = 0) (Q (.ty "list") L) := ⟨fun B c q => gv_list B q c.1⟩
instance : StB (GE X (.Name "str" pos) η L Q) X.mg (Gl X "str" ∧ 0 = 0) (Q (.ty "str") L) := ⟨fun B c q => gv_str B q c.1⟩
instance : StB (GE X (.Name "ValueError" pos) η L Q) X.mg (Gl X "ValueError" ∧ 0 = 0) (Q (.ty "ValueError") L) := ⟨fun B c q => gv_ValueError B q c.1⟩
instance : StB (GE X (.Name "LookupError" pos) η L Q) X.mg (Gl X "LookupError" ∧ 0 = 0) (Q (.ty "LookupError") L) := ⟨fun B c q => gv_LookupError B q c.1⟩
instance {i : Int} : St (GC X (.type "int") [.int i] L Q) (Q (.int i) L) := ⟨gc_int⟩
instance {k : Bool} : St (GC X (.type "int") [.bl k] L Q) (Q (.int (if k = true then 1 else 0)) L) := ⟨gc_intB⟩
instance {i : Int} : St (GC X (.builtin "abs") [.int i] L Q) (Q (.int i.natAbs) L) := ⟨gc_abs⟩
instance {i j : Int} [v : VisX X] : St (GC X (.builtin "min") [.int i, .int j] L Q) (Q (.int (if j < i then j else i)) L) := ⟨gc_min2 v.c⟩
instance {i j : Int} [v : VisX X] : St (GC X (.builtin "max") [.int i, .int j] L Q) (Q (.int (if j > i then j else i)) L) := ⟨gc_max2 v.c⟩
instance {q : Addr} {xs : List V} [m : MemI q (.lst xs) L] : St (GC X (.builtin "len") [.ref q] L Q) (Q (.int xs.length) L) := ⟨gc_lenL m.h⟩
instance {q : Addr} {xs : List V} [m : MemI q (.tup xs) L] : St (GC X (.builtin "len") [.ref q] L Q) (Q (.int xs.length) L) := ⟨gc_lenT m.h⟩
theorem isE (h : GE X e η L Q) : GE X e η L Q := h
theorem isC {f : Value} {xs : List V} (h : GC X f xs L Q) : GC X f xs L Q := h
theorem isIx {x y : V} (h : GIx X x y L Q) : GIx X x y L Q := h
theorem isAt {n : Str} {x : V} (h : GAt X n x L Q) : GAt X n x L Q := h
theorem isS {st : Stmt} {D : GD} (h : GS X st D η L) : GS X st D η L := h
theorem isT {Q : Bool → Lg → Prop} (h : GT X e η L Q) : GT X e η L Q := h
theorem isA {Q : List V → Lg → Prop} (h : GA X es η L Q) : GA X es η L Q := h
theorem isSt {o i v : V} {Q : Lg → Prop} (h : GSt X o i v L Q) : GSt X o i v L Q := h
theorem isG {v : V} {Q : En → Lg → Prop} (h : GG X e v η L Q) : GG X e v η L Q := h
end
end G
set_option Elab.async false
set_option linter.all false
set_option maxRecDepth 100000
set_option maxHeartbeats 4000000
namespace G
open PySem PySem.Spec PyProof.Rows L2
end G
set_option Elab.async false
set_option linter.all false
set_option maxRecDepth 100000
set_option maxHeartbeats 4000000
namespace G
open PySem PySem.Spec PyProof.Rows L2
/-- a tuple that stands in the program's heap -/
def TupK (K : PySem.W.Frag) (a : Addr) (xs : List V) : Prop := ∃ (o : Obj) (its : Array Value) (n : Nat), K.lookup a = some o ∧ o.cls = .type "tuple" ∧ o.data = .seq its n ∧ its.size ≤ sizeLine ∧ Vals xs its.toList
theorem TupK.sq {K : PySem.W.Frag} {a : Addr} {xs : List V} (h : TupK K a xs) (H : Hp) : SqT K H a xs := .inr h
section
variable {X : Cx} {L : Lg} {Q : QV} {x y : V} {k : Nat} {d e : PyData}
theorem go_eqDK (hr : Room k X.A) (a : ∀ H, Has H L → Dp X.K H x d) (b : ∀ H, Dp X.K H y e) (s1 : SeqAt.shaped d = true) (s2 : SeqAt.shaped e = true) (h : Q (.bl (PyData.eqv d e)) L) : GOp X (compareOp .Eq) x y L Q := GOp.of (op_eqD hr.units) fun H hH => ⟨d, e, a H hH, b H, s1, s2, L, hH, h⟩
end
/-- the constant (1, ((0, 0),)) -/
structure EvT (K : PySem.W.Frag) (mg : Str → Option Value) (x : Str) where
  e : Addr
  r : Addr
  p : Addr
  at_ : mg x = some (.ref e)
  te : TupK K e [.int 1, .ref r]
  tr : TupK K r [.ref p]
  tp : TupK K p [.int 0, .int 0]
theorem EvT.dp {K : PySem.W.Frag} {mg : Str → Option Value} {x : Str} (T : EvT K mg x) (H : Hp) : Dp K H (.ref T.e) (.tuple [.int 1, .tuple [.tuple [.int 0, .int 0]]]) :=
  .tup (T.te.sq H) (.cons (.int 1) (.cons (.tup (T.tr.sq H) (.cons (.tup (T.tp.sq H) (.cons (.int 0) (.cons (.int 0) .nil))) .nil)) .nil))
end G
set_option Elab.async false
set_option linter.all false
set_option maxRecDepth 100000
set_option maxHeartbeats 4000000
namespace L2
open PySem PySem.Spec PyProof.Rows
end L2
namespace G
open PySem PySem.Spec PyProof.Rows L2
end G
set_option Elab.async false
set_option linter.all false
set_option maxRecDepth 100000
set_option maxHeartbeats 4000000
namespace G
open PySem PySem.Spec PyProof.Rows L2
section
variable {X : Cx} {η : En} {L : Lg} {elt iter tg tg1 iter1 : Expr} {scope : Scope} {pos p1 p2 p3 p4 : Pos} {x y z w : Str} {f : V → En} {Q : QV}
theorem lc_repZ {α : Type} {Rep : Lg → V → α → Prop} (mono : RepMono Rep) {S : Src} {ds : Nat → α} {st : V → Lg → (En → Lg → Prop) → Prop} (lift : StLift st) (hn : S.n ≤ 1000000) (kp : ∀ M, (∀ e ∈ L, e ∈ M) → S.keep M) (D : Addr)
    (turn : ∀ i x E zs R, i < S.n → S.item i x E → (∀ e ∈ L, e ∈ R) → Reps (Rep R) zs ((List.range i).map ds) → ((E ++ ((D, HO.lst zs) :: R)).map (·.1)).Nodup → st x (E ++ ((D, .lst zs) :: R)) fun θ M' => EltR X scope elt Rep D zs R (ds i) θ M')
    (q : ∀ zs R, (∀ e ∈ L, e ∈ R) → Reps (Rep R) zs ((List.range S.n).map ds) → Q (.ref D) ((D, .lst zs) :: R)) : ∃ Pv, LcS X scope [] elt S D L st Pv (drp Q) := by
  refine ⟨fun i M => ∃ zs R, Sub ((D, .lst zs) :: R) M ∧ (∀ e ∈ L, e ∈ R) ∧ Reps (Rep R) zs ((List.range i).map ds), ⟨[], L, Sub.refl, fun _ h => h, .nil⟩, ?_, ?_, ?_⟩
  · rintro i M _ nd ⟨zs, R, sb, up, -⟩
    exact kp M fun e he => (sb.to nd).2 _ (List.mem_cons_of_mem _ (up e he))
  · rintro i x E M hi it nd ⟨zs, R, sb, up, rp⟩
    have sE := Sub.append sb (E := E)
    refine lift _ _ _ _ _ nd sE (fun θ h => ?_) (turn i x E zs R hi it up rp (sE.to nd).1)
    have hl := rp.len
    rw [List.length_map, List.length_range] at hl
    have z := elt_turn mono (by omega) rp h sE
    have e : (List.range i).map ds ++ [ds i] = (List.range (i + 1)).map ds := by rw [List.range_succ, List.map_append]; rfl
    rw [e] at z
    intro s1 H1 C1 cl1 fp1
    refine gts_nil (ite_t ?_)
    intro s2 H2 C2 cl2 fp2
    exact (ite_out (gts_out (z s1 H1 C1 cl1 fp1)) s2 H2 C2 cl2 fp2).imp fun y M2 ⟨acc, M3, a1, a2, a3, zs', R', b1, b2, b3⟩ => ⟨acc, M3, a1, a2, a3, zs', R', b1, fun e he => b2 _ (up e he), b3⟩
  · rintro M ⟨zs, R, sb, up, rp⟩
    exact ⟨_, sb, q zs R up rp⟩
end
end G
set_option Elab.async false
set_option linter.all false
set_option maxRecDepth 100000
set_option maxHeartbeats 4000000
namespace PySem.W
open PySem PySem.Calls PySem.Spec PyProof.Rows Builtin
end PySem.W
namespace G
open PySem PySem.Spec PyProof.Rows L2
end G
set_option Elab.async false
set_option linter.all false
set_option maxRecDepth 100000
set_option maxHeartbeats 4000000
namespace G
open PySem PySem.Spec PyProof.Rows L2
end G
set_option Elab.async false
set_option linter.all false
set_option maxRecDepth 100000
set_option maxHeartbeats 4000000
namespace PySem.SeqAt
open AutoSeq1 (wpAny_loadPart')
open MeetsSeq MeetsSeq2 MeetsSeq3 SeqRoads2
end PySem.SeqAt
namespace G
open PySem PySem.Spec PyProof.Rows L2
section
variable {X : Cx} {CX : CXT} {j k : Nat} {η : En} {L : Lg} {f p q : Addr} {x : Str} {e : Expr} {es : List Expr} {pos p1 p2 : Pos} {sp : SpL} {El : XL} {xs ys : List V}
/-- x(*e) -/
theorem ge_callS {Q : QV} (F : Fn X.prog X.w X.K X.mg X.base CX x k sp) (hr : RoomG j X.A) (hx : Passes CX X (upX El)) (h : GE X e η L fun v L1 => ∃ p xs, v = .ref p ∧ ((p, HO.tup xs) ∈ L1 ∨ (p, HO.lst xs) ∈ L1) ∧ sp xs L1 Q El) (hjk : k ≤ j := by decide) (hg : Gl X x := by rfl) (hd : (x == ("__debug__" : Str)) = false := by decide) :
    GE X (.Call (.Name x p1) [.Starred e p2] [] pos) η L Q := fun hN H hH pins s I => by
  obtain ⟨f, hm, hk, R⟩ := F
  refine wpAny_Call_Name_kw (ld_glob I hg hm ?_ hd)
  refine PySem.W.callWith_S (h₀ := X.base) I.ok.mod.kin hk (thn (h hN H hH pins s I) fun v s1 ⟨y, H1, I1, ry, L1, h1, a, xs, ey, m, q⟩ => ?_)
  subst ey
  obtain rfl : v = Value.ref a := ry
  refine StX.star_any I1 (m.imp (fun z => sqt h1 z) fun z => sql h1 z) fun us s2 I2 rv => ?_
  exact ⟨I2.kIn, run_G (args := argsP) R (hr.mono hjk) hx I2 rv (up_sp h1 q)⟩
/-- *e among the values, a tuple that the program holds -/
theorem ga_starK {Q : List V → Lg → Prop} (h : GE X e η L fun x L1 => ∃ p xs, x = .ref p ∧ (∀ H, Has H L1 → SqT X.K H p xs) ∧ GA X es η L1 fun ys L2 => Q (xs ++ ys) L2) (hs : starEach (.Starred e p1 :: es) X.env = (true, eval e X.env) :: starEach es X.env := by rfl) : GA X (.Starred e p1 :: es) η L Q := fun hN H hH =>
  WA.of (StX.pa_star pe_W pa_W hs) (h.then hN hH fun x L1 H1 h1 ⟨p, xs, ex, m, q⟩ => ⟨p, xs, ex, .inl (m H1 h1), q.then hN h1 fun _ L2 _ h2 q2 => ⟨L2, h2, q2⟩⟩)
theorem gg_tupK {es : List Expr} {k : Nat} {Q : En → Lg → Prop} (m : ∀ H, Has H L → SqT X.K H p xs) (h : GGs X es xs η L Q) (hl : xs.length = es.length := by rfl) (hc : X.calm = true := by rfl)
    (hn : (assignEach es X.env).length = es.length := by rfl) (hst : (assignEach es X.env).findIdx? (·.1) = none := by rfl) : GG X (.Tuple es k pos) (.ref p) η L Q := fun hN H hH =>
  WG.of (pg_tup hc pgs_W hn hst) ⟨p, xs, rfl, m H hH, hl, h hN H hH⟩
end
end G
set_option Elab.async false
set_option linter.all false
set_option maxRecDepth 100000
set_option maxHeartbeats 4000000
namespace G
open PySem PySem.Spec PyProof.Rows L2
end G
set_option Elab.async false
set_option linter.all false
set_option maxRecDepth 100000
set_option maxHeartbeats 4000000
namespace G
open PySem PySem.Spec PyProof.Rows L2
end G
local macro_rules | `(tactic| tm_at "g_at") => `(tactic| first | with_reducible apply G.At.here | (with_reducible apply G.At.there; tm_at "g_at"))
local macro_rules | `(tactic| tm_at "g_put") => `(tactic| first | with_reducible apply G.PutF.here | (with_reducible apply G.PutF.there; tm_at "g_put"))
local macro_rules | `(tactic| tm_at "g_pv") => `(tactic| first | with_reducible apply G.Put.here | (with_reducible apply G.Put.there; tm_at "g_pv"))
local macro_rules | `(tactic| tm_at "g_mem") => `(tactic| first | with_reducible apply G.mem0 | (with_reducible apply G.memS; tm_at "g_mem") | (with_reducible apply G.memR; tm_at "g_mem") | with_reducible assumption)
local macro_rules | `(tactic| tm_at "g_memd") => `(tactic| first | apply G.mem0 | (apply G.memS; tm_at "g_memd") | (with_reducible apply G.memR; tm_at "g_memd"))
local macro_rules | `(tactic| tm_at "g_swap") => `(tactic| first | ((with_reducible apply G.Swap.here); rfl) | with_reducible assumption | ((with_reducible apply G.Swap.there); tm_at "g_swap") | ((with_reducible apply G.Swap.right); tm_at "g_swap"))
local macro_rules | `(tactic| tm_at "g_sub") => `(tactic| first | with_reducible apply G.Sub.refl | (refine G.Sub.trans ?_ G.Sub.drop; tm_at "g_sub"))
local macro_rules | `(tactic| tm_at "g_subl") => `(tactic| first | with_reducible exact List.Sublist.refl _ | with_reducible apply List.Sublist.cons_cons | with_reducible apply List.Sublist.cons)
local macro_rules | `(tactic| tm_at "g_end") => `(tactic| (refine G.Sub.sublist ?_; repeat (first | with_reducible exact List.Sublist.refl _ | with_reducible apply List.Sublist.cons_cons | with_reducible apply List.Sublist.cons | with_reducible apply G.subl_app)))
local macro_rules | `(tactic| tm_at "g_br") => `(tactic| first | with_reducible apply G.br0 | with_reducible apply G.br1 | with_reducible apply G.br2 | with_reducible apply G.br3 | with_reducible apply G.br4 | with_reducible apply G.br5 | with_reducible apply G.br6)
local macro_rules | `(tactic| tm_at "g_len") => `(tactic| (intro vs L Q E h; repeat (first | (obtain ⟨e, _⟩ := h; subst e; rfl) | (obtain ⟨_, h⟩ := h))))
local macro_rules | `(tactic| tm_at "g_size") => `(tactic| first | exact G.sz1 | exact G.sz2 | exact G.sz3 | exact G.sz_le (n := 0) (by decide) | exact G.sz_le (n := 4) (by decide) | exact G.sz_le (n := 5) (by decide) | exact G.sz_le (n := 6) (by decide) | exact G.sz_le (n := 7) (by decide) | exact G.sz_le (n := 8) (by decide) | exact G.sz_le (by first | decide | omega | (simp only [List.length_append, List.length_cons, List.length_nil, List.length_map]; omega)))
/-- all steps but a test's -/
local macro_rules | `(tactic| tm_at "f_e") => `(tactic| first
  | ((with_reducible show G.GE _ (PySem.Expr.Call (PySem.Expr.Attribute _ "append" _) _ _ _) _ _ _); refine G.ge_append ?_)
  | ((with_reducible show G.GE _ (PySem.Expr.Compare _ [_, _] _ _) _ _ _); refine G.ge_chain ?_)
  | ((with_reducible show G.GE _ (PySem.Expr.Subscript _ (PySem.Expr.Slice _ _ none _) _) _ _ _); refine G.ge_sliceL ?_)
  | ((with_reducible show G.GE _ (PySem.Expr.Name _ _) _ _ _); refine G.ge_var (by tm_at "g_at") ?_)
  | ((with_reducible show G.GE _ (PySem.Expr.Dict [] [] _) _ _ _); refine G.ge_dict0 (fun p => ?_))
  | ((with_reducible show G.GE _ (PySem.Expr.Compare _ _ _ _) _ _ _); refine G.ge_cmp ?_)
  | ((with_reducible show G.GE _ (PySem.Expr.Subscript _ _ _) _ _ _); refine G.ge_ix ?_)
  | ((with_reducible show G.GE _ (PySem.Expr.Attribute _ _ _) _ _ _); refine G.ge_attr ?_))
local macro_rules | `(tactic| tm_at "f_t") => `(tactic| first
  | ((with_reducible show G.GT _ (PySem.Expr.Compare _ [_, _] _ _) _ _ _); refine G.gt_chain ?_)
  | ((with_reducible show G.GT _ (PySem.Expr.Compare _ _ _ _) _ _ _); refine G.gt_cmp ?_)
  | refine G.gt_val ?_)
local macro_rules | `(tactic| tm_at "f_s") => `(tactic| first
  | ((with_reducible show G.GS _ (PySem.Stmt.Assign [PySem.Expr.Name _ _] _ _) _ _ _); refine G.gs_set (by tm_at "g_put") ?_)
  | ((with_reducible show G.GS _ (PySem.Stmt.Assign [PySem.Expr.Tuple [PySem.Expr.Name _ _, PySem.Expr.Name _ _] _ _] (PySem.Expr.Tuple _ _ _) _) _ _ _); refine G.gs_par (by tm_at "g_put") (fun _ => by tm_at "g_put") ?_)
  | ((with_reducible show G.GS _ (PySem.Stmt.Assign [PySem.Expr.Tuple [PySem.Expr.Name _ _, PySem.Expr.Name _ _, PySem.Expr.Name _ _] _ _] (PySem.Expr.Tuple _ _ _) _) _ _ _); refine G.gs_par3 (by tm_at "g_put") (fun _ => by tm_at "g_put") (fun _ _ => by tm_at "g_put") ?_)
  | ((with_reducible show G.GS _ (PySem.Stmt.Assign [PySem.Expr.Attribute _ _ _] _ _) _ _ _); refine G.gs_fld ?_)
  | ((with_reducible show G.GS _ (PySem.Stmt.Assign _ _ _) _ _ _); refine G.gs_asg ?_)
  | ((with_reducible show G.GS _ (PySem.Stmt.AugAssign _ _ _ _) _ _ _); refine G.gs_aug (by tm_at "g_at") (by tm_at "g_put") ?_)
  | ((with_reducible show G.GS _ (PySem.Stmt.Expr _ _) _ _ _); refine G.gs_expr ?_))
local macro_rules | `(tactic| tm_at "f_c") => `(tactic| first
  | ((with_reducible show G.GC _ (PySem.Value.builtin "len") _ _ _); first | refine G.gc_lenL (by tm_at "g_mem") ?_ | refine G.gc_lenT (by tm_at "g_mem") ?_)
  | ((with_reducible show G.GC _ (PySem.Value.builtin "min") [L2.V.int _, L2.V.int _] _ _); refine G.gc_min2 rfl ?_)
  | ((with_reducible show G.GC _ (PySem.Value.builtin "max") [L2.V.int _, L2.V.int _] _ _); refine G.gc_max2 rfl ?_))
local macro_rules | `(tactic| tm_at "f_g") => `(tactic| first
  | ((with_reducible show G.GG _ (PySem.Expr.Name _ _) _ _ _ _); refine G.gg_name (by tm_at "g_pv") ?_)
  | ((with_reducible show G.GG _ (PySem.Expr.Tuple _ _ _) _ _ _ _); refine G.gg_tup (by tm_at "g_mem") ?_)
  | ((with_reducible show G.GG _ (PySem.Expr.Subscript _ _ _) _ _ _ _); refine G.gg_sub ?_))
local macro_rules | `(tactic| tm_at "f_st") => `(tactic| first
  | refine G.gst_30 (by tm_at "g_mem") (by tm_at "g_swap") ?_
  | refine G.gst_31 (by tm_at "g_mem") (by tm_at "g_swap") ?_
  | refine G.gst_32 (by tm_at "g_mem") (by tm_at "g_swap") ?_)
local macro_rules | `(tactic| tm_at "f_i") => `(tactic| first
  | ((with_reducible show ∃ _, _ = _ ∧ _); with_reducible refine ⟨_, rfl, ?_⟩)
  | ((with_reducible show ∃ _ _, _ = _ ∧ _ ∈ _ ∧ _); refine ⟨_, _, rfl, (by tm_at "g_mem"), ?_⟩)
  | ((with_reducible show ∃ _ _, _ ∈ _ ∧ _ < _ ∧ _); refine ⟨_, _, (by tm_at "g_mem"), (by exact G.sz_lt (by simp only [List.length_append, List.length_cons, List.length_nil, List.length_map]; omega)), (by tm_at "g_swap"), ?_⟩)
  | ((with_reducible show ∃ _ _, _ = _ ∧ _); with_reducible refine ⟨_, _, rfl, ?_⟩)
  | ((with_reducible show ∃ _ _ _, _ = _ ∧ _); with_reducible refine ⟨_, _, _, rfl, ?_⟩))
local macro_rules | `(tactic| tm_at "f_a") => `(tactic| first
  | ((with_reducible show G.GA _ (PySem.Expr.Starred _ _ :: _) _ _ _); refine G.ga_star ?_)
  | refine G.ga_cons ?_)
local macro_rules | `(tactic| tm_at "f_k") => `(tactic| first
  | ((with_reducible show G.GK _ (_ :: _) _ _ _); refine G.gk_cons ?_)
  | ((with_reducible show G.GK _ [] _ _ _); refine G.gk_nil ?_)
  | ((with_reducible show G.GGs _ (_ :: _) _ _ _ _); refine G.ggs_cons ?_))
local macro_rules | `(tactic| tm_at "f1") => `(tactic| first
  | ((with_reducible apply G.isE); tm_at "f_e")
  | ((with_reducible apply G.isS); tm_at "f_s")
  | ((with_reducible apply G.isAt); refine G.gat_fldA (by tm_at "g_mem") (by assumption) (by assumption) (by exact rfl) ?_)
  | ((with_reducible apply G.isIx); first | refine G.gi_lst (by tm_at "g_mem") (by exact rfl) ?_ | refine G.gi_tup (by tm_at "g_mem") (by exact rfl) ?_)
  | ((with_reducible apply G.isT); tm_at "f_t")
  | ((with_reducible apply G.isC); tm_at "f_c")
  | ((with_reducible apply G.isG); tm_at "f_g")
  | ((with_reducible apply G.isA); tm_at "f_a")
  | ((with_reducible apply G.isSt); tm_at "f_st")
  | tm_at "f_i"
  | tm_at "f_k")
local macro_rules | `(tactic| tm_at "gx1") => `(tactic| first
  | refine G.St.to ?_
  | ((with_reducible show _ ∧ _); refine ⟨(by tm_at "g_size"), fun p => ?_⟩)
  | refine G.StB.to (by assumption) ⟨rfl, rfl⟩ ?_
  | tm_at "f1")
local macro_rules | `(tactic| tm_at "g1") => `(tactic| first
  | refine G.St.to ?_
  | with_reducible apply G.gs_if
  | ((with_reducible show _ ∧ _); refine ⟨(by tm_at "g_size"), fun p => ?_⟩)
  | refine G.StB.to (by assumption) ⟨rfl, rfl⟩ ?_
  | tm_at "f1")
local macro_rules | `(tactic| tm_at "g") => `(tactic| repeat (tm_at "g1"; try dsimp only [G.bodyD]))
local macro_rules | `(tactic| tm_at "gx") => `(tactic| repeat (tm_at "gx1"; try dsimp only [G.bodyD]))
local macro_rules | `(tactic| tm_at "g_rot") => `(tactic| first | with_reducible apply G.Sub.refl | (with_reducible apply G.rotStep; tm_at "g_rot") | (with_reducible apply G.rotApp; tm_at "g_rot"))
/-- what a draw is shown of; then intro d n m d0 d1 a0 a1 a2 -/
local macro_rules | `(tactic| tm_at "g_dr") => `(tactic| refine ⟨_, _, _, _, _, _, _, rfl, by tm_at "g_rot", by assumption, by omega, by omega, by omega, by omega, by omega, ?_⟩)
local macro_rules | `(tactic| tm_at "g_draw") => `(tactic| (refine G.ge_call (El := G.NoX) (by assumption) (by assumption) G.passA ?_; tm_at "g"; tm_at "g_dr"))
/-- what a pick is shown of; then intro k x n m hx a0 a1 a2 -/
local macro_rules | `(tactic| tm_at "g_pk") => `(tactic| refine ⟨_, _, _, _, _, _, _, _, rfl, by tm_at "g_rot", by tm_at "g_mem", by assumption, by first | exact Nat.le_of_ble_eq_true rfl | (simp only [List.length_append, List.length_cons, List.length_nil, List.length_map]; omega), by first | exact Nat.le_of_ble_eq_true rfl | (simp only [List.length_append, List.length_cons, List.length_nil, List.length_map]; omega), by omega, by omega, by omega, ?_⟩)
namespace T
open PySem PySem.Spec PyProof.Rows L2 G
def top (i : Nat) : Stmt := PySem.Challenge.pw_wheelreach_k21_whole_far_members_of_join.main.body.getD i (.Pass ⟨0, 0, 0, 0⟩)
abbrev s_BadNumber_init : Stmt := clsAt (top 3) 0
abbrev N_BadNumber_init : List Str := ["self", "value", "__class__"]
theorem sc_BadNumber_init : NdefX.NScope N_BadNumber_init ["self", "value"] ["__class__"] (defScope s_BadNumber_init) := NdefX.nscope_by (by decide +kernel)
abbrev s_BadLot_init : Stmt := clsAt (top 4) 0
abbrev N_BadLot_init : List Str := ["self", "part", "__class__"]
theorem sc_BadLot_init : NdefX.NScope N_BadLot_init ["self", "part"] ["__class__"] (defScope s_BadLot_init) := NdefX.nscope_by (by decide +kernel)
abbrev s_BadText_init : Stmt := clsAt (top 5) 0
abbrev N_BadText_init : List Str := ["self", "line", "word", "__class__"]
theorem sc_BadText_init : NdefX.NScope N_BadText_init ["self", "line", "word"] ["__class__"] (defScope s_BadText_init) := NdefX.nscope_by (by decide +kernel)
abbrev s_NoPlace_init : Stmt := clsAt (top 7) 0
abbrev N_NoPlace_init : List Str := ["self", "at", "__class__"]
theorem sc_NoPlace_init : NdefX.NScope N_NoPlace_init ["self", "at"] ["__class__"] (defScope s_NoPlace_init) := NdefX.nscope_by (by decide +kernel)
abbrev s_TooMany_init : Stmt := clsAt (top 8) 0
abbrev N_TooMany_init : List Str := ["self", "what", "most", "__class__"]
theorem sc_TooMany_init : NdefX.NScope N_TooMany_init ["self", "what", "most"] ["__class__"] (defScope s_TooMany_init) := NdefX.nscope_by (by decide +kernel)
abbrev s_Round_init : Stmt := clsAt (top 24) 0
abbrev N_Round_init : List Str := ["self", "period", "other"]
theorem sc_Round_init : FnScope N_Round_init ["self", "period", "other"] (defScope s_Round_init) := ⟨rfl, rfl, rfl, by decide +kernel, rfl, by decide +kernel, by decide +kernel⟩
instance : G.NdI N_Round_init := ⟨sc_Round_init.nd⟩
instance : G.OkL (defScope s_Round_init) ["self", "period", "other"] := ⟨by decide +kernel⟩
abbrev s_Round_place : Stmt := clsAt (top 24) 1
abbrev N_Round_place : List Str := ["self", "first", "last", "times"]
theorem sc_Round_place : FnScope N_Round_place ["self", "first", "last"] (defScope s_Round_place) := ⟨rfl, rfl, rfl, by decide +kernel, rfl, by decide +kernel, by decide +kernel⟩
instance : G.NdI N_Round_place := ⟨sc_Round_place.nd⟩
instance : G.OkL (defScope s_Round_place) ["self", "first", "last", "times"] := ⟨by decide +kernel⟩
abbrev s_Ranked_init : Stmt := clsAt (top 25) 0
abbrev N_Ranked_init : List Str := ["self", "runs", "step", "run", "row"]
theorem sc_Ranked_init : FnScope N_Ranked_init ["self", "runs", "step"] (defScope s_Ranked_init) := ⟨rfl, rfl, rfl, by decide +kernel, rfl, by decide +kernel, by decide +kernel⟩
instance : G.NdI N_Ranked_init := ⟨sc_Ranked_init.nd⟩
instance : G.OkL (defScope s_Ranked_init) ["self", "runs", "step"] := ⟨by decide +kernel⟩
abbrev s_Ranked_hit : Stmt := clsAt (top 25) 1
abbrev N_Ranked_hit : List Str := ["self", "begin", "many", "low", "high", "first"]
theorem sc_Ranked_hit : FnScope N_Ranked_hit ["self", "begin", "many"] (defScope s_Ranked_hit) := ⟨rfl, rfl, rfl, by decide +kernel, rfl, by decide +kernel, by decide +kernel⟩
instance : G.NdI N_Ranked_hit := ⟨sc_Ranked_hit.nd⟩
instance : G.OkL (defScope s_Ranked_hit) ["self", "begin", "many", "low", "high", "first"] := ⟨by decide +kernel⟩
abbrev s_Lot_init : Stmt := clsAt (top 43) 1
abbrev N_Lot_init : List Str := ["self", "period", "runs", "found", "least", "run"]
theorem sc_Lot_init : FnScope N_Lot_init ["self", "period", "runs"] (defScope s_Lot_init) := ⟨rfl, rfl, rfl, by decide +kernel, rfl, by decide +kernel, by decide +kernel⟩
instance : G.NdI N_Lot_init := ⟨sc_Lot_init.nd⟩
instance : G.OkL (defScope s_Lot_init) ["self", "period", "runs", "found", "least"] := ⟨by decide +kernel⟩
abbrev s_Lot_every : Stmt := clsAt (top 43) 2
abbrev N_Lot_every : List Str := []
theorem sc_Lot_every : FnScope N_Lot_every [] (defScope s_Lot_every) := ⟨rfl, rfl, rfl, by decide +kernel, rfl, by decide +kernel, by decide +kernel⟩
instance : G.NdI N_Lot_every := ⟨sc_Lot_every.nd⟩
instance : G.OkL (defScope s_Lot_every) [] := ⟨by decide +kernel⟩
abbrev s_Lot_none : Stmt := clsAt (top 43) 3
abbrev N_Lot_none : List Str := []
theorem sc_Lot_none : FnScope N_Lot_none [] (defScope s_Lot_none) := ⟨rfl, rfl, rfl, by decide +kernel, rfl, by decide +kernel, by decide +kernel⟩
instance : G.NdI N_Lot_none := ⟨sc_Lot_none.nd⟩
instance : G.OkL (defScope s_Lot_none) [] := ⟨by decide +kernel⟩
abbrev s_Lot_around : Stmt := clsAt (top 43) 4
abbrev N_Lot_around : List Str := ["period", "play"]
theorem sc_Lot_around : FnScope N_Lot_around ["period", "play"] (defScope s_Lot_around) := ⟨rfl, rfl, rfl, by decide +kernel, rfl, by decide +kernel, by decide +kernel⟩
instance : G.NdI N_Lot_around := ⟨sc_Lot_around.nd⟩
instance : G.OkL (defScope s_Lot_around) ["period", "play"] := ⟨by decide +kernel⟩
abbrev s_Lot_len : Stmt := clsAt (top 43) 7
abbrev N_Lot_len : List Str := ["self"]
theorem sc_Lot_len : FnScope N_Lot_len ["self"] (defScope s_Lot_len) := ⟨rfl, rfl, rfl, by decide +kernel, rfl, by decide +kernel, by decide +kernel⟩
instance : G.NdI N_Lot_len := ⟨sc_Lot_len.nd⟩
instance : G.OkL (defScope s_Lot_len) ["self"] := ⟨by decide +kernel⟩
abbrev s_Lot_iter : Stmt := clsAt (top 43) 8
abbrev N_Lot_iter : List Str := ["self"]
theorem sc_Lot_iter : FnScope N_Lot_iter ["self"] (defScope s_Lot_iter) := ⟨rfl, rfl, rfl, by decide +kernel, rfl, by decide +kernel, by decide +kernel⟩
instance : G.NdI N_Lot_iter := ⟨sc_Lot_iter.nd⟩
instance : G.OkL (defScope s_Lot_iter) ["self"] := ⟨by decide +kernel⟩
abbrev s_Lot_eq : Stmt := clsAt (top 43) 11
abbrev N_Lot_eq : List Str := ["self", "other"]
theorem sc_Lot_eq : FnScope N_Lot_eq ["self", "other"] (defScope s_Lot_eq) := ⟨rfl, rfl, rfl, by decide +kernel, rfl, by decide +kernel, by decide +kernel⟩
instance : G.NdI N_Lot_eq := ⟨sc_Lot_eq.nd⟩
instance : G.OkL (defScope s_Lot_eq) ["self", "other"] := ⟨by decide +kernel⟩
abbrev s_Lot_add : Stmt := clsAt (top 43) 15
abbrev N_Lot_add : List Str := ["self", "other"]
theorem sc_Lot_add : FnScope N_Lot_add ["self", "other"] (defScope s_Lot_add) := ⟨rfl, rfl, rfl, by decide +kernel, rfl, by decide +kernel, by decide +kernel⟩
instance : G.NdI N_Lot_add := ⟨sc_Lot_add.nd⟩
instance : G.OkL (defScope s_Lot_add) ["self", "other"] := ⟨by decide +kernel⟩
abbrev s_Lot_at_least : Stmt := clsAt (top 43) 22
abbrev N_Lot_at_least : List Str := ["self", "n", "left", "at"]
theorem sc_Lot_at_least : FnScope N_Lot_at_least ["self", "n"] (defScope s_Lot_at_least) := ⟨rfl, rfl, rfl, by decide +kernel, rfl, by decide +kernel, by decide +kernel⟩
instance : G.NdI N_Lot_at_least := ⟨sc_Lot_at_least.nd⟩
instance : G.OkL (defScope s_Lot_at_least) ["self", "n", "left", "at"] := ⟨by decide +kernel⟩
abbrev s_Lot_at_most : Stmt := clsAt (top 43) 23
abbrev N_Lot_at_most : List Str := ["self", "n", "left", "at"]
theorem sc_Lot_at_most : FnScope N_Lot_at_most ["self", "n"] (defScope s_Lot_at_most) := ⟨rfl, rfl, rfl, by decide +kernel, rfl, by decide +kernel, by decide +kernel⟩
instance : G.NdI N_Lot_at_most := ⟨sc_Lot_at_most.nd⟩
instance : G.OkL (defScope s_Lot_at_most) ["self", "n", "left", "at"] := ⟨by decide +kernel⟩
abbrev s_Lot_below : Stmt := clsAt (top 43) 24
abbrev N_Lot_below : List Str := ["self", "n", "turns", "left", "wrapped", "run"]
theorem sc_Lot_below : FnScope N_Lot_below ["self", "n"] (defScope s_Lot_below) := ⟨rfl, rfl, rfl, by decide +kernel, rfl, by decide +kernel, by decide +kernel⟩
instance : G.NdI N_Lot_below := ⟨sc_Lot_below.nd⟩
instance : G.OkL (defScope s_Lot_below) ["self", "n", "turns", "left", "wrapped"] := ⟨by decide +kernel⟩
abbrev s_Lot_how_many : Stmt := clsAt (top 43) 25
abbrev N_Lot_how_many : List Str := ["self", "low", "high"]
theorem sc_Lot_how_many : FnScope N_Lot_how_many ["self", "low", "high"] (defScope s_Lot_how_many) := ⟨rfl, rfl, rfl, by decide +kernel, rfl, by decide +kernel, by decide +kernel⟩
instance : G.NdI N_Lot_how_many := ⟨sc_Lot_how_many.nd⟩
instance : G.OkL (defScope s_Lot_how_many) ["self", "low", "high"] := ⟨by decide +kernel⟩
abbrev s_Paper_init : Stmt := clsAt (top 54) 2
abbrev N_Paper_init : List Str := ["self", "parts"]
theorem sc_Paper_init : FnScope N_Paper_init ["self", "parts"] (defScope s_Paper_init) := ⟨rfl, rfl, rfl, by decide +kernel, rfl, by decide +kernel, by decide +kernel⟩
instance : G.NdI N_Paper_init := ⟨sc_Paper_init.nd⟩
instance : G.OkL (defScope s_Paper_init) ["self", "parts"] := ⟨by decide +kernel⟩
abbrev s_Join_init : Stmt := clsAt (top 58) 1
abbrev N_Join_init : List Str := ["self", "tables", "__class__"]
theorem sc_Join_init : NdefX.NScope N_Join_init ["self", "tables"] ["__class__"] (defScope s_Join_init) := NdefX.nscope_by (by decide +kernel)
abbrev s_is_whole : Stmt := top 10
abbrev N_is_whole : List Str := ["value"]
theorem sc_is_whole : FnScope N_is_whole ["value"] (defScope s_is_whole) := ⟨rfl, rfl, rfl, by decide +kernel, rfl, by decide +kernel, by decide +kernel⟩
instance : G.NdI N_is_whole := ⟨sc_is_whole.nd⟩
instance : G.OkL (defScope s_is_whole) ["value"] := ⟨by decide +kernel⟩
abbrev s_need_whole : Stmt := top 11
abbrev N_need_whole : List Str := ["value"]
theorem sc_need_whole : FnScope N_need_whole ["value"] (defScope s_need_whole) := ⟨rfl, rfl, rfl, by decide +kernel, rfl, by decide +kernel, by decide +kernel⟩
instance : G.NdI N_need_whole := ⟨sc_need_whole.nd⟩
instance : G.OkL (defScope s_need_whole) ["value"] := ⟨by decide +kernel⟩
abbrev s_need_above : Stmt := top 12
abbrev N_need_above : List Str := ["value"]
theorem sc_need_above : FnScope N_need_above ["value"] (defScope s_need_above) := ⟨rfl, rfl, rfl, by decide +kernel, rfl, by decide +kernel, by decide +kernel⟩
instance : G.NdI N_need_above := ⟨sc_need_above.nd⟩
instance : G.OkL (defScope s_need_above) ["value"] := ⟨by decide +kernel⟩
abbrev s_divisor_of : Stmt := top 13
abbrev N_divisor_of : List Str := ["one", "other"]
theorem sc_divisor_of : FnScope N_divisor_of ["one", "other"] (defScope s_divisor_of) := ⟨rfl, rfl, rfl, by decide +kernel, rfl, by decide +kernel, by decide +kernel⟩
instance : G.NdI N_divisor_of := ⟨sc_divisor_of.nd⟩
instance : G.OkL (defScope s_divisor_of) ["one", "other"] := ⟨by decide +kernel⟩
abbrev s_common : Stmt := top 14
abbrev N_common : List Str := ["numbers", "number", "found"]
theorem sc_common : FnScope N_common ["numbers"] (defScope s_common) := ⟨rfl, rfl, rfl, by decide +kernel, rfl, by decide +kernel, by decide +kernel⟩
instance : G.NdI N_common := ⟨sc_common.nd⟩
instance : G.OkL (defScope s_common) ["numbers", "number", "found"] := ⟨by decide +kernel⟩
abbrev s_multiple : Stmt := top 15
abbrev N_multiple : List Str := ["numbers", "number", "found"]
theorem sc_multiple : FnScope N_multiple ["numbers"] (defScope s_multiple) := ⟨rfl, rfl, rfl, by decide +kernel, rfl, by decide +kernel, by decide +kernel⟩
instance : G.NdI N_multiple := ⟨sc_multiple.nd⟩
instance : G.OkL (defScope s_multiple) ["numbers", "number", "found"] := ⟨by decide +kernel⟩
abbrev s_inverse_of : Stmt := top 16
abbrev N_inverse_of : List Str := ["number", "modulus", "one", "other", "first", "second", "times"]
theorem sc_inverse_of : FnScope N_inverse_of ["number", "modulus"] (defScope s_inverse_of) := ⟨rfl, rfl, rfl, by decide +kernel, rfl, by decide +kernel, by decide +kernel⟩
instance : G.NdI N_inverse_of := ⟨sc_inverse_of.nd⟩
instance : G.OkL (defScope s_inverse_of) ["number", "modulus", "one", "other", "first", "second", "times"] := ⟨by decide +kernel⟩
abbrev s_is_run : Stmt := top 18
abbrev N_is_run : List Str := ["value"]
theorem sc_is_run : FnScope N_is_run ["value"] (defScope s_is_run) := ⟨rfl, rfl, rfl, by decide +kernel, rfl, by decide +kernel, by decide +kernel⟩
instance : G.NdI N_is_run := ⟨sc_is_run.nd⟩
instance : G.OkL (defScope s_is_run) ["value"] := ⟨by decide +kernel⟩
abbrev s_length_of : Stmt := top 19
abbrev N_length_of : List Str := ["run"]
theorem sc_length_of : FnScope N_length_of ["run"] (defScope s_length_of) := ⟨rfl, rfl, rfl, by decide +kernel, rfl, by decide +kernel, by decide +kernel⟩
instance : G.NdI N_length_of := ⟨sc_length_of.nd⟩
instance : G.OkL (defScope s_length_of) ["run"] := ⟨by decide +kernel⟩
abbrev s_place_among : Stmt := top 20
abbrev N_place_among : List Str := ["row", "value", "low", "high", "middle"]
theorem sc_place_among : FnScope N_place_among ["row", "value"] (defScope s_place_among) := ⟨rfl, rfl, rfl, by decide +kernel, rfl, by decide +kernel, by decide +kernel⟩
instance : G.NdI N_place_among := ⟨sc_place_among.nd⟩
instance : G.OkL (defScope s_place_among) ["row", "value", "low", "high", "middle"] := ⟨by decide +kernel⟩
abbrev s_count_in : Stmt := top 21
abbrev N_count_in : List Str := ["row", "begin", "many", "step", "low", "high", "found"]
theorem sc_count_in : FnScope N_count_in ["row", "begin", "many", "step"] (defScope s_count_in) := ⟨rfl, rfl, rfl, by decide +kernel, rfl, by decide +kernel, by decide +kernel⟩
instance : G.NdI N_count_in := ⟨sc_count_in.nd⟩
instance : G.OkL (defScope s_count_in) ["row", "begin", "many", "step", "low", "high", "found"] := ⟨by decide +kernel⟩
abbrev s_remainders : Stmt := top 22
abbrev N_remainders : List Str := ["runs", "step", "run"]
theorem sc_remainders : FnScope N_remainders ["runs", "step"] (defScope s_remainders) := ⟨rfl, rfl, rfl, by decide +kernel, rfl, by decide +kernel, by decide +kernel⟩
instance : G.NdI N_remainders := ⟨sc_remainders.nd⟩
instance : G.OkL (defScope s_remainders) ["runs", "step"] := ⟨by decide +kernel⟩
abbrev s_meets : Stmt := top 23
abbrev N_meets : List Str := ["table", "other", "step", "own", "its", "found", "run"]
theorem sc_meets : FnScope N_meets ["table", "other"] (defScope s_meets) := ⟨rfl, rfl, rfl, by decide +kernel, rfl, by decide +kernel, by decide +kernel⟩
instance : G.NdI N_meets := ⟨sc_meets.nd⟩
instance : G.OkL (defScope s_meets) ["table", "other", "step", "own", "its", "found"] := ⟨by decide +kernel⟩
abbrev s_begun_inside : Stmt := top 26
abbrev N_begun_inside : List Str := ["run", "ranked", "least", "many", "step", "rows", "some", "key", "begin", "end", "low", "gap"]
theorem sc_begun_inside : FnScope N_begun_inside ["run", "ranked", "least"] (defScope s_begun_inside) := ⟨rfl, rfl, rfl, by decide +kernel, rfl, by decide +kernel, by decide +kernel⟩
instance : G.NdI N_begun_inside := ⟨sc_begun_inside.nd⟩
instance : G.OkL (defScope s_begun_inside) ["run", "ranked", "least", "many", "step", "rows", "some"] := ⟨by decide +kernel⟩
abbrev s_shared_far : Stmt := top 27
abbrev N_shared_far : List Str := ["run", "row"]
theorem sc_shared_far : FnScope N_shared_far ["run", "row"] (defScope s_shared_far) := ⟨rfl, rfl, rfl, by decide +kernel, rfl, by decide +kernel, by decide +kernel⟩
instance : G.NdI N_shared_far := ⟨sc_shared_far.nd⟩
instance : G.OkL (defScope s_shared_far) ["run", "row"] := ⟨by decide +kernel⟩
abbrev s_shared_runs : Stmt := top 28
abbrev N_shared_runs : List Str := ["table", "other", "turn", "own", "its", "later", "found", "ahead", "more", "run", "row", "begin", "far"]
theorem sc_shared_runs : FnScope N_shared_runs ["table", "other"] (defScope s_shared_runs) := ⟨rfl, rfl, rfl, by decide +kernel, rfl, by decide +kernel, by decide +kernel⟩
instance : G.NdI N_shared_runs := ⟨sc_shared_runs.nd⟩
instance : G.OkL (defScope s_shared_runs) ["table", "other", "turn", "own", "its", "later", "found", "ahead", "more"] := ⟨by decide +kernel⟩
abbrev s_melted : Stmt := top 29
abbrev N_melted : List Str := ["runs", "found", "run"]
theorem sc_melted : FnScope N_melted ["runs"] (defScope s_melted) := ⟨rfl, rfl, rfl, by decide +kernel, rfl, by decide +kernel, by decide +kernel⟩
instance : G.NdI N_melted := ⟨sc_melted.nd⟩
instance : G.OkL (defScope s_melted) ["runs", "found", "run"] := ⟨by decide +kernel⟩
abbrev s_closed_round : Stmt := top 30
abbrev N_closed_round : List Str := ["period", "runs", "many", "end"]
theorem sc_closed_round : FnScope N_closed_round ["period", "runs"] (defScope s_closed_round) := ⟨rfl, rfl, rfl, by decide +kernel, rfl, by decide +kernel, by decide +kernel⟩
instance : G.NdI N_closed_round := ⟨sc_closed_round.nd⟩
instance : G.OkL (defScope s_closed_round) ["period", "runs", "many", "end"] := ⟨by decide +kernel⟩
abbrev s_maximal : Stmt := top 31
abbrev N_maximal : List Str := ["period", "runs", "moved", "found", "run"]
theorem sc_maximal : FnScope N_maximal ["period", "runs"] (defScope s_maximal) := ⟨rfl, rfl, rfl, by decide +kernel, rfl, by decide +kernel, by decide +kernel⟩
instance : G.NdI N_maximal := ⟨sc_maximal.nd⟩
instance : G.OkL (defScope s_maximal) ["period", "runs", "moved", "found"] := ⟨by decide +kernel⟩
abbrev s_least_form : Stmt := top 32
abbrev N_least_form : List Str := ["period", "runs", "many", "nexts", "row", "turns", "few", "run", "later", "turn", "pair"]
theorem sc_least_form : FnScope N_least_form ["period", "runs"] (defScope s_least_form) := ⟨rfl, rfl, rfl, by decide +kernel, rfl, by decide +kernel, by decide +kernel⟩
instance : G.NdI N_least_form := ⟨sc_least_form.nd⟩
instance : G.OkL (defScope s_least_form) ["period", "runs", "many", "nexts", "row", "turns", "few"] := ⟨by decide +kernel⟩
abbrev s_gaps_of : Stmt := top 33
abbrev N_gaps_of : List Str := ["period", "runs", "nexts", "run", "later"]
theorem sc_gaps_of : FnScope N_gaps_of ["period", "runs"] (defScope s_gaps_of) := ⟨rfl, rfl, rfl, by decide +kernel, rfl, by decide +kernel, by decide +kernel⟩
instance : G.NdI N_gaps_of := ⟨sc_gaps_of.nd⟩
instance : G.OkL (defScope s_gaps_of) ["period", "runs", "nexts"] := ⟨by decide +kernel⟩
abbrev s_need_integer : Stmt := top 41
abbrev N_need_integer : List Str := ["value"]
theorem sc_need_integer : FnScope N_need_integer ["value"] (defScope s_need_integer) := ⟨rfl, rfl, rfl, by decide +kernel, rfl, by decide +kernel, by decide +kernel⟩
instance : G.NdI N_need_integer := ⟨sc_need_integer.nd⟩
instance : G.OkL (defScope s_need_integer) ["value"] := ⟨by decide +kernel⟩
abbrev s_need_few : Stmt := top 42
abbrev N_need_few : List Str := ["many"]
theorem sc_need_few : FnScope N_need_few ["many"] (defScope s_need_few) := ⟨rfl, rfl, rfl, by decide +kernel, rfl, by decide +kernel, by decide +kernel⟩
instance : G.NdI N_need_few := ⟨sc_need_few.nd⟩
instance : G.OkL (defScope s_need_few) ["many"] := ⟨by decide +kernel⟩
abbrev s_lot_of : Stmt := top 44
abbrev N_lot_of : List Str := ["period", "runs"]
theorem sc_lot_of : FnScope N_lot_of ["period", "runs"] (defScope s_lot_of) := ⟨rfl, rfl, rfl, by decide +kernel, rfl, by decide +kernel, by decide +kernel⟩
instance : G.NdI N_lot_of := ⟨sc_lot_of.nd⟩
instance : G.OkL (defScope s_lot_of) ["period", "runs"] := ⟨by decide +kernel⟩
abbrev s_moved : Stmt := top 45
abbrev N_moved : List Str := ["lot", "k", "run"]
theorem sc_moved : FnScope N_moved ["lot", "k"] (defScope s_moved) := ⟨rfl, rfl, rfl, by decide +kernel, rfl, by decide +kernel, by decide +kernel⟩
instance : G.NdI N_moved := ⟨sc_moved.nd⟩
instance : G.OkL (defScope s_moved) ["lot", "k"] := ⟨by decide +kernel⟩
abbrev s_need_lots : Stmt := top 59
abbrev N_need_lots : List Str := ["lots", "at", "lot"]
theorem sc_need_lots : FnScope N_need_lots ["lots"] (defScope s_need_lots) := ⟨rfl, rfl, rfl, by decide +kernel, rfl, by decide +kernel, by decide +kernel⟩
instance : G.NdI N_need_lots := ⟨sc_need_lots.nd⟩
instance : G.OkL (defScope s_need_lots) ["lots", "at", "lot"] := ⟨by decide +kernel⟩
abbrev s_table_of : Stmt := top 60
abbrev N_table_of : List Str := ["lot"]
theorem sc_table_of : FnScope N_table_of ["lot"] (defScope s_table_of) := ⟨rfl, rfl, rfl, by decide +kernel, rfl, by decide +kernel, by decide +kernel⟩
instance : G.NdI N_table_of := ⟨sc_table_of.nd⟩
instance : G.OkL (defScope s_table_of) ["lot"] := ⟨by decide +kernel⟩
abbrev s_next_table : Stmt := top 61
abbrev N_next_table : List Str := ["table", "lot", "own"]
theorem sc_next_table : FnScope N_next_table ["table", "lot"] (defScope s_next_table) := ⟨rfl, rfl, rfl, by decide +kernel, rfl, by decide +kernel, by decide +kernel⟩
instance : G.NdI N_next_table := ⟨sc_next_table.nd⟩
instance : G.OkL (defScope s_next_table) ["table", "lot", "own"] := ⟨by decide +kernel⟩
abbrev s_join : Stmt := top 62
abbrev N_join : List Str := ["lots", "found", "table", "lot"]
theorem sc_join : FnScope N_join ["lots"] (defScope s_join) := ⟨rfl, rfl, rfl, by decide +kernel, rfl, by decide +kernel, by decide +kernel⟩
instance : G.NdI N_join := ⟨sc_join.nd⟩
instance : G.OkL (defScope s_join) ["lots", "found", "table", "lot"] := ⟨by decide +kernel⟩
abbrev s_table_lot : Stmt := top 63
abbrev N_table_lot : List Str := ["tables", "period", "runs"]
theorem sc_table_lot : FnScope N_table_lot ["tables"] (defScope s_table_lot) := ⟨rfl, rfl, rfl, by decide +kernel, rfl, by decide +kernel, by decide +kernel⟩
instance : G.NdI N_table_lot := ⟨sc_table_lot.nd⟩
instance : G.OkL (defScope s_table_lot) ["tables", "period", "runs"] := ⟨by decide +kernel⟩
abbrev s_joined : Stmt := top 64
abbrev N_joined : List Str := ["lots"]
theorem sc_joined : FnScope N_joined ["lots"] (defScope s_joined) := ⟨rfl, rfl, rfl, by decide +kernel, rfl, by decide +kernel, by decide +kernel⟩
instance : G.NdI N_joined := ⟨sc_joined.nd⟩
instance : G.OkL (defScope s_joined) ["lots"] := ⟨by decide +kernel⟩
abbrev s_law_pen : Stmt := top 66
abbrev N_law_pen : List Str := ["_law_script"]
theorem sc_law_pen : FnScope N_law_pen ["_law_script"] (defScope s_law_pen) := ⟨rfl, rfl, rfl, by decide +kernel, rfl, by decide +kernel, by decide +kernel⟩
instance : G.NdI N_law_pen := ⟨sc_law_pen.nd⟩
instance : G.OkL (defScope s_law_pen) ["_law_script"] := ⟨by decide +kernel⟩
abbrev s_law_draw : Stmt := top 67
abbrev N_law_draw : List Str := ["_law_pen_here", "_law_many_here", "_law_digit", "_law_at", "_law_cell", "_law_great", "_law_mixed"]
theorem sc_law_draw : FnScope N_law_draw ["_law_pen_here", "_law_many_here"] (defScope s_law_draw) := ⟨rfl, rfl, rfl, by decide +kernel, rfl, by decide +kernel, by decide +kernel⟩
instance : G.NdI N_law_draw := ⟨sc_law_draw.nd⟩
instance : G.OkL (defScope s_law_draw) ["_law_pen_here", "_law_many_here", "_law_digit", "_law_at", "_law_cell", "_law_great", "_law_mixed"] := ⟨by decide +kernel⟩
abbrev s_law_pick : Stmt := top 68
abbrev N_law_pick : List Str := ["_law_pen_here", "_law_some_here"]
theorem sc_law_pick : FnScope N_law_pick ["_law_pen_here", "_law_some_here"] (defScope s_law_pick) := ⟨rfl, rfl, rfl, by decide +kernel, rfl, by decide +kernel, by decide +kernel⟩
instance : G.NdI N_law_pick := ⟨sc_law_pick.nd⟩
instance : G.OkL (defScope s_law_pick) ["_law_pen_here", "_law_some_here"] := ⟨by decide +kernel⟩
abbrev s_law_some : Stmt := top 69
abbrev N_law_some : List Str := ["_law_pen_here", "_law_shared", "_law_found", "_law_turn", "_law_period"]
theorem sc_law_some : FnScope N_law_some ["_law_pen_here"] (defScope s_law_some) := ⟨rfl, rfl, rfl, by decide +kernel, rfl, by decide +kernel, by decide +kernel⟩
instance : G.NdI N_law_some := ⟨sc_law_some.nd⟩
instance : G.OkL (defScope s_law_some) ["_law_pen_here", "_law_shared", "_law_found", "_law_turn", "_law_period"] := ⟨by decide +kernel⟩
abbrev s_law_is_in : Stmt := top 70
abbrev N_law_is_in : List Str := ["_law_some_here", "_law_number", "_law_period", "_law_play", "_law_move", "_law_rest"]
theorem sc_law_is_in : FnScope N_law_is_in ["_law_some_here", "_law_number"] (defScope s_law_is_in) := ⟨rfl, rfl, rfl, by decide +kernel, rfl, by decide +kernel, by decide +kernel⟩
instance : G.NdI N_law_is_in := ⟨sc_law_is_in.nd⟩
instance : G.OkL (defScope s_law_is_in) ["_law_some_here", "_law_number", "_law_period", "_law_play", "_law_move", "_law_rest"] := ⟨by decide +kernel⟩
abbrev s_law_table : Stmt := top 71
abbrev N_law_table : List Str := ["_law_some_here", "_law_lots", "_law_found", "_law_period", "_law_play", "_law_move"]
theorem sc_law_table : FnScope N_law_table ["_law_some_here"] (defScope s_law_table) := ⟨rfl, rfl, rfl, by decide +kernel, rfl, by decide +kernel, by decide +kernel⟩
instance : G.NdI N_law_table := ⟨sc_law_table.nd⟩
instance : G.OkL (defScope s_law_table) ["_law_some_here", "_law_lots", "_law_found"] := ⟨by decide +kernel⟩
abbrev s_law_next : Stmt := top 72
abbrev N_law_next : List Str := ["_law_table_here", "_law_number", "_law_period", "_law_runs", "_law_found", "_law_begin", "_law_end", "_law_later", "_law_spot", "_law_one"]
theorem sc_law_next : FnScope N_law_next ["_law_table_here", "_law_number"] (defScope s_law_next) := ⟨rfl, rfl, rfl, by decide +kernel, rfl, by decide +kernel, by decide +kernel⟩
instance : G.NdI N_law_next := ⟨sc_law_next.nd⟩
instance : G.OkL (defScope s_law_next) ["_law_table_here", "_law_number", "_law_period", "_law_runs", "_law_found", "_law_begin", "_law_end", "_law_later", "_law_spot"] := ⟨by decide +kernel⟩
abbrev s_law_many : Stmt := top 73
abbrev N_law_many : List Str := ["_law_table_here", "_law_low", "_law_high", "_law_period", "_law_runs", "_law_found", "_law_begin", "_law_end", "_law_lap", "_law_moved"]
theorem sc_law_many : FnScope N_law_many ["_law_table_here", "_law_low", "_law_high"] (defScope s_law_many) := ⟨rfl, rfl, rfl, by decide +kernel, rfl, by decide +kernel, by decide +kernel⟩
instance : G.NdI N_law_many := ⟨sc_law_many.nd⟩
instance : G.OkL (defScope s_law_many) ["_law_table_here", "_law_low", "_law_high", "_law_period", "_law_runs", "_law_found", "_law_begin", "_law_end", "_law_lap", "_law_moved"] := ⟨by decide +kernel⟩
abbrev s_law : Stmt := top 74
abbrev N_law : List Str := ["_law_script", "_law_pen_here", "_law_turn", "_law_some_here", "_law_table_here", "_law_made", "_law_period", "_law_runs", "_law_lap", "_law_far", "_law_above", "_law_below", "_law_high", "_law_begin", "_law_end"]
theorem sc_law : FnScope N_law ["_law_script"] (defScope s_law) := ⟨rfl, rfl, rfl, by decide +kernel, rfl, by decide +kernel, by decide +kernel⟩
instance : G.NdI N_law := ⟨sc_law.nd⟩
instance : G.OkL (defScope s_law) ["_law_script", "_law_pen_here", "_law_turn", "_law_some_here", "_law_table_here", "_law_made", "_law_period", "_law_runs", "_law_lap", "_law_far", "_law_above", "_law_below", "_law_high"] := ⟨by decide +kernel⟩
namespace Lt
abbrev Rn := Int × Int
/-- n lies in one of the runs, moved by whole rounds -/
def In (p : Int) (rs : List Rn) (n : Int) : Prop := ∃ r ∈ rs, ∃ z : Int, r.1 ≤ n + p * z ∧ n + p * z ≤ r.2
/-- the cases of a whole round -/
theorem rnd {p z : Int} (hp : 0 < p) : z = 0 ∧ p * z = 0 ∨ z = 1 ∧ p * z = p ∨ z = -1 ∧ p * z = -p ∨ 2 ≤ z ∧ 2 * p ≤ p * z ∨ z ≤ -2 ∧ p * z ≤ -(2 * p) := by
  rcases (show z = 0 ∨ z = 1 ∨ z = -1 ∨ 2 ≤ z ∨ z ≤ -2 by omega) with rfl | rfl | rfl | h | h
  · simp
  · simp
  · simp
  · refine .inr (.inr (.inr (.inl ⟨h, ?_⟩)))
    have := Int.mul_le_mul_of_nonneg_left h (Int.le_of_lt hp)
    omega
  · refine .inr (.inr (.inr (.inr ⟨h, ?_⟩)))
    have := Int.mul_le_mul_of_nonneg_left h (Int.le_of_lt hp)
    omega
theorem in_mod {p : Int} (hp : 0 < p) {r : Rn} (h : r.1 ≤ r.2) (n : Int) : ((n - r.1) % p ≤ r.2 - r.1) ↔ ∃ z : Int, r.1 ≤ n + p * z ∧ n + p * z ≤ r.2 := by
  have e := Int.mul_ediv_add_emod (n - r.1) p
  have m0 := Int.emod_nonneg (n - r.1) (show p ≠ 0 by omega)
  have m1 := Int.emod_lt_of_pos (n - r.1) hp
  constructor
  · intro k
    refine ⟨-((n - r.1) / p), ?_, ?_⟩
    · rw [Int.mul_neg]
      omega
    · rw [Int.mul_neg]
      omega
  · rintro ⟨z, h1, h2⟩
    have e2 : (n - r.1) % p = (n + p * z - r.1) % p := by
      rw [show n + p * z - r.1 = (n - r.1) + p * z by omega, Int.add_mul_emod_self_left]
    have e3 := Int.mul_ediv_add_emod (n + p * z - r.1) p
    have e4 := Int.mul_nonneg (Int.le_of_lt hp) (Int.ediv_nonneg (show 0 ≤ n + p * z - r.1 by omega) (Int.le_of_lt hp))
    omega
structure NF (w p : Int) (rs : List Rn) : Prop where
  le : ∀ r ∈ rs, r.1 ≤ r.2
  wd : ∀ r ∈ rs, w ≤ r.1 ∧ r.1 < w + p
  ap : rs.Pairwise fun r s => r.2 + 1 < s.1
  cl : ∀ r ∈ rs, ∀ s ∈ rs, r.2 + 1 < s.1 + p
section
variable {w p : Int} {rs ss : List Rn}
theorem In.shift {n : Int} (h : In p rs n) (z : Int) : In p rs (n + p * z) := by
  obtain ⟨r, hr, y, h1, h2⟩ := h
  refine ⟨r, hr, y - z, ?_⟩
  rw [Int.mul_sub]
  omega
/-- two of the runs: the same, or apart -/
theorem pair_or {α : Type} {R : α → α → Prop} {l : List α} (h : l.Pairwise R) {a b : α} (ha : a ∈ l) (hb : b ∈ l) : a = b ∨ R a b ∨ R b a := by
  induction h with
  | nil => cases ha
  | cons hx _ ih =>
    rcases List.mem_cons.mp ha with ea | ha
    · rcases List.mem_cons.mp hb with eb | hb
      · exact .inl (ea.trans eb.symm)
      · exact .inr (.inl (ea ▸ hx _ hb))
    · rcases List.mem_cons.mp hb with eb | hb
      · exact .inr (.inr (eb ▸ hx _ ha))
      · exact ih ha hb
theorem NF.two (h : NF w p rs) {r s : Rn} (hr : r ∈ rs) (hs : s ∈ rs) : r = s ∨ r.2 + 1 < s.1 ∨ s.2 + 1 < r.1 := pair_or h.ap hr hs
theorem NF.pos (h : NF w p rs) {r : Rn} (hr : r ∈ rs) : 0 < p := by have := h.wd r hr; omega
theorem NF.before (h : NF w p rs) {r : Rn} (hr : r ∈ rs) : ¬ In p rs (r.1 - 1) := by
  rintro ⟨s, hs, z, h1, h2⟩
  have hp := h.pos hr
  have a := h.wd r hr
  have b := h.wd s hs
  have c := h.le r hr
  have d := h.le s hs
  have e := h.cl r hr s hs
  have f := h.cl s hs r hr
  rcases rnd (z := z) hp with ⟨_, k⟩ | ⟨_, k⟩ | ⟨_, k⟩ | ⟨_, k⟩ | ⟨_, k⟩ <;> rcases h.two hr hs with g | g | g <;> first | (subst g; omega) | omega
theorem NF.behind (h : NF w p rs) {r : Rn} (hr : r ∈ rs) : ¬ In p rs (r.2 + 1) := by
  rintro ⟨s, hs, z, h1, h2⟩
  have hp := h.pos hr
  have a := h.wd r hr
  have b := h.wd s hs
  have c := h.le r hr
  have d := h.le s hs
  have e := h.cl r hr s hs
  have f := h.cl s hs r hr
  rcases rnd (z := z) hp with ⟨_, k⟩ | ⟨_, k⟩ | ⟨_, k⟩ | ⟨_, k⟩ | ⟨_, k⟩ <;> rcases h.two hr hs with g | g | g <;> first | (subst g; omega) | omega
theorem NF.mem_of (_h : NF w p rs) {r : Rn} (hr : r ∈ rs) {n : Int} (h1 : r.1 ≤ n) (h2 : n ≤ r.2) : In p rs n := ⟨r, hr, 0, by rw [Int.mul_zero]; omega⟩
/-- a run, told by the members alone -/
def IsRun (w p : Int) (S : Int → Prop) (r : Rn) : Prop := (w ≤ r.1 ∧ r.1 < w + p) ∧ r.1 ≤ r.2 ∧ (∀ n, r.1 ≤ n → n ≤ r.2 → S n) ∧ ¬ S (r.1 - 1) ∧ ¬ S (r.2 + 1)
theorem NF.isRun (h : NF w p rs) {r : Rn} (hr : r ∈ rs) : IsRun w p (In p rs) r := ⟨h.wd r hr, h.le r hr, fun _ a b => h.mem_of hr a b, h.before hr, h.behind hr⟩
/-- a member lies in one run, moved by rounds -/
theorem NF.of_begin (h : NF w p rs) {b : Int} (hw : w ≤ b ∧ b < w + p) (hb : In p rs b) (hn : ¬ In p rs (b - 1)) : ∃ r ∈ rs, r.1 = b := by
  obtain ⟨s, hs, z, h1, h2⟩ := hb
  have hp := h.pos hs
  have a := h.wd s hs
  have d := h.le s hs
  have c := h.cl s hs s hs
  have e : s.1 = b + p * z := by
    rcases (show s.1 = b + p * z ∨ s.1 < b + p * z by omega) with e | e
    · exact e
    · exact absurd ⟨s, hs, z, by omega, by omega⟩ hn
  refine ⟨s, hs, ?_⟩
  rcases rnd (z := z) hp with ⟨_, k⟩ | ⟨_, k⟩ | ⟨_, k⟩ | ⟨_, k⟩ | ⟨_, k⟩ <;> omega
theorem NF.isRun_iff (h : NF w p rs) (r : Rn) : r ∈ rs ↔ IsRun w p (In p rs) r := by
  refine ⟨fun hr => h.isRun hr, fun ⟨hw, hle, hin, hb, ha⟩ => ?_⟩
  obtain ⟨s, hs, e⟩ := h.of_begin hw (hin r.1 (Int.le_refl _) hle) hb
  have d := h.le s hs
  have e2 : r.2 = s.2 := by
    rcases Int.lt_trichotomy r.2 s.2 with k | k | k
    · exact absurd (h.mem_of hs (show s.1 ≤ r.2 + 1 by omega) (by omega)) ha
    · exact k
    · exact absurd (hin (s.2 + 1) (by omega) (by omega)) (h.behind hs)
  have : r = s := Prod.ext e.symm e2
  rw [this]
  exact hs
theorem NF.lt (h : NF w p rs) : rs.Pairwise fun r s => r.1 < s.1 := by
  refine h.ap.imp_of_mem fun {r s} hr _ k => ?_
  have := h.le r hr
  omega
theorem sorted_ext : ∀ {rs ss : List Rn}, (rs.Pairwise fun r s => r.1 < s.1) → (ss.Pairwise fun r s => r.1 < s.1) → (∀ r, r ∈ rs ↔ r ∈ ss) → rs = ss := fun {rs ss} a b k => by
  have nd : ∀ {l : List Rn}, (l.Pairwise fun r s => r.1 < s.1) → l.Nodup := fun h => h.imp fun {x y} z e => by rw [e] at z; omega
  refine List.Perm.eq_of_pairwise (le := fun r s => r.1 < s.1) (fun x y _ _ h1 h2 => by omega) a b ((List.perm_ext_iff_of_nodup (nd a) (nd b)).mpr k)
/-- such a form is one alone -/
theorem NF.unique (h : NF w p rs) (k : NF w p ss) (e : ∀ n, In p rs n ↔ In p ss n) : rs = ss := by
  refine sorted_ext h.lt k.lt fun r => ?_
  rw [h.isRun_iff, k.isRun_iff, show In p rs = In p ss from funext fun n => propext (e n)]
end
structure Ch (m : Nat) (p : Int) (B E : Nat → Int) : Prop where
  pos : 0 < m
  be : ∀ i, B i ≤ E i
  ap : ∀ i, E i + 1 < B (i + 1)
  pB : ∀ i, B (i + m) = B i + p
  pE : ∀ i, E (i + m) = E i + p
  b0 : 0 ≤ B 0
  bl : B (m - 1) < p
def Per (S : Int → Prop) (k : Int) : Prop := ∀ n, S (n + k) ↔ S n
theorem Per.nmul {S : Int → Prop} {k : Int} (h : Per S k) : ∀ (c : Nat) (n : Int), S (n + k * (c : Int)) ↔ S n
  | 0, n => by simp
  | c + 1, n => by
    have e := h (n + k * (c : Int))
    have ih := h.nmul c n
    rw [show n + k * ((c + 1 : Nat) : Int) = n + k * (c : Int) + k by rw [Int.natCast_add, Int.mul_add]; omega]
    exact e.trans ih
theorem Per.mul {S : Int → Prop} {k : Int} (h : Per S k) (c : Int) (n : Int) : S (n + k * c) ↔ S n := by
  rcases Int.le_total 0 c with h0 | h0
  · have := h.nmul c.toNat n
    rw [Int.toNat_of_nonneg h0] at this
    exact this
  · have := h.nmul (-c).toNat (n + k * c)
    rw [Int.toNat_of_nonneg (show 0 ≤ -c by omega), show n + k * c + k * -c = n by rw [Int.mul_neg]; omega] at this
    exact this.symm
section
variable {m : Nat} {p : Int} {B E : Nat → Int}
/-- what lies in a chain -/
def InC (p : Int) (B E : Nat → Int) (n : Int) : Prop := ∃ (i : Nat) (z : Int), B i ≤ n + p * z ∧ n + p * z ≤ E i
theorem Ch.lt1 (h : Ch m p B E) (i : Nat) : B i < B (i + 1) := by
  have := h.be i
  have := h.ap i
  omega
theorem Ch.mono (h : Ch m p B E) {i j : Nat} (k : i ≤ j) : B i ≤ B j := by
  induction k with
  | refl => exact Int.le_refl _
  | step _ ih => exact Int.le_trans ih (Int.le_of_lt (h.lt1 _))
theorem Ch.smono (h : Ch m p B E) {i j : Nat} (k : i < j) : B i < B j := by
  have := h.lt1 i
  have := h.mono (show i + 1 ≤ j from k)
  omega
theorem Ch.inj (h : Ch m p B E) {i j : Nat} (e : B i = B j) : i = j := by
  rcases Nat.lt_trichotomy i j with k | k | k
  · have := h.smono k
    omega
  · exact k
  · have := h.smono k
    omega
theorem Ch.apart (h : Ch m p B E) {i j : Nat} (k : i < j) : E i + 1 < B j := by
  have := h.ap i
  have := h.mono (show i + 1 ≤ j from k)
  omega
theorem Ch.p0 (h : Ch m p B E) : 0 < p := by
  have := h.b0
  have := h.bl
  have := h.mono (Nat.zero_le (m - 1))
  omega
theorem Ch.pBm (h : Ch m p B E) (i : Nat) : ∀ c : Nat, B (i + m * c) = B i + p * c ∧ E (i + m * c) = E i + p * c
  | 0 => by simp
  | c + 1 => by
    obtain ⟨a, b⟩ := h.pBm i c
    have e : i + m * (c + 1) = i + m * c + m := by rw [Nat.mul_add]; omega
    rw [e, h.pB, h.pE, a, b, Int.natCast_add, Int.mul_add]
    omega
/-- moved by whole rounds: a place in the chain -/
theorem Ch.place (h : Ch m p B E) {n : Int} (hn : InC p B E n) : ∃ c0 : Nat, ∀ c : Nat, c0 ≤ c → ∃ i, m ≤ i ∧ B i ≤ n + p * c ∧ n + p * c ≤ E i := by
  obtain ⟨i, z, h1, h2⟩ := hn
  refine ⟨z.toNat + 1, fun c hc => ?_⟩
  obtain ⟨d, hd⟩ : ∃ d : Nat, (c : Int) = z + d := ⟨(c - z).toNat, by omega⟩
  obtain ⟨a, b⟩ := h.pBm i d
  refine ⟨i + m * d, ?_, ?_, ?_⟩
  · have : 1 ≤ d := by omega
    have := Nat.mul_le_mul_left m this
    omega
  · rw [a, hd, Int.mul_add]
    omega
  · rw [b, hd, Int.mul_add]
    omega
/-- alike behind a shift of t runs -/
def Rot (B E : Nat → Int) (t : Nat) (q : Int) : Prop := ∀ i, B (i + t) = B i + q ∧ E (i + t) = E i + q
theorem Ch.per_rot (h : Ch m p B E) {t : Nat} {q : Int} (ht : t ≤ m) (r : Rot B E t q) : Per (InC p B E) q := fun n => by
  constructor
  · intro k
    obtain ⟨c0, k⟩ := h.place k
    obtain ⟨i, hi, h1, h2⟩ := k c0 (Nat.le_refl _)
    obtain ⟨a, b⟩ := r (i - t)
    rw [Nat.sub_add_cancel (by omega)] at a b
    exact ⟨i - t, c0, by omega, by omega⟩
  · rintro ⟨i, z, h1, h2⟩
    obtain ⟨a, b⟩ := r i
    exact ⟨i + t, z, by omega, by omega⟩
/-- a begin within a round -/
theorem Ch.begins (h : Ch m p B E) {b : Int} (hb : InC p B E b) (hn : ¬ InC p B E (b - 1)) (h0 : B 0 ≤ b) : ∃ i, B i = b := by
  obtain ⟨c0, k⟩ := h.place hb
  obtain ⟨i, hi, h1, h2⟩ := k c0 (Nat.le_refl _)
  have e : B i = b + p * c0 := by
    rcases (show B i = b + p * c0 ∨ B i < b + p * c0 by omega) with e | e
    · exact e
    · exact absurd ⟨i, c0, by omega, by omega⟩ hn
  -- i lies c0 rounds in
  have e0 := (h.pBm 0 c0).1
  rw [Nat.zero_add] at e0
  have le : m * c0 ≤ i := by
    rcases Nat.lt_or_ge i (m * c0) with k | k
    · have := h.smono k
      omega
    · exact k
  refine ⟨i - m * c0, ?_⟩
  have e1 := (h.pBm (i - m * c0) c0).1
  rw [Nat.sub_add_cancel le] at e1
  omega
theorem Ch.no_before (h : Ch m p B E) (i : Nat) : ¬ InC p B E (B i - 1) := fun hn => by
  obtain ⟨c0, k⟩ := h.place hn
  obtain ⟨j, hj, h1, h2⟩ := k c0 (Nat.le_refl _)
  have e := (h.pBm i c0).1
  rcases Nat.lt_or_ge j (i + m * c0) with k | k
  · have := h.apart k
    omega
  · have := h.mono k
    omega
theorem Ch.no_behind (h : Ch m p B E) (i : Nat) : ¬ InC p B E (E i + 1) := fun hn => by
  obtain ⟨c0, k⟩ := h.place hn
  obtain ⟨j, hj, h1, h2⟩ := k c0 (Nat.le_refl _)
  have e := (h.pBm i c0).2
  have e' := (h.pBm i c0).1
  rcases Nat.lt_trichotomy j (i + m * c0) with k | k | k
  · have := h.apart k
    have := h.be i
    have := h.be (i + m * c0)
    omega
  · subst k
    omega
  · have := h.apart k
    omega
theorem Ch.mem (_h : Ch m p B E) {i : Nat} {n : Int} (h1 : B i ≤ n) (h2 : n ≤ E i) : InC p B E n := ⟨i, 0, by rw [Int.mul_zero]; omega, by rw [Int.mul_zero]; omega⟩
/-- a period of the members moves the chain -/
theorem Ch.rot_per (h : Ch m p B E) {q : Int} (hq : 0 < q) (k : Per (InC p B E) q) : ∃ t : Nat, 0 < t ∧ Rot B E t q := by
  -- where the first run goes
  have up : ∀ i, ∃ j, B j = B i + q := fun i => h.begins ((k (B i)).mpr (h.mem (Int.le_refl _) (h.be i))) (fun z => h.no_before i ((k (B i - 1)).mp (by rw [show B i - 1 + q = B i + q - 1 by omega]; exact z))) (by have := h.mono (Nat.zero_le i); omega)
  have ends : ∀ {i j : Nat}, B j = B i + q → E j = E i + q := fun {i j} e => by
    rcases Int.lt_trichotomy (E j) (E i + q) with a | a | a
    · refine absurd ((k (E j + 1 - q)).mpr (h.mem (i := i) ?_ ?_)) ?_
      · have := h.be j
        omega
      · omega
      · rw [show E j + 1 - q + q = E j + 1 by omega]
        exact h.no_behind j
    · exact a
    · refine absurd ((k (E i + 1)).mp (h.mem (i := j) ?_ ?_)) (h.no_behind i)
      · have := h.be i
        omega
      · omega
  obtain ⟨t, ht⟩ := up 0
  have t0 : 0 < t := by
    rcases Nat.eq_zero_or_pos t with rfl | z
    · omega
    · exact z
  refine ⟨t, t0, fun i => ?_⟩
  have main : B (i + t) = B i + q := by
    induction i with
    | zero => rw [Nat.zero_add]; exact ht
    | succ i ih =>
      obtain ⟨j, hj⟩ := up (i + 1)
      -- j is the next one behind i + t
      have l1 := h.lt1 i
      have j1 : i + t < j := by
        rcases Nat.lt_or_ge (i + t) j with z | z
        · exact z
        · have := h.mono z
          omega
      rcases Nat.eq_or_lt_of_le (show i + t + 1 ≤ j from j1) with e | e
      · rw [show i + 1 + t = i + t + 1 by omega, e]
        exact hj
      · -- a run between: it comes of one between
        exfalso
        have m1 := h.lt1 (i + t)
        have m2 := h.smono e
        have eE := ends ih
        have ea := h.ap (i + t)
        -- its begin less q is a begin between those of i and i + 1
        have nb := h.no_before (i + t + 1)
        have hb : InC p B E (B (i + t + 1) - q) := (k _).mp (by rw [show B (i + t + 1) - q + q = B (i + t + 1) by omega]; exact h.mem (Int.le_refl _) (h.be _))
        have hn : ¬ InC p B E (B (i + t + 1) - q - 1) := fun z => nb ((show B (i + t + 1) - q - 1 + q = B (i + t + 1) - 1 by omega) ▸ (k _).mpr z)
        obtain ⟨x, hx⟩ := h.begins hb hn (by have := h.mono (Nat.zero_le i); omega)
        have x1 : i < x := by
          rcases Nat.lt_or_ge i x with z | z
          · exact z
          · have := h.mono z
            omega
        have x2 : x < i + 1 := by
          rcases Nat.lt_or_ge x (i + 1) with z | z
          · exact z
          · have := h.mono z
            omega
        omega
  exact ⟨main, ends main⟩
theorem Rot.mul {t : Nat} {q : Int} (r : Rot B E t q) (i : Nat) : ∀ c : Nat, B (i + t * c) = B i + q * c ∧ E (i + t * c) = E i + q * c
  | 0 => by simp
  | c + 1 => by
    obtain ⟨a, b⟩ := r.mul i c
    have e : i + t * (c + 1) = i + t * c + t := by rw [Nat.mul_add]; omega
    rw [e, (r _).1, (r _).2, a, b, Int.natCast_add, Int.mul_add]
    omega
end
/-- the form of a set of integers: its least period, its runs in a round -/
structure Form (S : Int → Prop) (q : Int) (few : List Rn) : Prop where
  pos : 0 < q
  per : Per S q
  least : ∀ k, 0 < k → Per S k → q ≤ k
  runs : ((∀ n, S n) ∧ few = [(0, 0)]) ∨ (NF 0 q few ∧ ∀ n, In q few n ↔ S n)
theorem NF.not_all {w p : Int} {rs : List Rn} (h : NF w p rs) : ¬ ∀ n, In p rs n := fun k => by
  cases rs with
  | nil =>
    obtain ⟨r, hr, _⟩ := k 0
    cases hr
  | cons r rs => exact h.behind List.mem_cons_self (k _)
theorem Form.unique {S : Int → Prop} {q q' : Int} {f f' : List Rn} (h : Form S q f) (k : Form S q' f') : q = q' ∧ f = f' := by
  have e : q = q' := Int.le_antisymm (h.least _ k.pos k.per) (k.least _ h.pos h.per)
  subst e
  refine ⟨rfl, ?_⟩
  rcases h.runs with ⟨a, b⟩ | ⟨a, b⟩
  · rcases k.runs with ⟨c, d⟩ | ⟨c, d⟩
    · rw [b, d]
    · exact absurd (fun n => (d n).mpr (a n)) c.not_all
  · rcases k.runs with ⟨c, d⟩ | ⟨c, d⟩
    · exact absurd (fun n => (b n).mpr (c n)) a.not_all
    · exact a.unique c fun n => (b n).trans (d n).symm
/-- there is a least period -/
theorem least_per {S : Int → Prop} : ∀ (b : Nat) (k : Int), 0 < k → k ≤ b → Per S k → ∃ q, 0 < q ∧ Per S q ∧ ∀ k', 0 < k' → Per S k' → q ≤ k'
  | 0, k, h0, h1, _ => by omega
  | b + 1, k, h0, h1, hk => by
    by_cases z : ∃ k' : Int, 0 < k' ∧ k' ≤ b ∧ Per S k'
    · obtain ⟨k', a, c, d⟩ := z
      exact least_per b k' a c d
    · refine ⟨k, h0, hk, fun k' a c => ?_⟩
      rcases Int.lt_or_le k' k with e | e
      · exact absurd ⟨k', a, by omega, c⟩ z
      · exact e
/-- it divides each period -/
theorem least_dvd {S : Int → Prop} {q p : Int} (q0 : 0 < q) (hq : Per S q) (ql : ∀ k', 0 < k' → Per S k' → q ≤ k') (hp : Per S p) : q ∣ p := by
  have e := Int.mul_ediv_add_emod p q
  have m0 := Int.emod_nonneg p (show q ≠ 0 by omega)
  have m1 := Int.emod_lt_of_pos p q0
  rcases Int.lt_or_eq_of_le m0 with z | z
  · have r : Per S (p % q) := fun n => by
      have a := hq.mul (p / q) (n + p % q)
      rw [show n + p % q + q * (p / q) = n + p by omega] at a
      exact a.symm.trans (hp n)
    have := ql _ z r
    omega
  · exact Int.dvd_of_emod_eq_zero z.symm
section
variable {p : Int} {rs : List Rn}
/-- the begins and ends of the runs, on and on -/
def bOf (p : Int) (rs : List Rn) (i : Nat) : Int := (rs.getD (i % rs.length) (0, 0)).1 + p * ((i / rs.length : Nat) : Int)
def eOf (p : Int) (rs : List Rn) (i : Nat) : Int := (rs.getD (i % rs.length) (0, 0)).2 + p * ((i / rs.length : Nat) : Int)
theorem getD_mem {α : Type} {l : List α} {i : Nat} {d : α} (h : i < l.length) : l.getD i d ∈ l ∧ l[i]? = some (l.getD i d) := by
  rw [List.getD_eq_getElem?_getD, List.getElem?_eq_getElem h]
  exact ⟨List.getElem_mem h, rfl⟩
theorem bOf_lt {i : Nat} (h : i < rs.length) : bOf p rs i = (rs.getD i (0, 0)).1 ∧ eOf p rs i = (rs.getD i (0, 0)).2 := by
  unfold bOf eOf
  rw [Nat.mod_eq_of_lt h, Nat.div_eq_of_lt h]
  simp
theorem bOf_add (h : 0 < rs.length) (i : Nat) : bOf p rs (i + rs.length) = bOf p rs i + p ∧ eOf p rs (i + rs.length) = eOf p rs i + p := by
  unfold bOf eOf
  rw [Nat.add_mod_right, Nat.add_div_right _ h, Int.natCast_succ, Int.mul_add]
  omega
theorem NF.ch (h : NF 0 p rs) (ne : rs ≠ []) : Ch rs.length p (bOf p rs) (eOf p rs) := by
  have pos : 0 < rs.length := List.length_pos_iff.mpr ne
  have sr := h.ap
  refine ⟨pos, fun i => ?_, fun i => ?_, fun i => (bOf_add pos i).1, fun i => (bOf_add pos i).2, ?_, ?_⟩
  · have m := (getD_mem (d := ((0, 0) : Rn)) (Nat.mod_lt i pos)).1
    have := h.le _ m
    unfold bOf eOf
    omega
  · have a := Nat.mod_lt i pos
    have ma := getD_mem (d := ((0, 0) : Rn)) a
    rcases Nat.lt_or_ge (i % rs.length + 1) rs.length with k | k
    · have mb := getD_mem (d := ((0, 0) : Rn)) k
      have e1 : (i + 1) % rs.length = i % rs.length + 1 := by
        have z2 := Nat.div_add_mod i rs.length
        rw [show i + 1 = rs.length * (i / rs.length) + (i % rs.length + 1) by omega, Nat.mul_add_mod, Nat.mod_eq_of_lt k]
      have e2 : (i + 1) / rs.length = i / rs.length := by
        have z1 := Nat.div_add_mod (i + 1) rs.length
        have z2 := Nat.div_add_mod i rs.length
        have z3 : rs.length * ((i + 1) / rs.length) = rs.length * (i / rs.length) := by omega
        exact Nat.eq_of_mul_eq_mul_left pos z3
      unfold bOf eOf
      rw [e1, e2]
      have ap := List.pairwise_iff_getElem.mp sr (i % rs.length) (i % rs.length + 1) a k (Nat.lt_succ_self _)
      rw [List.getD_eq_getElem?_getD, List.getD_eq_getElem?_getD, List.getElem?_eq_getElem a, List.getElem?_eq_getElem k]
      show rs[i % rs.length].2 + _ + 1 < rs[i % rs.length + 1].1 + _
      omega
    · have z1 := Nat.div_add_mod (i + 1) rs.length
      have z2 := Nat.div_add_mod i rs.length
      have e0 : i + 1 = rs.length * (i / rs.length + 1) := by
        rw [Nat.mul_add]
        omega
      have e1 : (i + 1) % rs.length = 0 := by rw [e0, Nat.mul_mod_right]
      have e2 : (i + 1) / rs.length = i / rs.length + 1 := by rw [e0, Nat.mul_div_cancel_left _ pos]
      unfold bOf eOf
      rw [e1, e2]
      have mb := getD_mem (d := ((0, 0) : Rn)) pos
      have := h.cl _ ma.1 _ mb.1
      rw [Int.natCast_succ, Int.mul_add]
      omega
  · rw [(bOf_lt pos).1]
    exact (h.wd _ (getD_mem pos).1).1
  · have k : rs.length - 1 < rs.length := by omega
    rw [(bOf_lt k).1]
    have := (h.wd _ (getD_mem (d := ((0, 0) : Rn)) k).1).2
    omega
theorem in_ch (ne : rs ≠ []) (n : Int) : In p rs n ↔ InC p (bOf p rs) (eOf p rs) n := by
  have pos : 0 < rs.length := List.length_pos_iff.mpr ne
  constructor
  · rintro ⟨r, hr, z, h1, h2⟩
    obtain ⟨i, hi, rfl⟩ := List.mem_iff_getElem.mp hr
    have e : rs.getD i (0, 0) = rs[i] := by rw [List.getD_eq_getElem?_getD, List.getElem?_eq_getElem hi]; rfl
    refine ⟨i, z, ?_, ?_⟩
    · rw [(bOf_lt hi).1, e]
      exact h1
    · rw [(bOf_lt hi).2, e]
      exact h2
  · rintro ⟨i, z, h1, h2⟩
    unfold bOf at h1
    unfold eOf at h2
    refine ⟨_, (getD_mem (d := ((0, 0) : Rn)) (Nat.mod_lt i pos)).1, z - ((i / rs.length : Nat) : Int), ?_, ?_⟩
    · rw [Int.mul_sub]
      omega
    · rw [Int.mul_sub]
      omega
/-- a run's length, and how far it is to the next one's begin -/
def fR (p : Int) (rs : List Rn) (i : Nat) : Int × Int := (eOf p rs i - bOf p rs i + 1, bOf p rs (i + 1) - bOf p rs i)
theorem fR_add (h : 0 < rs.length) (i : Nat) : fR p rs (i + rs.length) = fR p rs i := by
  unfold fR
  rw [show i + rs.length + 1 = i + 1 + rs.length by omega, (bOf_add h i).1, (bOf_add h i).2, (bOf_add h (i + 1)).1]
  congr 1 <;> omega
theorem fR_mul (h : 0 < rs.length) (i : Nat) : ∀ c, fR p rs (i + rs.length * c) = fR p rs i
  | 0 => by simp
  | c + 1 => by rw [show i + rs.length * (c + 1) = i + rs.length * c + rs.length by rw [Nat.mul_add]; omega, fR_add h, fR_mul h i c]
theorem fR_mod (h : 0 < rs.length) (i : Nat) : fR p rs (i % rs.length) = fR p rs i := by
  have e := Nat.mod_add_div i rs.length
  have := fR_mul (p := p) h (i % rs.length) (i / rs.length)
  rw [e] at this
  exact this.symm
/-- the row of all runs -/
def rowOf (p : Int) (rs : List Rn) : List (Int × Int) := (List.range rs.length).map (fR p rs)
theorem rowOf_len : (rowOf p rs).length = rs.length := by simp [rowOf]
theorem rowOf_get {i : Nat} (h : i < rs.length) : (rowOf p rs)[i]? = some (fR p rs i) := by
  unfold rowOf
  rw [List.getElem?_map, List.getElem?_range h]
  rfl
/-- turned by t, an item -/
theorem turned_get {α : Type} {l : List α} {t i : Nat} (ht : t ≤ l.length) (hi : i < l.length) : (l.drop t ++ l.take t)[i]? = l[(i + t) % l.length]? := by
  rcases Nat.lt_or_ge i (l.length - t) with k | k
  · rw [List.getElem?_append_left (by rw [List.length_drop]; exact k), List.getElem?_drop, Nat.add_comm t i, Nat.mod_eq_of_lt (by omega)]
  · rw [List.getElem?_append_right (by rw [List.length_drop]; exact k), List.length_drop, List.getElem?_take]
    have e : (i + t) % l.length = i - (l.length - t) := by
      rw [show i + t = (i - (l.length - t)) + l.length by omega, Nat.add_mod_right, Nat.mod_eq_of_lt (by omega)]
    rw [e, if_pos (by omega)]
theorem turned_len {α : Type} {l : List α} {t : Nat} (ht : t ≤ l.length) : (l.drop t ++ l.take t).length = l.length := by
  rw [List.length_append, List.length_drop, List.length_take]
  omega
theorem turned_iff {α : Type} {l : List α} {t : Nat} (ht : t ≤ l.length) : l.drop t ++ l.take t = l ↔ ∀ i, i < l.length → l[(i + t) % l.length]? = l[i]? := by
  constructor
  · intro e i hi
    rw [← turned_get ht hi, e]
  · intro h
    refine List.ext_getElem? fun i => ?_
    rcases Nat.lt_or_ge i l.length with k | k
    · rw [turned_get ht k, h i k]
    · rw [List.getElem?_eq_none (by rw [turned_len ht]; exact k), List.getElem?_eq_none k]
/-- the row turned by t is the row: the chain is alike behind t runs -/
theorem row_turned (ne : rs ≠ []) {t : Nat} (ht : t ≤ rs.length) : (rowOf p rs).drop t ++ (rowOf p rs).take t = rowOf p rs ↔ Rot (bOf p rs) (eOf p rs) t (bOf p rs t - bOf p rs 0) := by
  have pos : 0 < rs.length := List.length_pos_iff.mpr ne
  rw [turned_iff (by rw [rowOf_len]; exact ht), rowOf_len]
  constructor
  · intro h
    have f : ∀ i, fR p rs (i + t) = fR p rs i := fun i => by
      have k := h (i % rs.length) (Nat.mod_lt i pos)
      rw [rowOf_get (Nat.mod_lt _ pos), rowOf_get (Nat.mod_lt _ pos), Nat.mod_add_mod] at k
      have k := Option.some.inj k
      rw [fR_mod pos, fR_mod pos] at k
      exact k
    have main : ∀ i, bOf p rs (i + t) = bOf p rs i + (bOf p rs t - bOf p rs 0) := fun i => by
      induction i with
      | zero => rw [Nat.zero_add]; omega
      | succ i ih =>
        have k := congrArg Prod.snd (f i)
        unfold fR at k
        dsimp only at k
        rw [show i + 1 + t = i + t + 1 by omega]
        omega
    refine fun i => ⟨main i, ?_⟩
    have k := congrArg Prod.fst (f i)
    unfold fR at k
    dsimp only at k
    have := main i
    omega
  · intro r i hi
    rw [rowOf_get (Nat.mod_lt _ pos), rowOf_get hi, fR_mod pos]
    unfold fR
    rw [show i + t + 1 = i + 1 + t by omega, (r i).1, (r i).2, (r (i + 1)).1]
    congr 2 <;> omega
/-- the gaps of the first runs -/
theorem row_sum {t : Nat} (ht : t ≤ rs.length) : (((rowOf p rs).take t).map (·.2)).sum = bOf p rs t - bOf p rs 0 := by
  induction t with
  | zero => simp
  | succ t ih =>
    have k := ih (by omega)
    rw [List.take_succ, rowOf_get (by omega), List.map_append, List.sum_append, k]
    simp [fR]
    omega
/-- THE RULE: the least turn of the row gives the least form -/
theorem least_form {t : Nat} (h : NF 0 p rs) (ne : rs ≠ []) (t1 : 1 ≤ t) (t2 : t ≤ rs.length) (td : rs.length % t = 0) (tr : (rowOf p rs).drop t ++ (rowOf p rs).take t = rowOf p rs)
    (tm : ∀ s, 1 ≤ s → s < t → rs.length % s = 0 → (rowOf p rs).drop s ++ (rowOf p rs).take s ≠ rowOf p rs) : Form (In p rs) ((((rowOf p rs).take t).map (·.2)).sum) (rs.take t) := by
  have pos : 0 < rs.length := List.length_pos_iff.mpr ne
  have C := h.ch ne
  have eS : In p rs = InC p (bOf p rs) (eOf p rs) := funext fun n => propext (in_ch ne n)
  have R := (row_turned ne t2).mp tr
  rw [row_sum t2]
  obtain ⟨q, eq⟩ : ∃ q, q = bOf p rs t - bOf p rs 0 := ⟨_, rfl⟩
  rw [← eq] at R ⊢
  have q0 : 0 < q := by
    have := C.smono (show 0 < t from t1)
    omega
  have hq : Per (In p rs) q := by
    rw [eS]
    exact C.per_rot t2 R
  obtain ⟨c, hc⟩ : ∃ c, rs.length = t * c := ⟨rs.length / t, by
    have := Nat.div_add_mod rs.length t
    omega⟩
  have qc : p = q * c := by
    have e1 := (R.mul 0 c).1
    rw [Nat.zero_add, ← hc] at e1
    have e2 := C.pB 0
    rw [Nat.zero_add] at e2
    omega
  have hp0 := C.p0
  have pp : Per (In p rs) p := fun n => ⟨fun ⟨r, hr, z, h1, h2⟩ => ⟨r, hr, z + 1, by rw [Int.mul_add]; omega, by rw [Int.mul_add]; omega⟩, fun ⟨r, hr, z, h1, h2⟩ => ⟨r, hr, z - 1, by rw [Int.mul_sub]; omega, by rw [Int.mul_sub]; omega⟩⟩
  have blt : bOf p rs (t - 1) < q := by
    have e := (R (rs.length - 1)).1
    have e2 := C.pB (t - 1)
    rw [show rs.length - 1 + t = t - 1 + rs.length by omega] at e
    have := C.bl
    omega
  have lt_of : ∀ r ∈ rs.take t, ∃ i, i < t ∧ r.1 = bOf p rs i ∧ r.2 = eOf p rs i ∧ r ∈ rs := fun r hr => by
    obtain ⟨i, hi, rfl⟩ := List.mem_iff_getElem.mp hr
    rw [List.length_take] at hi
    have hi2 : i < rs.length := by omega
    refine ⟨i, by omega, ?_, ?_, List.mem_of_mem_take hr⟩
    · rw [(bOf_lt hi2).1, List.getElem_take, List.getD_eq_getElem?_getD, List.getElem?_eq_getElem hi2]
      rfl
    · rw [(bOf_lt hi2).2, List.getElem_take, List.getD_eq_getElem?_getD, List.getElem?_eq_getElem hi2]
      rfl
  refine ⟨q0, hq, fun k k0 hk => ?_, .inr ⟨⟨fun r hr => h.le r (List.mem_of_mem_take hr), fun r hr => ?_, h.ap.sublist (List.take_sublist _ _), fun r hr s hs => ?_⟩, fun n => ?_⟩⟩
  · -- the least period of all comes of a turn, too
    obtain ⟨k0', a0, a1, a2⟩ := least_per k.toNat k k0 (by omega) hk
    have dv := least_dvd a0 a1 a2 pp
    obtain ⟨u, hu⟩ := dv
    rw [eS] at a1
    obtain ⟨s, s0, sr⟩ := C.rot_per a0 a1
    have u0 : 0 < u := by
      rcases Int.lt_or_le 0 u with z | z
      · exact z
      · have := Int.mul_le_mul_of_nonneg_left z (Int.le_of_lt a0)
        omega
    have eu : (u.toNat : Int) = u := Int.toNat_of_nonneg (by omega)
    have es : s * u.toNat = rs.length := by
      have e1 := (sr.mul 0 u.toNat).1
      have e2 := C.pB 0
      rw [Nat.zero_add] at e1 e2
      rw [eu] at e1
      exact C.inj (by omega)
    have sl : s ≤ rs.length := by
      rw [← es]
      exact Nat.le_mul_of_pos_right s (by omega)
    have es0 : bOf p rs s = bOf p rs 0 + k0' := by
      have := (sr 0).1
      rw [Nat.zero_add] at this
      exact this
    have st : t ≤ s := by
      rcases Nat.lt_or_ge s t with z | z
      · refine absurd ((row_turned ne sl).mpr ?_) (tm s s0 z ?_)
        · rw [show bOf p rs s - bOf p rs 0 = k0' by omega]
          exact sr
        · rw [← es, Nat.mul_mod_right]
      · exact z
    have := C.mono st
    have := a2 k k0 hk
    omega
  · obtain ⟨i, hi, e1, -, hm⟩ := lt_of r hr
    have := (h.wd r hm).1
    have := C.mono (show i ≤ t - 1 by omega)
    omega
  · obtain ⟨i, hi, e1, e2, hm⟩ := lt_of r hr
    obtain ⟨j, hj, e3, e4, hm2⟩ := lt_of s hs
    have := C.apart (show i < j + t by omega)
    have := (R j).1
    omega
  · constructor
    · rintro ⟨r, hr, z, h1, h2⟩
      exact (hq.mul z n).mp ⟨r, List.mem_of_mem_take hr, 0, by rw [Int.mul_zero]; omega, by rw [Int.mul_zero]; omega⟩
    · intro hn
      rw [eS] at hn
      obtain ⟨i, z, h1, h2⟩ := hn
      obtain ⟨a, b⟩ := R.mul (i % t) (i / t)
      rw [Nat.mod_add_div] at a b
      have hit := Nat.mod_lt i (show t > 0 from t1)
      have hi2 : i % t < rs.length := by omega
      have m := getD_mem (d := ((0, 0) : Rn)) hi2
      refine ⟨rs.getD (i % t) (0, 0), ?_, c * z - ((i / t : Nat) : Int), ?_, ?_⟩
      · refine List.mem_iff_getElem?.mpr ⟨i % t, ?_⟩
        rw [List.getElem?_take, if_pos hit]
        exact m.2
      · rw [← (bOf_lt (p := p) hi2).1, Int.mul_sub, ← Int.mul_assoc, ← qc]
        omega
      · rw [← (bOf_lt (p := p) hi2).2, Int.mul_sub, ← Int.mul_assoc, ← qc]
        omega
end
end Lt
namespace Lt
def Cov (rs : List Rn) (n : Int) : Prop := ∃ r ∈ rs, r.1 ≤ n ∧ n ≤ r.2
def mstep (acc : List Rn) (x : Rn) : List Rn := match acc.getLast? with
  | none => acc ++ [x]
  | some l => if x.1 ≤ l.2 + 1 then acc.dropLast ++ [(l.1, if l.2 < x.2 then x.2 else l.2)] else acc ++ [x]
theorem mstep_nil (x : Rn) : mstep [] x = [x] := rfl
theorem mstep_snoc (ms : List Rn) (l x : Rn) : mstep (ms ++ [l]) x = if x.1 ≤ l.2 + 1 then ms ++ [(l.1, if l.2 < x.2 then x.2 else l.2)] else ms ++ [l] ++ [x] := by
  unfold mstep
  rw [List.getLast?_append]
  simp
structure Melt (rs ms : List Rn) : Prop where
  le : ∀ r ∈ ms, r.1 ≤ r.2
  ap : ms.Pairwise fun r s => r.2 + 1 < s.1
  cov : ∀ n, Cov ms n ↔ Cov rs n
  of : ∀ r ∈ ms, ∃ s ∈ rs, s.1 = r.1
theorem Melt.nil : Melt [] [] := ⟨(fun _ h => by cases h), List.Pairwise.nil, (fun _ => Iff.rfl), (fun _ h => by cases h)⟩
theorem cov_snoc {rs : List Rn} {x : Rn} {n : Int} : Cov (rs ++ [x]) n ↔ Cov rs n ∨ (x.1 ≤ n ∧ n ≤ x.2) := by
  constructor
  · rintro ⟨r, hr, h⟩
    rcases List.mem_append.mp hr with hr | hr
    · exact .inl ⟨r, hr, h⟩
    · rw [List.mem_singleton.mp hr] at h
      exact .inr h
  · rintro (⟨r, hr, h⟩ | h)
    · exact ⟨r, List.mem_append_left _ hr, h⟩
    · exact ⟨x, List.mem_append_right _ (List.mem_singleton.mpr rfl), h⟩
theorem Melt.step {rs ms : List Rn} {x : Rn} (h : Melt rs ms) (hx : x.1 ≤ x.2) (hs : ∀ r ∈ rs, r.1 ≤ x.1) : Melt (rs ++ [x]) (mstep ms x) := by
  rcases List.eq_nil_or_concat ms with rfl | ⟨m, l, rfl⟩
  · rw [mstep_nil]
    refine ⟨fun r hr => by rw [List.mem_singleton.mp hr]; exact hx, List.pairwise_singleton _ _, fun n => ?_, fun r hr => ⟨x, List.mem_append_right _ (List.mem_singleton.mpr rfl), by rw [List.mem_singleton.mp hr]⟩⟩
    rw [cov_snoc, ← h.cov n]
    constructor
    · rintro ⟨r, hr, k⟩
      rw [List.mem_singleton.mp hr] at k
      exact .inr k
    · rintro (⟨r, hr, _⟩ | k)
      · cases hr
      · exact ⟨x, List.mem_singleton.mpr rfl, k⟩
  · rw [List.concat_eq_append] at h ⊢
    rw [mstep_snoc]
    have hl : l ∈ m ++ [l] := List.mem_append_right _ (List.mem_singleton.mpr rfl)
    have lle := h.le l hl
    obtain ⟨s0, hs0, e0⟩ := h.of l hl
    have lx := hs s0 hs0
    obtain ⟨ap1, -, ap2⟩ := List.pairwise_append.mp h.ap
    have ap3 : ∀ r ∈ m, r.2 + 1 < l.1 := fun r hr => ap2 r hr l (List.mem_singleton.mpr rfl)
    by_cases c : x.1 ≤ l.2 + 1
    · rw [if_pos c]
      refine ⟨fun r hr => ?_, ?_, fun n => ?_, fun r hr => ?_⟩
      · rcases List.mem_append.mp hr with hr | hr
        · exact h.le r (List.mem_append_left _ hr)
        · rw [List.mem_singleton.mp hr]
          dsimp only
          split <;> omega
      · refine List.pairwise_append.mpr ⟨ap1, List.pairwise_singleton _ _, fun r hr s hs => ?_⟩
        rw [List.mem_singleton.mp hs]
        exact ap3 r hr
      · rw [cov_snoc, cov_snoc, ← h.cov n, cov_snoc]
        dsimp only
        constructor
        · rintro (k | k)
          · exact .inl (.inl k)
          · split at k <;> omega
        · rintro ((k | k) | k)
          · exact .inl k
          · refine .inr ?_
            split <;> omega
          · refine .inr ?_
            split <;> omega
      · rcases List.mem_append.mp hr with hr | hr
        · obtain ⟨s, hs, e⟩ := h.of r (List.mem_append_left _ hr)
          exact ⟨s, List.mem_append_left _ hs, e⟩
        · rw [List.mem_singleton.mp hr]
          exact ⟨s0, List.mem_append_left _ hs0, e0⟩
    · rw [if_neg c]
      refine ⟨fun r hr => ?_, ?_, fun n => ?_, fun r hr => ?_⟩
      · rcases List.mem_append.mp hr with hr | hr
        · exact h.le r hr
        · rw [List.mem_singleton.mp hr]
          exact hx
      · refine List.pairwise_append.mpr ⟨h.ap, List.pairwise_singleton _ _, fun r hr s hs => ?_⟩
        rw [List.mem_singleton.mp hs]
        rcases List.mem_append.mp hr with hr | hr
        · have := ap3 r hr
          omega
        · rw [List.mem_singleton.mp hr]
          omega
      · rw [cov_snoc (rs := m ++ [l]), cov_snoc (rs := rs), h.cov n]
      · rcases List.mem_append.mp hr with hr | hr
        · obtain ⟨s, hs, e⟩ := h.of r hr
          exact ⟨s, List.mem_append_left _ hs, e⟩
        · exact ⟨x, List.mem_append_right _ (List.mem_singleton.mpr rfl), by rw [List.mem_singleton.mp hr]⟩
/-- melted runs, which begin in a round, and the last one's end as it goes round -/
structure Clo (p : Int) (ms : List Rn) (l : Rn) (k : Nat) (e : Int) : Prop where
  kl : k ≤ ms.length
  el : l.2 ≤ e
  all : ∀ r ∈ ms.take k, r.2 + p ≤ e
  cov : ∀ n, l.2 < n → n ≤ e → ∃ r ∈ ms.take k, r.1 + p ≤ n ∧ n ≤ r.2 + p
theorem Clo.zero {p : Int} {ms : List Rn} {l : Rn} : Clo p ms l 0 l.2 := ⟨Nat.zero_le _, Int.le_refl _, fun r hr => by simp at hr, fun n a b => by omega⟩
theorem Clo.step {p : Int} {ms : List Rn} {l r : Rn} {k : Nat} {e : Int} (h : Clo p ms l k e) (hr : ms[k]? = some r) (c : r.1 + p ≤ e + 1) : Clo p ms l (k + 1) (if e < r.2 + p then r.2 + p else e) := by
  have kl : k < ms.length := (List.getElem?_eq_some_iff.mp hr).1
  have et : ms.take (k + 1) = ms.take k ++ [r] := by rw [List.take_succ, hr]; rfl
  refine ⟨kl, ?_, fun s hs => ?_, fun n a b => ?_⟩
  · have := h.el
    split <;> omega
  · rw [et] at hs
    rcases List.mem_append.mp hs with hs | hs
    · have := h.all s hs
      split <;> omega
    · rw [List.mem_singleton.mp hs]
      split <;> omega
  · rw [et]
    rcases Int.lt_or_le e n with z | z
    · refine ⟨r, List.mem_append_right _ (List.mem_singleton.mpr rfl), by omega, ?_⟩
      split at b <;> omega
    · obtain ⟨s, hs, q⟩ := h.cov n a z
      exact ⟨s, List.mem_append_left _ hs, q⟩
/-- where it ends -/
theorem Clo.done {p : Int} {ms : List Rn} {l : Rn} {k : Nat} {e : Int} (h : Clo p ms l k e) (le : ∀ r ∈ ms ++ [l], r.1 ≤ r.2) (ap : (ms ++ [l]).Pairwise fun r s => r.2 + 1 < s.1) (wd : ∀ r ∈ ms ++ [l], 0 ≤ r.1 ∧ r.1 < p)
    (out : ∀ r, ms[k]? = some r → e + 1 < r.1 + p) : (p ≤ e - l.1 + 1 → ∀ n, In p (ms ++ [l]) n) ∧ (e - l.1 + 1 < p → NF 0 p (ms.drop k ++ [(l.1, e)]) ∧ ∀ n, In p (ms.drop k ++ [(l.1, e)]) n ↔ In p (ms ++ [l]) n) := by
  have hl : l ∈ ms ++ [l] := List.mem_append_right _ (List.mem_singleton.mpr rfl)
  have lle := le l hl
  have lwd := wd l hl
  have le1 := h.el
  obtain ⟨ap1, -, ap2⟩ := List.pairwise_append.mp ap
  have ap3 : ∀ r ∈ ms, r.2 + 1 < l.1 := fun r hr => ap2 r hr l (List.mem_singleton.mpr rfl)
  have back : ∀ n, In p (ms.drop k ++ [(l.1, e)]) n → In p (ms ++ [l]) n := fun n ⟨r, hr, z, h1, h2⟩ => by
    rcases List.mem_append.mp hr with hr | hr
    · exact ⟨r, List.mem_append_left _ (List.mem_of_mem_drop hr), z, h1, h2⟩
    · rw [List.mem_singleton.mp hr] at h1 h2
      rcases Int.lt_or_le l.2 (n + p * z) with c | c
      · obtain ⟨s, hs, q1, q2⟩ := h.cov _ c h2
        exact ⟨s, List.mem_append_left _ (List.mem_of_mem_take hs), z - 1, by rw [Int.mul_sub]; omega, by rw [Int.mul_sub]; omega⟩
      · exact ⟨l, hl, z, h1, c⟩
  refine ⟨fun far n => ?_, fun near => ⟨⟨fun r hr => ?_, fun r hr => ?_, ?_, fun r hr s hs => ?_⟩, fun n => ⟨back n, ?_⟩⟩⟩
  · have m0 := Int.emod_nonneg (n - l.1) (show p ≠ 0 by omega)
    have m1 := Int.emod_lt_of_pos (n - l.1) (show 0 < p by omega)
    have e1 := Int.mul_ediv_add_emod (n - l.1) p
    refine back n ⟨(l.1, e), List.mem_append_right _ (List.mem_singleton.mpr rfl), -((n - l.1) / p), ?_, ?_⟩
    · rw [Int.mul_neg]
      dsimp only
      omega
    · rw [Int.mul_neg]
      dsimp only
      omega
  · rcases List.mem_append.mp hr with hr | hr
    · exact le r (List.mem_append_left _ (List.mem_of_mem_drop hr))
    · rw [List.mem_singleton.mp hr]
      dsimp only
      omega
  · rw [Int.zero_add]
    rcases List.mem_append.mp hr with hr | hr
    · exact wd r (List.mem_append_left _ (List.mem_of_mem_drop hr))
    · rw [List.mem_singleton.mp hr]
      exact lwd
  · refine List.pairwise_append.mpr ⟨ap1.sublist (List.drop_sublist _ _), List.pairwise_singleton _ _, fun r hr s hs => ?_⟩
    rw [List.mem_singleton.mp hs]
    exact ap3 r (List.mem_of_mem_drop hr)
  · rcases List.mem_append.mp hr with hr | hr
    · have a := ap3 r (List.mem_of_mem_drop hr)
      rcases List.mem_append.mp hs with hs | hs
      · have := (wd s (List.mem_append_left _ (List.mem_of_mem_drop hs))).1
        omega
      · rw [List.mem_singleton.mp hs]
        dsimp only
        omega
    · rw [List.mem_singleton.mp hr]
      dsimp only
      rcases List.mem_append.mp hs with hs | hs
      · obtain ⟨i, hi, rfl⟩ := List.mem_iff_getElem.mp hs
        rw [List.length_drop] at hi
        have hk : k < ms.length := by omega
        have o := out _ (List.getElem?_eq_getElem hk)
        rw [List.getElem_drop]
        rcases Nat.eq_zero_or_pos i with rfl | z
        · simp only [Nat.add_zero]
          exact o
        · have q := List.pairwise_iff_getElem.mp ap1 k (k + i) hk (by omega) (by omega)
          have := le _ (List.mem_append_left [l] (List.getElem_mem hk))
          omega
      · rw [List.mem_singleton.mp hs]
        dsimp only
        omega
  · rintro ⟨r, hr, z, h1, h2⟩
    rcases List.mem_append.mp hr with hr | hr
    · rw [← List.take_append_drop k ms] at hr
      rcases List.mem_append.mp hr with hr | hr
      · have a := h.all r hr
        have w := (wd r (List.mem_append_left _ (List.mem_of_mem_take hr))).1
        exact ⟨(l.1, e), List.mem_append_right _ (List.mem_singleton.mpr rfl), z + 1, by rw [Int.mul_add]; dsimp only; omega, by rw [Int.mul_add]; dsimp only; omega⟩
      · exact ⟨r, List.mem_append_left _ hr, z, h1, h2⟩
    · rw [List.mem_singleton.mp hr] at h1 h2
      exact ⟨(l.1, e), List.mem_append_right _ (List.mem_singleton.mpr rfl), z, h1, by dsimp only; omega⟩
/-- runs with their begins brought into the round -/
def into (p : Int) (r : Rn) : Rn := (r.1 % p, r.1 % p + (r.2 - r.1 + 1) - 1)
theorem in_into {p : Int} {rs ms : List Rn} (h : ∀ m, m ∈ ms ↔ ∃ r ∈ rs, m = into p r) (n : Int) : In p ms n ↔ In p rs n := by
  constructor
  · rintro ⟨m, hm, z, h1, h2⟩
    obtain ⟨r, hr, rfl⟩ := (h m).mp hm
    have e := Int.mul_ediv_add_emod r.1 p
    unfold into at h1 h2
    dsimp only at h1 h2
    exact ⟨r, hr, z + r.1 / p, by rw [Int.mul_add]; omega, by rw [Int.mul_add]; omega⟩
  · rintro ⟨r, hr, z, h1, h2⟩
    have e := Int.mul_ediv_add_emod r.1 p
    refine ⟨into p r, (h _).mpr ⟨r, hr, rfl⟩, z - r.1 / p, ?_, ?_⟩
    · unfold into
      dsimp only
      rw [Int.mul_sub]
      omega
    · unfold into
      dsimp only
      rw [Int.mul_sub]
      omega
theorem in_cov {p : Int} {rs ms : List Rn} (h : ∀ n, Cov ms n ↔ Cov rs n) (n : Int) : In p ms n ↔ In p rs n :=
  ⟨fun ⟨r, hr, z, h1, h2⟩ => by
    obtain ⟨s, hs, k⟩ := (h _).mp ⟨r, hr, h1, h2⟩
    exact ⟨s, hs, z, k⟩, fun ⟨r, hr, z, h1, h2⟩ => by
    obtain ⟨s, hs, k⟩ := (h _).mpr ⟨r, hr, h1, h2⟩
    exact ⟨s, hs, z, k⟩⟩
theorem in_long {p : Int} {rs : List Rn} {r : Rn} (hp : 0 < p) (hr : r ∈ rs) (h : p ≤ r.2 - r.1 + 1) (n : Int) : In p rs n := by
  have m0 := Int.emod_nonneg (n - r.1) (show p ≠ 0 by omega)
  have m1 := Int.emod_lt_of_pos (n - r.1) hp
  have e1 := Int.mul_ediv_add_emod (n - r.1) p
  refine ⟨r, hr, -((n - r.1) / p), ?_, ?_⟩
  · rw [Int.mul_neg]
    omega
  · rw [Int.mul_neg]
    omega
/-- what maximal gives: a whole round, or the form of the round -/
def Mx (p : Int) (rs res : List Rn) : Prop := (res = [(0, p - 1)] ∧ ∀ n, In p rs n) ∨ (NF 0 p res ∧ ∀ n, In p res n ↔ In p rs n)
theorem Mx.full_or {p : Int} {rs res : List Rn} (h : Mx p rs res) {r : Rn} (hr : r ∈ res) : p ≤ r.2 - r.1 + 1 ↔ ∀ n, In p rs n := by
  rcases h with ⟨a, b⟩ | ⟨a, b⟩
  · rw [a] at hr
    rw [List.mem_singleton.mp hr]
    exact ⟨fun _ => b, fun _ => by dsimp only; omega⟩
  · have := a.cl r hr r hr
    exact ⟨fun _ => by omega, fun k => absurd (fun n => (b n).mpr (k n)) a.not_all⟩
theorem form_none {p : Int} {rs : List Rn} (h : Mx p rs []) : Form (In p rs) 1 [] := by
  rcases h with ⟨a, _⟩ | ⟨a, b⟩
  · cases a
  · have no : ∀ n, ¬ In p rs n := fun n k => by
      obtain ⟨r, hr, _⟩ := (b n).mpr k
      cases hr
    have nf : NF 0 1 [] := ⟨(fun r hr => by cases hr), (fun r hr => by cases hr), List.Pairwise.nil, (fun r hr => by cases hr)⟩
    refine ⟨by decide, fun n => ⟨fun k => absurd k (no _), fun k => absurd k (no _)⟩, fun k h0 _ => by omega, .inr ⟨nf, fun n => ⟨fun k => ?_, fun k => absurd k (no _)⟩⟩⟩
    obtain ⟨r, hr, _⟩ := k
    cases hr
theorem form_all {S : Int → Prop} (h : ∀ n, S n) : Form S 1 [(0, 0)] := ⟨by decide, fun n => ⟨fun _ => h _, fun _ => h _⟩, fun k h0 _ => by omega, .inl ⟨h, rfl⟩⟩
theorem form_of {p : Int} {rs res : List Rn} (h : Mx p rs res) {r : Rn} {t : List Rn} (e : res = r :: t) (n : r.2 - r.1 + 1 < p) : NF 0 p res ∧ In p res = In p rs := by
  rcases h with ⟨a, _⟩ | ⟨a, b⟩
  · rw [e] at a
    cases a
    dsimp only at n
    omega
  · exact ⟨a, funext fun n => propext (b n)⟩
end Lt
namespace Lt
structure Fnd (S : Int → Bool) (i : Int) (rs : List Rn) : Prop where
  all : ∀ r ∈ rs, 0 ≤ r.1 ∧ r.1 < i ∧ r.1 ≤ r.2 ∧ (∀ n, r.1 ≤ n → n ≤ r.2 → S n = true) ∧ S (r.1 - 1) = false ∧ S (r.2 + 1) = false
  ex : ∀ b, 0 ≤ b → b < i → S b = true → S (b - 1) = false → ∃ r ∈ rs, r.1 = b
  srt : rs.Pairwise fun r s => r.1 < s.1
theorem Fnd.nil {S : Int → Bool} : Fnd S 0 [] := ⟨(fun r h => by cases h), (fun b h0 h1 => by omega), List.Pairwise.nil⟩
theorem Fnd.skip {S : Int → Bool} {i : Int} {rs : List Rn} (h : Fnd S i rs) (n : ¬ (S i = true ∧ S (i - 1) = false)) : Fnd S (i + 1) rs :=
  ⟨fun r hr => by
    obtain ⟨a, b, c⟩ := h.all r hr
    exact ⟨a, by omega, c⟩, fun b h0 h1 h2 h3 => by
    rcases Int.lt_or_eq_of_le (show b ≤ i by omega) with k | k
    · exact h.ex b h0 k h2 h3
    · rw [k] at h2 h3
      exact absurd ⟨h2, h3⟩ n, h.srt⟩
theorem Fnd.add {S : Int → Bool} {i e : Int} {rs : List Rn} (h : Fnd S i rs) (i0 : 0 ≤ i) (h1 : S (i - 1) = false) (h2 : i ≤ e) (h3 : ∀ n, i ≤ n → n ≤ e → S n = true) (h4 : S (e + 1) = false) : Fnd S (i + 1) (rs ++ [(i, e)]) :=
  ⟨fun r hr => by
    rcases List.mem_append.mp hr with hr | hr
    · obtain ⟨a, b, c⟩ := h.all r hr
      exact ⟨a, by omega, c⟩
    · rw [List.mem_singleton.mp hr]
      exact ⟨i0, by dsimp only; omega, h2, h3, h1, h4⟩, fun b k0 k1 k2 k3 => by
    rcases Int.lt_or_eq_of_le (show b ≤ i by omega) with k | k
    · obtain ⟨r, hr, e⟩ := h.ex b k0 k k2 k3
      exact ⟨r, List.mem_append_left _ hr, e⟩
    · exact ⟨(i, e), List.mem_append_right _ (List.mem_singleton.mpr rfl), k.symm⟩, by
    refine List.pairwise_append.mpr ⟨h.srt, List.pairwise_singleton _ _, fun r hr s hs => ?_⟩
    rw [List.mem_singleton.mp hs]
    exact (h.all r hr).2.1⟩
/-- the begin of the run of a member -/
theorem run_begin {S : Int → Bool} {m : Int} (hm : S m = false) : ∀ (d : Nat) (n : Int), n - m = d → S n = true → ∃ b, b ≤ n ∧ S (b - 1) = false ∧ ∀ k, b ≤ k → k ≤ n → S k = true
  | 0, n, h, hn => by
    have : n = m := by omega
    rw [this, hm] at hn
    cases hn
  | d + 1, n, h, hn => by
    cases z : S (n - 1) with
    | false => exact ⟨n, Int.le_refl _, z, fun k k1 k2 => by rw [show k = n by omega]; exact hn⟩
    | true =>
      obtain ⟨b, h1, h2, h3⟩ := run_begin hm d (n - 1) (by omega) z
      refine ⟨b, by omega, h2, fun k k1 k2 => ?_⟩
      rcases Int.lt_or_eq_of_le k2 with k3 | k3
      · exact h3 k k1 (by omega)
      · rw [k3]
        exact hn
end Lt
namespace Lt
def cnt (S : Int → Bool) (a : Int) : Nat → Nat
  | 0 => 0
  | n + 1 => cnt S a n + if S (a + n) = true then 1 else 0
section
variable {S : Int → Bool}
theorem cnt_add (a : Int) (m : Nat) : ∀ n, cnt S a (m + n) = cnt S a m + cnt S (a + m) n
  | 0 => rfl
  | n + 1 => by
    have ih := cnt_add a m n
    show cnt S a (m + n) + (if S (a + ((m + n : Nat) : Int)) = true then 1 else 0) = cnt S a m + (cnt S (a + m) n + if S (a + m + n) = true then 1 else 0)
    rw [ih, show a + ((m + n : Nat) : Int) = a + m + n by omega]
    omega
theorem cnt_shift {q : Nat} (hq : Per (fun n => S n = true) (q : Int)) (a : Int) : cnt S (a + 1) q = cnt S a q := by
  have e1 := cnt_add (S := S) a 1 q
  have e2 := cnt_add (S := S) a q 1
  rw [Nat.add_comm 1 q, e2] at e1
  have k : S (a + q) = S a := Bool.eq_iff_iff.mpr (hq a)
  have c1 : cnt S a 1 = if S a = true then 1 else 0 := by
    show 0 + (if S (a + ((0 : Nat) : Int)) = true then 1 else 0) = _
    rw [show a + ((0 : Nat) : Int) = a by omega]
    omega
  have c2 : cnt S (a + q) 1 = if S a = true then 1 else 0 := by
    show 0 + (if S (a + q + ((0 : Nat) : Int)) = true then 1 else 0) = _
    rw [show a + (q : Int) + ((0 : Nat) : Int) = a + q by omega, k]
    omega
  rw [c1, c2] at e1
  have : a + ((1 : Nat) : Int) = a + 1 := rfl
  rw [this] at e1
  omega
theorem cnt_round {q : Nat} (hq : Per (fun n => S n = true) (q : Int)) (a : Int) : ∀ d : Nat, cnt S (a + d) q = cnt S a q
  | 0 => by rw [show a + ((0 : Nat) : Int) = a by omega]
  | d + 1 => by rw [show a + ((d + 1 : Nat) : Int) = a + d + 1 by omega, cnt_shift hq, cnt_round hq a d]
theorem cnt_mul {q : Nat} (hq : Per (fun n => S n = true) (q : Int)) (a : Int) : ∀ u : Nat, cnt S a (q * u) = cnt S a q * u
  | 0 => by simp [cnt]
  | u + 1 => by
    rw [Nat.mul_add, Nat.mul_one, cnt_add, cnt_mul hq a u, cnt_round hq a (q * u), Nat.mul_add, Nat.mul_one]
theorem cnt_all {a : Int} {n : Nat} (h : ∀ i : Nat, i < n → S (a + i) = true) : cnt S a n = n := by
  induction n with
  | zero => rfl
  | succ n ih =>
    show cnt S a n + _ = n + 1
    rw [ih fun i hi => h i (by omega), h n (by omega), if_pos rfl]
theorem cnt_none {a : Int} {n : Nat} (h : ∀ i : Nat, i < n → S (a + i) = false) : cnt S a n = 0 := by
  induction n with
  | zero => rfl
  | succ n ih =>
    show cnt S a n + _ = 0
    rw [ih fun i hi => h i (by omega), h n (by omega), if_neg Bool.false_ne_true]
theorem cnt_filter (p : Nat) : ((List.range p).filter fun i : Nat => S (i : Int)).length = cnt S 0 p := by
  induction p with
  | zero => rfl
  | succ p ih =>
    rw [List.range_succ, List.filter_append, List.length_append, ih]
    show _ = cnt S 0 p + _
    rw [show (0 : Int) + p = p by omega]
    cases z : S (p : Int) with
    | true => rw [List.filter_cons_of_pos (by exact z), if_pos rfl]; rfl
    | false => rw [List.filter_cons_of_neg (by rw [z]; exact Bool.false_ne_true), if_neg Bool.false_ne_true]; rfl
end
section
variable {m : Nat} {p : Int} {B E : Nat → Int}
theorem Ch.emono (h : Ch m p B E) {i j : Nat} (k : i ≤ j) : E i ≤ E j := by
  rcases Nat.eq_or_lt_of_le k with e | k
  · rw [e]
    exact Int.le_refl _
  · have := h.apart k
    have := h.be j
    omega
/-- nothing lies between two runs -/
theorem Ch.between (h : Ch m p B E) {i : Nat} {n : Int} (h1 : E i < n) (h2 : n < B (i + 1)) : ¬ InC p B E n := fun k => by
  obtain ⟨c0, k⟩ := h.place k
  obtain ⟨j, hj, k1, k2⟩ := k c0 (Nat.le_refl _)
  have e1 := (h.pBm i c0).2
  have e2 := (h.pBm (i + 1) c0).1
  rcases Nat.lt_or_ge (i + m * c0) j with z | z
  · have := h.mono (show i + 1 + m * c0 ≤ j by omega)
    omega
  · have := h.emono z
    omega
theorem Ch.count (h : Ch m p B E) {S : Int → Bool} (hS : ∀ n, S n = true ↔ InC p B E n) : ∀ i : Nat, (cnt S (B 0) (B i - B 0).toNat : Int) = ((List.range i).map fun j => E j - B j + 1).sum
  | 0 => by simp [cnt]
  | i + 1 => by
    have ih := h.count hS i
    have a := h.mono (Nat.zero_le i)
    have b := h.be i
    have c := h.ap i
    have e : (B (i + 1) - B 0).toNat = (B i - B 0).toNat + ((E i - B i + 1).toNat + (B (i + 1) - E i - 1).toNat) := by omega
    rw [e, cnt_add, cnt_add, List.range_succ, List.map_append, List.sum_append, ← ih]
    have e1 : B 0 + (((B i - B 0).toNat : Nat) : Int) = B i := by omega
    rw [e1]
    have c1 : cnt S (B i) (E i - B i + 1).toNat = (E i - B i + 1).toNat := cnt_all fun j hj => (hS _).mpr (h.mem (i := i) (by omega) (by omega))
    have c2 : cnt S (B i + (((E i - B i + 1).toNat : Nat) : Int)) (B (i + 1) - E i - 1).toNat = 0 := cnt_none fun j hj => by
      have n := h.between (i := i) (n := B i + (((E i - B i + 1).toNat : Nat) : Int) + j) (by omega) (by omega)
      cases z : S (B i + (((E i - B i + 1).toNat : Nat) : Int) + j) with
      | false => rfl
      | true => exact absurd ((hS _).mp z) n
    rw [c1, c2]
    simp
    omega
end
/-- the size of the least form, against the members of any round -/
theorem Form.size {S : Int → Bool} {q : Int} {few : List Rn} {p : Nat} (h : Form (fun n => S n = true) q few) (hp : 0 < p) (pp : Per (fun n => S n = true) (p : Int)) :
    (few.map fun r => r.2 - r.1 + 1).sum * (p : Int) = (((List.range p).filter fun i : Nat => S (i : Int)).length : Int) * q := by
  obtain ⟨q', rfl⟩ : ∃ q' : Nat, q = (q' : Int) := ⟨q.toNat, by have := h.pos; omega⟩
  obtain ⟨u, hu⟩ := least_dvd h.pos h.per h.least pp
  have q0 := h.pos
  have u0 : 0 < u := by
    rcases Int.lt_or_le 0 u with z | z
    · exact z
    · have := Int.mul_le_mul_of_nonneg_left z (Int.le_of_lt q0)
      omega
  obtain ⟨u', rfl⟩ : ∃ u' : Nat, u = (u' : Int) := ⟨u.toNat, by omega⟩
  have e0 : p = q' * u' := by
    have : ((p : Nat) : Int) = ((q' * u' : Nat) : Int) := by rw [hu, Int.natCast_mul]
    omega
  have key : (cnt S 0 q' : Int) = (few.map fun r => r.2 - r.1 + 1).sum := by
    rcases h.runs with ⟨a, b⟩ | ⟨a, b⟩
    · have q1 : (q' : Int) ≤ 1 := h.least 1 (by omega) fun n => ⟨fun _ => a _, fun _ => a _⟩
      have e : q' = 1 := by omega
      subst e
      rw [b, cnt_all fun i _ => a _]
      rfl
    · by_cases ne : few = []
      · subst ne
        have : cnt S 0 q' = 0 := cnt_none fun i _ => by
          cases z : S (0 + (i : Int)) with
          | false => rfl
          | true =>
            obtain ⟨r, hr, _⟩ := (b _).mpr z
            cases hr
        rw [this]
        rfl
      · have C := a.ch ne
        have hS : ∀ n, S n = true ↔ InC (q' : Int) (bOf q' few) (eOf q' few) n := fun n => (b n).symm.trans (in_ch ne n)
        have z := C.count hS few.length
        have e1 := C.pB 0
        rw [Nat.zero_add] at e1
        rw [show (bOf (q' : Int) few few.length - bOf (q' : Int) few 0).toNat = q' by omega] at z
        have b0 := C.b0
        have e2 := cnt_round (S := S) h.per 0 (bOf (q' : Int) few 0).toNat
        rw [show (0 : Int) + (((bOf (q' : Int) few 0).toNat : Nat) : Int) = bOf (q' : Int) few 0 by omega] at e2
        rw [← e2, z]
        congr 1
        refine List.ext_getElem? fun i => ?_
        rw [List.getElem?_map, List.getElem?_map]
        rcases Nat.lt_or_ge i few.length with k | k
        · rw [List.getElem?_range k, (getD_mem (d := ((0, 0) : Rn)) k).2]
          simp only [Option.map_some, (bOf_lt (p := (q' : Int)) k).1, (bOf_lt (p := (q' : Int)) k).2]
        · rw [List.getElem?_eq_none (by rw [List.length_range]; exact k), List.getElem?_eq_none k]
          rfl
  rw [cnt_filter, e0, cnt_mul h.per, ← key, Int.natCast_mul, Int.natCast_mul, Int.mul_comm (q' : Int) u', ← Int.mul_assoc]
end Lt
namespace Lt
def wd (k : Int) (r : Rn) : Rn := (r.1 * k, r.2 * k + k - 1)
end Lt
namespace Lt
/-- near everywhere -/
theorem near_all {p k : Int} (p0 : 0 < p) (k0 : 0 ≤ k) : (∀ n, In p [(-k, k)] n) ↔ p ≤ 2 * k + 1 := by
  constructor
  · intro h
    by_cases c : p ≤ 2 * k + 1
    · exact c
    · exfalso
      obtain ⟨r, hr, z, z1, z2⟩ := h (k + 1)
      obtain rfl := List.mem_singleton.mp hr
      dsimp only at z1 z2
      rcases rnd (z := z) p0 with ⟨-, y⟩ | ⟨-, y⟩ | ⟨-, y⟩ | ⟨-, y⟩ | ⟨-, y⟩ <;> omega
  · intro h n
    exact in_long p0 (List.mem_singleton.mpr rfl) (by dsimp only; omega) n
/-- one run's form -/
theorem form_single {p : Int} {r : Rn} (h0 : 0 ≤ r.1) (h1 : r.1 < p) (le : r.1 ≤ r.2) (h : r.2 - r.1 + 1 < p) : Form (In p [r]) p [r] := by
  have nf : NF 0 p [r] := ⟨fun s hs => by rw [List.mem_singleton.mp hs]; exact le, fun s hs => by rw [List.mem_singleton.mp hs]; omega, List.pairwise_singleton _ _, fun s hs u hu => by rw [List.mem_singleton.mp hs, List.mem_singleton.mp hu]; omega⟩
  have f := Lt.least_form (t := 1) nf (by simp) (by simp) (by simp) (by simp) (by simp [turned_iff]; rfl) (fun s h1 h2 => by omega)
  have e : (((rowOf p [r]).take 1).map (·.2)).sum = p := by
    rw [row_sum (by simp)]
    have := (bOf_add (p := p) (rs := [r]) (by simp) 0).1
    simp at this ⊢
    omega
  rw [e] at f
  exact f
end Lt
namespace Lt
theorem range_flat {α β : Type} {l : List α} {f : Nat → List β} {g : α → List β} (h : ∀ i a, l[i]? = some a → f i = g a) : (List.range l.length).flatMap f = l.flatMap g := by
  rw [List.flatMap_def, List.flatMap_def]
  congr 1
  apply List.ext_getElem?
  intro i
  rw [List.getElem?_map, List.getElem?_map]
  by_cases hi : i < l.length
  · rw [List.getElem?_range hi, List.getElem?_eq_getElem hi]
    exact congrArg some (h i _ (List.getElem?_eq_getElem hi))
  · rw [List.getElem?_eq_none (by rw [List.length_range]; omega), List.getElem?_eq_none (by omega)]
    rfl
open Classical in
/-- a round has no more members than it is long -/
theorem Form.few_members {S : Int → Prop} {q : Int} {few : List Rn} (h : Form S q few) : (few.map fun r => r.2 - r.1 + 1).sum ≤ q := by
  have e : S = fun n => decide (S n) = true := funext fun n => propext (decide_eq_true_iff).symm
  have q0 := h.pos
  have h' : Form (fun n => decide (S n) = true) q few := e ▸ h
  have per : Per (fun n => decide (S n) = true) ((q.toNat : Nat) : Int) := by rw [Int.toNat_of_nonneg (by omega)]; exact h'.per
  have sz := h'.size (p := q.toNat) (by omega) per
  have l := List.length_filter_le (fun i : Nat => decide (S (i : Int))) (List.range q.toNat)
  rw [List.length_range] at l
  rw [Int.toNat_of_nonneg (by omega)] at sz
  have := Int.eq_of_mul_eq_mul_right (by omega) sz
  omega
open Classical in
/-- multiplied: the least form -/
theorem Form.mul {S : Int → Prop} {q n : Int} {few : List Rn} (h : Form S q few) (n2 : 2 ≤ n) {a b : Int} (ha : S a) (hb : ¬ S b) : Form (fun m => m % n = 0 ∧ S (m / n)) (q * n) (((List.range q.toNat).filter fun i : Nat => decide (S i)).map fun i : Nat => (((i : Int) * n, (i : Int) * n) : Rn)) := by
  have q0 := h.pos
  have per : Per (fun m => m % n = 0 ∧ S (m / n)) (q * n) := fun m => by
    show (_ ∧ S _) ↔ (_ ∧ S _)
    rw [show m + q * n = m + q * n from rfl, Int.add_mul_emod_self_right, Int.add_mul_ediv_right _ _ (by omega)]
    exact ⟨fun z => ⟨z.1, (h.per _).mp z.2⟩, fun z => ⟨z.1, (h.per _).mpr z.2⟩⟩
  have mono : ∀ x y : Int, x < y → x * n + 1 < y * n := fun x y hxy => by
    have := Int.mul_le_mul_of_nonneg_right (show x + 1 ≤ y by omega) (show (0 : Int) ≤ n by omega)
    rw [Int.add_mul] at this
    omega
  have bnd : ∀ i ∈ (List.range q.toNat).filter (fun i : Nat => decide (S i)), (i : Int) < q ∧ S i := fun i hi => by
    obtain ⟨h1, h2⟩ := List.mem_filter.mp hi
    have := List.mem_range.mp h1
    exact ⟨by omega, of_decide_eq_true h2⟩
  refine ⟨Int.mul_pos q0 (by omega), per, fun k k0 hk => ?_, .inr ⟨⟨?_, ?_, ?_, ?_⟩, fun m => ?_⟩⟩
  · have k1 := (hk (a * n)).mpr ⟨Int.mul_emod_left _ _, by rw [Int.mul_ediv_cancel _ (by omega)]; exact ha⟩
    have kd : k % n = 0 := by
      have := k1.1
      rwa [Int.add_comm, Int.add_mul_emod_self_right] at this
    have ke : k / n * n = k := Int.ediv_mul_cancel (Int.dvd_of_emod_eq_zero kd)
    have kp : Per S (k / n) := fun m => by
      have z := hk (m * n)
      dsimp only at z
      rw [← ke, ← Int.add_mul, Int.mul_emod_left, Int.mul_emod_left, Int.mul_ediv_cancel _ (by omega), Int.mul_ediv_cancel _ (by omega)] at z
      exact ⟨fun y => (z.mp ⟨rfl, y⟩).2, fun y => (z.mpr ⟨rfl, y⟩).2⟩
    have kn0 : 0 < k / n := by
      rcases Int.lt_trichotomy 0 (k / n) with y | y | y
      · exact y
      · rw [← y] at ke
        omega
      · have := Int.mul_neg_of_neg_of_pos y (show (0 : Int) < n by omega)
        omega
    have := h.least _ kn0 kp
    have := Int.mul_le_mul_of_nonneg_right this (show (0 : Int) ≤ n by omega)
    omega
  · intro r hr
    obtain ⟨i, -, rfl⟩ := List.mem_map.mp hr
    exact Int.le_refl _
  · intro r hr
    obtain ⟨i, hi, rfl⟩ := List.mem_map.mp hr
    have := mono _ _ (bnd i hi).1
    have := Int.mul_nonneg (show (0 : Int) ≤ i by omega) (show (0 : Int) ≤ n by omega)
    dsimp only
    omega
  · rw [List.pairwise_map]
    refine (List.Pairwise.filter _ List.pairwise_lt_range).imp fun {i j} hij => ?_
    exact mono _ _ (by omega)
  · intro r hr s hs
    obtain ⟨i, hi, rfl⟩ := List.mem_map.mp hr
    obtain ⟨j, hj, rfl⟩ := List.mem_map.mp hs
    have := mono _ _ (bnd i hi).1
    have := Int.mul_nonneg (show (0 : Int) ≤ j by omega) (show (0 : Int) ≤ n by omega)
    dsimp only
    omega
  · constructor
    · rintro ⟨r, hr, z, z1, z2⟩
      obtain ⟨i, hi, rfl⟩ := List.mem_map.mp hr
      dsimp only at z1 z2
      have e : m + q * n * z = i * n := by omega
      have := (bnd i hi).2
      have em : m = (i - q * z) * n := by
        rw [Int.sub_mul, show q * z * n = q * n * z by rw [Int.mul_assoc, Int.mul_comm z n, ← Int.mul_assoc]]
        omega
      rw [em, Int.mul_ediv_cancel _ (by omega), Int.mul_emod_left]
      refine ⟨rfl, (Per.mul h.per z _).mp ?_⟩
      rw [show (i : Int) - q * z + q * z = i by omega]
      exact this
    · rintro ⟨m0, ms⟩
      have e : m / n * n = m := Int.ediv_mul_cancel (Int.dvd_of_emod_eq_zero m0)
      have l0 := Int.emod_nonneg (m / n) (show q ≠ 0 by omega)
      have l1 := Int.emod_lt_of_pos (m / n) q0
      have ed := Int.emod_add_mul_ediv (m / n) q
      generalize m / n = y at *
      generalize y / q = z at ed
      have er : y % q = y + q * (-z) := by rw [Int.mul_neg]; omega
      have sy : S (y % q) := by
        rw [er]
        exact (Per.mul h.per (-z) _).mpr ms
      refine ⟨_, List.mem_map.mpr ⟨(y % q).toNat, List.mem_filter.mpr ⟨List.mem_range.mpr (by omega), decide_eq_true (by rw [Int.toNat_of_nonneg l0]; exact sy)⟩, rfl⟩, -z, ?_⟩
      dsimp only
      rw [Int.toNat_of_nonneg l0, er, Int.add_mul, e, show q * -z * n = q * n * -z by rw [Int.mul_assoc, Int.mul_comm (-z) n, ← Int.mul_assoc]]
      exact ⟨Int.le_refl _, Int.le_refl _⟩
end Lt
namespace Lt
/-- how many of a row are below -/
def belowN (row : List Int) (v : Int) : Int := ((row.countP fun x => decide (x < v) : Nat) : Int)
/-- how many of a row are from a on and below b -/
def fromN (row : List Int) (a b : Int) : Int := ((row.countP fun x => decide (a ≤ x ∧ x < b) : Nat) : Int)
theorem belowN_cons {x v : Int} {row : List Int} : belowN (x :: row) v = belowN row v + if x < v then 1 else 0 := by
  unfold belowN
  rw [List.countP_cons]
  by_cases h : x < v <;> simp [h]
theorem fromN_cons {x a b : Int} {row : List Int} : fromN (x :: row) a b = fromN row a b + if a ≤ x ∧ x < b then 1 else 0 := by
  unfold fromN
  rw [List.countP_cons]
  by_cases h : a ≤ x ∧ x < b <;> simp [h]
theorem below_split {row : List Int} {a b : Int} (h : a ≤ b) : belowN row b = belowN row a + fromN row a b := by
  induction row with
  | nil => rfl
  | cons x row ih =>
    rw [belowN_cons, belowN_cons, fromN_cons, ih]
    split <;> split <;> split <;> omega
theorem belowN_pos {row : List Int} {v : Int} : 0 ≤ belowN row v := Int.natCast_nonneg _
theorem fromN_pos {row : List Int} {a b : Int} : 0 ≤ fromN row a b := Int.natCast_nonneg _
theorem fromN_zero {row : List Int} {a b : Int} : fromN row a b = 0 ↔ ∀ x ∈ row, ¬ (a ≤ x ∧ x < b) := by
  unfold fromN
  rw [Int.natCast_eq_zero, List.countP_eq_zero]
  simp
theorem belowN_perm {r s : List Int} (h : r.Perm s) (v : Int) : belowN r v = belowN s v := by
  unfold belowN
  rw [h.countP_eq]
/-- count_in -/
def countIn (row : List Int) (begin many step : Int) : Int :=
  many / step * row.length + belowN row (min step (begin % step + many % step)) - belowN row (begin % step) + if step < begin % step + many % step then belowN row (begin % step + many % step - step) else 0
theorem countIn_perm {r s : List Int} (h : r.Perm s) (b m g : Int) : countIn r b m g = countIn s b m g := by
  unfold countIn
  rw [belowN_perm h, belowN_perm h, belowN_perm h, h.length_eq]
theorem countIn_as {row : List Int} {b m g : Int} (g0 : 0 < g) (m0 : 0 ≤ m) : countIn row b m g = m / g * row.length + fromN row (b % g) (min g (b % g + m % g)) + (if g < b % g + m % g then belowN row (b % g + m % g - g) else 0) := by
  have h1 := Int.emod_nonneg m (show g ≠ 0 by omega)
  have h2 := Int.emod_lt_of_pos b g0
  have := below_split (row := row) (show b % g ≤ min g (b % g + m % g) by omega)
  unfold countIn
  rw [this]
  omega
theorem countIn_nonneg {row : List Int} {b m g : Int} (g0 : 0 < g) (m0 : 0 ≤ m) : 0 ≤ countIn row b m g := by
  rw [countIn_as g0 m0]
  have h1 := Int.mul_nonneg (Int.ediv_nonneg m0 (show 0 ≤ g by omega)) (Int.natCast_nonneg row.length)
  have h2 := fromN_pos (row := row) (a := b % g) (b := min g (b % g + m % g))
  have h3 := belowN_pos (row := row) (v := b % g + m % g - g)
  split <;> omega
theorem fromN_le {row : List Int} {a b c : Int} (h : c ≤ a) : fromN row a b + belowN row c ≤ row.length := by
  induction row with
  | nil => exact Int.le_refl _
  | cons x l ih =>
    rw [fromN_cons, belowN_cons, List.length_cons]
    have : ((l.length + 1 : Nat) : Int) = (l.length : Int) + 1 := rfl
    rw [this]
    split <;> split <;> omega
/-- Bezout -/
theorem bez (a b : Nat) : ∃ x y : Int, (a : Int) * x + b * y = (Nat.gcd a b : Nat) := by
  induction a, b using Nat.gcd.induction with
  | H0 n => exact ⟨0, 1, by rw [Nat.gcd_zero_left]; omega⟩
  | H1 m n hm ih =>
    obtain ⟨x, y, e⟩ := ih
    refine ⟨y - (n / m : Nat) * x, x, ?_⟩
    rw [Nat.gcd_rec, ← e]
    have : ((n % m : Nat) : Int) = n - m * (n / m : Nat) := by
      have := Nat.mod_add_div n m
      omega
    rw [this, Int.mul_sub, Int.sub_mul, Int.mul_assoc]
    omega
def rems (rs : List Rn) (g : Int) : List Int := rs.map fun r => r.1 % g
/-- meets -/
def meetsN (g : Int) (rs ts : List Rn) : Int := (rs.map fun r => countIn (rems ts g) r.1 (r.2 - r.1 + 1) g).sum + (ts.map fun t => countIn (rems rs g) (t.1 + 1) (t.2 - t.1 + 1 - 1) g).sum
theorem sum_nonneg {l : List Int} (h : ∀ x ∈ l, 0 ≤ x) : 0 ≤ l.sum := by
  induction l with
  | nil => exact Int.le_refl _
  | cons x l ih =>
    have := ih fun y hy => h y (List.mem_cons_of_mem _ hy)
    have := h x List.mem_cons_self
    rw [List.sum_cons]
    omega
theorem rems_mem {rs : List Rn} {g : Int} (g0 : 0 < g) : ∀ x ∈ rems rs g, 0 ≤ x ∧ x < g := fun x hx => by
  obtain ⟨r, -, rfl⟩ := List.mem_map.mp hx
  exact ⟨Int.emod_nonneg _ (by omega), Int.emod_lt_of_pos _ g0⟩
end Lt
namespace Lt
section
variable {m : Nat} {p : Int} {B E : Nat → Int}
theorem Ch.up (h : Ch m p B E) (i : Nat) : B 0 + (i : Int) ≤ B i := by
  induction i with
  | zero => omega
  | succ i ih =>
    have := h.be i
    have := h.ap i
    omega
end
end Lt
namespace Lt
/-- k items of a row lie below v -/
def Below (ns : List Int) (v : Int) (k : Nat) : Prop := k ≤ ns.length ∧ (∀ i x, i < k → ns[i]? = some x → x < v) ∧ ∀ i x, k ≤ i → ns[i]? = some x → v ≤ x
/-- the member told by the least form -/
theorem Form.at_least {S : Int → Prop} {q n : Int} {few : List Rn} {k : Nat} (h : Form S q few) (ne : few ≠ []) (b : Below (few.map (·.1)) (n % q + 1) k) :
    ∃ m : Int, (((0 < k ∧ n % q ≤ (few.getD (k - 1) (0, 0)).2) ∨ n % q + q ≤ (few.getD (few.length - 1) (0, 0)).2) → m = n) ∧
      (¬ ((0 < k ∧ n % q ≤ (few.getD (k - 1) (0, 0)).2) ∨ n % q + q ≤ (few.getD (few.length - 1) (0, 0)).2) → m = (if k < few.length then n - n % q + (few.getD k (0, 0)).1 else n - n % q + q + (few.getD 0 (0, 0)).1)) ∧
      S m ∧ n ≤ m ∧ ∀ j, n ≤ j → j < m → ¬ S j := by
  have q0 := h.pos
  have hl : 0 < few.length := List.length_pos_iff.mpr ne
  obtain ⟨kl, lo, hi⟩ := b
  rw [List.length_map] at kl
  have l0 : 0 ≤ n % q := Int.emod_nonneg _ (by omega)
  have l1 : n % q < q := Int.emod_lt_of_pos _ q0
  have nq : n = n % q + q * (n / q) := (Int.emod_add_mul_ediv n q).symm
  have lo' : ∀ i, i < k → (few.getD i (0, 0)).1 ≤ n % q := fun i hi' => by
    have g := (getD_mem (d := ((0, 0) : Rn)) (show i < few.length by omega)).2
    have := lo i (few.getD i (0, 0)).1 hi' (by rw [List.getElem?_map, g]; rfl)
    omega
  have hi2 : ∀ i, k ≤ i → i < few.length → n % q < (few.getD i (0, 0)).1 := fun i h1 h2 => by
    have g := (getD_mem (d := ((0, 0) : Rn)) h2).2
    have := hi i (few.getD i (0, 0)).1 h1 (by rw [List.getElem?_map, g]; rfl)
    omega
  have per : ∀ j, S j ↔ S (j - q * (n / q)) := fun j => by
    have := h.per.mul (-(n / q)) j
    rw [show j + q * -(n / q) = j - q * (n / q) by rw [Int.mul_neg]; rfl] at this
    exact this.symm
  rcases h.runs with ⟨a, e⟩ | ⟨nf, tl⟩
  · refine ⟨n, fun _ => rfl, fun z => absurd ?_ z, a n, Int.le_refl _, fun j h1 h2 => by omega⟩
    subst e
    have q1 : q = 1 := by
      have := h.least 1 (by omega) (fun n => ⟨fun _ => a _, fun _ => a _⟩)
      omega
    subst q1
    have k1 : 0 < k := by
      rcases Nat.eq_zero_or_pos k with z | z
      · have := hi2 0 (by omega) (by simp)
        simp at this
      · exact z
    have kk : k = 1 := by simp at kl; omega
    subst kk
    left
    simp
  · have pos : ∀ i, i < few.length → few.getD i (0, 0) ∈ few := fun i hi' => (getD_mem hi').1
    have apt : ∀ i j, i < j → j < few.length → (few.getD i (0, 0)).2 + 1 < (few.getD j (0, 0)).1 := fun i j hij hj => by
      have := List.pairwise_iff_getElem.mp nf.ap i j (by omega) hj hij
      rw [List.getD_eq_getElem?_getD, List.getD_eq_getElem?_getD, List.getElem?_eq_getElem (by omega), List.getElem?_eq_getElem hj]
      exact this
    by_cases c : (0 < k ∧ n % q ≤ (few.getD (k - 1) (0, 0)).2) ∨ n % q + q ≤ (few.getD (few.length - 1) (0, 0)).2
    · refine ⟨n, fun _ => rfl, fun z => absurd c z, ?_, Int.le_refl _, fun j h1 h2 => by omega⟩
      rw [per n, show n - q * (n / q) = n % q by omega, ← tl]
      rcases c with ⟨k0, c⟩ | c
      · exact ⟨_, pos (k - 1) (by omega), 0, by rw [Int.mul_zero]; have := lo' (k - 1) (by omega); omega, by rw [Int.mul_zero]; omega⟩
      · have w := nf.wd _ (pos (few.length - 1) (by omega))
        exact ⟨_, pos (few.length - 1) (by omega), 1, by rw [Int.mul_one]; omega, by rw [Int.mul_one]; omega⟩
    · refine ⟨_, fun z => absurd z c, fun _ => rfl, ?_⟩
      -- none between
      have none : ∀ l : Int, n % q ≤ l → l < (if k < few.length then (few.getD k (0, 0)).1 else q + (few.getD 0 (0, 0)).1) → ¬ In q few l := by
        rintro l h1 h2 ⟨r, hr, z, z1, z2⟩
        have wr := nf.wd r hr
        have cr := nf.cl r hr
        have le := nf.le r hr
        obtain ⟨i, hi', er⟩ : ∃ i, i < few.length ∧ few.getD i (0, 0) = r := by
          obtain ⟨i, hi', er⟩ := List.getElem_of_mem hr
          exact ⟨i, hi', by rw [List.getD_eq_getElem?_getD, List.getElem?_eq_getElem hi', er]; rfl⟩
        have w0 := nf.wd _ (pos 0 hl)
        have c0 := cr _ (pos 0 hl)
        have i0 : (few.getD 0 (0, 0)).1 ≤ r.1 := by
          rcases Nat.eq_zero_or_pos i with z | z
          · subst z
            rw [er]
            exact Int.le_refl _
          · have := apt 0 i z hi'
            have := nf.le _ (pos 0 hl)
            rw [er] at *
            omega
        have lastr : r.2 ≤ (few.getD (few.length - 1) (0, 0)).2 ∧ (i < few.length - 1 → r.2 < q) := by
          have wl := nf.wd _ (pos (few.length - 1) (by omega))
          have ll := nf.le _ (pos (few.length - 1) (by omega))
          rcases Nat.lt_or_ge i (few.length - 1) with z | z
          · have := apt i (few.length - 1) z (by omega)
            rw [er] at this
            exact ⟨by omega, fun _ => by omega⟩
          · have : i = few.length - 1 := by omega
            subst this
            rw [er]
            exact ⟨Int.le_refl _, fun y => by omega⟩
        have bk : k < few.length → (few.getD k (0, 0)).1 < q := fun y => by have := nf.wd _ (pos k y); omega
        have hk1 : ∀ (_ : 0 < k), (few.getD (k - 1) (0, 0)).2 < n % q := fun y => by
          have : ¬ n % q ≤ (few.getD (k - 1) (0, 0)).2 := fun x => c (.inl ⟨y, x⟩)
          omega
        have hL : (few.getD (few.length - 1) (0, 0)).2 < n % q + q := by
          have : ¬ n % q + q ≤ (few.getD (few.length - 1) (0, 0)).2 := fun x => c (.inr x)
          omega
        have ri : r.1 ≤ n % q → r.2 < n % q := fun y => by
          have ik : i < k := by
            rcases Nat.lt_or_ge i k with x | x
            · exact x
            · have := hi2 i x hi'
              rw [er] at this
              omega
          have h3 := hk1 (by omega)
          rcases Nat.lt_or_ge i (k - 1) with x | x
          · have h4 := apt i (k - 1) x (by omega)
            have h5 := nf.le _ (pos (k - 1) (by omega))
            rw [er] at h4
            omega
          · have : i = k - 1 := by omega
            subst this
            rw [er] at h3
            exact h3
        have rk : n % q < r.1 → (if k < few.length then (few.getD k (0, 0)).1 else q + (few.getD 0 (0, 0)).1) ≤ r.1 ∨ ¬ k < few.length := fun y => by
          have ik : k ≤ i := by
            rcases Nat.lt_or_ge i k with x | x
            · have := lo' i x
              rw [er] at this
              omega
            · exact x
          left
          rw [if_pos (by omega)]
          rcases Nat.lt_or_ge k i with x | x
          · have := apt k i x hi'
            have := nf.le _ (pos k (by omega))
            rw [er] at *
            omega
          · have : k = i := by omega
            subst this
            rw [er]
            exact Int.le_refl _
        have nk : ¬ k < few.length → r.1 ≤ n % q := fun y => by
          have := lo' i (by omega)
          rw [er] at this
          exact this
        by_cases kc : k < few.length
        · rw [if_pos kc] at h2 rk
          have := bk kc
          rcases rnd (z := z) q0 with ⟨-, y⟩ | ⟨-, y⟩ | ⟨-, y⟩ | ⟨-, y⟩ | ⟨-, y⟩ <;> omega
        · rw [if_neg kc] at h2
          have := nk kc
          rcases rnd (z := z) q0 with ⟨-, y⟩ | ⟨-, y⟩ | ⟨-, y⟩ | ⟨-, y⟩ | ⟨-, y⟩ <;> omega
      have fact : n - n % q + (if k < few.length then (few.getD k (0, 0)).1 else q + (few.getD 0 (0, 0)).1) = if k < few.length then n - n % q + (few.getD k (0, 0)).1 else n - n % q + q + (few.getD 0 (0, 0)).1 := by
        split <;> omega
      rw [← fact]
      refine ⟨?_, ?_, fun j h1 h2 => ?_⟩
      · rw [per, ← tl]
        have e : n - n % q + (if k < few.length then (few.getD k (0, 0)).1 else q + (few.getD 0 (0, 0)).1) - q * (n / q) = (if k < few.length then (few.getD k (0, 0)).1 else q + (few.getD 0 (0, 0)).1) := by generalize (if k < few.length then (few.getD k (0, 0)).1 else q + (few.getD 0 (0, 0)).1) = y; omega
        rw [e]
        split
        · rename_i kc
          exact ⟨_, pos k kc, 0, by rw [Int.mul_zero]; omega, by rw [Int.mul_zero]; have := nf.le _ (pos k kc); omega⟩
        · have := nf.le _ (pos 0 hl)
          exact ⟨_, pos 0 hl, -1, by rw [Int.mul_neg, Int.mul_one]; omega, by rw [Int.mul_neg, Int.mul_one]; omega⟩
      · split
        · rename_i kc
          have := hi2 k (Nat.le_refl _) kc
          omega
        · have := nf.wd _ (pos 0 hl)
          omega
      · rw [per, ← tl]
        exact none _ (by omega) (by omega)
end Lt
namespace Lt
section
variable {α : Type} {rows : List α} {key : α → Int} {a b : Nat} {lo hi : Int}
theorem drop_mem (h : Below (rows.map key) lo a) (e : α) : e ∈ rows.drop a ↔ e ∈ rows ∧ lo ≤ key e := by
  obtain ⟨-, h1, h2⟩ := h
  constructor
  · intro m
    obtain ⟨i, hi⟩ := List.getElem?_of_mem m
    rw [List.getElem?_drop] at hi
    exact ⟨List.mem_of_getElem? hi, h2 (a + i) _ (by omega) (by rw [List.getElem?_map, hi]; rfl)⟩
  · rintro ⟨m, hl⟩
    obtain ⟨i, hi⟩ := List.getElem?_of_mem m
    have ia : a ≤ i := by
      refine Classical.byContradiction fun c => ?_
      have := h1 i (key e) (by omega) (by rw [List.getElem?_map, hi]; rfl)
      omega
    refine List.mem_of_getElem? (i := i - a) ?_
    rw [List.getElem?_drop, show a + (i - a) = i by omega]
    exact hi
theorem take_mem (h : Below (rows.map key) hi b) (e : α) : e ∈ rows.take b ↔ e ∈ rows ∧ key e < hi := by
  obtain ⟨-, h1, h2⟩ := h
  constructor
  · intro m
    obtain ⟨i, hi'⟩ := List.getElem?_of_mem m
    have ib := (List.getElem?_eq_some_iff.mp hi').1
    rw [List.length_take] at ib
    rw [List.getElem?_take_of_lt (by omega)] at hi'
    exact ⟨List.mem_of_getElem? hi', h1 i _ (by omega) (by rw [List.getElem?_map, hi']; rfl)⟩
  · rintro ⟨m, hl⟩
    obtain ⟨i, hi'⟩ := List.getElem?_of_mem m
    have ib : i < b := by
      refine Classical.byContradiction fun c => ?_
      have := h2 i (key e) (by omega) (by rw [List.getElem?_map, hi']; rfl)
      omega
    refine List.mem_of_getElem? (i := i) ?_
    rw [List.getElem?_take_of_lt ib]
    exact hi'
theorem mid_mem (h1 : Below (rows.map key) lo a) (h2 : Below (rows.map key) hi b) (e : α) : e ∈ (rows.take b).drop a ↔ e ∈ rows ∧ lo ≤ key e ∧ key e < hi := by
  obtain ⟨-, g1, g2⟩ := h1
  obtain ⟨-, k1, k2⟩ := h2
  constructor
  · intro m
    obtain ⟨i, hi'⟩ := List.getElem?_of_mem m
    have il := (List.getElem?_eq_some_iff.mp hi').1
    rw [List.length_drop, List.length_take] at il
    rw [List.getElem?_drop, List.getElem?_take_of_lt (by omega)] at hi'
    exact ⟨List.mem_of_getElem? hi', g2 (a + i) _ (by omega) (by rw [List.getElem?_map, hi']; rfl), k1 (a + i) _ (by omega) (by rw [List.getElem?_map, hi']; rfl)⟩
  · rintro ⟨m, hl, hh⟩
    obtain ⟨i, hi'⟩ := List.getElem?_of_mem m
    have ia : a ≤ i := by
      refine Classical.byContradiction fun c => ?_
      have := g1 i (key e) (by omega) (by rw [List.getElem?_map, hi']; rfl)
      omega
    have ib : i < b := by
      refine Classical.byContradiction fun c => ?_
      have := k2 i (key e) (by omega) (by rw [List.getElem?_map, hi']; rfl)
      omega
    refine List.mem_of_getElem? (i := i - a) ?_
    rw [List.getElem?_drop, show a + (i - a) = i by omega, List.getElem?_take_of_lt ib]
    exact hi'
end
/-- met: so many integers from begin on, by a step -/
def Met (begin many step key : Int) : Prop := ∃ k, 0 ≤ k ∧ k < many ∧ (begin + k) % step = key
theorem met_all {b m g x : Int} (g0 : 0 < g) (x0 : 0 ≤ x) (x1 : x < g) (h : g ≤ m) : Met b m g x := by
  have l0 := Int.emod_nonneg (x - b) (show g ≠ 0 by omega)
  have l1 := Int.emod_lt_of_pos (x - b) g0
  refine ⟨(x - b) % g, l0, by omega, ?_⟩
  rw [Int.add_emod_emod, show b + (x - b) = x by omega, Int.emod_eq_of_lt x0 x1]
theorem met_mid {b m g x : Int} (g0 : 0 < g) (x0 : 0 ≤ x) (x1 : x < g) (h : b % g + m ≤ g) : Met b m g x ↔ b % g ≤ x ∧ x < b % g + m := by
  have c0 := Int.emod_nonneg b (show g ≠ 0 by omega)
  have eb := Int.emod_add_mul_ediv b g
  constructor
  · rintro ⟨k, k0, k1, e⟩
    rw [← Int.emod_add_emod, Int.emod_eq_of_lt (by omega) (by omega)] at e
    omega
  · rintro ⟨h1, h2⟩
    refine ⟨x - b % g, by omega, by omega, ?_⟩
    rw [show b + (x - b % g) = x + g * (b / g) by omega, Int.add_mul_emod_self_left, Int.emod_eq_of_lt x0 x1]
theorem met_over {b m g x : Int} (g0 : 0 < g) (x0 : 0 ≤ x) (x1 : x < g) (hm : m < g) (h : g < b % g + m) : Met b m g x ↔ b % g ≤ x ∨ x < b % g + m - g := by
  have c0 := Int.emod_nonneg b (show g ≠ 0 by omega)
  have c1 := Int.emod_lt_of_pos b g0
  have eb := Int.emod_add_mul_ediv b g
  constructor
  · rintro ⟨k, k0, k1, e⟩
    rw [← Int.emod_add_emod] at e
    by_cases y : b % g + k < g
    · rw [Int.emod_eq_of_lt (by omega) y] at e
      omega
    · rw [show b % g + k = (b % g + k - g) + g by omega, Int.add_emod_right, Int.emod_eq_of_lt (by omega) (by omega)] at e
      omega
  · rintro (h1 | h1)
    · refine ⟨x - b % g, by omega, by omega, ?_⟩
      rw [show b + (x - b % g) = x + g * (b / g) by omega, Int.add_mul_emod_self_left, Int.emod_eq_of_lt x0 x1]
    · refine ⟨x + g - b % g, by omega, by omega, ?_⟩
      rw [show b + (x + g - b % g) = x + g * (b / g) + g by omega, Int.add_emod_right, Int.add_mul_emod_self_left, Int.emod_eq_of_lt x0 x1]
end Lt
namespace Lt
/-- the remainder of a round with two remainders that agree by the step -/
structure Plc (p q : Int) (pl : Int → Int → Int) (g tot : Int) : Prop where
  first : ∀ x y, x % g = y % g → pl x y % p = x % p
  last : ∀ x y, x % g = y % g → pl x y % q = y % q
/-- a shared run: from which gap on, of which two runs, and how far -/
structure Shr (p q : Int) (pl : Int → Int → Int) (rs ts : List Rn) (g : Int) (out : List Rn) : Prop where
  sound : ∀ o ∈ out, (∃ r ∈ rs, ∃ t ∈ ts, ∃ k : Int, 0 ≤ k ∧ r.1 + k ≤ r.2 ∧ (r.1 + k) % g = t.1 % g ∧ o.1 = pl (r.1 + k) t.1 ∧ o.2 = o.1 + min (r.2 - r.1 - k) (t.2 - t.1)) ∨
    (∃ r ∈ rs, ∃ t ∈ ts, ∃ k : Int, 1 ≤ k ∧ t.1 + k ≤ t.2 ∧ (t.1 + k) % g = r.1 % g ∧ o.1 = pl r.1 (t.1 + k) ∧ o.2 = o.1 + min (t.2 - t.1 - k) (r.2 - r.1))
  all1 : ∀ r ∈ rs, ∀ t ∈ ts, ∀ k : Int, 0 ≤ k → r.1 + k ≤ r.2 → (r.1 + k) % g = t.1 % g → (pl (r.1 + k) t.1, pl (r.1 + k) t.1 + min (r.2 - r.1 - k) (t.2 - t.1)) ∈ out
  all2 : ∀ r ∈ rs, ∀ t ∈ ts, ∀ k : Int, 1 ≤ k → t.1 + k ≤ t.2 → (t.1 + k) % g = r.1 % g → (pl r.1 (t.1 + k), pl r.1 (t.1 + k) + min (t.2 - t.1 - k) (r.2 - r.1)) ∈ out
theorem emod_eq {a b g : Int} (h : a % g = b % g) : ∃ c, a = b + g * c := by
  obtain ⟨c, hc⟩ := Int.dvd_of_emod_eq_zero (show (a - b) % g = 0 by rw [Int.sub_emod, h, Int.sub_self, Int.zero_emod])
  exact ⟨c, by omega⟩
theorem shared_in {p q g tot : Int} {pl : Int → Int → Int} {rs ts out : List Rn} (P : Plc p q pl g tot) (S : Shr p q pl rs ts g out) (gp : g ∣ p) (gq : g ∣ q) (tp : p ∣ tot) (tq : q ∣ tot) (lcm : ∀ x, p ∣ x → q ∣ x → tot ∣ x) (n : Int) :
    In tot out n ↔ In p rs n ∧ In q ts n := by
  obtain ⟨pg, epg⟩ := gp
  obtain ⟨qg, eqg⟩ := gq
  obtain ⟨tp', etp⟩ := tp
  obtain ⟨tq', etq⟩ := tq
  constructor
  · rintro ⟨o, ho, z, z1, z2⟩
    rcases S.sound o ho with ⟨r, hr, t, ht, k, k0, k1, ke, e1, e2⟩ | ⟨r, hr, t, ht, k, k0, k1, ke, e1, e2⟩
    · obtain ⟨c1, h1⟩ := emod_eq (P.first _ _ ke)
      obtain ⟨c2, h2⟩ := emod_eq (P.last _ _ ke)
      rw [← e1] at h1 h2
      have f1 : tot * z = p * (tp' * z) := by rw [etp, Int.mul_assoc]
      have f2 : tot * z = q * (tq' * z) := by rw [etq, Int.mul_assoc]
      refine ⟨⟨r, hr, tp' * z - c1, ?_, ?_⟩, ⟨t, ht, tq' * z - c2, ?_, ?_⟩⟩ <;> (rw [Int.mul_sub]; omega)
    · obtain ⟨c1, h1⟩ := emod_eq (P.first _ _ ke.symm)
      obtain ⟨c2, h2⟩ := emod_eq (P.last _ _ ke.symm)
      rw [← e1] at h1 h2
      have f1 : tot * z = p * (tp' * z) := by rw [etp, Int.mul_assoc]
      have f2 : tot * z = q * (tq' * z) := by rw [etq, Int.mul_assoc]
      refine ⟨⟨r, hr, tp' * z - c1, ?_, ?_⟩, ⟨t, ht, tq' * z - c2, ?_, ?_⟩⟩ <;> (rw [Int.mul_sub]; omega)
  · rintro ⟨⟨r, hr, u, u1, u2⟩, ⟨t, ht, v, v1, v2⟩⟩
    have ea : p * u - q * v = g * (pg * u - qg * v) := by rw [epg, eqg, Int.mul_sub, Int.mul_assoc, Int.mul_assoc]
    -- a place whose two remainders are those of n less b
    have fin : ∀ x b : Int, ∀ o ∈ out, o.1 = x → x % p = (n - b) % p → x % q = (n - b) % q → 0 ≤ b → o.1 + b ≤ o.2 → In tot out n := fun x b o ho e1 h1 h2 b0 b1 => by
      obtain ⟨c1, h1⟩ := emod_eq h1
      obtain ⟨c2, h2⟩ := emod_eq h2
      obtain ⟨k, hk⟩ := lcm (x - (n - b)) ⟨c1, by omega⟩ ⟨c2, by omega⟩
      exact ⟨o, ho, k, by omega, by omega⟩
    rcases Int.lt_or_le (n + p * u - r.1) (n + q * v - t.1) with c | c
    · have ke : (t.1 + ((n + q * v - t.1) - (n + p * u - r.1))) % g = r.1 % g := by
        rw [show t.1 + ((n + q * v - t.1) - (n + p * u - r.1)) = r.1 + g * (-(pg * u - qg * v)) by rw [Int.mul_neg]; omega, Int.add_mul_emod_self_left]
      have m := S.all2 r hr t ht ((n + q * v - t.1) - (n + p * u - r.1)) (by omega) (by omega) ke
      have h1 := P.first _ _ ke.symm
      have h2 := P.last _ _ ke.symm
      refine fin _ (n + p * u - r.1) _ m rfl ?_ ?_ (by omega) (by dsimp only; omega)
      · rw [h1, show n - (n + p * u - r.1) = r.1 + p * (-u) by rw [Int.mul_neg]; omega, Int.add_mul_emod_self_left]
      · rw [h2, show n - (n + p * u - r.1) = t.1 + ((n + q * v - t.1) - (n + p * u - r.1)) + q * (-v) by rw [Int.mul_neg]; omega, Int.add_mul_emod_self_left]
    · have ke : (r.1 + ((n + p * u - r.1) - (n + q * v - t.1))) % g = t.1 % g := by
        rw [show r.1 + ((n + p * u - r.1) - (n + q * v - t.1)) = t.1 + g * (pg * u - qg * v) by omega, Int.add_mul_emod_self_left]
      have m := S.all1 r hr t ht ((n + p * u - r.1) - (n + q * v - t.1)) (by omega) (by omega) ke
      have h1 := P.first _ _ ke
      have h2 := P.last _ _ ke
      refine fin _ (n + q * v - t.1) _ m rfl ?_ ?_ (by omega) (by dsimp only; omega)
      · rw [h1, show n - (n + q * v - t.1) = r.1 + ((n + p * u - r.1) - (n + q * v - t.1)) + p * (-u) by rw [Int.mul_neg]; omega, Int.add_mul_emod_self_left]
      · rw [h2, show n - (n + q * v - t.1) = t.1 + q * (-v) by rw [Int.mul_neg]; omega, Int.add_mul_emod_self_left]
/-- Round.place -/
def plc (p g part inv tot : Int) (x y : Int) : Int := (x + p * ((y - x) / g * inv % part)) % tot
theorem plc_ok {p q g part own inv tot : Int} (g0 : 0 < g) (ep : p = g * own) (eq : q = g * part) (p0 : 0 < p) (q0 : 0 < q) (iv : (own * inv) % part = 1 % part) (tp : p ∣ tot) (tq : q ∣ tot) : Plc p q (plc p g part inv tot) g tot := by
  refine ⟨fun x y h => ?_, fun x y h => ?_⟩
  · unfold plc
    rw [Int.emod_emod_of_dvd _ tp, Int.add_mul_emod_self_left]
  · unfold plc
    rw [Int.emod_emod_of_dvd _ tq]
    obtain ⟨c, hc⟩ := emod_eq h.symm
    have e1 : (y - x) / g = c := by rw [hc, show x + g * c - x = g * c by omega, Int.mul_ediv_cancel_left _ (by omega)]
    obtain ⟨d, hd⟩ := emod_eq iv
    have em := Int.emod_add_mul_ediv (c * inv) part
    rw [e1]
    generalize c * inv / part = w at em
    have : p * (c * inv % part) = g * c + q * (c * d - own * w) := by
      have h1 : c * inv % part = c * inv - part * w := by omega
      rw [h1, ep, eq, Int.mul_assoc, Int.mul_assoc, ← Int.mul_add]
      congr 1
      have h2 : own * inv = 1 + part * d := hd
      have h3 : own * (c * inv) = c * (own * inv) := by rw [← Int.mul_assoc, Int.mul_comm own c, Int.mul_assoc]
      rw [Int.mul_sub, h3, h2, Int.mul_add, Int.mul_one, Int.mul_sub, ← Int.mul_assoc c part d, Int.mul_comm c part, Int.mul_assoc part c d, ← Int.mul_assoc own part w, Int.mul_comm own part, Int.mul_assoc part own w]
      omega
    rw [this, show x + (g * c + q * (c * d - own * w)) = y + q * (c * d - own * w) by omega, Int.add_mul_emod_self_left]
end Lt
namespace Lt
open Classical in
/-- n begins a run -/
noncomputable def stt (S : Int → Prop) (n : Int) : Bool := decide (S n ∧ ¬ S (n - 1))
open Classical in
theorem stt_iff {S : Int → Prop} {n : Int} : stt S n = true ↔ S n ∧ ¬ S (n - 1) := by
  unfold stt
  exact ⟨of_decide_eq_true, decide_eq_true⟩
theorem stt_per {S : Int → Prop} {T : Int} (h : Per S T) : Per (fun n => stt S n = true) T := fun n => by
  have h1 := h n
  have h2 := h (n - 1)
  rw [show n - 1 + T = n + T - 1 by omega] at h2
  show stt S (n + T) = true ↔ stt S n = true
  rw [stt_iff, stt_iff, h1, h2]
theorem cnt_or {f g k : Int → Bool} {a : Int} {n : Nat} (h : ∀ i : Nat, i < n → f (a + i) = true → g (a + i) = true ∨ k (a + i) = true) : cnt f a n ≤ cnt g a n + cnt k a n := by
  induction n with
  | zero => exact Nat.le_refl _
  | succ n ih =>
    have ih := ih fun i hi => h i (by omega)
    have := h n (by omega)
    show cnt f a n + _ ≤ cnt g a n + _ + (cnt k a n + _)
    by_cases c : f (a + n) = true
    · rw [if_pos c]
      rcases this c with d | d
      · rw [if_pos d]
        omega
      · rw [if_pos d]
        omega
    · rw [if_neg c]
      omega
/-- a round has so many runs at most: a period T with at most N begins -/
structure Dens (S : Int → Prop) (T N : Nat) : Prop where
  pos : 0 < T
  per : Per S (T : Int)
  le : cnt (stt S) 0 T ≤ N
theorem Dens.mono {S : Int → Prop} {T N M : Nat} (h : Dens S T N) (k : N ≤ M) : Dens S T M := ⟨h.pos, h.per, Nat.le_trans h.le k⟩
theorem Dens.of {S U : Int → Prop} {T N : Nat} (h : Dens S T N) (e : ∀ n, S n ↔ U n) : Dens U T N := by
  have : S = U := funext fun n => propext (e n)
  rw [← this]
  exact h
theorem Dens.mul {S : Int → Prop} {T N : Nat} (h : Dens S T N) {k : Nat} (k0 : 0 < k) : Dens S (T * k) (N * k) := by
  refine ⟨Nat.mul_pos h.pos k0, fun n => ?_, ?_⟩
  · rw [Int.natCast_mul]
    exact h.per.mul k n
  · rw [cnt_mul (stt_per h.per)]
    exact Nat.mul_le_mul_right _ h.le
theorem Dens.up {S : Int → Prop} {T N U M : Nat} (h : Dens S T N) {k : Nat} (k0 : 0 < k) (eu : U = T * k) (em : N * k ≤ M) : Dens S U M := by
  subst eu
  exact (h.mul k0).mono em
theorem Dens.and {S U : Int → Prop} {T N M : Nat} (h : Dens S T N) (k : Dens U T M) : Dens (fun n => S n ∧ U n) T (N + M) := by
  refine ⟨h.pos, fun n => and_congr (h.per n) (k.per n), Nat.le_trans (cnt_or (g := stt S) (k := stt U) fun i _ z => ?_) (Nat.add_le_add h.le k.le)⟩
  have z := stt_iff.mp z
  by_cases c : S (0 + (i : Int) - 1)
  · exact .inr (stt_iff.mpr ⟨z.1.2, fun d => z.2 ⟨c, d⟩⟩)
  · exact .inl (stt_iff.mpr ⟨z.1.1, c⟩)
/-- a period and runs -/
theorem cnt_list {f : Int → Bool} {l : List Int} (a : Int) : ∀ n : Nat, (∀ i : Nat, i < n → f (a + i) = true → a + i ∈ l) → (cnt f a n : Int) ≤ fromN l a (a + n)
  | 0, _ => fromN_pos
  | n + 1, h => by
    have ih := cnt_list a n fun i hi => h i (by omega)
    have hn := h n (by omega)
    have sp : fromN l a (a + ((n + 1 : Nat) : Int)) = fromN l a (a + n) + fromN l (a + n) (a + n + 1) := by
      have h1 := below_split (row := l) (show a ≤ a + ((n + 1 : Nat) : Int) by omega)
      have h2 := below_split (row := l) (show a ≤ a + (n : Int) by omega)
      have h3 := below_split (row := l) (show a + (n : Int) ≤ a + n + 1 by omega)
      rw [show a + ((n + 1 : Nat) : Int) = a + n + 1 by omega] at *
      omega
    rw [sp]
    show ((cnt f a n + (if f (a + n) = true then 1 else 0) : Nat) : Int) ≤ _
    by_cases c : f (a + n) = true
    · have m := hn c
      have : 0 < fromN l (a + n) (a + n + 1) := by
        rcases Int.lt_or_eq_of_le (fromN_pos (row := l) (a := a + n) (b := a + n + 1)) with z | z
        · exact z
        · exact absurd ⟨by omega, by omega⟩ (fromN_zero.mp z.symm _ m)
      rw [if_pos c]
      omega
    · have := fromN_pos (row := l) (a := a + n) (b := a + n + 1)
      rw [if_neg c]
      omega
theorem in_per {p : Int} {rs : List Rn} : Per (In p rs) p := fun n => by
  constructor
  · rintro ⟨r, hr, z, z1, z2⟩
    exact ⟨r, hr, z + 1, by rw [Int.mul_add]; omega, by rw [Int.mul_add]; omega⟩
  · rintro ⟨r, hr, z, z1, z2⟩
    exact ⟨r, hr, z - 1, by rw [Int.mul_sub]; omega, by rw [Int.mul_sub]; omega⟩
theorem Dens.runs {p : Nat} {rs : List Rn} (p0 : 0 < p) : Dens (In p rs) p rs.length := by
  refine ⟨p0, in_per, ?_⟩
  have h := cnt_list (f := stt (In p rs)) (l := rs.map fun r => r.1 % (p : Int)) 0 p fun i hi z => by
    obtain ⟨⟨r, hr, w, w1, w2⟩, no⟩ := stt_iff.mp z
    have e : r.1 = 0 + (i : Int) + p * w := by
      refine Classical.byContradiction fun c => no ⟨r, hr, w, by omega, by omega⟩
    refine List.mem_map.mpr ⟨r, hr, ?_⟩
    rw [e, Int.add_mul_emod_self_left, Int.emod_eq_of_lt (by omega) (by omega)]
  have l := fromN_le (row := rs.map fun r => r.1 % (p : Int)) (a := 0) (b := 0 + (p : Int)) (c := 0) (Int.le_refl _)
  have l2 := belowN_pos (row := rs.map fun r => r.1 % (p : Int)) (v := 0)
  rw [List.length_map] at l
  omega
/-- how often a remainder is met by so many integers in a row -/
theorem countIn_one {x b g : Int} (g0 : 0 < g) (x0 : 0 ≤ x) (x1 : x < g) : ∀ m : Nat, countIn [x] b m g = cnt (fun n => decide (n % g = x)) b m
  | 0 => by
    unfold countIn
    have c0 := Int.emod_nonneg b (show g ≠ 0 by omega)
    have c1 := Int.emod_lt_of_pos b g0
    simp only [Int.ofNat_zero, Int.natCast_zero, Int.zero_ediv, Int.zero_emod, Int.zero_mul, Int.add_zero, Int.zero_add]
    rw [Int.min_eq_right (by omega), if_neg (by omega)]
    show _ = ((0 : Nat) : Int)
    omega
  | m + 1 => by
    have ih := countIn_one (b := b) g0 x0 x1 m
    have c0 := Int.emod_nonneg b (show g ≠ 0 by omega)
    have c1 := Int.emod_lt_of_pos b g0
    have r0 := Int.emod_nonneg (m : Int) (show g ≠ 0 by omega)
    have r1 := Int.emod_lt_of_pos (m : Int) g0
    have em := Int.emod_add_mul_ediv (m : Int) g
    have eb := Int.emod_add_mul_ediv b g
    have nx : (((m + 1 : Nat) : Int) / g = (m : Int) / g ∧ ((m + 1 : Nat) : Int) % g = (m : Int) % g + 1 ∧ (m : Int) % g + 1 < g) ∨ (((m + 1 : Nat) : Int) / g = (m : Int) / g + 1 ∧ ((m + 1 : Nat) : Int) % g = 0 ∧ (m : Int) % g + 1 = g) := by
      have e1 : ((m + 1 : Nat) : Int) = ((m : Int) % g + 1) + g * ((m : Int) / g) := by omega
      rcases Int.lt_or_eq_of_le (show (m : Int) % g + 1 ≤ g by omega) with z | z
      · refine .inl ⟨?_, ?_, z⟩
        · rw [e1, Int.add_mul_ediv_left _ _ (by omega), Int.ediv_eq_zero_of_lt (by omega) z]
          omega
        · rw [e1, Int.add_mul_emod_self_left, Int.emod_eq_of_lt (by omega) z]
      · refine .inr ⟨?_, ?_, z⟩
        · rw [e1, z, Int.add_mul_ediv_left _ _ (by omega), Int.ediv_self (by omega)]
          omega
        · rw [e1, z, Int.add_mul_emod_self_left, Int.emod_self]
    have hit : (b + (m : Int)) % g = if b % g + (m : Int) % g < g then b % g + (m : Int) % g else b % g + (m : Int) % g - g := by
      rw [show b + (m : Int) = (b % g + (m : Int) % g) + g * (b / g + (m : Int) / g) by rw [Int.mul_add]; omega, Int.add_mul_emod_self_left]
      split
      · exact Int.emod_eq_of_lt (by omega) (by assumption)
      · rw [show b % g + (m : Int) % g = (b % g + (m : Int) % g - g) + g by omega, Int.add_emod_right, Int.emod_eq_of_lt (by omega) (by omega)]
        omega
    have one : ∀ v : Int, belowN [x] v = if x < v then 1 else 0 := fun v => by rw [belowN_cons]; show 0 + _ = _; omega
    have st : ((cnt (fun n => decide (n % g = x)) b (m + 1) : Nat) : Int) = countIn [x] b m g + (if (b + (m : Int)) % g = x then 1 else 0) := by
      rw [ih]
      show ((cnt (fun n => decide (n % g = x)) b m + (if decide ((b + (m : Int)) % g = x) = true then 1 else 0) : Nat) : Int) = _
      rw [Int.natCast_add]
      by_cases c : (b + (m : Int)) % g = x <;> simp [c]
    rw [st]
    unfold countIn
    simp only [one, decide_eq_true_eq, List.length_singleton]
    rw [hit]
    generalize (m : Int) / g = Q at *
    generalize (m : Int) % g = R at *
    generalize b % g = B at *
    rcases nx with ⟨n1, n2, n3⟩ | ⟨n1, n2, n3⟩
    · rw [n1, n2]
      clear ih em eb n1 n2
      rw [Int.min_def, Int.min_def]
      repeat (split <;> try omega)
    · rw [n1, n2]
      clear ih em eb n1 n2
      rw [Int.min_def, Int.min_def]
      repeat (split <;> try omega)
theorem countIn_cons {x b m g : Int} {row : List Int} : countIn (x :: row) b m g = countIn [x] b m g + countIn row b m g := by
  unfold countIn
  rw [belowN_cons, belowN_cons, belowN_cons, belowN_cons (row := []), belowN_cons (row := []), belowN_cons (row := []), List.length_cons]
  have e : ((row.length + 1 : Nat) : Int) = (row.length : Int) + 1 := rfl
  have z : ∀ v, belowN [] v = 0 := fun _ => rfl
  rw [e, Int.mul_add, z, z, z, List.length_singleton]
  split <;> omega
theorem countIn_sum {b g : Int} {m : Nat} (g0 : 0 < g) : ∀ {row : List Int}, (∀ x ∈ row, 0 ≤ x ∧ x < g) → countIn row b m g = (row.map fun x => ((cnt (fun n => decide (n % g = x)) b m : Nat) : Int)).sum
  | [], _ => by unfold countIn belowN; simp
  | x :: row, h => by
    have hx := h x List.mem_cons_self
    rw [countIn_cons, countIn_one g0 hx.1 hx.2, countIn_sum g0 fun y hy => h y (List.mem_cons_of_mem _ hy), List.map_cons, List.sum_cons]
end Lt
namespace Lt
def cB (ks : List Int) (v : Int) : Nat := ks.countP fun x => decide (x < v)
theorem cB_below : ∀ {ks : List Int}, ks.Pairwise (· ≤ ·) → ∀ v, Below ks v (cB ks v)
  | [], _, v => ⟨Nat.le_refl _, fun i x h => absurd h (Nat.not_lt_zero _), fun i x _ e => by simp at e⟩
  | k :: ks, h, v => by
    obtain ⟨h1, h2⟩ := List.pairwise_cons.mp h
    obtain ⟨a1, a2, a3⟩ := cB_below h2 v
    unfold cB at *
    rw [List.countP_cons]
    by_cases c : k < v
    · simp only [c, decide_true, if_true]
      refine ⟨by rw [List.length_cons]; omega, fun i x hi e => ?_, fun i x hi e => ?_⟩
      · cases i with
        | zero => rw [List.getElem?_cons_zero] at e; rw [← Option.some.inj e]; exact c
        | succ i => rw [List.getElem?_cons_succ] at e; exact a2 i x (by omega) e
      · cases i with
        | zero => omega
        | succ i => rw [List.getElem?_cons_succ] at e; exact a3 i x (by omega) e
    · have z : ks.countP (fun x => decide (x < v)) = 0 := List.countP_eq_zero.mpr fun x hx => by
        have := h1 x hx
        rw [decide_eq_true_iff]
        omega
      rw [z, decide_eq_false c]
      refine ⟨Nat.zero_le _, fun i x hi => absurd hi (by simp), fun i x _ e => ?_⟩
      have := List.mem_of_getElem? e
      rcases List.mem_cons.mp this with rfl | m
      · omega
      · have := h1 x m
        omega
theorem below_eq {ks : List Int} {v : Int} {k : Nat} (h : Below ks v k) : k = cB ks v := by
  obtain ⟨kl, h1, h2⟩ := h
  unfold cB
  have e := congrArg (List.countP fun x => decide (x < v)) (List.take_append_drop k ks)
  rw [List.countP_append] at e
  have a : (ks.take k).countP (fun x => decide (x < v)) = (ks.take k).length := List.countP_eq_length.mpr fun x hx => by
    obtain ⟨i, hi⟩ := List.getElem?_of_mem hx
    have ik := (List.getElem?_eq_some_iff.mp hi).1
    rw [List.length_take] at ik
    rw [List.getElem?_take_of_lt (by omega)] at hi
    exact decide_eq_true (h1 i x (by omega) hi)
  have b : (ks.drop k).countP (fun x => decide (x < v)) = 0 := List.countP_eq_zero.mpr fun x hx => by
    obtain ⟨i, hi⟩ := List.getElem?_of_mem hx
    rw [List.getElem?_drop] at hi
    have := h2 (k + i) x (by omega) hi
    rw [decide_eq_true_iff]
    omega
  rw [a, b, List.length_take] at e
  omega
theorem cB_le {ks : List Int} {v : Int} : cB ks v ≤ ks.length := List.countP_le_length
theorem cB_mono {ks : List Int} {v u : Int} (h : v ≤ u) : cB ks v ≤ cB ks u := by
  unfold cB
  refine List.countP_mono_left fun x _ hx => ?_
  have := of_decide_eq_true hx
  exact decide_eq_true (by omega)
section
variable {α : Type} {key : α → Int} {qs : List α} {g b m : Int}
/-- Ranked.hit -/
def hitF (key : α → Int) (qs : List α) (g b m : Int) : List α :=
  if g ≤ m then qs else if b % g + m ≤ g then (qs.take (cB (qs.map key) (b % g + m))).drop (cB (qs.map key) (b % g)) else qs.drop (cB (qs.map key) (b % g)) ++ qs.take (cB (qs.map key) (b % g + m - g))
theorem hit_mem (asc : (qs.map key).Pairwise (· ≤ ·)) (kk : ∀ e ∈ qs, 0 ≤ key e ∧ key e < g) (g0 : 0 < g) (e : α) : e ∈ hitF key qs g b m ↔ e ∈ qs ∧ Met b m g (key e) := by
  unfold hitF
  have b1 := cB_below asc (b % g)
  by_cases c : g ≤ m
  · rw [if_pos c]
    exact ⟨fun h => ⟨h, met_all g0 (kk e h).1 (kk e h).2 c⟩, fun h => h.1⟩
  rw [if_neg c]
  by_cases d : b % g + m ≤ g
  · rw [if_pos d, mid_mem (key := key) b1 (cB_below asc _)]
    constructor
    · rintro ⟨h1, h2⟩
      exact ⟨h1, (met_mid g0 (kk e h1).1 (kk e h1).2 d).mpr h2⟩
    · rintro ⟨h1, h2⟩
      exact ⟨h1, (met_mid g0 (kk e h1).1 (kk e h1).2 d).mp h2⟩
  rw [if_neg d, List.mem_append, drop_mem (key := key) b1, take_mem (key := key) (cB_below asc _)]
  constructor
  · rintro (⟨h1, h2⟩ | ⟨h1, h2⟩)
    · exact ⟨h1, (met_over g0 (kk e h1).1 (kk e h1).2 (by omega) (by omega)).mpr (.inl h2)⟩
    · exact ⟨h1, (met_over g0 (kk e h1).1 (kk e h1).2 (by omega) (by omega)).mpr (.inr h2)⟩
  · rintro ⟨h1, h2⟩
    rcases (met_over g0 (kk e h1).1 (kk e h1).2 (by omega) (by omega)).mp h2 with h | h
    · exact .inl ⟨h1, h⟩
    · exact .inr ⟨h1, h⟩
theorem hit_sub (g0 : 0 < g) : ∃ s, s.Sublist qs ∧ (hitF key qs g b m).Perm s := by
  unfold hitF
  by_cases c : g ≤ m
  · rw [if_pos c]
    exact ⟨_, List.Sublist.refl _, .refl _⟩
  rw [if_neg c]
  by_cases d : b % g + m ≤ g
  · rw [if_pos d]
    exact ⟨_, (List.drop_sublist ..).trans (List.take_sublist ..), .refl _⟩
  rw [if_neg d]
  have l := cB_mono (ks := qs.map key) (show b % g + m - g ≤ b % g by omega)
  refine ⟨qs.take (cB (qs.map key) (b % g + m - g)) ++ qs.drop (cB (qs.map key) (b % g)), ?_, List.perm_append_comm⟩
  generalize cB (qs.map key) (b % g + m - g) = i at *
  generalize cB (qs.map key) (b % g) = j at *
  have e : qs = qs.take i ++ qs.drop i := (List.take_append_drop i qs).symm
  conv => rhs; rw [e]
  refine List.Sublist.append (List.Sublist.refl _) ?_
  obtain ⟨k, rfl⟩ : ∃ k, j = i + k := ⟨j - i, by omega⟩
  rw [← List.drop_drop]
  exact List.drop_sublist ..
theorem hit_map {β : Type} {f : α → β} {key2 : β → Int} (h : ∀ a, key2 (f a) = key a) : (hitF key qs g b m).map f = hitF key2 (qs.map f) g b m := by
  have e : (qs.map f).map key2 = qs.map key := by rw [List.map_map]; exact List.map_congr_left fun a _ => h a
  unfold hitF
  rw [e]
  split
  · rfl
  · split
    · rw [List.map_drop, List.map_take]
    · rw [List.map_append, List.map_drop, List.map_take]
end
/-- how many are from i on and below j, by a step -/
def stN (i j c : Int) : Nat := if i < j then ((j - i - 1) / c).toNat + 1 else 0
theorem stN_lt {i j c : Int} {t : Nat} (c0 : 0 < c) : t < stN i j c ↔ i + t * c < j := by
  unfold stN
  have em := Int.emod_add_mul_ediv (j - i - 1) c
  have e0 := Int.emod_nonneg (j - i - 1) (show c ≠ 0 by omega)
  have e1 := Int.emod_lt_of_pos (j - i - 1) c0
  split
  · rename_i h
    have q0 := Int.ediv_nonneg (a := j - i - 1) (b := c) (by omega) (by omega)
    generalize (j - i - 1) / c = Q at *
    rw [Int.mul_comm (t : Int) c]
    constructor
    · intro z
      have : c * (t : Int) ≤ c * Q := Int.mul_le_mul_of_nonneg_left (by omega) (by omega)
      omega
    · intro z
      refine Classical.byContradiction fun n => ?_
      have : c * (Q + 1) ≤ c * (t : Int) := Int.mul_le_mul_of_nonneg_left (by omega) (by omega)
      rw [Int.mul_add] at this
      omega
  · rename_i h
    have := Int.mul_nonneg (Int.natCast_nonneg t) (show 0 ≤ c by omega)
    constructor
    · intro z; omega
    · intro z; omega
abbrev T3 := Int × Int × Int
/-- how far behind the run's begin a run begins first, from a least gap on -/
def lowG (r : Rn) (g least : Int) (e : T3) : Int := (e.2.1 - r.1 - least) % g + least
/-- begun_inside -/
def begV (vs : List T3) (r : Rn) (g least : Int) : List T3 :=
  if least < r.2 - r.1 + 1 then (hitF (fun e : T3 => e.1) vs g (r.1 + least) (r.2 - r.1 + 1 - least)).flatMap fun e => (List.range (stN (lowG r g least e) (r.2 - r.1 + 1) g)).map fun t : Nat => (e.2.1, e.2.2, lowG r g least e + t * g) else []
/-- rows by the remainders of their begins -/
structure RowsOf (ts : List Rn) (g : Int) (vs : List T3) : Prop where
  perm : (vs.map fun e => (e.2.1, e.2.2)).Perm ts
  asc : (vs.map fun e : T3 => e.1).Pairwise (· ≤ ·)
  key : ∀ e ∈ vs, e.1 = e.2.1 % g
section
variable {vs : List T3} {ts : List Rn} {r : Rn} {g least : Int}
theorem beg_mem (R : RowsOf ts g vs) (g0 : 0 < g) (o : T3) : o ∈ begV vs r g least ↔ ∃ t ∈ ts, ∃ k, least ≤ k ∧ r.1 + k ≤ r.2 ∧ (r.1 + k) % g = t.1 % g ∧ o = (t.1, t.2, k) := by
  have kk : ∀ e ∈ vs, 0 ≤ e.1 ∧ e.1 < g := fun e he => by
    rw [R.key e he]
    exact ⟨Int.emod_nonneg _ (by omega), Int.emod_lt_of_pos _ g0⟩
  unfold begV
  by_cases c : least < r.2 - r.1 + 1
  · rw [if_pos c, List.mem_flatMap]
    constructor
    · rintro ⟨e, he, ho⟩
      obtain ⟨t, ht, rfl⟩ := List.mem_map.mp ho
      have he := ((hit_mem R.asc kk g0 e).mp he).1
      have ht := (stN_lt g0).mp (List.mem_range.mp ht)
      have l0 : least ≤ lowG r g least e := by
        unfold lowG
        have := Int.emod_nonneg (e.2.1 - r.1 - least) (show g ≠ 0 by omega)
        omega
      have := Int.mul_nonneg (Int.natCast_nonneg t) (show 0 ≤ g by omega)
      refine ⟨(e.2.1, e.2.2), R.perm.mem_iff.mp (List.mem_map.mpr ⟨e, he, rfl⟩), _, by omega, by omega, ?_, rfl⟩
      unfold lowG
      have em := Int.emod_add_mul_ediv (e.2.1 - r.1 - least) g
      dsimp only
      rw [Int.mul_comm (t : Int) g, show r.1 + ((e.2.1 - r.1 - least) % g + least + g * t) = e.2.1 + g * (t - (e.2.1 - r.1 - least) / g) by rw [Int.mul_sub]; omega, Int.add_mul_emod_self_left]
    · rintro ⟨t, ht, k, k0, k1, ke, rfl⟩
      obtain ⟨e, he, et⟩ := List.mem_map.mp (R.perm.mem_iff.mpr ht)
      have e1 : e.2.1 = t.1 := congrArg Prod.fst et
      have e2 : e.2.2 = t.2 := congrArg Prod.snd et
      refine ⟨e, (hit_mem R.asc kk g0 e).mpr ⟨he, k - least, by omega, by omega, ?_⟩, ?_⟩
      · rw [R.key e he, e1, ← ke, show r.1 + least + (k - least) = r.1 + k by omega]
      · obtain ⟨z, hz⟩ : g ∣ k - lowG r g least e := by
          refine Int.dvd_of_emod_eq_zero ?_
          unfold lowG
          have em := Int.emod_add_mul_ediv (e.2.1 - r.1 - least) g
          have : g ∣ (r.1 + k) - t.1 := Int.dvd_of_emod_eq_zero (by rw [Int.sub_emod, ke, Int.sub_self, Int.zero_emod])
          obtain ⟨y, hy⟩ := this
          rw [e1] at em ⊢
          rw [show k - ((t.1 - r.1 - least) % g + least) = g * (y + (t.1 - r.1 - least) / g) by rw [Int.mul_add]; omega]
          exact Int.mul_emod_right ..
        have l1 : lowG r g least e < least + g := by
          unfold lowG
          have := Int.emod_lt_of_pos (e.2.1 - r.1 - least) g0
          omega
        have z0 : 0 ≤ z := by
          refine Classical.byContradiction fun n => ?_
          have : g * z ≤ g * (-1) := Int.mul_le_mul_of_nonneg_left (by omega) (by omega)
          omega
        have ez : lowG r g least e + (z.toNat : Int) * g = k := by
          rw [Int.toNat_of_nonneg z0, Int.mul_comm]
          omega
        refine List.mem_map.mpr ⟨z.toNat, List.mem_range.mpr ((stN_lt g0).mpr (by omega)), ?_⟩
        rw [ez, e1, e2]
  · rw [if_neg c]
    constructor
    · intro h; cases h
    · rintro ⟨t, ht, k, k0, k1, -⟩; omega
/-- a list that ascends, each of it counted -/
theorem cnt_ge {f : Int → Bool} : ∀ {l : List Int} {lo : Int} {n : Nat}, (∀ x ∈ l, f x = true ∧ lo ≤ x ∧ x < lo + n) → l.Pairwise (· < ·) → l.length ≤ cnt f lo n
  | [], _, _, _, _ => Nat.zero_le _
  | x :: l, lo, n, h, pw => by
    obtain ⟨p1, p2⟩ := List.pairwise_cons.mp pw
    obtain ⟨fx, x0, x1⟩ := h x List.mem_cons_self
    have ih := cnt_ge (f := f) (l := l) (lo := x + 1) (n := (lo + n - (x + 1)).toNat) (fun s hs => by
      have a := h s (List.mem_cons_of_mem _ hs)
      have b := p1 s hs
      exact ⟨a.1, by omega, by omega⟩) p2
    have e1 : n = (x - lo).toNat + (1 + (lo + n - (x + 1)).toNat) := by omega
    have := cnt_add (S := f) lo (x - lo).toNat (1 + (lo + n - (x + 1)).toNat)
    rw [← e1, cnt_add, show lo + (((x - lo).toNat : Nat) : Int) = x by omega] at this
    have c1 : cnt f x 1 = 1 := cnt_all fun i hi => by
      obtain rfl : i = 0 := by omega
      rw [show x + ((0 : Nat) : Int) = x by omega]
      exact fx
    rw [show x + ((1 : Nat) : Int) = x + 1 from rfl] at this
    rw [List.length_cons]
    omega
theorem stN_le {e : T3} {m : Int} (g0 : 0 < g) (hl : least ≤ m) : stN (lowG r g least e) m g ≤ cnt (fun n => decide (n % g = e.2.1 % g)) (r.1 + least) (m - least).toNat := by
  have z := cnt_ge (f := fun n => decide (n % g = e.2.1 % g)) (l := (List.range (stN (lowG r g least e) m g)).map fun t : Nat => r.1 + (lowG r g least e + t * g)) (lo := r.1 + least) (n := (m - least).toNat) (fun x hx => by
    obtain ⟨t, ht, rfl⟩ := List.mem_map.mp hx
    have ht := (stN_lt g0).mp (List.mem_range.mp ht)
    have l0 : least ≤ lowG r g least e := by
      unfold lowG
      have := Int.emod_nonneg (e.2.1 - r.1 - least) (show g ≠ 0 by omega)
      omega
    have := Int.mul_nonneg (Int.natCast_nonneg t) (show 0 ≤ g by omega)
    refine ⟨decide_eq_true ?_, by omega, by omega⟩
    unfold lowG
    have em := Int.emod_add_mul_ediv (e.2.1 - r.1 - least) g
    rw [Int.mul_comm (t : Int) g, show r.1 + ((e.2.1 - r.1 - least) % g + least + g * t) = e.2.1 + g * (t - (e.2.1 - r.1 - least) / g) by rw [Int.mul_sub]; omega, Int.add_mul_emod_self_left]) (by
    rw [List.pairwise_map]
    refine List.pairwise_lt_range.imp fun {a b} h => ?_
    have : ((a : Int) + 1) * g ≤ (b : Int) * g := Int.mul_le_mul_of_nonneg_right (by omega) (by omega)
    rw [Int.add_mul] at this
    omega)
  rw [List.length_map, List.length_range] at z
  exact z
theorem sum_sub {α : Type} {f : α → Nat} {l k : List α} (h : l.Sublist k) : (l.map f).sum ≤ (k.map f).sum := by
  induction h with
  | slnil => exact Nat.le_refl _
  | cons a _ ih => rw [List.map_cons, List.sum_cons]; omega
  | cons_cons a _ ih => rw [List.map_cons, List.sum_cons, List.map_cons, List.sum_cons]; omega
theorem sum_perm {α : Type} {f : α → Nat} {l k : List α} (h : l.Perm k) : (l.map f).sum = (k.map f).sum := by
  induction h with
  | nil => rfl
  | cons a _ ih => rw [List.map_cons, List.sum_cons, List.map_cons, List.sum_cons, ih]
  | swap a b l => simp only [List.map_cons, List.sum_cons]; omega
  | trans _ _ i1 i2 => rw [i1, i2]
theorem sum_cast {α : Type} {f : α → Nat} {l : List α} : (((l.map f).sum : Nat) : Int) = (l.map fun a => (f a : Int)).sum := by
  induction l with
  | nil => rfl
  | cons a l ih => rw [List.map_cons, List.sum_cons, List.map_cons, List.sum_cons, ← ih, Int.natCast_add]
theorem beg_len (R : RowsOf ts g vs) (g0 : 0 < g) (hl : least ≤ r.2 - r.1 + 1) : ((begV vs r g least).length : Int) ≤ countIn (rems ts g) (r.1 + least) (r.2 - r.1 + 1 - least) g := by
  have m0 : ((r.2 - r.1 + 1 - least).toNat : Int) = r.2 - r.1 + 1 - least := by omega
  unfold begV
  split
  · obtain ⟨s, hs, hp⟩ := hit_sub (key := fun e : T3 => e.1) (qs := vs) (g := g) (b := r.1 + least) (m := r.2 - r.1 + 1 - least) g0
    rw [List.length_flatMap]
    simp only [List.length_map, List.length_range]
    rw [sum_perm hp]
    have h1 := sum_sub (f := fun e => stN (lowG r g least e) (r.2 - r.1 + 1) g) hs
    have h2 : (vs.map fun e => stN (lowG r g least e) (r.2 - r.1 + 1) g).sum ≤ (vs.map fun e : T3 => cnt (fun n => decide (n % g = e.2.1 % g)) (r.1 + least) (r.2 - r.1 + 1 - least).toNat).sum := by
      clear R hs hp h1
      induction vs with
      | nil => exact Nat.le_refl _
      | cons e vs ih =>
        have := stN_le (r := r) (e := e) (least := least) (m := r.2 - r.1 + 1) g0 hl
        rw [List.map_cons, List.sum_cons, List.map_cons, List.sum_cons]
        omega
    have h3 : ((vs.map fun e : T3 => cnt (fun n => decide (n % g = e.2.1 % g)) (r.1 + least) (r.2 - r.1 + 1 - least).toNat).sum : Int) = countIn (rems ts g) (r.1 + least) (r.2 - r.1 + 1 - least) g := by
      have e1 := sum_perm (f := fun t : Rn => cnt (fun n => decide (n % g = t.1 % g)) (r.1 + least) (r.2 - r.1 + 1 - least).toNat) R.perm
      rw [List.map_map] at e1
      have e2 : (vs.map fun e : T3 => cnt (fun n => decide (n % g = e.2.1 % g)) (r.1 + least) (r.2 - r.1 + 1 - least).toNat).sum = (ts.map fun t : Rn => cnt (fun n => decide (n % g = t.1 % g)) (r.1 + least) (r.2 - r.1 + 1 - least).toNat).sum := e1
      have e3 := countIn_sum (b := r.1 + least) (m := (r.2 - r.1 + 1 - least).toNat) g0 (rems_mem (rs := ts) g0)
      rw [m0] at e3
      rw [e2, e3, sum_cast]
      unfold rems
      rw [List.map_map]
      rfl
    omega
  · exact countIn_nonneg g0 (by omega)
end
/-- the runs that two tables share, as they are found -/
def sharedV (p g part inv tot : Int) (rs ts : List Rn) (vr vt : List T3) : List Rn :=
  (rs.flatMap fun r => (begV vt r g 0).map fun o => (plc p g part inv tot (r.1 + o.2.2) o.1, plc p g part inv tot (r.1 + o.2.2) o.1 + min (r.2 - r.1 - o.2.2) (o.2.1 - o.1))) ++
  (ts.flatMap fun t => (begV vr t g 1).map fun o => (plc p g part inv tot o.1 (t.1 + o.2.2), plc p g part inv tot o.1 (t.1 + o.2.2) + min (t.2 - t.1 - o.2.2) (o.2.1 - o.1)))
theorem shared_shr {p q g part inv tot : Int} {rs ts : List Rn} {vr vt : List T3} (g0 : 0 < g) (Rr : RowsOf rs g vr) (Rt : RowsOf ts g vt) : Shr p q (plc p g part inv tot) rs ts g (sharedV p g part inv tot rs ts vr vt) := by
  refine ⟨fun o ho => ?_, fun r hr t ht k k0 k1 ke => ?_, fun r hr t ht k k0 k1 ke => ?_⟩
  · rcases List.mem_append.mp ho with h | h
    · obtain ⟨r, hr, h⟩ := List.mem_flatMap.mp h
      obtain ⟨x, hx, rfl⟩ := List.mem_map.mp h
      obtain ⟨t, ht, k, k0, k1, ke, rfl⟩ := (beg_mem Rt g0 x).mp hx
      exact .inl ⟨r, hr, t, ht, k, k0, k1, ke, rfl, rfl⟩
    · obtain ⟨t, ht, h⟩ := List.mem_flatMap.mp h
      obtain ⟨x, hx, rfl⟩ := List.mem_map.mp h
      obtain ⟨r, hr, k, k0, k1, ke, rfl⟩ := (beg_mem Rr g0 x).mp hx
      exact .inr ⟨r, hr, t, ht, k, k0, k1, ke, rfl, rfl⟩
  · exact List.mem_append_left _ (List.mem_flatMap.mpr ⟨r, hr, List.mem_map.mpr ⟨(t.1, t.2, k), (beg_mem Rt g0 _).mpr ⟨t, ht, k, k0, k1, ke, rfl⟩, rfl⟩⟩)
  · exact List.mem_append_right _ (List.mem_flatMap.mpr ⟨t, ht, List.mem_map.mpr ⟨(r.1, r.2, k), (beg_mem Rr g0 _).mpr ⟨r, hr, k, k0, k1, ke, rfl⟩, rfl⟩⟩)
theorem sum_le {α : Type} {f h : α → Int} {l : List α} (k : ∀ a ∈ l, f a ≤ h a) : (l.map f).sum ≤ (l.map h).sum := by
  induction l with
  | nil => exact Int.le_refl _
  | cons a l ih =>
    have := k a List.mem_cons_self
    have := ih fun b hb => k b (List.mem_cons_of_mem _ hb)
    rw [List.map_cons, List.sum_cons, List.map_cons, List.sum_cons]
    omega
theorem beg_sum {g least : Int} {rs ts : List Rn} {vt : List T3} (g0 : 0 < g) (Rt : RowsOf ts g vt) (le : ∀ r ∈ rs, least ≤ r.2 - r.1 + 1) : (((rs.flatMap fun r => begV vt r g least).length : Nat) : Int) ≤ (rs.map fun r => countIn (rems ts g) (r.1 + least) (r.2 - r.1 + 1 - least) g).sum := by
  rw [List.length_flatMap, sum_cast]
  exact sum_le fun r hr => beg_len Rt g0 (le r hr)
theorem shared_len {p g part inv tot : Int} {rs ts : List Rn} {vr vt : List T3} (g0 : 0 < g) (Rr : RowsOf rs g vr) (Rt : RowsOf ts g vt) (lr : ∀ r ∈ rs, r.1 ≤ r.2) (lt : ∀ r ∈ ts, r.1 ≤ r.2) :
    ((rs.flatMap fun r => begV vt r g 0).length : Int) ≤ meetsN g rs ts ∧ ((ts.flatMap fun t => begV vr t g 1).length : Int) ≤ meetsN g rs ts ∧ ((sharedV p g part inv tot rs ts vr vt).length : Int) ≤ meetsN g rs ts := by
  have h1 := beg_sum (least := 0) (rs := rs) g0 Rt fun r hr => by have := lr r hr; omega
  have h2 := beg_sum (least := 1) (rs := ts) g0 Rr fun r hr => by have := lt r hr; omega
  have e1 : (rs.map fun r => countIn (rems ts g) (r.1 + 0) (r.2 - r.1 + 1 - 0) g).sum = (rs.map fun r => countIn (rems ts g) r.1 (r.2 - r.1 + 1) g).sum := by
    congr 1
    exact List.map_congr_left fun r _ => by rw [Int.add_zero, Int.sub_zero]
  rw [e1] at h1
  have n1 : 0 ≤ (rs.map fun r => countIn (rems ts g) r.1 (r.2 - r.1 + 1) g).sum := sum_nonneg fun x hx => by
    obtain ⟨r, hr, rfl⟩ := List.mem_map.mp hx
    have := lr r hr
    exact countIn_nonneg g0 (by omega)
  have n2 : 0 ≤ (ts.map fun t => countIn (rems rs g) (t.1 + 1) (t.2 - t.1 + 1 - 1) g).sum := sum_nonneg fun x hx => by
    obtain ⟨r, hr, rfl⟩ := List.mem_map.mp hx
    have := lt r hr
    exact countIn_nonneg g0 (by omega)
  have e3 : (sharedV p g part inv tot rs ts vr vt).length = (rs.flatMap fun r => begV vt r g 0).length + (ts.flatMap fun t => begV vr t g 1).length := by
    unfold sharedV
    rw [List.length_append, List.length_flatMap, List.length_flatMap, List.length_flatMap, List.length_flatMap]
    simp only [List.length_map]
  unfold meetsN
  rw [e3]
  omega
end Lt
namespace Lt
theorem nf_of_runs {S : Int → Prop} {tot : Int} {ms : List Rn} (per : Per S tot) (run : ∀ r ∈ ms, IsRun 0 tot S r) (lt : ms.Pairwise fun r s => r.1 < s.1) : NF 0 tot ms := by
  refine ⟨fun r hr => (run r hr).2.1, fun r hr => (run r hr).1, lt.imp_of_mem fun {r s} hr hs k => ?_, fun r hr s hs => ?_⟩
  · obtain ⟨-, le, ins, -, aft⟩ := run r hr
    obtain ⟨-, le2, ins2, bef, -⟩ := run s hs
    false_or_by_contra
    rcases (show s.1 = r.2 + 1 ∨ s.1 ≤ r.2 by omega) with e | e
    · rw [← e] at aft
      exact aft (ins2 _ (Int.le_refl _) le2)
    · exact bef (ins _ (by omega) (by omega))
  · obtain ⟨w, le, ins, -, aft⟩ := run r hr
    obtain ⟨w2, le2, ins2, bef, -⟩ := run s hs
    false_or_by_contra
    rcases (show s.1 + tot = r.2 + 1 ∨ s.1 + tot ≤ r.2 by omega) with e | e
    · rw [← e] at aft
      exact aft ((per s.1).mpr (ins2 _ (Int.le_refl _) le2))
    · have := ins (s.1 + tot - 1) (by omega) (by omega)
      rw [show s.1 + tot - 1 = s.1 - 1 + tot by omega] at this
      exact bef ((per _).mp this)
theorem in_cong {p : Int} {rs : List Rn} {a b : Int} (h : a % p = b % p) : In p rs a ↔ In p rs b := by
  obtain ⟨c, hc⟩ := emod_eq h
  constructor
  · intro k
    have := k.shift (-c)
    rwa [show a + p * -c = b by rw [Int.mul_neg]; omega] at this
  · intro k
    have := k.shift c
    rwa [← hc] at this
section
variable {p q g tot : Int} {pl : Int → Int → Int} {rs ts out : List Rn}
/-- each run that is found is a maximal one of what lies in both -/
theorem shared_run (P : Plc p q pl g tot) (S : Shr p q pl rs ts g out) (nr : NF 0 p rs) (nt : NF 0 q ts) (t0 : 0 < tot) (rg : ∀ x y, 0 ≤ pl x y ∧ pl x y < tot) (tell : ∀ n, In tot out n ↔ In p rs n ∧ In q ts n) : ∀ o ∈ out, IsRun 0 tot (fun n => In p rs n ∧ In q ts n) o := fun o ho => by
  have ins : o.1 ≤ o.2 → ∀ n, o.1 ≤ n → n ≤ o.2 → In p rs n ∧ In q ts n := fun _ n h1 h2 => (tell n).mp ⟨o, ho, 0, by rw [Int.mul_zero]; omega⟩
  have far : ∀ {r : Int} {x y : Int} (d : Int), x % r = y % r → (x + d) % r = (y + d) % r := fun d h => by rw [Int.add_emod, h, ← Int.add_emod]
  rcases S.sound o ho with ⟨r, hr, t, ht, k, k0, k1, ke, e1, e2⟩ | ⟨r, hr, t, ht, k, k0, k1, ke, e1, e2⟩
  · have f1 := P.first _ _ ke
    have f2 := P.last _ _ ke
    rw [← e1] at f1 f2
    have lr := nr.le r hr
    have lt := nt.le t ht
    have le : o.1 ≤ o.2 := by omega
    refine ⟨by rw [e1]; have := rg (r.1 + k) t.1; omega, le, ins le, fun ⟨_, z⟩ => nt.before ht ?_, fun ⟨z1, z2⟩ => ?_⟩
    · exact (in_cong (far (-1) f2)).mp z
    · rcases (show min (r.2 - r.1 - k) (t.2 - t.1) = r.2 - r.1 - k ∨ min (r.2 - r.1 - k) (t.2 - t.1) = t.2 - t.1 by omega) with e | e
      · refine nr.behind hr ((in_cong (b := r.2 + 1) ?_).mp z1)
        rw [e2, e, show r.2 + 1 = r.1 + k + (r.2 - r.1 - k + 1) by omega, Int.add_assoc]
        exact far _ f1
      · refine nt.behind ht ((in_cong (b := t.2 + 1) ?_).mp z2)
        rw [e2, e, show t.2 + 1 = t.1 + (t.2 - t.1 + 1) by omega, Int.add_assoc]
        exact far _ f2
  · have f1 := P.first _ _ ke.symm
    have f2 := P.last _ _ ke.symm
    rw [← e1] at f1 f2
    have lr := nr.le r hr
    have lt := nt.le t ht
    have le : o.1 ≤ o.2 := by omega
    refine ⟨by rw [e1]; have := rg r.1 (t.1 + k); omega, le, ins le, fun ⟨z, _⟩ => nr.before hr ?_, fun ⟨z1, z2⟩ => ?_⟩
    · exact (in_cong (far (-1) f1)).mp z
    · rcases (show min (t.2 - t.1 - k) (r.2 - r.1) = t.2 - t.1 - k ∨ min (t.2 - t.1 - k) (r.2 - r.1) = r.2 - r.1 by omega) with e | e
      · refine nt.behind ht ((in_cong (b := t.2 + 1) ?_).mp z2)
        rw [e2, e, show t.2 + 1 = t.1 + k + (t.2 - t.1 - k + 1) by omega, Int.add_assoc]
        exact far _ f2
      · refine nr.behind hr ((in_cong (b := r.2 + 1) ?_).mp z1)
        rw [e2, e, show r.2 + 1 = r.1 + (r.2 - r.1 + 1) by omega, Int.add_assoc]
        exact far _ f1
end
/-- one place of a round lies in one run alone, at one gap -/
theorem NF.one_gap {p : Int} {rs : List Rn} (h : NF 0 p rs) {r s : Rn} (hr : r ∈ rs) (hs : s ∈ rs) {j k : Int} (j0 : 0 ≤ j) (j1 : r.1 + j ≤ r.2) (k0 : 0 ≤ k) (k1 : s.1 + k ≤ s.2) (e : (r.1 + j) % p = (s.1 + k) % p) : r = s ∧ j = k := by
  obtain ⟨c, hc⟩ := emod_eq e
  have hp := h.pos hr
  have a := h.wd r hr
  have b := h.wd s hs
  have x := h.cl r hr s hs
  have y := h.cl s hs r hr
  rcases rnd (z := c) hp with ⟨_, z⟩ | ⟨_, z⟩ | ⟨_, z⟩ | ⟨_, z⟩ | ⟨_, z⟩ <;> rcases h.two hr hs with g | g | g <;> first | (subst g; exact ⟨rfl, by omega⟩) | (exfalso; first | omega | (subst g; omega))
theorem NF.nodup {w p : Int} {rs : List Rn} (h : NF w p rs) : rs.Nodup := h.lt.imp fun {x y} z e => by rw [e] at z; omega
section
variable {p q g part inv tot : Int} {rs ts : List Rn} {vr vt vs : List T3} {r : Rn} {least : Int}
theorem beg_nodup (R : RowsOf ts g vs) (nd : ts.Nodup) (g0 : 0 < g) : (begV vs r g least).Nodup := by
  unfold begV
  split
  · obtain ⟨s, hs, hp⟩ := hit_sub (key := fun e : T3 => e.1) (qs := vs) (g := g) (b := r.1 + least) (m := r.2 - r.1 + 1 - least) g0
    have n1 : (vs.map fun e => ((e.2.1, e.2.2) : Rn)).Nodup := R.perm.nodup_iff.mpr nd
    have n2 : ((hitF (fun e : T3 => e.1) vs g (r.1 + least) (r.2 - r.1 + 1 - least)).map fun e => ((e.2.1, e.2.2) : Rn)).Nodup := (hp.map _).nodup_iff.mpr ((hs.map _).nodup n1)
    refine List.pairwise_flatMap.mpr ⟨fun e _ => List.pairwise_map.mpr (List.nodup_range.imp fun {i j} ij z => ij ?_), (List.pairwise_map.mp n2).imp fun {a b} ab x hx y hy z => ab ?_⟩
    · have e3 := congrArg (fun o : T3 => o.2.2) z
      dsimp only at e3
      have : (i : Int) * g = j * g := by omega
      have := Int.eq_of_mul_eq_mul_right (show g ≠ 0 by omega) this
      omega
    · obtain ⟨_, _, rfl⟩ := List.mem_map.mp hx
      obtain ⟨_, _, rfl⟩ := List.mem_map.mp hy
      have e1 := congrArg (fun o : T3 => o.1) z
      have e2 := congrArg (fun o : T3 => o.2.1) z
      exact Prod.ext e1 e2
  · exact List.nodup_nil
theorem shared_nd (g0 : 0 < g) (P : Plc p q (plc p g part inv tot) g tot) (nr : NF 0 p rs) (nt : NF 0 q ts) (Rr : RowsOf rs g vr) (Rt : RowsOf ts g vt) : (sharedV p g part inv tot rs ts vr vt).Pairwise fun a b => a.1 ≠ b.1 := by
  -- what a begin tells
  have a1 : ∀ r ∈ rs, ∀ o ∈ begV vt r g 0, (o.1, o.2.1) ∈ ts ∧ 0 ≤ o.2.2 ∧ r.1 + o.2.2 ≤ r.2 ∧ plc p g part inv tot (r.1 + o.2.2) o.1 % p = (r.1 + o.2.2) % p ∧ plc p g part inv tot (r.1 + o.2.2) o.1 % q = o.1 % q := fun r hr o ho => by
    obtain ⟨t, ht, k, k0, k1, ke, rfl⟩ := (beg_mem Rt g0 o).mp ho
    exact ⟨ht, k0, k1, P.first _ _ ke, P.last _ _ ke⟩
  have a2 : ∀ t ∈ ts, ∀ o ∈ begV vr t g 1, (o.1, o.2.1) ∈ rs ∧ 1 ≤ o.2.2 ∧ t.1 + o.2.2 ≤ t.2 ∧ plc p g part inv tot o.1 (t.1 + o.2.2) % p = o.1 % p ∧ plc p g part inv tot o.1 (t.1 + o.2.2) % q = (t.1 + o.2.2) % q := fun t ht o ho => by
    obtain ⟨r, hr, k, k0, k1, ke, rfl⟩ := (beg_mem Rr g0 o).mp ho
    exact ⟨hr, k0, k1, P.first _ _ ke.symm, P.last _ _ ke.symm⟩
  have zero : ∀ {w : Int} {us : List Rn} {x : Rn}, NF 0 w us → x ∈ us → x.1 + 0 ≤ x.2 := fun h hx => by have := h.le _ hx; omega
  have s1 : ∀ r ∈ rs, ∀ r' ∈ rs, ∀ o ∈ begV vt r g 0, ∀ o' ∈ begV vt r' g 0, plc p g part inv tot (r.1 + o.2.2) o.1 = plc p g part inv tot (r'.1 + o'.2.2) o'.1 → r = r' ∧ o = o' := fun r hr r' hr' o ho o' ho' e => by
    obtain ⟨b1, b2, b3, b4, b5⟩ := a1 r hr o ho
    obtain ⟨c1, c2, c3, c4, c5⟩ := a1 r' hr' o' ho'
    rw [e] at b4 b5
    obtain ⟨rfl, ek⟩ := nr.one_gap hr hr' b2 b3 c2 c3 (b4.symm.trans c4)
    obtain ⟨et, -⟩ := nt.one_gap b1 c1 (Int.le_refl 0) (zero nt b1) (Int.le_refl 0) (zero nt c1) (by rw [Int.add_zero, Int.add_zero]; exact b5.symm.trans c5)
    refine ⟨rfl, ?_⟩
    obtain ⟨x, y, z⟩ := o
    obtain ⟨x', y', z'⟩ := o'
    cases et
    cases ek
    rfl
  have s2 : ∀ t ∈ ts, ∀ t' ∈ ts, ∀ o ∈ begV vr t g 1, ∀ o' ∈ begV vr t' g 1, plc p g part inv tot o.1 (t.1 + o.2.2) = plc p g part inv tot o'.1 (t'.1 + o'.2.2) → t = t' ∧ o = o' := fun t ht t' ht' o ho o' ho' e => by
    obtain ⟨b1, b2, b3, b4, b5⟩ := a2 t ht o ho
    obtain ⟨c1, c2, c3, c4, c5⟩ := a2 t' ht' o' ho'
    rw [e] at b4 b5
    obtain ⟨rfl, ek⟩ := nt.one_gap ht ht' (by omega) b3 (by omega) c3 (b5.symm.trans c5)
    obtain ⟨et, -⟩ := nr.one_gap b1 c1 (Int.le_refl 0) (zero nr b1) (Int.le_refl 0) (zero nr c1) (by rw [Int.add_zero, Int.add_zero]; exact b4.symm.trans c4)
    refine ⟨rfl, ?_⟩
    obtain ⟨x, y, z⟩ := o
    obtain ⟨x', y', z'⟩ := o'
    cases et
    cases ek
    rfl
  unfold sharedV
  refine List.pairwise_append.mpr ⟨List.pairwise_flatMap.mpr ⟨fun r hr => List.pairwise_map.mpr ?_, ?_⟩, List.pairwise_flatMap.mpr ⟨fun t ht => List.pairwise_map.mpr ?_, ?_⟩, ?_⟩
  · exact (beg_nodup Rt nt.nodup g0).imp_of_mem fun {o o'} ho ho' n e => n (s1 r hr r hr o ho o' ho' e).2
  · refine nr.nodup.imp_of_mem fun {r r'} hr hr' n x hx y hy e => n ?_
    obtain ⟨o, ho, rfl⟩ := List.mem_map.mp hx
    obtain ⟨o', ho', rfl⟩ := List.mem_map.mp hy
    exact (s1 r hr r' hr' o ho o' ho' e).1
  · exact (beg_nodup Rr nr.nodup g0).imp_of_mem fun {o o'} ho ho' n e => n (s2 t ht t ht o ho o' ho' e).2
  · refine nt.nodup.imp_of_mem fun {t t'} ht ht' n x hx y hy e => n ?_
    obtain ⟨o, ho, rfl⟩ := List.mem_map.mp hx
    obtain ⟨o', ho', rfl⟩ := List.mem_map.mp hy
    exact (s2 t ht t' ht' o ho o' ho' e).1
  · intro x hx y hy e
    obtain ⟨r, hr, hx⟩ := List.mem_flatMap.mp hx
    obtain ⟨o, ho, rfl⟩ := List.mem_map.mp hx
    obtain ⟨t, ht, hy⟩ := List.mem_flatMap.mp hy
    obtain ⟨o', ho', rfl⟩ := List.mem_map.mp hy
    obtain ⟨b1, b2, b3, b4, b5⟩ := a1 r hr o ho
    obtain ⟨c1, c2, c3, c4, c5⟩ := a2 t ht o' ho'
    replace e : plc p g part inv tot (r.1 + o.2.2) o.1 = plc p g part inv tot o'.1 (t.1 + o'.2.2) := e
    rw [e] at b5
    have := (nt.one_gap b1 ht (Int.le_refl 0) (zero nt b1) (by omega) c3 (by rw [Int.add_zero]; exact b5.symm.trans c5)).2
    omega
/-- sorted, they are the form of what lies in both -/
theorem shared_nf {ms out : List Rn} (P : Plc p q (plc p g part inv tot) g tot) (S : Shr p q (plc p g part inv tot) rs ts g out) (nr : NF 0 p rs) (nt : NF 0 q ts) (t0 : 0 < tot) (per : Per (fun n => In p rs n ∧ In q ts n) tot) (tell : ∀ n, In tot out n ↔ In p rs n ∧ In q ts n) (nd : out.Pairwise fun a b => a.1 ≠ b.1) (pm : ms.Perm out) (asc : ms.Pairwise fun a b => a.1 ≤ b.1) : NF 0 tot ms := by
  have nd2 : ms.Pairwise fun a b => a.1 ≠ b.1 := (pm.pairwise_iff fun {x y} h => Ne.symm h).mpr nd
  have rg : ∀ x y, 0 ≤ plc p g part inv tot x y ∧ plc p g part inv tot x y < tot := fun x y => ⟨Int.emod_nonneg _ (by omega), Int.emod_lt_of_pos _ t0⟩
  refine nf_of_runs per (fun r hr => shared_run P S nr nt t0 rg tell r (pm.mem_iff.mp hr)) ?_
  exact (asc.and nd2).imp fun {a b} h => by omega
end
end Lt
namespace Lt
theorem getD_of {few : List Rn} {r : Rn} (hr : r ∈ few) : ∃ i, i < few.length ∧ few.getD i (0, 0) = r := by
  obtain ⟨i, hi, er⟩ := List.getElem_of_mem hr
  exact ⟨i, hi, by rw [List.getD_eq_getElem?_getD, List.getElem?_eq_getElem hi, er]; rfl⟩
theorem NF.apD {w p : Int} {few : List Rn} (nf : NF w p few) {i j : Nat} (hij : i < j) (hj : j < few.length) : (few.getD i (0, 0)).2 + 1 < (few.getD j (0, 0)).1 := by
  have := List.pairwise_iff_getElem.mp nf.ap i j (by omega) hj hij
  rw [List.getD_eq_getElem?_getD, List.getD_eq_getElem?_getD, List.getElem?_eq_getElem (by omega), List.getElem?_eq_getElem hj]
  exact this
theorem Form.at_most {S : Int → Prop} {q n : Int} {few : List Rn} {k : Nat} (h : Form S q few) (ne : few ≠ []) (b : Below (few.map (·.1)) (n % q + 1) k) :
    ∃ m : Int, (((0 < k ∧ n % q ≤ (few.getD (k - 1) (0, 0)).2) ∨ n % q + q ≤ (few.getD (few.length - 1) (0, 0)).2) → m = n) ∧
      (¬ ((0 < k ∧ n % q ≤ (few.getD (k - 1) (0, 0)).2) ∨ n % q + q ≤ (few.getD (few.length - 1) (0, 0)).2) → m = (if 0 < k then n - n % q + (few.getD (k - 1) (0, 0)).2 else n - n % q - q + (few.getD (few.length - 1) (0, 0)).2)) ∧
      S m ∧ m ≤ n ∧ ∀ j, m < j → j ≤ n → ¬ S j := by
  have q0 := h.pos
  have hl : 0 < few.length := List.length_pos_iff.mpr ne
  obtain ⟨kl, lo, hi⟩ := b
  rw [List.length_map] at kl
  have l0 : 0 ≤ n % q := Int.emod_nonneg _ (by omega)
  have l1 : n % q < q := Int.emod_lt_of_pos _ q0
  have nq : n = n % q + q * (n / q) := (Int.emod_add_mul_ediv n q).symm
  have lo' : ∀ i, i < k → (few.getD i (0, 0)).1 ≤ n % q := fun i hi' => by
    have g := (getD_mem (d := ((0, 0) : Rn)) (show i < few.length by omega)).2
    have := lo i (few.getD i (0, 0)).1 hi' (by rw [List.getElem?_map, g]; rfl)
    omega
  have hi2 : ∀ i, k ≤ i → i < few.length → n % q < (few.getD i (0, 0)).1 := fun i h1 h2 => by
    have g := (getD_mem (d := ((0, 0) : Rn)) h2).2
    have := hi i (few.getD i (0, 0)).1 h1 (by rw [List.getElem?_map, g]; rfl)
    omega
  have per : ∀ j, S j ↔ S (j - q * (n / q)) := fun j => by
    have := h.per.mul (-(n / q)) j
    rw [show j + q * -(n / q) = j - q * (n / q) by rw [Int.mul_neg]; rfl] at this
    exact this.symm
  rcases h.runs with ⟨a, e⟩ | ⟨nf, tl⟩
  · refine ⟨n, fun _ => rfl, fun z => absurd ?_ z, a n, Int.le_refl _, fun j h1 h2 => by omega⟩
    subst e
    have q1 : q = 1 := by
      have := h.least 1 (by omega) (fun n => ⟨fun _ => a _, fun _ => a _⟩)
      omega
    subst q1
    have k1 : 0 < k := by
      rcases Nat.eq_zero_or_pos k with z | z
      · have := hi2 0 (by omega) (by simp)
        simp at this
      · exact z
    have kk : k = 1 := by simp at kl; omega
    subst kk
    left
    simp
  · have pos : ∀ i, i < few.length → few.getD i (0, 0) ∈ few := fun i hi' => (getD_mem hi').1
    by_cases c : (0 < k ∧ n % q ≤ (few.getD (k - 1) (0, 0)).2) ∨ n % q + q ≤ (few.getD (few.length - 1) (0, 0)).2
    · refine ⟨n, fun _ => rfl, fun z => absurd c z, ?_, Int.le_refl _, fun j h1 h2 => by omega⟩
      rw [per n, show n - q * (n / q) = n % q by omega, ← tl]
      rcases c with ⟨k0, c⟩ | c
      · exact ⟨_, pos (k - 1) (by omega), 0, by rw [Int.mul_zero]; have := lo' (k - 1) (by omega); omega, by rw [Int.mul_zero]; omega⟩
      · have w := nf.wd _ (pos (few.length - 1) (by omega))
        exact ⟨_, pos (few.length - 1) (by omega), 1, by rw [Int.mul_one]; omega, by rw [Int.mul_one]; omega⟩
    · refine ⟨_, fun z => absurd z c, fun _ => rfl, ?_⟩
      have hL : (few.getD (few.length - 1) (0, 0)).2 < n % q + q := by
        have : ¬ n % q + q ≤ (few.getD (few.length - 1) (0, 0)).2 := fun x => c (.inr x)
        omega
      have hk1 : ∀ (_ : 0 < k), (few.getD (k - 1) (0, 0)).2 < n % q := fun y => by
        have : ¬ n % q ≤ (few.getD (k - 1) (0, 0)).2 := fun x => c (.inl ⟨y, x⟩)
        omega
      have none : ∀ l : Int, (if 0 < k then (few.getD (k - 1) (0, 0)).2 else (few.getD (few.length - 1) (0, 0)).2 - q) < l → l ≤ n % q → ¬ In q few l := by
        rintro l h1 h2 ⟨r, hr, z, z1, z2⟩
        have wr := nf.wd r hr
        have le := nf.le r hr
        obtain ⟨i, hi', er⟩ := getD_of hr
        have cr := nf.cl r hr r hr
        have lastr : r.2 ≤ (few.getD (few.length - 1) (0, 0)).2 := by
          have ll := nf.le _ (pos (few.length - 1) (by omega))
          rcases Nat.lt_or_ge i (few.length - 1) with z | z
          · have := nf.apD z (by omega)
            rw [er] at this
            omega
          · have : i = few.length - 1 := by omega
            subst this
            rw [er]
            exact Int.le_refl _
        have ri : r.1 ≤ n % q → 0 < k ∧ r.2 ≤ (few.getD (k - 1) (0, 0)).2 := fun y => by
          have ik : i < k := by
            rcases Nat.lt_or_ge i k with x | x
            · exact x
            · have := hi2 i x hi'
              rw [er] at this
              omega
          refine ⟨by omega, ?_⟩
          rcases Nat.lt_or_ge i (k - 1) with x | x
          · have h4 := nf.apD x (by omega)
            have h5 := nf.le _ (pos (k - 1) (by omega))
            rw [er] at h4
            omega
          · have : i = k - 1 := by omega
            subst this
            rw [er]
            exact Int.le_refl _
        by_cases k0 : 0 < k
        · rw [if_pos k0] at h1
          have wk := nf.wd _ (pos (k - 1) (by omega))
          have lk := nf.le _ (pos (k - 1) (by omega))
          have ck := nf.cl r hr _ (pos (k - 1) (by omega))
          rcases rnd (z := z) q0 with ⟨-, y⟩ | ⟨-, y⟩ | ⟨-, y⟩ | ⟨-, y⟩ | ⟨-, y⟩
          · have := ri (by omega)
            omega
          · omega
          · omega
          · omega
          · omega
        · rw [if_neg k0] at h1
          rcases rnd (z := z) q0 with ⟨-, y⟩ | ⟨-, y⟩ | ⟨-, y⟩ | ⟨-, y⟩ | ⟨-, y⟩
          · have := ri (by omega)
            omega
          · omega
          · omega
          · omega
          · omega
      have fact : n - n % q + (if 0 < k then (few.getD (k - 1) (0, 0)).2 else (few.getD (few.length - 1) (0, 0)).2 - q) = if 0 < k then n - n % q + (few.getD (k - 1) (0, 0)).2 else n - n % q - q + (few.getD (few.length - 1) (0, 0)).2 := by
        split <;> omega
      rw [← fact]
      refine ⟨?_, ?_, fun j h1 h2 => ?_⟩
      · rw [per, ← tl]
        have e : n - n % q + (if 0 < k then (few.getD (k - 1) (0, 0)).2 else (few.getD (few.length - 1) (0, 0)).2 - q) - q * (n / q) = (if 0 < k then (few.getD (k - 1) (0, 0)).2 else (few.getD (few.length - 1) (0, 0)).2 - q) := by generalize (if 0 < k then (few.getD (k - 1) (0, 0)).2 else (few.getD (few.length - 1) (0, 0)).2 - q) = y; omega
        rw [e]
        split
        · have := nf.le _ (pos (k - 1) (by omega))
          exact ⟨_, pos (k - 1) (by omega), 0, by rw [Int.mul_zero]; omega, by rw [Int.mul_zero]; omega⟩
        · have := nf.le _ (pos (few.length - 1) (by omega))
          exact ⟨_, pos (few.length - 1) (by omega), 1, by rw [Int.mul_one]; omega, by rw [Int.mul_one]; omega⟩
      · split
        · rename_i k0
          have := hk1 k0
          omega
        · omega
      · rw [per, ← tl]
        exact none _ (by omega) (by omega)
/-- how much of a run is below l -/
def part (l : Int) (r : Rn) : Int := max 0 (min (l - 1) r.2 - r.1 + 1)
/-- what of the last run lies in the next round, below l -/
def wrapd (q : Int) (few : List Rn) (l : Int) : Int := if 0 < few.length then max 0 (min l ((few.getD (few.length - 1) (0, 0)).2 - q + 1)) else 0
/-- Lot.below -/
def belowL (q size : Int) (few : List Rn) (n : Int) : Int := n / q * size + wrapd q few (n % q) + (few.map (part (n % q))).sum
theorem part_step {r : Rn} (h : r.1 ≤ r.2) (l : Int) : part (l + 1) r = part l r + if r.1 ≤ l ∧ l ≤ r.2 then 1 else 0 := by
  unfold part
  split <;> omega
theorem sum_memb {rs : List Rn} (le : ∀ r ∈ rs, r.1 ≤ r.2) (ap : rs.Pairwise fun r s => r.2 + 1 < s.1) (l : Int) : ((rs.map fun r => if r.1 ≤ l ∧ l ≤ r.2 then (1 : Int) else 0).sum = 1 ∧ ∃ r ∈ rs, r.1 ≤ l ∧ l ≤ r.2) ∨ ((rs.map fun r => if r.1 ≤ l ∧ l ≤ r.2 then (1 : Int) else 0).sum = 0 ∧ ∀ r ∈ rs, ¬ (r.1 ≤ l ∧ l ≤ r.2)) := by
  induction rs with
  | nil => exact .inr ⟨rfl, fun r hr => nomatch hr⟩
  | cons r rs ih =>
    obtain ⟨a1, a2⟩ := List.pairwise_cons.mp ap
    have ih := ih (fun s hs => le s (List.mem_cons_of_mem _ hs)) a2
    rw [List.map_cons, List.sum_cons]
    by_cases c : r.1 ≤ l ∧ l ≤ r.2
    · rw [if_pos c]
      rcases ih with ⟨-, s, hs, h1, h2⟩ | ⟨h1, -⟩
      · have := a1 s hs
        omega
      · exact .inl ⟨by omega, r, List.mem_cons_self, c⟩
    · rw [if_neg c]
      rcases ih with ⟨h1, s, hs, h2⟩ | ⟨h1, h2⟩
      · exact .inl ⟨by omega, s, List.mem_cons_of_mem _ hs, h2⟩
      · refine .inr ⟨by omega, fun s hs => ?_⟩
        rcases List.mem_cons.mp hs with rfl | hs
        · exact c
        · exact h2 s hs
theorem sum_part_step {rs : List Rn} (le : ∀ r ∈ rs, r.1 ≤ r.2) (l : Int) : (rs.map (part (l + 1))).sum = (rs.map (part l)).sum + (rs.map fun r => if r.1 ≤ l ∧ l ≤ r.2 then (1 : Int) else 0).sum := by
  induction rs with
  | nil => rfl
  | cons r rs ih =>
    have ih := ih fun s hs => le s (List.mem_cons_of_mem _ hs)
    simp only [List.map_cons, List.sum_cons]
    rw [ih, part_step (le r List.mem_cons_self)]
    omega
open Classical in
/-- whether a member, as 0 or 1 -/
noncomputable def one (S : Int → Prop) (n : Int) : Int := if S n then 1 else 0
theorem one_yes {S : Int → Prop} {n : Int} (h : S n) : one S n = 1 := by unfold one; rw [if_pos h]
theorem one_no {S : Int → Prop} {n : Int} (h : ¬ S n) : one S n = 0 := by unfold one; rw [if_neg h]
/-- below l in a round -/
def inR (q : Int) (few : List Rn) (l : Int) : Int := wrapd q few l + (few.map (part l)).sum
section
variable {q : Int} {few : List Rn}
theorem last_of (nf : NF 0 q few) (ne : few ≠ []) {r : Rn} (hr : r ∈ few) : r.2 ≤ (few.getD (few.length - 1) (0, 0)).2 ∧ (r ≠ few.getD (few.length - 1) (0, 0) → r.2 + 1 < (few.getD (few.length - 1) (0, 0)).1) := by
  have hl : 0 < few.length := List.length_pos_iff.mpr ne
  obtain ⟨i, hi', er⟩ := getD_of hr
  have ll := nf.le _ (getD_mem (d := ((0, 0) : Rn)) (show few.length - 1 < few.length by omega)).1
  rcases Nat.lt_or_ge i (few.length - 1) with z | z
  · have := nf.apD z (by omega)
    rw [er] at this
    exact ⟨by omega, fun _ => this⟩
  · have : i = few.length - 1 := by omega
    subst this
    rw [er]
    exact ⟨Int.le_refl _, fun z => absurd rfl z⟩
/-- a step in a round -/
theorem NF.inR_step (nf : NF 0 q few) (ne : few ≠ []) {l : Int} (l0 : 0 ≤ l) (l1 : l < q) : inR q few (l + 1) = inR q few l + one (In q few) l := by
  have hl : 0 < few.length := List.length_pos_iff.mpr ne
  have q0 : 0 < q := by omega
  have lm := (getD_mem (d := ((0, 0) : Rn)) (show few.length - 1 < few.length by omega)).1
  have ll := nf.le _ lm
  have lw := nf.wd _ lm
  have lc := nf.cl _ lm _ lm
  unfold inR wrapd
  rw [if_pos hl, if_pos hl, sum_part_step nf.le l]
  generalize hz : few.getD (few.length - 1) (0, 0) = z at *
  have sw : max 0 (min (l + 1) (z.2 - q + 1)) = max 0 (min l (z.2 - q + 1)) + if l ≤ z.2 - q then 1 else 0 := by split <;> omega
  rw [sw]
  by_cases c : l ≤ z.2 - q
  · have mem : In q few l := ⟨z, lm, 1, by rw [Int.mul_one]; omega, by rw [Int.mul_one]; omega⟩
    rw [if_pos c, one_yes mem]
    rcases sum_memb nf.le nf.ap l with ⟨-, r, hr, h1, h2⟩ | ⟨h1, -⟩
    · have := nf.cl _ lm r hr
      omega
    · omega
  · rw [if_neg c]
    rcases sum_memb nf.le nf.ap l with ⟨h0, r, hr, h1, h2⟩ | ⟨h0, h1⟩
    · have mem : In q few l := ⟨r, hr, 0, by rw [Int.mul_zero]; omega, by rw [Int.mul_zero]; omega⟩
      rw [one_yes mem]
      omega
    · have no : ¬ In q few l := by
        rintro ⟨r, hr, y, y1, y2⟩
        have wr := nf.wd r hr
        have cr := nf.cl r hr r hr
        have lr := (last_of nf ne hr).1
        rw [hz] at lr
        rcases rnd (z := y) q0 with ⟨-, x⟩ | ⟨-, x⟩ | ⟨-, x⟩ | ⟨-, x⟩ | ⟨-, x⟩
        · exact h1 r hr ⟨by omega, by omega⟩
        · omega
        · omega
        · omega
        · omega
      rw [one_no no]
      omega
theorem NF.inR_zero (nf : NF 0 q few) : inR q few 0 = 0 := by
  unfold inR wrapd
  have : (few.map (part 0)).sum = 0 := by
    have w := nf.wd
    clear nf
    induction few with
    | nil => rfl
    | cons r rs ih =>
      have h1 := w r List.mem_cons_self
      rw [List.map_cons, List.sum_cons, ih fun s hs => w s (List.mem_cons_of_mem _ hs)]
      unfold part
      omega
  rw [this]
  split <;> omega
/-- a whole round -/
theorem NF.inR_all (nf : NF 0 q few) (ne : few ≠ []) : inR q few q = (few.map fun r => r.2 - r.1 + 1).sum := by
  have hl : 0 < few.length := List.length_pos_iff.mpr ne
  have lm := (getD_mem (d := ((0, 0) : Rn)) (show few.length - 1 < few.length by omega)).1
  have ll := nf.le _ lm
  have lw := nf.wd _ lm
  have lc := nf.cl _ lm _ lm
  unfold inR wrapd
  rw [if_pos hl]
  have key : ∀ l : List Rn, l ≠ [] → (∀ r ∈ l, r ∈ few) → l.getD (l.length - 1) (0, 0) = few.getD (few.length - 1) (0, 0) → (l.Pairwise fun r s => r.2 + 1 < s.1) → max 0 (min q ((few.getD (few.length - 1) (0, 0)).2 - q + 1)) + (l.map (part q)).sum = (l.map fun r => r.2 - r.1 + 1).sum := fun l => by
    induction l with
    | nil => exact fun h => absurd rfl h
    | cons r l ih =>
      intro _ hm hlast pw
      obtain ⟨p1, p2⟩ := List.pairwise_cons.mp pw
      by_cases e : l = []
      · subst e
        have : r = few.getD (few.length - 1) (0, 0) := hlast
        rw [← this] at lw lc ll ⊢
        simp only [List.map_cons, List.map_nil, List.sum_cons, List.sum_nil]
        unfold part
        omega
      · have hlast' : l.getD (l.length - 1) (0, 0) = few.getD (few.length - 1) (0, 0) := by
          rw [← hlast, List.length_cons, show l.length + 1 - 1 = (l.length - 1) + 1 by have := List.length_pos_iff.mpr e; omega, List.getD_cons_succ]
        have ih := ih e (fun s hs => hm s (List.mem_cons_of_mem _ hs)) hlast' p2
        have rf := hm r List.mem_cons_self
        have le := nf.le r rf
        have lml : few.getD (few.length - 1) (0, 0) ∈ l := hlast' ▸ (getD_mem (d := ((0, 0) : Rn)) (show l.length - 1 < l.length by have := List.length_pos_iff.mpr e; omega)).1
        have := p1 _ lml
        simp only [List.map_cons, List.sum_cons]
        have : part q r = r.2 - r.1 + 1 := by unfold part; omega
        omega
  exact key few ne (fun _ h => h) rfl nf.ap
theorem belowL_eq {size n : Int} : belowL q size few n = n / q * size + inR q few (n % q) := by
  unfold belowL inR
  omega
/-- a step -/
theorem Form.below_step {S : Int → Prop} (h : Form S q few) (n : Int) : belowL q (few.map fun r => r.2 - r.1 + 1).sum few (n + 1) = belowL q (few.map fun r => r.2 - r.1 + 1).sum few n + one S n := by
  have q0 := h.pos
  rw [belowL_eq, belowL_eq]
  rcases h.runs with ⟨a, e⟩ | ⟨nf, tl⟩
  · have q1 : q = 1 := by
      have := h.least 1 (by omega) (fun n => ⟨fun _ => a _, fun _ => a _⟩)
      omega
    subst q1 e
    rw [one_yes (a n), Int.emod_one, Int.emod_one, Int.ediv_one, Int.ediv_one]
    show (n + 1) * (1 + 0) + _ = n * (1 + 0) + _ + 1
    omega
  · by_cases ne : few = []
    · subst ne
      have no : ¬ S n := fun hn => by
        obtain ⟨r, hr, -⟩ := (tl n).mpr hn
        exact nomatch hr
      rw [one_no no]
      show (n + 1) / q * 0 + (0 + 0) = n / q * 0 + (0 + 0) + 0
      omega
    · have l0 : 0 ≤ n % q := Int.emod_nonneg _ (by omega)
      have l1 : n % q < q := Int.emod_lt_of_pos _ q0
      have nq := Int.emod_add_mul_ediv n q
      have st := nf.inR_step ne l0 l1
      have eo : one (In q few) (n % q) = one S n := by
        have : In q few (n % q) ↔ S n := by
          rw [tl]
          have := h.per.mul (-(n / q)) n
          rw [show n + q * -(n / q) = n % q by rw [Int.mul_neg]; omega] at this
          exact this
        by_cases c : S n
        · rw [one_yes c, one_yes (this.mpr c)]
        · rw [one_no c, one_no fun z => c (this.mp z)]
      rw [eo] at st
      rcases Int.lt_or_eq_of_le (show n % q + 1 ≤ q by omega) with z | z
      · have e1 : (n + 1) / q = n / q := by
          rw [show n + 1 = (n % q + 1) + q * (n / q) by omega, Int.add_mul_ediv_left _ _ (by omega), Int.ediv_eq_zero_of_lt (by omega) z]
          omega
        have e2 : (n + 1) % q = n % q + 1 := by
          rw [show n + 1 = (n % q + 1) + q * (n / q) by omega, Int.add_mul_emod_self_left, Int.emod_eq_of_lt (by omega) z]
        rw [e1, e2, st]
        omega
      · have e1 : (n + 1) / q = n / q + 1 := by
          rw [show n + 1 = q * (n / q + 1) by rw [Int.mul_add]; omega, Int.mul_ediv_cancel_left _ (by omega)]
        have e2 : (n + 1) % q = 0 := by
          rw [show n + 1 = q * (n / q + 1) by rw [Int.mul_add]; omega, Int.mul_emod_right]
        rw [z, nf.inR_all ne] at st
        rw [e1, e2, nf.inR_zero, Int.add_mul]
        omega
open Classical in
/-- counted -/
theorem Form.below_cnt {S : Int → Prop} (h : Form S q few) (a : Int) : ∀ m : Nat, belowL q (few.map fun r => r.2 - r.1 + 1).sum few (a + m) = belowL q (few.map fun r => r.2 - r.1 + 1).sum few a + cnt (fun n => decide (S n)) a m
  | 0 => by simp [cnt]
  | m + 1 => by
    have ih := h.below_cnt a m
    rw [show a + ((m + 1 : Nat) : Int) = a + m + 1 by omega, h.below_step, ih]
    show _ = _ + ((cnt _ a m + (if decide (S (a + m)) = true then 1 else 0) : Nat) : Int)
    unfold one
    by_cases c : S (a + (m : Int)) <;> simp [c] <;> omega
end
end Lt
namespace Lt
structure Tab (S : Int → Prop) (P : Nat) (few : List Rn) : Prop where
  pos : 0 < P
  per : Per S (P : Int)
  runs : ((∀ n, S n) ∧ P = 1 ∧ few = [(0, 0)]) ∨ (NF 0 (P : Int) few ∧ ∀ n, In (P : Int) few n ↔ S n)
section
variable {S U : Int → Prop} {P q : Nat} {few few2 ms : List Rn}
theorem Tab.of_form (h : Form S (q : Int) few) : Tab S q few := by
  have p := h.pos
  rcases h.runs with ⟨a, e⟩ | r
  · have : (q : Int) ≤ 1 := h.least 1 (by decide) fun n => ⟨fun _ => a _, fun _ => a _⟩
    exact ⟨by omega, h.per, .inl ⟨a, by omega, e⟩⟩
  · exact ⟨by omega, h.per, .inr r⟩
theorem Tab.every (a : ∀ n, S n) : Tab S 1 [(0, 0)] := ⟨by decide, fun n => ⟨fun _ => a _, fun _ => a _⟩, .inl ⟨a, rfl, rfl⟩⟩
theorem Tab.is_every (h : Tab S 1 [(0, 0)]) : ∀ n, S n := by
  rcases h.runs with ⟨a, -⟩ | ⟨nf, -⟩
  · exact a
  · have := nf.cl (0, 0) (by simp) (0, 0) (by simp)
    dsimp only at this
    omega
theorem Tab.nf (h : Tab S P few) (ne : ¬ (P = 1 ∧ few = [(0, 0)])) : NF 0 (P : Int) few ∧ ∀ n, In (P : Int) few n ↔ S n := by
  rcases h.runs with ⟨-, e⟩ | r
  · exact absurd e ne
  · exact r
theorem Tab.of {V : Int → Prop} (h : Tab S P few) (e : ∀ n, S n ↔ V n) : Tab V P few := by
  have : S = V := funext fun n => propext (e n)
  rw [← this]
  exact h
theorem Tab.le (h : Tab S P few) : ∀ r ∈ few, r.1 ≤ r.2 := by
  rcases h.runs with ⟨-, -, e⟩ | ⟨nf, -⟩
  · subst e
    intro r hr
    rw [List.mem_singleton.mp hr]
    exact Int.le_refl _
  · exact nf.le
theorem Tab.tell (h : Tab S P few) (n : Int) : In (P : Int) few n ↔ S n := by
  rcases h.runs with ⟨a, e1, e2⟩ | ⟨-, t⟩
  · subst e1 e2
    exact ⟨fun _ => a n, fun _ => ⟨(0, 0), by simp, -n, by show (0 : Int) ≤ n + 1 * -n; omega, by show n + 1 * -n ≤ (0 : Int); omega⟩⟩
  · exact t n
theorem Tab.unique (h : Tab S P few) (k : Tab S P few2) : few = few2 := by
  rcases h.runs with ⟨a, e1, e2⟩ | ⟨n1, t1⟩
  · rcases k.runs with ⟨-, -, e3⟩ | ⟨n2, t2⟩
    · rw [e2, e3]
    · exact absurd (fun n => (t2 n).mpr (a n)) n2.not_all
  · rcases k.runs with ⟨a, -, -⟩ | ⟨n2, t2⟩
    · exact absurd (fun n => (t1 n).mpr (a n)) n1.not_all
    · exact n1.unique n2 fun n => (t1 n).trans (t2 n).symm
theorem Tab.both (h : Tab S P few) (k : Tab U q few2) (n1 : ∀ n, In (P : Int) few n ↔ S n) (n2 : ∀ n, In (q : Int) few2 n ↔ U n) (nf : NF 0 (Nat.lcm P q : Nat) ms) (tell : ∀ n, In (Nat.lcm P q : Nat) ms n ↔ In (P : Int) few n ∧ In (q : Int) few2 n) : Tab (fun n => S n ∧ U n) (Nat.lcm P q) ms := by
  refine ⟨Nat.lcm_pos h.pos k.pos, fun n => ?_, .inr ⟨nf, fun n => ?_⟩⟩
  · obtain ⟨c, hc⟩ := Nat.dvd_lcm_left P q
    obtain ⟨d, hd⟩ := Nat.dvd_lcm_right P q
    have e1 := h.per.nmul c n
    have e2 := k.per.nmul d n
    rw [← Int.natCast_mul, ← hc] at e1
    rw [← Int.natCast_mul, ← hd] at e2
    rw [e1, e2]
  · rw [tell, n1, n2]
end
end Lt
section
open Lt
open Classical in
/-- how many members there are, m integers from a on -/
noncomputable def cntS (S : Int → Prop) (a : Int) (m : Nat) : Nat := cnt (fun n => decide (S n)) a m
end
namespace Lt
def sm (f : Nat → Nat) : Nat → Nat
  | 0 => 0
  | n + 1 => sm f n + f n
theorem sm_congr {f g : Nat → Nat} : ∀ {n : Nat}, (∀ i, i < n → f i = g i) → sm f n = sm g n
  | 0, _ => rfl
  | n + 1, h => by
    show sm f n + f n = sm g n + g n
    rw [sm_congr fun i hi => h i (by omega), h n (by omega)]
theorem sm_add {f g : Nat → Nat} : ∀ n : Nat, sm (fun i => f i + g i) n = sm f n + sm g n
  | 0 => rfl
  | n + 1 => by
    show sm (fun i => f i + g i) n + (f n + g n) = sm f n + f n + (sm g n + g n)
    rw [sm_add n]
    omega
theorem sm_zero : ∀ n : Nat, sm (fun _ => 0) n = 0
  | 0 => rfl
  | n + 1 => sm_zero n
theorem sm_const {c : Nat} : ∀ n : Nat, sm (fun _ => c) n = n * c
  | 0 => by rw [Nat.zero_mul]; rfl
  | n + 1 => by
    show sm (fun _ => c) n + c = _
    rw [sm_const n, Nat.add_mul, Nat.one_mul]
theorem sm_mul {f : Nat → Nat} {c : Nat} : ∀ n : Nat, sm f n * c = sm (fun i => f i * c) n
  | 0 => by show 0 * c = 0; omega
  | n + 1 => by
    show (sm f n + f n) * c = sm (fun i => f i * c) n + f n * c
    rw [Nat.add_mul, sm_mul n]
theorem sm_comm {f : Nat → Nat → Nat} {m : Nat} : ∀ n : Nat, sm (fun i => sm (f i) m) n = sm (fun j => sm (fun i => f i j) n) m
  | 0 => (sm_zero m).symm
  | n + 1 => by
    show sm (fun i => sm (f i) m) n + sm (f n) m = sm (fun j => sm (fun i => f i j) n + f n j) m
    rw [sm_comm n, ← sm_add]
theorem sm_list {α : Type} {F : Nat → α → Nat} {n : Nat} : ∀ l : List α, sm (fun i => (l.map (F i)).sum) n = (l.map fun r => sm (fun i => F i r) n).sum
  | [] => sm_zero n
  | r :: l => by
    show sm (fun i => F i r + (l.map (F i)).sum) n = sm (fun i => F i r) n + (l.map fun r => sm (fun i => F i r) n).sum
    rw [sm_add, sm_list l]
theorem sm_split {f : Nat → Nat} {m : Nat} : ∀ n : Nat, sm f (m + n) = sm f m + sm (fun i => f (m + i)) n
  | 0 => rfl
  | n + 1 => by
    show sm f (m + n) + f (m + n) = sm f m + (sm (fun i => f (m + i)) n + f (m + n))
    rw [sm_split n]
    omega
theorem sm_ind {f : Nat → Nat} {i0 : Nat} : ∀ {n : Nat}, (∀ i, i < n → f i = if i = i0 then 1 else 0) → sm f n = if i0 < n then 1 else 0
  | 0, _ => rfl
  | n + 1, h => by
    show sm f n + f n = _
    rw [sm_ind fun i hi => h i (by omega), h n (by omega)]
    by_cases c : i0 < n
    · rw [if_pos c, if_neg (by omega), if_pos (by omega)]
    · rw [if_neg c]
      by_cases d : n = i0
      · rw [if_pos d, if_pos (by omega)]
      · rw [if_neg d, if_neg (by omega)]
def hit (g a : Int) : Nat := if a % g = 0 then 1 else 0
theorem hit_run {p x : Int} (p0 : 0 < p) {m : Nat} (w : (m : Int) ≤ p) : sm (fun i => hit p (x - i)) m = if x % p < m then 1 else 0 := by
  have m0 := Int.emod_nonneg x (show p ≠ 0 by omega)
  have m1 := Int.emod_lt_of_pos x p0
  have e := Int.emod_add_mul_ediv x p
  rw [sm_ind (i0 := (x % p).toNat) fun i hi => ?_]
  · by_cases c : x % p < m
    · rw [if_pos c, if_pos (by omega)]
    · rw [if_neg c, if_neg (by omega)]
  · unfold hit
    have e2 : (x - i) % p = (x % p - i) % p := by
      rw [show x - (i : Int) = (x % p - i) + p * (x / p) by omega, Int.add_mul_emod_self_left]
    rw [e2]
    by_cases c : i = (x % p).toNat
    · rw [if_pos c, if_pos]
      rw [show x % p - (i : Int) = 0 by omega, Int.zero_emod]
    · rw [if_neg c, if_neg]
      intro z
      rcases Int.lt_or_le (x % p) i with y | y
      · rw [show x % p - (i : Int) = (x % p - i + p) + p * (-1) by omega, Int.add_mul_emod_self_left, Int.emod_eq_of_lt (by omega) (by omega)] at z
        omega
      · rw [Int.emod_eq_of_lt (by omega) (by omega)] at z
        omega
/-- two remainders at once -/
theorem crt {p q : Nat} (p0 : 0 < p) (q0 : 0 < q) (a b : Int) : sm (fun n => hit p (n - a) * hit q (n - b)) (Nat.lcm p q) = hit (Nat.gcd p q : Nat) (a - b) := by
  obtain ⟨c, hc⟩ : (Nat.gcd p q : Nat) ∣ p := Nat.gcd_dvd_left p q
  obtain ⟨d, hd⟩ : (Nat.gcd p q : Nat) ∣ q := Nat.gcd_dvd_right p q
  have gpos : 0 < Nat.gcd p q := Nat.gcd_pos_of_pos_left _ p0
  have L0 : 0 < Nat.lcm p q := Nat.lcm_pos p0 q0
  have hp : (p : Int) = (Nat.gcd p q : Nat) * (c : Int) := by exact_mod_cast hc
  have hq : (q : Int) = (Nat.gcd p q : Nat) * (d : Int) := by exact_mod_cast hd
  by_cases z : (a - b) % (Nat.gcd p q : Nat) = 0
  · -- the one
    obtain ⟨x, y, e⟩ := bez p q
    obtain ⟨k, hk⟩ := Int.dvd_of_emod_eq_zero z
    obtain ⟨n1, hn1⟩ : ∃ n1 : Int, n1 = a - p * (x * k) := ⟨_, rfl⟩
    have f1 : n1 - a = p * (-(x * k)) := by rw [hn1, Int.mul_neg]; omega
    have f2 : n1 - b = q * (y * k) := by
      have : (p : Int) * (x * k) + q * (y * k) = (Nat.gcd p q : Nat) * k := by rw [← Int.mul_assoc, ← Int.mul_assoc, ← Int.add_mul, e]
      omega
    have lp : ((p : Nat) : Int) ∣ (Nat.lcm p q : Nat) := Int.natCast_dvd_natCast.mpr (Nat.dvd_lcm_left p q)
    have lq : ((q : Nat) : Int) ∣ (Nat.lcm p q : Nat) := Int.natCast_dvd_natCast.mpr (Nat.dvd_lcm_right p q)
    have m0 := Int.emod_nonneg n1 (show ((Nat.lcm p q : Nat) : Int) ≠ 0 by omega)
    have m1 := Int.emod_lt_of_pos n1 (show (0 : Int) < (Nat.lcm p q : Nat) by omega)
    have me := Int.emod_add_mul_ediv n1 (Nat.lcm p q : Nat)
    have dv : ∀ n : Int, (n - a) % p = 0 ∧ (n - b) % q = 0 ↔ ((Nat.lcm p q : Nat) : Int) ∣ n - n1 := fun n => by
      constructor
      · rintro ⟨u, v⟩
        have u' : ((p : Nat) : Int) ∣ n - n1 := by
          have h1 := Int.dvd_of_emod_eq_zero u
          have h2 : ((p : Nat) : Int) ∣ n1 - a := ⟨_, f1⟩
          have := Int.dvd_sub h1 h2
          rwa [show n - a - (n1 - a) = n - n1 by omega] at this
        have v' : ((q : Nat) : Int) ∣ n - n1 := by
          have h1 := Int.dvd_of_emod_eq_zero v
          have h2 : ((q : Nat) : Int) ∣ n1 - b := ⟨_, f2⟩
          have := Int.dvd_sub h1 h2
          rwa [show n - b - (n1 - b) = n - n1 by omega] at this
        have := Nat.lcm_dvd (Int.ofNat_dvd_left.mp u') (Int.ofNat_dvd_left.mp v')
        exact Int.ofNat_dvd_left.mpr this
      · intro h
        refine ⟨Int.emod_eq_zero_of_dvd ?_, Int.emod_eq_zero_of_dvd ?_⟩
        · have := Int.dvd_add (Int.dvd_trans lp h) (⟨_, f1⟩ : ((p : Nat) : Int) ∣ n1 - a)
          rwa [show n - n1 + (n1 - a) = n - a by omega] at this
        · have := Int.dvd_add (Int.dvd_trans lq h) (⟨_, f2⟩ : ((q : Nat) : Int) ∣ n1 - b)
          rwa [show n - n1 + (n1 - b) = n - b by omega] at this
    rw [sm_ind (i0 := (n1 % (Nat.lcm p q : Nat)).toNat) fun i hi => ?_, if_pos (by omega)]
    · unfold hit; rw [if_pos z]
    · by_cases c1 : ((Nat.lcm p q : Nat) : Int) ∣ i - n1
      · obtain ⟨u, v⟩ := (dv i).mpr c1
        have : i = (n1 % (Nat.lcm p q : Nat)).toNat := by
          have := Int.emod_eq_emod_iff_emod_sub_eq_zero.mpr (Int.emod_eq_zero_of_dvd c1)
          rw [Int.emod_eq_of_lt (by omega) (by omega)] at this
          omega
        rw [if_pos this]
        unfold hit
        rw [if_pos u, if_pos v]
      · have : ¬ i = (n1 % (Nat.lcm p q : Nat)).toNat := fun y => c1 ⟨-(n1 / (Nat.lcm p q : Nat)), by rw [Int.mul_neg]; omega⟩
        rw [if_neg this]
        unfold hit
        by_cases u : ((i : Int) - a) % p = 0
        · rw [if_pos u, if_neg fun v => c1 ((dv i).mp ⟨u, v⟩)]
        · rw [if_neg u, Nat.zero_mul]
  · have : hit (Nat.gcd p q : Nat) (a - b) = 0 := by unfold hit; rw [if_neg z]
    rw [this, sm_congr (g := fun _ => 0) fun i hi => ?_, sm_zero]
    unfold hit
    by_cases u : ((i : Int) - a) % p = 0
    · rw [if_pos u, if_neg]
      intro v
      have h1 := Int.dvd_of_emod_eq_zero u
      have h2 := Int.dvd_of_emod_eq_zero v
      have g1 : ((Nat.gcd p q : Nat) : Int) ∣ p := ⟨c, hp⟩
      have g2 : ((Nat.gcd p q : Nat) : Int) ∣ q := ⟨d, hq⟩
      have := Int.dvd_sub (Int.dvd_trans g2 h2) (Int.dvd_trans g1 h1)
      rw [show (i : Int) - b - (i - a) = a - b by omega] at this
      exact z (Int.emod_eq_zero_of_dvd this)
    · rw [if_neg u, Nat.zero_mul]
/-- an integer is in one run of the least form, or in none -/
theorem sum_aloneN {α : Type} {f : α → Prop} [DecidablePred f] {l : List α} (pw : l.Pairwise fun r s => ¬ (f r ∧ f s)) : ((l.map fun r => if f r then 1 else 0).sum = 1 ∧ ∃ r ∈ l, f r) ∨ ((l.map fun r => if f r then 1 else 0).sum = 0 ∧ ∀ r ∈ l, ¬ f r) := by
  induction l with
  | nil => exact .inr ⟨rfl, fun r hr => nomatch hr⟩
  | cons r rs ih =>
    obtain ⟨a1, a2⟩ := List.pairwise_cons.mp pw
    rw [List.map_cons, List.sum_cons]
    by_cases c : f r
    · rw [if_pos c]
      rcases ih a2 with ⟨-, s, hs, h1⟩ | ⟨h1, -⟩
      · exact absurd ⟨c, h1⟩ (a1 s hs)
      · exact .inl ⟨by omega, r, List.mem_cons_self, c⟩
    · rw [if_neg c]
      rcases ih a2 with ⟨h1, s, hs, h2⟩ | ⟨h1, h2⟩
      · exact .inl ⟨by omega, s, List.mem_cons_of_mem _ hs, h2⟩
      · refine .inr ⟨by omega, fun s hs => ?_⟩
        rcases List.mem_cons.mp hs with rfl | hs
        · exact c
        · exact h2 s hs
def lenN (r : Rn) : Nat := (r.2 - r.1 + 1).toNat
theorem nf_oneN {q : Int} {few : List Rn} (q0 : 0 < q) (h : NF 0 q few) (n : Int) : few.Pairwise fun r s => ¬ ((n - r.1) % q ≤ r.2 - r.1 ∧ (n - s.1) % q ≤ s.2 - s.1) := by
  refine List.Pairwise.imp_of_mem (fun {r s} hr hs ap => ?_) h.ap
  rintro ⟨c, d⟩
  obtain ⟨z, z1, z2⟩ := (in_mod q0 (h.le r hr) n).mp c
  obtain ⟨y, y1, y2⟩ := (in_mod q0 (h.le s hs) n).mp d
  have := h.cl s hs r hr
  have k0 : 0 < q * (y - z) := by rw [Int.mul_sub]; omega
  have k1 : q * (y - z) < q * 1 := by rw [Int.mul_sub]; omega
  have := Int.lt_of_mul_lt_mul_left k1 (by omega)
  have := Int.lt_of_mul_lt_mul_left (show q * 0 < q * (y - z) by rw [Int.mul_zero]; exact k0) (by omega)
  omega
theorem Form.wid {S : Int → Prop} {q : Int} {few : List Rn} (h : Form S q few) : ∀ r ∈ few, r.1 ≤ r.2 ∧ (lenN r : Int) ≤ q := fun r hr => by
  unfold lenN
  rcases h.runs with ⟨-, e⟩ | ⟨nf, -⟩
  · rw [e] at hr
    rw [List.mem_singleton.mp hr]
    have := h.pos
    dsimp only
    omega
  · have := nf.le r hr
    have := nf.cl r hr r hr
    omega
open Classical in
theorem Form.ind {S : Int → Prop} {q : Int} {few : List Rn} (h : Form S q few) (n : Int) : (if S n then 1 else 0) = (few.map fun r => sm (fun i => hit q (n - r.1 - i)) (lenN r)).sum := by
  have e : (few.map fun r => sm (fun i => hit q (n - r.1 - i)) (lenN r)) = few.map fun r => if (n - r.1) % q ≤ r.2 - r.1 then 1 else 0 := List.map_congr_left fun r hr => by
    have w := h.wid r hr
    rw [hit_run h.pos w.2]
    unfold lenN
    by_cases c : (n - r.1) % q ≤ r.2 - r.1
    · rw [if_pos c, if_pos (by omega)]
    · rw [if_neg c, if_neg (by omega)]
  rw [e]
  rcases h.runs with ⟨a, e1⟩ | ⟨nf, al⟩
  · have q1 : q = 1 := by
      have := h.least 1 (by omega) fun n => ⟨fun _ => a _, fun _ => a _⟩
      have := h.pos
      omega
    subst q1
    rw [e1, if_pos (a n)]
    simp [Int.emod_one]
  · rcases sum_aloneN (nf_oneN h.pos nf n) with ⟨a, r, hr, b⟩ | ⟨a, b⟩
    · rw [a, if_pos ((al n).mp ⟨r, hr, (in_mod h.pos (nf.le r hr) n).mp b⟩)]
    · rw [a, if_neg fun z => ?_]
      obtain ⟨r, hr, z⟩ := (al n).mpr z
      exact b r hr ((in_mod h.pos (nf.le r hr) n).mpr z)
theorem sum_mul {α β : Type} {f : α → Nat} {g : β → Nat} (m : List β) : ∀ l : List α, (l.map f).sum * (m.map g).sum = (l.map fun r => (m.map fun s => f r * g s).sum).sum
  | [] => by simp
  | r :: l => by
    rw [List.map_cons, List.sum_cons, List.map_cons, List.sum_cons, Nat.add_mul, sum_mul m l]
    have : f r * (m.map g).sum = (m.map fun s => f r * g s).sum := by
      induction m with
      | nil => rfl
      | cons s m ih => rw [List.map_cons, List.sum_cons, List.map_cons, List.sum_cons, Nat.mul_add, ih]
    omega
theorem sm_sm {f g : Nat → Nat} {n : Nat} : ∀ m : Nat, sm f m * sm g n = sm (fun i => sm (fun j => f i * g j) n) m
  | 0 => by show 0 * _ = 0; omega
  | m + 1 => by
    show (sm f m + f m) * sm g n = sm (fun i => sm (fun j => f i * g j) n) m + sm (fun j => f m * g j) n
    rw [Nat.add_mul, sm_sm m, Nat.mul_comm (f m), sm_mul]
    congr 1
    exact sm_congr fun i _ => Nat.mul_comm _ _
/-- pairs that are alike -/
def prs (g : Int) (r s : Rn) : Nat := sm (fun i => sm (fun j => hit g (r.1 + i - (s.1 + j))) (lenN s)) (lenN r)
def meetN (g : Int) (few few2 : List Rn) : Nat := (few.map fun r => (few2.map fun s => prs g r s).sum).sum
open Classical in
theorem cntS_sm {S : Int → Prop} : ∀ n : Nat, cntS S 0 n = sm (fun i => if S (i : Int) then 1 else 0) n
  | 0 => rfl
  | n + 1 => by
    show cnt (fun n => decide (S n)) 0 n + (if decide (S (0 + (n : Int))) = true then 1 else 0) = sm _ n + _
    rw [show cnt (fun n => decide (S n)) 0 n = cntS S 0 n from rfl, cntS_sm n, show (0 : Int) + n = n by omega]
    by_cases c : S (n : Int) <;> simp [c]
end Lt
namespace Lt
theorem hit_neg {g a : Int} : hit g (-a) = hit g a := by
  unfold hit
  by_cases c : a % g = 0
  · rw [if_pos c, if_pos (Int.emod_eq_zero_of_dvd (Int.dvd_neg.mpr (Int.dvd_of_emod_eq_zero c)))]
  · rw [if_neg c, if_neg fun z => c (Int.emod_eq_zero_of_dvd (Int.dvd_neg.mp (Int.dvd_of_emod_eq_zero z)))]
end Lt
namespace Lt
section
open Classical
/-- what a table tells of an integer -/
def Ind (S : Int → Prop) (p : Int) (few : List Rn) : Prop := ∀ n : Int, (if S n then 1 else 0) = (few.map fun r => sm (fun i => hit p (n - r.1 - i)) (lenN r)).sum
theorem meet_cntI {S U : Int → Prop} {p q : Nat} {few few2 : List Rn} (p0 : 0 < p) (q0 : 0 < q) (h : Ind S (p : Int) few) (k : Ind U (q : Int) few2) : cntS (fun n => S n ∧ U n) 0 (Nat.lcm p q) = meetN (Nat.gcd p q : Nat) few few2 := by
  rw [cntS_sm]
  have e : ∀ n : Nat, n < Nat.lcm p q → (if S (n : Int) ∧ U (n : Int) then 1 else 0) = (few.map fun r => (few2.map fun s => sm (fun i => sm (fun j => hit p (n - r.1 - i) * hit q (n - s.1 - j)) (lenN s)) (lenN r)).sum).sum := fun n _ => by
    have a := h (n : Int)
    have b := k (n : Int)
    have c : (if S (n : Int) ∧ U (n : Int) then 1 else 0) = (if S (n : Int) then 1 else 0) * (if U (n : Int) then 1 else 0) := by
      by_cases x : S (n : Int) <;> by_cases y : U (n : Int) <;> simp [x, y]
    rw [c, a, b, sum_mul]
    congr 1
    refine List.map_congr_left fun r _ => ?_
    congr 1
    exact List.map_congr_left fun s _ => sm_sm _
  have e' : ∀ n : Nat, n < Nat.lcm p q → (@ite Nat (S (n : Int) ∧ U (n : Int)) (Classical.propDecidable _) 1 0) = (few.map fun r => (few2.map fun s => sm (fun i => sm (fun j => hit p (n - r.1 - i) * hit q (n - s.1 - j)) (lenN s)) (lenN r)).sum).sum := fun n hn => by
    rw [← e n hn]
    congr
  rw [sm_congr e', sm_list]
  unfold meetN
  congr 1
  refine List.map_congr_left fun r _ => ?_
  rw [sm_list]
  congr 1
  refine List.map_congr_left fun s _ => ?_
  unfold prs
  rw [sm_comm]
  refine sm_congr fun i _ => ?_
  rw [sm_comm]
  refine sm_congr fun j _ => ?_
  rw [← crt p0 q0]
  refine sm_congr fun n _ => ?_
  rw [show (n : Int) - r.1 - i = n - (r.1 + i) by omega, show (n : Int) - s.1 - j = n - (s.1 + j) by omega]
theorem nf_ind {S : Int → Prop} {q : Int} {few : List Rn} (q0 : 0 < q) (nf : NF 0 q few) (al : ∀ n, In q few n ↔ S n) : Ind S q few := fun n => by
  have e : (few.map fun r => sm (fun i => hit q (n - r.1 - i)) (lenN r)) = few.map fun r => if (n - r.1) % q ≤ r.2 - r.1 then 1 else 0 := List.map_congr_left fun r hr => by
    have le := nf.le r hr
    have cl := nf.cl r hr r hr
    rw [hit_run q0 (show (lenN r : Int) ≤ q by unfold lenN; omega)]
    unfold lenN
    by_cases c : (n - r.1) % q ≤ r.2 - r.1
    · rw [if_pos c, if_pos (by omega)]
    · rw [if_neg c, if_neg (by omega)]
  rw [e]
  rcases sum_aloneN (nf_oneN q0 nf n) with ⟨a, r, hr, b⟩ | ⟨a, b⟩
  · rw [a, if_pos ((al n).mp ⟨r, hr, (in_mod q0 (nf.le r hr) n).mp b⟩)]
  · rw [a, if_neg fun z => ?_]
    obtain ⟨r, hr, z⟩ := (al n).mpr z
    exact b r hr ((in_mod q0 (nf.le r hr) n).mpr z)
theorem Tab.ind {S : Int → Prop} {p : Nat} {few : List Rn} (h : Tab S p few) : Ind S (p : Int) few := by
  rcases h.runs with ⟨a, e1, e2⟩ | ⟨nf, al⟩
  · subst e1 e2
    intro n
    rw [if_pos (a n)]
    show 1 = (0 + hit 1 _) + 0
    unfold hit
    rw [Int.emod_one, if_pos rfl]
  · exact nf_ind (by have := h.pos; omega) nf al
end
theorem prs_one {r : Rn} : prs 1 r (0, 0) = lenN r := by
  unfold prs
  have e : ∀ i : Nat, i < lenN r → sm (fun j => hit 1 (r.1 + (i : Int) - ((0 : Int) + (j : Int)))) (lenN ((0 : Int), (0 : Int))) = 1 := fun i _ => by
    show 0 + hit 1 _ = 1
    unfold hit
    rw [Int.emod_one, if_pos rfl]
  rw [sm_congr e, sm_const, Nat.mul_one]
theorem meet_every : ∀ {few : List Rn}, (∀ r ∈ few, r.1 ≤ r.2) → (meetN (1 : Nat) few [(0, 0)] : Int) = (few.map fun r => r.2 - r.1 + 1).sum
  | [], _ => rfl
  | r :: few, h => by
    have ih := meet_every fun x hx => h x (List.mem_cons_of_mem _ hx)
    have le := h r List.mem_cons_self
    have e : meetN (1 : Nat) (r :: few) [(0, 0)] = lenN r + meetN (1 : Nat) few [(0, 0)] := by
      unfold meetN
      rw [List.map_cons, List.sum_cons]
      congr 1
      show prs 1 r (0, 0) + 0 = _
      rw [prs_one, Nat.add_zero]
    rw [e, Int.natCast_add, ih, List.map_cons, List.sum_cons]
    unfold lenN
    omega
/-- the members of a table in its round -/
theorem Tab.size {S : Int → Prop} {p : Nat} {few : List Rn} (h : Tab S p few) : (few.map fun r : Rn => r.2 - r.1 + 1).sum = ((cntS S 0 p : Nat) : Int) := by
  rw [← meet_every h.le]
  have e := meet_cntI h.pos (by decide) h.ind (Tab.every (S := fun _ => True) fun _ => True.intro).ind
  rw [Nat.lcm_one_right, Nat.gcd_one_right] at e
  rw [← e]
  congr 2
  funext n
  exact propext ⟨fun x => x.1, fun x => ⟨x, True.intro⟩⟩
end Lt
namespace Lt
theorem cnt_smI {S : Int → Bool} {a : Int} : ∀ m : Nat, cnt S a m = sm (fun i => if S (a + i) = true then 1 else 0) m
  | 0 => rfl
  | m + 1 => by
    show cnt S a m + _ = sm _ m + _
    rw [cnt_smI m]
theorem sm_oneJ {f : Nat → Nat} {n : Nat} (h : 0 < n) : f 0 ≤ sm f n := by
  obtain ⟨m, rfl⟩ : ∃ m, n = 1 + m := ⟨n - 1, by omega⟩
  rw [sm_split]
  show f 0 ≤ (0 + f 0) + _
  omega
/-- pairs of a run's integers with the other one's begin, and of the begin with the other one's further integers -/
theorem prs_ge {g : Int} {r s : Rn} (lr : r.1 ≤ r.2) (ls : s.1 ≤ s.2) : sm (fun i => hit g (r.1 + i - s.1)) (lenN r) + sm (fun j => hit g (r.1 - (s.1 + 1 + j))) (lenN s - 1) ≤ prs g r s := by
  unfold prs
  have l1 : 0 < lenN r := by unfold lenN; omega
  have e : ∀ i : Nat, sm (fun j => hit g (r.1 + i - (s.1 + j))) (lenN s) = hit g (r.1 + i - s.1) + sm (fun j => hit g (r.1 + i - (s.1 + 1 + j))) (lenN s - 1) := fun i => by
    have l2 : lenN s = 1 + (lenN s - 1) := by unfold lenN; omega
    rw [l2, sm_split, show 1 + (lenN s - 1) - 1 = lenN s - 1 by omega]
    congr 1
    · show 0 + hit g (r.1 + (i : Int) - (s.1 + ((0 : Nat) : Int))) = _
      rw [Nat.zero_add]
      congr 1
      omega
    · refine sm_congr fun j _ => ?_
      congr 1
      rw [show (((1 + j : Nat) : Int)) = 1 + j by omega]
      omega
  rw [sm_congr fun i _ => e i, sm_add]
  have := sm_oneJ (f := fun i : Nat => sm (fun j => hit g (r.1 + (i : Int) - (s.1 + 1 + j))) (lenN s - 1)) l1
  have e0 : sm (fun j => hit g (r.1 + ((0 : Nat) : Int) - (s.1 + 1 + j))) (lenN s - 1) = sm (fun j => hit g (r.1 - (s.1 + 1 + j))) (lenN s - 1) := sm_congr fun j _ => by
    congr 1
    omega
  rw [e0] at this
  omega
theorem hit_mod {g a x : Int} (g0 : 0 < g) : (if decide (a % g = x % g) = true then 1 else 0) = hit g (a - x) := by
  unfold hit
  by_cases c : a % g = x % g
  · rw [if_pos (decide_eq_true c), if_pos (by rw [Int.sub_emod, c, Int.sub_self, Int.zero_emod])]
  · rw [if_neg (by rw [decide_eq_false c]; exact Bool.false_ne_true), if_neg fun z => c ?_]
    have := Int.emod_emod_of_dvd a (Int.dvd_refl g)
    have e := Int.mul_ediv_add_emod (a - x) g
    rw [z] at e
    rw [show a = x + g * ((a - x) / g) by omega, Int.add_mul_emod_self_left]
theorem countIn_hit {g : Int} {ts : List Rn} {b : Int} {m : Nat} (g0 : 0 < g) : countIn (rems ts g) b m g = (ts.map fun t => ((sm (fun i => hit g (b + i - t.1)) m : Nat) : Int)).sum := by
  rw [countIn_sum g0 (rems_mem g0)]
  unfold rems
  rw [List.map_map]
  congr 1
  refine List.map_congr_left fun t _ => ?_
  show ((cnt (fun n => decide (n % g = t.1 % g)) b m : Nat) : Int) = _
  rw [cnt_smI]
  congr 1
  exact sm_congr fun i _ => hit_mod g0
theorem sum_addI {α : Type} {f g : α → Int} : ∀ l : List α, (l.map fun a => f a + g a).sum = (l.map f).sum + (l.map g).sum
  | [] => rfl
  | a :: l => by
    simp only [List.map_cons, List.sum_cons, sum_addI l]
    omega
theorem sum_zeroI {α : Type} : ∀ l : List α, (l.map fun _ => (0 : Int)).sum = 0
  | [] => rfl
  | a :: l => by simp only [List.map_cons, List.sum_cons, sum_zeroI l]; rfl
theorem sum_swapI {α β : Type} {f : α → β → Int} {m : List β} : ∀ l : List α, (l.map fun a => (m.map fun b => f a b).sum).sum = (m.map fun b => (l.map fun a => f a b).sum).sum
  | [] => (sum_zeroI m).symm
  | a :: l => by
    simp only [List.map_cons, List.sum_cons]
    rw [sum_swapI l, sum_addI]
theorem sum_leI {α : Type} {f g : α → Int} : ∀ {l : List α}, (∀ a ∈ l, f a ≤ g a) → (l.map f).sum ≤ (l.map g).sum
  | [], _ => Int.le_refl _
  | a :: l, h => by
    have h1 := h a List.mem_cons_self
    have h2 := sum_leI fun b hb => h b (List.mem_cons_of_mem _ hb)
    simp only [List.map_cons, List.sum_cons]
    omega
theorem sum_castI {α : Type} {f : α → Nat} : ∀ l : List α, (((l.map f).sum : Nat) : Int) = (l.map fun a => (f a : Int)).sum
  | [] => rfl
  | a :: l => by
    simp only [List.map_cons, List.sum_cons, Int.natCast_add, sum_castI l]
/-- no more meet than pairs of members -/
theorem meets_meet {g : Nat} {rs ts : List Rn} (g0 : 0 < g) (lr : ∀ r ∈ rs, r.1 ≤ r.2) (lt : ∀ t ∈ ts, t.1 ≤ t.2) : meetsN g rs ts ≤ (meetN g rs ts : Nat) := by
  have g1 : (0 : Int) < g := by omega
  have e1 : (rs.map fun r => countIn (rems ts g) r.1 (r.2 - r.1 + 1) g) = rs.map fun r => (ts.map fun t => ((sm (fun i => hit g (r.1 + i - t.1)) (lenN r) : Nat) : Int)).sum := List.map_congr_left fun r hr => by
    have := lr r hr
    rw [show r.2 - r.1 + 1 = ((lenN r : Nat) : Int) by unfold lenN; omega, countIn_hit g1]
  have e2 : (ts.map fun t => countIn (rems rs g) (t.1 + 1) (t.2 - t.1 + 1 - 1) g) = ts.map fun t => (rs.map fun r => ((sm (fun j => hit g (r.1 - (t.1 + 1 + j))) (lenN t - 1) : Nat) : Int)).sum := List.map_congr_left fun t ht => by
    have := lt t ht
    rw [show t.2 - t.1 + 1 - 1 = ((lenN t - 1 : Nat) : Int) by unfold lenN; omega, countIn_hit g1]
    congr 1
    refine List.map_congr_left fun r _ => ?_
    congr 1
    exact sm_congr fun j _ => by rw [← hit_neg]; congr 1; omega
  unfold meetsN meetN
  rw [e1, e2, sum_swapI ts, ← sum_addI, sum_castI]
  refine sum_leI fun r hr => ?_
  rw [← sum_addI, sum_castI]
  refine sum_leI fun t ht => ?_
  have := prs_ge (g := g) (lr r hr) (lt t ht)
  omega
theorem len_sum : ∀ {few : List Rn}, (∀ r ∈ few, r.1 ≤ r.2) → (few.length : Int) ≤ (few.map fun r : Rn => r.2 - r.1 + 1).sum
  | [], _ => Int.le_refl _
  | r :: few, h => by
    have h1 := h r List.mem_cons_self
    have h2 := len_sum fun b hb => h b (List.mem_cons_of_mem _ hb)
    simp only [List.map_cons, List.sum_cons, List.length_cons]
    omega
theorem cntS_leJ {S : Int → Prop} {a : Int} {m : Nat} : cntS S a m ≤ m := by
  unfold cntS
  induction m with
  | zero => exact Nat.le_refl _
  | succ m ih =>
    show cnt _ a m + _ ≤ _
    split <;> omega
/-- no more runs than members -/
theorem Tab.short {S : Int → Prop} {p : Nat} {few : List Rn} (h : Tab S p few) : few.length ≤ cntS S 0 p := by
  have a := len_sum h.le
  rw [h.size] at a
  omega
theorem Tab.shortP {S : Int → Prop} {p : Nat} {few : List Rn} (h : Tab S p few) : few.length ≤ p := Nat.le_trans h.short cntS_leJ
/-- the runs of a round, as they are found -/
theorem Fnd.tab {S : Int → Bool} {q : Nat} {m : Int} {rs : List Rn} (h : Fnd S (q : Int) rs) (q0 : 0 < q) (hq : Per (fun n => S n = true) (q : Int)) (hm : S m = false) : Tab (fun n => S n = true) q rs := by
  have pe : ∀ n z, S (n + (q : Int) * z) = S n := fun n z => Bool.eq_iff_iff.mpr (hq.mul z n)
  have far : ∀ r ∈ rs, ∀ b, r.1 < b → S (b - 1) = false → r.2 + 1 < b := fun r hr b hb hn => by
    obtain ⟨a0, a1, a2, a3, a4, a5⟩ := h.all r hr
    rcases Int.lt_or_le (r.2 + 1) b with k | k
    · exact k
    · rw [a3 (b - 1) (by omega) (by omega)] at hn
      cases hn
  refine ⟨q0, hq, .inr ⟨⟨fun r hr => (h.all r hr).2.2.1, fun r hr => ?_, ?_, fun r hr s hs => ?_⟩, fun n => ⟨?_, fun hn => ?_⟩⟩⟩
  · obtain ⟨a, b, _⟩ := h.all r hr
    omega
  · exact h.srt.imp_of_mem fun {r s} hr hs k => far r hr s.1 k (h.all s hs).2.2.2.2.1
  · obtain ⟨a0, a1, a2, a3, a4, a5⟩ := h.all r hr
    obtain ⟨b0, b1, b2, b3, b4, b5⟩ := h.all s hs
    refine far r hr (s.1 + q) (by omega) ?_
    have := pe (s.1 - 1) 1
    rw [show s.1 - 1 + (q : Int) * 1 = s.1 + q - 1 by omega] at this
    rw [this, b4]
  · rintro ⟨r, hr, z, h1, h2⟩
    have := (h.all r hr).2.2.2.1 _ h1 h2
    rw [pe] at this
    exact this
  · have hn : S n = true := hn
    obtain ⟨m', hm', le⟩ : ∃ m', S m' = false ∧ m' ≤ n := by
      refine ⟨m + (q : Int) * (-((m - n).toNat : Int)), by rw [pe]; exact hm, ?_⟩
      have h0 : (0 : Int) ≤ ((m - n).toNat : Int) := by omega
      have := Int.mul_le_mul_of_nonneg_right (show (1 : Int) ≤ q by omega) h0
      rw [Int.mul_neg]
      omega
    obtain ⟨b, k1, k2, k3⟩ := run_begin hm' (n - m').toNat n (by omega) hn
    have e := Int.mul_ediv_add_emod b q
    have m0 := Int.emod_nonneg b (show (q : Int) ≠ 0 by omega)
    have m1 := Int.emod_lt_of_pos b (show (0 : Int) < q by omega)
    have s1 : S (b % q) = true := by
      have := pe b (-(b / q))
      rw [show b + (q : Int) * (-(b / q)) = b % q by rw [Int.mul_neg]; omega] at this
      rw [this]
      exact k3 b (Int.le_refl _) k1
    have s2 : S (b % q - 1) = false := by
      have := pe (b - 1) (-(b / q))
      rw [show b - 1 + (q : Int) * (-(b / q)) = b % q - 1 by rw [Int.mul_neg]; omega] at this
      rw [this]
      exact k2
    obtain ⟨r, hr, er⟩ := h.ex (b % q) m0 m1 s1 s2
    obtain ⟨a0, a1, a2, a3, a4, a5⟩ := h.all r hr
    refine ⟨r, hr, -(b / q), ?_, ?_⟩
    · rw [Int.mul_neg]
      omega
    · rcases Int.lt_or_le r.2 (n + (q : Int) * (-(b / q))) with k | k
      · exfalso
        have s3 : S (r.2 + 1 + (q : Int) * (b / q)) = true := k3 _ (by omega) (by rw [Int.mul_neg] at k; omega)
        rw [pe, a5] at s3
        cases s3
      · exact k
end Lt
namespace Lt
section
variable {S : Int → Prop} {P n m j : Int} {r : Rn} {few : List Rn}
def LeastFrom (S : Int → Prop) (n m : Int) : Prop := S m ∧ n ≤ m ∧ ∀ j, n ≤ j → j < m → ¬ S j
theorem LeastFrom.unique {m' : Int} (h : LeastFrom S n m) (k : LeastFrom S n m') : m = m' := by
  rcases Int.lt_trichotomy m m' with c | c | c
  · exact absurd h.1 (k.2.2 m h.2.1 c)
  · exact c
  · exact absurd k.1 (h.2.2 m' k.2.1 c)
theorem in_sole (p0 : 0 < P) (le : r.1 ≤ r.2) : In P [r] n ↔ (n - r.1) % P ≤ r.2 - r.1 := by
  rw [in_mod p0 le]
  exact ⟨fun ⟨s, hs, z⟩ => by rw [List.mem_singleton.mp hs] at z; exact z, fun z => ⟨r, List.mem_singleton.mpr rfl, z⟩⟩
theorem in_some : In P few n ↔ ∃ r ∈ few, In P [r] n := by
  constructor
  · rintro ⟨r, hr, z⟩
    exact ⟨r, hr, r, List.mem_singleton.mpr rfl, z⟩
  · rintro ⟨r, hr, s, hs, z⟩
    rw [List.mem_singleton.mp hs] at z
    exact ⟨r, hr, z⟩
/-- where n stands by a run -/
def later (P n : Int) (r : Rn) : Int := r.1 + (n - r.1) / P * P
def spot0 (P n : Int) (r : Rn) : Int := if n ≤ later P n r + r.2 - r.1 then n else later P n r + P
/-- the next one by a run -/
def spot (P n : Int) (r : Rn) : Int := if spot0 P n r ≥ n then spot0 P n r else n
theorem spot_least (p0 : 0 < P) (le : r.1 ≤ r.2) : LeastFrom (In P [r]) n (spot P n r) := by
  have m0 := Int.emod_nonneg (n - r.1) (show P ≠ 0 by omega)
  have m1 := Int.emod_lt_of_pos (n - r.1) p0
  have em := Int.emod_add_mul_ediv (n - r.1) P
  have ec : (n - r.1) / P * P = P * ((n - r.1) / P) := Int.mul_comm _ _
  have el : later P n r = n - (n - r.1) % P := by unfold later; omega
  unfold spot spot0
  rw [el]
  by_cases c : n ≤ n - (n - r.1) % P + r.2 - r.1
  · rw [if_pos c, if_pos (by omega)]
    exact ⟨(in_sole p0 le).mpr (by omega), Int.le_refl _, fun j j0 j1 => by omega⟩
  · rw [if_neg c, if_pos (by omega)]
    refine ⟨(in_sole p0 le).mpr ?_, by omega, fun j j0 j1 => ?_⟩
    · have e : n - (n - r.1) % P + P - r.1 = P * ((n - r.1) / P + 1) := by rw [Int.mul_add]; omega
      rw [e, Int.mul_emod_right]
      omega
    · rw [in_sole p0 le]
      have e : j - r.1 = ((n - r.1) % P + (j - n)) + P * ((n - r.1) / P) := by omega
      rw [e, Int.add_mul_emod_self_left, Int.emod_eq_of_lt (by omega) (by omega)]
      omega
theorem next_least {P : Nat} (t : Tab S P few) (hm : m ∈ few.map (spot P n)) (mn : ∀ y ∈ few.map (spot P n), m ≤ y) : LeastFrom S n m := by
  have p0 : (0 : Int) < P := by have := t.pos; omega
  obtain ⟨r, hr, rfl⟩ := List.mem_map.mp hm
  obtain ⟨a1, a2, a3⟩ := spot_least (n := n) p0 (t.le r hr)
  refine ⟨(t.tell _).mp (in_some.mpr ⟨r, hr, a1⟩), a2, fun j j0 j1 hj => ?_⟩
  obtain ⟨s, hs, z⟩ := in_some.mp ((t.tell j).mpr hj)
  obtain ⟨b1, b2, b3⟩ := spot_least (n := n) p0 (t.le s hs)
  have c := mn _ (List.mem_map.mpr ⟨s, hs, rfl⟩)
  exact b3 j j0 (by omega) z
/-- what a stretch has of another one -/
def ov (lo hi A B : Int) : Int := max 0 (min hi B - max lo A + 1)
theorem ov_step {lo hi A B : Int} (h : lo ≤ hi + 1) : ov lo (hi + 1) A B = ov lo hi A B + (if A ≤ hi + 1 ∧ hi + 1 ≤ B then 1 else 0) := by
  unfold ov
  split
  · omega
  · omega
theorem ov_none {lo A B : Int} : ov lo (lo - 1) A B = 0 := by
  unfold ov
  omega
/-- what a run has of a stretch, in a lap -/
def lapC (P lo hi : Int) (r : Rn) (i : Int) : Int := ov lo hi (r.1 + ((lo - r.1) / P + i) * P) (r.1 + ((lo - r.1) / P + i) * P + r.2 - r.1)
def laps (P lo hi : Int) (r : Rn) : Int := lapC P lo hi r (-1) + lapC P lo hi r 0 + lapC P lo hi r 1 + lapC P lo hi r 2
theorem run_cnt {lo : Int} (p0 : 0 < P) (le : r.1 ≤ r.2) (w : r.2 - r.1 < P) : ∀ m : Nat, (m : Int) ≤ P → (cntS (In P [r]) lo m : Int) = laps P lo (lo + m - 1) r := by
  have m0 := Int.emod_nonneg (lo - r.1) (show P ≠ 0 by omega)
  have m1 := Int.emod_lt_of_pos (lo - r.1) p0
  have em := Int.emod_add_mul_ediv (lo - r.1) P
  obtain ⟨ρ, eρ⟩ : ∃ ρ, ρ = (lo - r.1) % P := ⟨_, rfl⟩
  rw [← eρ] at m0 m1 em
  have mv : ∀ i : Int, r.1 + ((lo - r.1) / P + i) * P = lo - ρ + i * P := fun i => by
    rw [Int.add_mul, Int.mul_comm ((lo - r.1) / P) P]
    omega
  intro m
  induction m with
  | zero =>
    intro _
    unfold laps lapC
    rw [show lo + ((0 : Nat) : Int) - 1 = lo - 1 by omega, ov_none, ov_none, ov_none, ov_none]
    rfl
  | succ m ih =>
    intro hm
    have ih := ih (by omega)
    have hS : In P [r] (lo + m) ↔ ((ρ + m < P ∧ ρ + m ≤ r.2 - r.1) ∨ (P ≤ ρ + m ∧ ρ + m - P ≤ r.2 - r.1)) := by
      rw [in_sole p0 le]
      have e : lo + m - r.1 = (ρ + m) + P * ((lo - r.1) / P) := by omega
      rw [e, Int.add_mul_emod_self_left]
      rcases Int.lt_or_le (ρ + m) P with c | c
      · rw [Int.emod_eq_of_lt (by omega) c]
        omega
      · rw [show ρ + (m : Int) = ρ + m - P + P * 1 by omega, Int.add_mul_emod_self_left, Int.emod_eq_of_lt (by omega) (by omega)]
        omega
    have es : cntS (In P [r]) lo (m + 1) = cntS (In P [r]) lo m + (@ite Nat (In P [r] (lo + m)) (Classical.propDecidable _) 1 0) := by
      unfold cntS
      show cnt _ lo m + _ = _
      congr 1
      by_cases c : In P [r] (lo + m)
      · rw [if_pos c, if_pos (by simpa using c)]
      · rw [if_neg c, if_neg (by simpa using c)]
    have eh : lo + ((m + 1 : Nat) : Int) - 1 = lo + m - 1 + 1 := by omega
    have st : ∀ i : Int, lapC P lo (lo + m - 1 + 1) r i = lapC P lo (lo + m - 1) r i + (if lo - ρ + i * P ≤ lo + m ∧ lo + m ≤ lo - ρ + i * P + r.2 - r.1 then 1 else 0) := fun i => by
      unfold lapC
      rw [mv, ov_step (by omega), show lo + (m : Int) - 1 + 1 = lo + m by omega]
    rw [es, eh]
    unfold laps at ih ⊢
    rw [st, st, st, st]
    have i1 : ¬ (lo - ρ + -1 * P ≤ lo + m ∧ lo + m ≤ lo - ρ + -1 * P + r.2 - r.1) := by omega
    have i4 : ¬ (lo - ρ + 2 * P ≤ lo + m ∧ lo + m ≤ lo - ρ + 2 * P + r.2 - r.1) := by omega
    rw [if_neg i1, if_neg i4]
    by_cases c : In P [r] (lo + m)
    · rw [if_pos c]
      rcases hS.mp c with d | d
      · rw [if_pos (by omega), if_neg (by omega)]
        omega
      · rw [if_neg (by omega), if_pos (by omega)]
        omega
    · rw [if_neg c]
      have d : ¬ ((ρ + m < P ∧ ρ + m ≤ r.2 - r.1) ∨ (P ≤ ρ + m ∧ ρ + m - P ≤ r.2 - r.1)) := fun z => c (hS.mpr z)
      rw [if_neg (by omega), if_neg (by omega)]
      omega
end
end Lt
namespace Lt
theorem cntS_smA {S : Int → Prop} {a : Int} (m : Nat) : cntS S a m = sm (fun i => @ite Nat (S (a + i)) (Classical.propDecidable _) 1 0) m := by
  unfold cntS
  rw [cnt_smI]
  refine sm_congr fun i _ => ?_
  by_cases c : S (a + i)
  · rw [if_pos c, if_pos (by simpa using c)]
  · rw [if_neg c, if_neg (by simpa using c)]
open Classical in
theorem ind_runs {S : Int → Prop} {P : Int} {few : List Rn} (p0 : 0 < P) (nf : NF 0 P few) (al : ∀ n, In P few n ↔ S n) (n : Int) : (if S n then 1 else 0) = (few.map fun r => if In P [r] n then 1 else 0).sum := by
  have e : (few.map fun r => if In P [r] n then 1 else 0) = few.map fun r => if (n - r.1) % P ≤ r.2 - r.1 then 1 else 0 := List.map_congr_left fun r hr => by
    have := in_sole (n := n) p0 (nf.le r hr)
    by_cases c : (n - r.1) % P ≤ r.2 - r.1
    · rw [if_pos c, if_pos (this.mpr c)]
    · rw [if_neg c, if_neg fun z => c (this.mp z)]
  rw [e]
  rcases sum_aloneN (nf_oneN p0 nf n) with ⟨a, r, hr, b⟩ | ⟨a, b⟩
  · rw [a, if_pos ((al n).mp ⟨r, hr, (in_mod p0 (nf.le r hr) n).mp b⟩)]
  · rw [a, if_neg fun z => ?_]
    obtain ⟨r, hr, z⟩ := (al n).mpr z
    exact b r hr ((in_mod p0 (nf.le r hr) n).mpr z)
theorem cnt_runs {S : Int → Prop} {P : Nat} {few : List Rn} {lo : Int} (p0 : 0 < P) (nf : NF 0 (P : Int) few) (al : ∀ n, In (P : Int) few n ↔ S n) {m : Nat} (hm : m ≤ P) : (cntS S lo m : Int) = (few.map (laps P lo (lo + m - 1))).sum := by
  rw [cntS_smA, sm_congr fun i _ => ind_runs (by omega) nf al (lo + i), sm_list, sum_castI]
  congr 1
  refine List.map_congr_left fun r hr => ?_
  rw [← cntS_smA]
  have := nf.cl r hr r hr
  exact run_cnt (by omega) (nf.le r hr) (by omega) m (by omega)
/-- whole rounds -/
theorem cnt_turns {S : Int → Prop} {P : Nat} (per : Per S (P : Int)) (lo : Int) (u : Nat) (p0 : 0 < P) : cntS S lo (P * u) = cntS S 0 P * u := by
  unfold cntS
  have hq : Per (fun n => (fun n => @decide (S n) (Classical.propDecidable _)) n = true) (P : Int) := fun n => by
    exact (@decide_eq_true_iff _ (Classical.propDecidable _)).trans ((per n).trans (@decide_eq_true_iff _ (Classical.propDecidable _)).symm)
  rw [cnt_mul hq]
  congr 1
  rcases Int.le_total 0 lo with c | c
  · obtain ⟨d, rfl⟩ : ∃ d : Nat, lo = d := ⟨lo.toNat, by omega⟩
    have := cnt_round hq 0 d
    rwa [Int.zero_add] at this
  · obtain ⟨d, hd⟩ : ∃ d : Nat, lo + d = 0 := ⟨(-lo).toNat, by omega⟩
    have := cnt_round hq lo d
    rw [hd] at this
    exact this.symm
end Lt
section
variable {P : Program} {w : World} {K : PySem.W.Frag} {mg : Str → Option Value} {base : Heap}
theorem fn_law_pen (B : Bi mg) (F : Df K mg "_law_pen" s_law_pen) : Fn P w K mg base CX0 "_law_pen" 1 (fun vs L Q _ => ∃ (a : Addr) (ns : List Int), vs = [.ref a] ∧ InL K L a (ns.map V.int) ∧ ∀ p c ms, ms.length ≤ 63 → Q (.ref p) ((p, penO c 0 0) :: (c, celO ms) :: L)) := by
  refine fn_plain F sc_law_pen (fun _ _ _ _ _ _ us hl => match us, hl with | [_], _ => rfl) (by decide) (by tm_at "g_len") ?_
  intro X f cdv A outer s H E0 L vs Q E hX nd hr h
  subst hX
  obtain ⟨a, ns, rfl, hi, q⟩ := h
  show GSs _ (defBody s_law_pen) (bodyD Q) [("_law_script", some (.ref a))] L
  refine gss_cons ?_
  tm_at "g"
  refine ⟨a, ns.map V.int, rfl, ?_⟩
  show GE _ _ _ _ _
  tm_at "g"
  refine ⟨hi, fun q1 => ?_⟩
  obtain ⟨ms, hm, em⟩ := cut63 (ns := ns)
  rw [em]
  tm_at "g"
  refine gc_list mem0 fun c => ?_
  tm_at "g"

  exact ⟨_, Sub.sublist (((List.sublist_cons_self _ _).cons_cons _).cons_cons _), q _ c ms hm⟩
theorem fn_law_draw (B : Bi mg) (F : Df K mg "_law_draw" s_law_draw) : Fn P w K mg base CX0 "_law_draw" 1 spDraw := by
  refine fn_plain F sc_law_draw (fun _ _ _ _ _ _ us hl => match us, hl with | [_, _], _ => rfl) (by decide) (by tm_at "g_len") ?_
  intro X f cdv A outer s H E0 L vs Q E hX nd hr h
  subst hX
  obtain ⟨p, c, ns, n, m, many, R, rfl, sb, h63, k1, k2, n0, n1, m0, q⟩ := h
  refine GSs.sub sb ?_
  show GSs _ (defBody s_law_draw) (bodyD Q) [("_law_pen_here", some (.ref p)), ("_law_many_here", some (.int many)), ("_law_digit", none), ("_law_at", none), ("_law_cell", none), ("_law_great", none), ("_law_mixed", none)] _
  refine gss_cons ?_
  tm_at "g"
  refine ite_d (fun hm => ?_) (fun hm => ?_)
  · tm_at "g"
    refine go_modR k1 fun d d0 d1 => ?_
    tm_at "g"
    refine go_divS k1 k2 ?_
    tm_at "g"
    exact ⟨_, Sub.refl, q d n (m / many) d0 d1 n0 (by omega) (Int.ediv_nonneg m0 (by omega))⟩
  tm_at "g"
  refine go_mulS (.inl (by decide)) ?_
  tm_at "gx"
  refine GS.cut (fun θ M => ∃ r : Int, θ = ([("_law_pen_here", some (.ref p)), ("_law_many_here", some (.int many)), ("_law_digit", none), ("_law_at", some (.int n)), ("_law_cell", some (.int r)), ("_law_great", none), ("_law_mixed", none)] : En) ∧ Sub ((p, penO c (n + 1) m) :: (c, celO ns) :: R) M) ?_ ?_
  · tm_at "g"
    refine go_neD (d := .list (ns.map PyData.int)) (e := .list ([].map PyData.int)) hr.toRoom (dl_lst (by tm_at "g_mem") dls_ints) (dl_lst (by tm_at "g_mem") dls_nil) (shapedL _) (shapedL _) ?_
    rw [eqvL]
    tm_at "g"
    refine ite_n (fun hz => ?_) (fun hz => ?_)
    · tm_at "g"
      have hp : 0 < (ns.length : Int) := by
        cases ns with
        | nil => exact absurd rfl hz
        | cons a r => rw [List.length_cons]; omega
      rw [List.length_map]
      refine go_modR hp fun d d0 d1 => ?_
      obtain ⟨k, rfl⟩ : ∃ k : Nat, d = (k : Int) := ⟨d.toNat, by omega⟩
      have hk : k < ns.length := by omega
      refine gi_lst (by tm_at "g_mem") (atI_nat (v := .int ns[k]) (by rw [List.getElem?_map, List.getElem?_eq_getElem hk] <;> rfl)) ?_
      tm_at "g"
      tm_at "g_sub"
    · tm_at "g"
      tm_at "g_sub"
  rintro θ M ⟨raw, rfl, hs⟩
  refine GSs.sub hs ?_
  tm_at "gx"
  refine gs_if (GT.imp (Q := fun k M => M = (p, penO c (n + 1) m) :: (c, celO ns) :: R ∧ (k = true → 1000000000000000000 ≤ (raw.natAbs : Int))) ?_ ?_)
  · tm_at "g"
    refine ite_d (fun _ => ?_) (fun _ => ⟨rfl, fun z => nomatch z⟩)
    tm_at "g"
    refine go_powL (r := 1000000000000000000) ⟨by decide, by decide, by decide⟩ (by decide) ?_
    tm_at "g"
    exact ⟨rfl, fun z => of_decide_eq_true z⟩
  rintro k M ⟨rfl, hk⟩
  refine ite_b (fun e => ?_) (fun e => ?_)
  · have hr1 := hk e
    tm_at "g"
    refine go_powL (r := 1000000000000000000) ⟨by decide, by decide, by decide⟩ (by decide) ?_
    tm_at "g"
    refine go_mulS (.inl (by decide)) ?_
    tm_at "g"
    have g0 : 0 ≤ 2 * ((raw.natAbs : Int) - 1000000000000000000) + (if (decide (raw < 0)) = true then 1 else 0) := by split <;> omega
    refine go_divS k1 k2 ?_
    tm_at "g"
    refine go_modR k1 fun d d0 d1 => ?_
    tm_at "g"
    exact ⟨_, Sub.refl, q d (n + 1) _ d0 d1 (by omega) (by omega) (Int.ediv_nonneg g0 (by omega))⟩
  tm_at "g"
  refine go_modR (by decide) fun a a0 a1 => ?_
  tm_at "g"
  refine go_mulS (.inl (by decide)) ?_
  tm_at "g"
  refine go_powR ⟨by decide, by decide, by omega⟩ fun b => ?_
  tm_at "g"
  refine go_modR (by decide) fun s s0 s1 => ?_
  tm_at "g"
  refine go_mulS (.inl (by decide)) ?_
  tm_at "g"
  have b1 := bnd (t := 2 * n + 329) (B := 200000 + 329) s0 (Int.le_of_lt s1) (by omega) (by omega)
  refine go_mulS (.inl (by omega)) ?_
  tm_at "g"
  refine go_mulS (.inl (by decide)) ?_
  tm_at "g"
  have b2 := bnd (s := 57158 * n) (t := n) (A := 57158 * 100000) (B := 100000) (by omega) (by omega) n0 n1
  refine go_mulS (.inl (by omega)) ?_
  tm_at "g"
  refine go_powR ⟨by decide, by decide, by omega⟩ fun b => ?_
  tm_at "g"
  refine go_modR (by decide) fun s' s0' s1' => ?_
  tm_at "g"
  refine go_divS (by decide) (by decide) ?_
  tm_at "g"
  refine go_modR k1 fun d d0 d1 => ?_
  tm_at "g"
  exact ⟨_, Sub.refl, q d (n + 1) m d0 d1 (by omega) (by omega) m0⟩
end
section
variable {P : Program} {w : World} {K : PySem.W.Frag} {mg : Str → Option Value} {base : Heap}
def spDrawB : SpL := fun vs L Q _ => ∃ (p c : Addr) (ns : List Int) (n m many : Int) (R : Lg), vs = [.ref p, .int many] ∧ Sub ((p, penO c n m) :: (c, celO ns) :: R) L ∧ ns.length ≤ 63 ∧ 0 < many ∧ many.natAbs < 2 ^ 200 ∧ 0 ≤ n ∧ n ≤ 100000 ∧ 0 ≤ m ∧
  ∀ d n' m', 0 ≤ d → d < many → 0 ≤ n' → n' ≤ n + 1 → 0 ≤ m' → Q (.int d) ((p, penO c n' m') :: (c, celO ns) :: R)
theorem fn_law_drawB (B : Bi mg) (F : Df K mg "_law_draw" s_law_draw) : Fn P w K mg base CX0 "_law_draw" 1 spDrawB := by
  refine fn_plain F sc_law_draw (fun _ _ _ _ _ _ us hl => match us, hl with | [_, _], _ => rfl) (by decide) (by tm_at "g_len") ?_
  intro X f cdv A outer s H E0 L vs Q E hX nd hr h
  subst hX
  obtain ⟨p, c, ns, n, m, many, R, rfl, sb, h63, k1, k2, n0, n1, m0, q⟩ := h
  refine GSs.sub sb ?_
  show GSs _ (defBody s_law_draw) (bodyD Q) [("_law_pen_here", some (.ref p)), ("_law_many_here", some (.int many)), ("_law_digit", none), ("_law_at", none), ("_law_cell", none), ("_law_great", none), ("_law_mixed", none)] _
  refine gss_cons ?_
  tm_at "g"
  refine ite_d (fun hm => ?_) (fun hm => ?_)
  · tm_at "g"
    refine go_modR k1 fun d d0 d1 => ?_
    tm_at "g"
    refine go_divK (k := 200) k1 k2 (by decide) ?_
    tm_at "g"
    exact ⟨_, Sub.refl, q d n (m / many) d0 d1 n0 (by omega) (Int.ediv_nonneg m0 (by omega))⟩
  tm_at "g"
  refine go_mulS (.inl (by decide)) ?_
  tm_at "gx"
  refine GS.cut (fun θ M => ∃ r : Int, θ = ([("_law_pen_here", some (.ref p)), ("_law_many_here", some (.int many)), ("_law_digit", none), ("_law_at", some (.int n)), ("_law_cell", some (.int r)), ("_law_great", none), ("_law_mixed", none)] : En) ∧ Sub ((p, penO c (n + 1) m) :: (c, celO ns) :: R) M) ?_ ?_
  · tm_at "g"
    refine go_neD (d := .list (ns.map PyData.int)) (e := .list ([].map PyData.int)) hr.toRoom (dl_lst (by tm_at "g_mem") dls_ints) (dl_lst (by tm_at "g_mem") dls_nil) (shapedL _) (shapedL _) ?_
    rw [eqvL]
    tm_at "g"
    refine ite_n (fun hz => ?_) (fun hz => ?_)
    · tm_at "g"
      have hp : 0 < (ns.length : Int) := by
        cases ns with
        | nil => exact absurd rfl hz
        | cons a r => rw [List.length_cons]; omega
      rw [List.length_map]
      refine go_modR hp fun d d0 d1 => ?_
      obtain ⟨k, rfl⟩ : ∃ k : Nat, d = (k : Int) := ⟨d.toNat, by omega⟩
      have hk : k < ns.length := by omega
      refine gi_lst (by tm_at "g_mem") (atI_nat (v := .int ns[k]) (by rw [List.getElem?_map, List.getElem?_eq_getElem hk] <;> rfl)) ?_
      tm_at "g"
      tm_at "g_sub"
    · tm_at "g"
      tm_at "g_sub"
  rintro θ M ⟨raw, rfl, hs⟩
  refine GSs.sub hs ?_
  tm_at "gx"
  refine gs_if (GT.imp (Q := fun k M => M = (p, penO c (n + 1) m) :: (c, celO ns) :: R ∧ (k = true → 1000000000000000000 ≤ (raw.natAbs : Int))) ?_ ?_)
  · tm_at "g"
    refine ite_d (fun _ => ?_) (fun _ => ⟨rfl, fun z => nomatch z⟩)
    tm_at "g"
    refine go_powL (r := 1000000000000000000) ⟨by decide, by decide, by decide⟩ (by decide) ?_
    tm_at "g"
    exact ⟨rfl, fun z => of_decide_eq_true z⟩
  rintro k M ⟨rfl, hk⟩
  refine ite_b (fun e => ?_) (fun e => ?_)
  · have hr1 := hk e
    tm_at "g"
    refine go_powL (r := 1000000000000000000) ⟨by decide, by decide, by decide⟩ (by decide) ?_
    tm_at "g"
    refine go_mulS (.inl (by decide)) ?_
    tm_at "g"
    have g0 : 0 ≤ 2 * ((raw.natAbs : Int) - 1000000000000000000) + (if (decide (raw < 0)) = true then 1 else 0) := by split <;> omega
    refine go_divK (k := 200) k1 k2 (by decide) ?_
    tm_at "g"
    refine go_modR k1 fun d d0 d1 => ?_
    tm_at "g"
    exact ⟨_, Sub.refl, q d (n + 1) _ d0 d1 (by omega) (by omega) (Int.ediv_nonneg g0 (by omega))⟩
  tm_at "g"
  refine go_modR (by decide) fun a a0 a1 => ?_
  tm_at "g"
  refine go_mulS (.inl (by decide)) ?_
  tm_at "g"
  refine go_powR ⟨by decide, by decide, by omega⟩ fun b => ?_
  tm_at "g"
  refine go_modR (by decide) fun s s0 s1 => ?_
  tm_at "g"
  refine go_mulS (.inl (by decide)) ?_
  tm_at "g"
  have b1 := bnd (t := 2 * n + 329) (B := 200000 + 329) s0 (Int.le_of_lt s1) (by omega) (by omega)
  refine go_mulS (.inl (by omega)) ?_
  tm_at "g"
  refine go_mulS (.inl (by decide)) ?_
  tm_at "g"
  have b2 := bnd (s := 57158 * n) (t := n) (A := 57158 * 100000) (B := 100000) (by omega) (by omega) n0 n1
  refine go_mulS (.inl (by omega)) ?_
  tm_at "g"
  refine go_powR ⟨by decide, by decide, by omega⟩ fun b => ?_
  tm_at "g"
  refine go_modR (by decide) fun s' s0' s1' => ?_
  tm_at "g"
  refine go_divS (by decide) (by decide) ?_
  tm_at "g"
  refine go_modR k1 fun d d0 d1 => ?_
  tm_at "g"
  exact ⟨_, Sub.refl, q d (n + 1) m d0 d1 (by omega) (by omega) m0⟩
end
section
variable {P : Program} {w : World} {K : PySem.W.Frag} {mg : Str → Option Value} {base : Heap} {C : Addr}
theorem fn_law_pick (B : Bi mg) (F : Df K mg "_law_pick" s_law_pick) (D1 : Fn P w K mg base CX0 "_law_draw" 1 spDraw) : Fn P w K mg base CX0 "_law_pick" 2 spPick := by
  refine fn_plain F sc_law_pick (fun _ _ _ _ _ _ us hl => match us, hl with | [_, _], _ => rfl) (by decide) (by tm_at "g_len") ?_
  intro X f cdv A outer s H E0 L vs Q E hX nd hr h
  subst hX
  obtain ⟨p, c, q, ns, xs, n, m, R, rfl, sb, mq, h63, l0, l1, n0, n1, m0, qq⟩ := h
  refine GSs.sub sb ?_
  show GSs _ (defBody s_law_pick) (bodyD Q) [("_law_pen_here", some (.ref p)), ("_law_some_here", some (.ref q))] _
  refine gss_cons ?_
  tm_at "g"
  refine ge_call (El := NoX) D1 hr passA ?_
  tm_at "g"
  refine ⟨p, c, ns, n, m, xs.length, R, rfl, Sub.refl, h63, by omega, by omega, n0, n1, m0, fun d n' m' d0 d1 a0 a1 a2 => ?_⟩
  obtain ⟨k, rfl⟩ : ∃ k : Nat, d = (k : Int) := ⟨d.toNat, by omega⟩
  have hk : k < xs.length := by omega
  refine gi_lst (memS (memS mq)) (atI_nat (v := xs[k]) (List.getElem?_eq_getElem hk)) ?_
  tm_at "g"
  exact ⟨_, Sub.refl, qq k _ n' m' (List.getElem?_eq_getElem hk) a0 a1 a2⟩
end
section
open Lt
/-- is_whole of an integer -/
def spWholeI : SpL := fun vs L Q _ => ∃ i : Int, vs = [.int i] ∧ Q (.bl true) L
def spIsRun : SpL := fun vs L Q _ => ∃ (t : Addr) (a b : Int), vs = [.ref t] ∧ (t, HO.tup [.int a, .int b]) ∈ L ∧ Q (.bl (decide (a ≤ b))) L
def spLen : SpL := fun vs L Q _ => ∃ (t : Addr) (a b : Int), vs = [.ref t] ∧ (t, HO.tup [.int a, .int b]) ∈ L ∧ Q (.int (b - a + 1)) L
/-- a row of runs as a new list -/
def NewRows (R : List Rn → Prop) (L : Lg) (Q : QV) : Prop := ∀ (f : Addr) (ps : List Pr2) (M : Lg), Sub L M → (f, HO.lst (prV ps)) ∈ M → Prs2 ps M → R (ps.map (·.2)) → Q (.ref f) M
def spMelted : SpL := fun vs L Q _ => ∃ (r : Addr) (ps : List Pr2), vs = [.ref r] ∧ (r, HO.lst (prV ps)) ∈ L ∧ Prs2 ps L ∧ ps.length ≤ 100000 ∧ (∀ e ∈ ps, e.2.1 ≤ e.2.2) ∧ (ps.map (·.2)).Pairwise le2 ∧ NewRows (fun rs => Melt (ps.map (·.2)) rs ∧ rs.length ≤ ps.length) L Q
variable {P : Program} {w : World} {K : PySem.W.Frag} {mg : Str → Option Value} {base : Heap}
theorem fn_is_wholeI (B : Bi mg) (F : Df K mg "is_whole" s_is_whole) : Fn P w K mg base CX0 "is_whole" 1 spWholeI := by
  refine fn_plain F sc_is_whole (fun _ _ _ _ _ _ us hl => match us, hl with | [_], _ => rfl) (by decide) (by tm_at "g_len") ?_
  intro X f cdv A outer s H E0 L vs Q E hX nd hr h
  subst hX
  obtain ⟨i, rfl, q⟩ := h
  show GSs _ (defBody s_is_whole) (bodyD Q) [("value", some (.int i))] L
  refine gss_cons ?_
  tm_at "g"
  refine gc_isK .int kb_int_int ?_
  tm_at "g"
  refine gc_isK .int kb_int_bool ?_
  tm_at "g"
  exact ⟨_, Sub.refl, q⟩
theorem fn_is_run (B : Bi mg) (F : Df K mg "is_run" s_is_run) (D1 : Fn P w K mg base CX0 "is_whole" 1 spWholeI) : Fn P w K mg base CX0 "is_run" 2 spIsRun := by
  refine fn_plain F sc_is_run (fun _ _ _ _ _ _ us hl => match us, hl with | [_], _ => rfl) (by decide) (by tm_at "g_len") ?_
  intro X f cdv A outer s H E0 L vs Q E hX nd hr h
  subst hX
  obtain ⟨t, a, b, rfl, m, q⟩ := h
  show GSs _ (defBody s_is_run) (bodyD Q) [("value", some (.ref t))] L
  refine gss_cons ?_
  tm_at "g"
  refine gc_isK (.tup m) kb_tuple_tuple ?_
  tm_at "g"
  rw [show (!decide ((([.int a, .int b] : List V).length : Int) = 2)) = false from rfl]
  tm_at "g"
  refine ge_call (El := NoX) D1 hr passA ?_
  tm_at "g"
  refine ⟨a, rfl, ?_⟩
  tm_at "g"
  refine ge_call (El := NoX) D1 hr passA ?_
  tm_at "g"
  refine ⟨b, rfl, ?_⟩
  tm_at "g"
  exact ⟨_, Sub.refl, q⟩
theorem fn_length_of (F : Df K mg "length_of" s_length_of) : Fn P w K mg base CX0 "length_of" 1 spLen := by
  refine fn_plain F sc_length_of (fun _ _ _ _ _ _ us hl => match us, hl with | [_], _ => rfl) (by decide) (by tm_at "g_len") ?_
  intro X f cdv A outer s H E0 L vs Q E hX nd hr h
  subst hX
  obtain ⟨t, a, b, rfl, m, q⟩ := h
  show GSs _ (defBody s_length_of) (bodyD Q) [("run", some (.ref t))] L
  refine gss_cons ?_
  tm_at "g"
  exact ⟨_, Sub.refl, q⟩
theorem fn_melted (B : Bi mg) (F : Df K mg "melted" s_melted) : Fn P w K mg base CX0 "melted" 1 spMelted := by
  refine fn_plain F sc_melted (fun _ _ _ _ _ _ us hl => match us, hl with | [_], _ => rfl) (by decide) (by tm_at "g_len") ?_
  intro X f cdv A outer s H E0 L vs Q E hX nd hr h
  subst hX
  obtain ⟨r, ps, rfl, m, hp, hl, hle, hs, q⟩ := h
  show GSs _ (defBody s_melted) (bodyD Q) [("runs", some (.ref r)), ("found", none), ("run", none)] L
  refine gss_cons ?_
  tm_at "g"
  refine gs_for (gi_list ?_)
  tm_at "g"
  refine ⟨fun i θ M => ∃ (g : Addr) (qs : List Pr2) (u : Option V), θ = ([("runs", some (.ref r)), ("found", some (.ref g)), ("run", u)] : En) ∧ Sub L M ∧ (g, HO.lst (prV qs)) ∈ M ∧ Prs2 qs M ∧ Melt ((ps.take i).map (·.2)) (qs.map (·.2)) ∧ qs.length ≤ i, ?_, ?_, ?_, ?_⟩
  · exact ⟨_, [], none, rfl, Sub.drop, mem0, fun e h => (nomatch h), Melt.nil, Nat.zero_le _⟩
  · exact fun i θ M hi nd ⟨g, qs, u, _, sb, _⟩ => (sb.to nd).2 _ m
  · rintro i x E1 θ M hi ⟨hx, rfl⟩ ⟨g, qs, u, rfl, sb, mg', hq, hm, hn⟩
    obtain ⟨e, he, rfl⟩ : ∃ e, ps[i]? = some e ∧ V.ref e.1 = x := by
      have hx : (prV ps)[i]? = some x := hx
      unfold prV at hx
      rw [List.getElem?_map] at hx
      exact Option.map_eq_some_iff.mp hx
    have em := List.mem_of_getElem? he
    have hle1 := hle e em
    have il : i < ps.length := (List.getElem?_eq_some_iff.mp he).1
    dsimp only [List.nil_append]
    have et : (ps.take (i + 1)).map (·.2) = (ps.take i).map (·.2) ++ [e.2] := by
      rw [List.take_succ, he, List.map_append]
      rfl
    have srt : ∀ r ∈ (ps.take i).map (·.2), r.1 ≤ e.2.1 := fun r hr' => by
      have e2 : (ps.map (·.2)) = (ps.take i).map (·.2) ++ (ps.drop i).map (·.2) := by rw [← List.map_append, List.take_append_drop]
      rw [e2] at hs
      have := (List.pairwise_append.mp hs).2.2 r hr' e.2 (List.mem_map.mpr ⟨e, List.mem_iff_getElem?.mpr ⟨0, by rw [List.getElem?_drop]; exact he⟩, rfl⟩)
      unfold le2 at this
      omega
    have step := hm.step hle1 srt
    rw [← et] at step
    refine GG.nd fun ndM => ?_
    have me : (e.1, HO.tup [.int e.2.1, .int e.2.2]) ∈ M := (sb.to ndM).2 _ (hp e em)
    refine gg_name (by tm_at "g_pv") ?_
    tm_at "g"
    refine go_nePN (ps := qs) hr (by tm_at "g_mem") (by tm_at "g_mem") rfl (Prs2.mono hq fun _ => memS) ?_
    rcases List.eq_nil_or_concat qs with rfl | ⟨ms, l, rfl⟩
    · refine ⟨false, rfl, ite_f ?_⟩
      tm_at "g"
      have mg0 : (g, HO.lst []) ∈ M := mg'
      refine ⟨g, [], rfl, .inr (by tm_at "g_mem"), ?_⟩
      tm_at "g"
      refine ⟨_, [e], _, rfl, Sub.trans sb (by tm_at "g_end"), mem0, ?_, ?_, by show 1 ≤ i + 1; omega⟩
      · intro x hx
        rw [List.mem_singleton.mp hx]
        tm_at "g_mem"
      · exact step
    · rw [List.concat_eq_append] at *
      have mg2 : (g, HO.lst (prV ms ++ [V.ref l.1])) ∈ M := by
        unfold prV at mg' ⊢
        rw [List.map_append] at mg'
        exact mg'
      have ml := hq l (List.mem_append_right _ (List.mem_singleton.mpr rfl))
      have qm : Prs2 ms M := fun x hx => hq x (List.mem_append_left _ hx)
      rw [show (ms ++ [l]).isEmpty = false by cases ms <;> rfl]
      rw [List.map_append] at step
      have step2 := step
      rw [show List.map (fun x : Pr2 => x.2) [l] = [l.2] from rfl, mstep_snoc] at step2
      tm_at "g"
      refine gi_lst (by exact memS mg2) (atI_last _ _) ?_
      tm_at "g"
      refine ite_d (fun c => ?_) (fun c => ?_)
      · rw [if_pos c] at step2
        tm_at "g"
        refine ⟨g, prV ms ++ [V.ref l.1], rfl, ?_⟩
        show GE _ _ _ _ _
        tm_at "g"
        refine ⟨fun H hH => sql hH (memS mg2), fun q1 => ?_⟩
        rw [show (-1 : Int) = -1 from rfl, cut_front]
        refine ⟨q1, _, rfl, .inr mem0, ?_⟩
        tm_at "g"
        refine gi_lst (by exact memS (memS mg2)) (atI_last _ _) ?_
        tm_at "g"
        refine gi_lst (by exact memS (memS mg2)) (atI_last _ _) ?_
        tm_at "g"
        rename_i tp
        have nl : ms.length + 1 ≤ i := by
          rw [List.length_append] at hn
          exact hn
        refine ⟨szL (by unfold prV; simp only [List.length_append, List.length_map, List.length_cons, List.length_nil]; omega), fun f2 => ?_⟩
        tm_at "g"
        refine ⟨f2, ms ++ [(tp, (l.2.1, if l.2.2 < e.2.2 then e.2.2 else l.2.2))], _, rfl, Sub.trans sb (by tm_at "g_end"), by unfold prV; rw [List.map_append]; exact mem0, ?_, ?_, ?_⟩
        · refine Prs2.snoc (qm.mono fun x hx => by tm_at "g_mem") ?_
          tm_at "g_mem"
        · rw [List.map_append]
          exact step2
        · rw [List.length_append]
          show ms.length + 1 ≤ i + 1
          omega
      · rw [if_neg c] at step2
        tm_at "g"
        refine ⟨g, prV ms ++ [V.ref l.1], rfl, .inr (memS mg2), ?_⟩
        tm_at "g"
        have nl : ms.length + 1 ≤ i := by
          rw [List.length_append] at hn
          exact hn
        refine ⟨szL (by unfold prV; simp only [List.length_append, List.length_map, List.length_cons, List.length_nil]; omega), fun f2 => ?_⟩
        tm_at "g"
        refine ⟨f2, ms ++ [l] ++ [e], _, rfl, Sub.trans sb (by tm_at "g_end"), by unfold prV; rw [List.map_append, List.map_append]; exact mem0, ?_, ?_, ?_⟩
        · refine Prs2.snoc (hq.mono fun x hx => by tm_at "g_mem") ?_
          tm_at "g_mem"
        · rw [List.map_append, List.map_append]
          exact step2
        · simp only [List.length_append, List.length_cons, List.length_nil]
          omega
  · rintro θ M ⟨g, qs, u, rfl, sb, mg', hq, hm, hn⟩
    tm_at "g"
    have hn : qs.length ≤ (prV ps).length := hn
    unfold prV at hn
    rw [List.length_map] at hn
    refine ⟨_, Sub.refl, q g qs M sb mg' hq ⟨?_, ?_⟩⟩
    · have e : ps.take (prV ps).length = ps := List.take_of_length_le (by unfold prV; rw [List.length_map]; exact Nat.le_refl _)
      have hm : Melt ((ps.take (prV ps).length).map (·.2)) (qs.map (·.2)) := hm
      rw [e] at hm
      exact hm
    · rw [List.length_map]
      exact hn
end
section
open Lt
variable {P : Program} {w : World} {K : PySem.W.Frag} {mg : Str → Option Value} {base : Heap}
/-- what the closing of a round gives -/
def Closed (p : Int) (all : List Rn) (b : Int) (rs : List Rn) : Prop := ∃ m e, rs = m ++ [(b, e)] ∧ (p ≤ e - b + 1 → ∀ n, In p all n) ∧ (e - b + 1 < p → NF 0 p rs ∧ ∀ n, In p rs n ↔ In p all n) ∧ rs.length ≤ all.length
def spClosed : SpL := fun vs L Q _ => ∃ (p : Int) (r : Addr) (ms : List Pr2) (l : Pr2), vs = [.int p, .ref r] ∧ (r, HO.lst (prV ms ++ [V.ref l.1])) ∈ L ∧ Prs2 (ms ++ [l]) L ∧ ms.length ≤ 100000 ∧
  (∀ r ∈ (ms.map (·.2)) ++ [l.2], r.1 ≤ r.2) ∧ ((ms.map (·.2)) ++ [l.2]).Pairwise (fun r s => r.2 + 1 < s.1) ∧ (∀ r ∈ (ms.map (·.2)) ++ [l.2], 0 ≤ r.1 ∧ r.1 < p) ∧ NewRows (Closed p ((ms.map (·.2)) ++ [l.2]) l.2.1) L Q
theorem at_prV {ms : List Pr2} {l : Pr2} {k : Nat} {x : Pr2} (h : ms[k]? = some x) : atI (prV ms ++ [V.ref l.1]) (k : Int) = some (.ref x.1) := atI_nat (by
  have hk := (List.getElem?_eq_some_iff.mp h).1
  unfold prV
  rw [List.getElem?_append_left (by rw [List.length_map]; exact hk), List.getElem?_map, h]
  rfl)
theorem fn_closed_round (B : Bi mg) (F : Df K mg "closed_round" s_closed_round) : Fn P w K mg base CX0 "closed_round" 1 spClosed := by
  refine fn_plain F sc_closed_round (fun _ _ _ _ _ _ us hl => match us, hl with | [_, _], _ => rfl) (by decide) (by tm_at "g_len") ?_
  intro X f cdv A outer s H E0 L vs Q E hX nd hr h
  subst hX
  obtain ⟨p, r, ms, l, rfl, m, hp, hl, le, ap, wd, q⟩ := h
  have ml := hp l (List.mem_append_right _ (List.mem_singleton.mpr rfl))
  have lm : (ms.map (·.2)).length = ms.length := List.length_map ..
  show GSs _ (defBody s_closed_round) (bodyD Q) [("period", some (.int p)), ("runs", some (.ref r)), ("many", none), ("end", none)] L
  refine gss_cons ?_
  tm_at "g"
  refine gi_lst m (atI_last _ _) ?_
  tm_at "g"
  have len : ((prV ms ++ [V.ref l.1]).length : Int) = ms.length + 1 := by
    unfold prV
    rw [List.length_append, List.length_map]
    rfl
  refine GS.cut (fun θ M => ∃ (k : Nat) (e : Int), θ = ([("period", some (.int p)), ("runs", some (.ref r)), ("many", some (.int k)), ("end", some (.int e))] : En) ∧ Sub L M ∧ Clo p (ms.map (·.2)) l.2 k e ∧ ∀ x, (ms.map (·.2))[k]? = some x → e + 1 < x.1 + p) ?_ ?_
  · refine gs_while (fun n θ M => ∃ (k : Nat) (e : Int), θ = ([("period", some (.int p)), ("runs", some (.ref r)), ("many", some (.int k)), ("end", some (.int e))] : En) ∧ Sub L M ∧ Clo p (ms.map (·.2)) l.2 k e ∧ n = ms.length - k) ms.length ⟨0, l.2.2, rfl, Sub.refl, .zero, rfl⟩ ?_
    rintro n θ M ⟨k, e, rfl, sb, c, rfl⟩
    refine GT.sub sb ?_
    have kl := c.kl
    rw [lm] at kl
    tm_at "g"
    rw [len]
    refine ite_d (fun z => ?_) (fun z => ?_)
    · have kl2 : k < ms.length := by omega
      obtain ⟨x, hx⟩ : ∃ x, ms[k]? = some x := ⟨_, List.getElem?_eq_getElem kl2⟩
      have mx := hp x (List.mem_append_left _ (List.mem_of_getElem? hx))
      have hx2 : (ms.map (·.2))[k]? = some x.2 := by rw [List.getElem?_map, hx]; rfl
      tm_at "g"
      refine gi_lst (by tm_at "g_mem") (at_prV hx) ?_
      tm_at "g"
      refine ite_d (fun z2 => ?_) (fun z2 => ?_)
      · tm_at "g"
        refine gi_lst (by tm_at "g_mem") (at_prV hx) ?_
        tm_at "g"
        exact ⟨_, by omega, k + 1, _, rfl, Sub.refl, c.step hx2 z2, rfl⟩
      · exact ⟨k, e, rfl, Sub.refl, c, fun y hy => by
          obtain rfl := Option.some.inj (hx2.symm.trans hy)
          omega⟩
    · refine ⟨k, e, rfl, Sub.refl, c, fun y hy => ?_⟩
      have := (List.getElem?_eq_some_iff.mp hy).1
      rw [lm] at this
      omega
  rintro θ M ⟨k, e, rfl, sb, c, out⟩
  refine GSs.sub sb ?_
  have kl := c.kl
  rw [lm] at kl
  tm_at "g"
  refine ⟨r, prV ms ++ [V.ref l.1], rfl, ?_⟩
  show GE _ _ _ _ _
  tm_at "g"
  show GE _ _ _ _ _
  tm_at "g"
  refine ⟨fun H hH => sql hH m, fun q1 => ?_⟩
  rw [cut_mid (by unfold prV; rw [List.length_map]; exact kl)]
  refine ⟨q1, _, rfl, .inr mem0, ?_⟩
  tm_at "g"
  refine gi_lst (by tm_at "g_mem") (atI_last _ _) ?_
  tm_at "g"
  rename_i tp
  refine ⟨szL (by unfold prV; simp only [List.length_append, List.length_drop, List.length_map, List.length_cons, List.length_nil]; omega), fun f2 => ?_⟩
  tm_at "g"
  have d := c.done le ap wd out
  refine ⟨_, Sub.refl, q f2 (ms.drop k ++ [(tp, (l.2.1, e))]) _ (by tm_at "g_end") ?_ ?_ ⟨(ms.map (·.2)).drop k, e, ?_, d.1, ?_, ?_⟩⟩
  · unfold prV
    rw [List.map_append, List.map_drop]
    exact mem0
  · exact Prs2.snoc (fun x hx => memS (memS (memS (hp x (List.mem_append_left _ (List.mem_of_mem_drop hx)))))) (memS mem0)
  · rw [List.map_append, List.map_drop]
    rfl
  · rw [List.map_append, List.map_drop]
    exact d.2
  · simp only [List.length_map, List.length_append, List.length_drop, List.length_cons, List.length_nil]
    omega
end
section
open Lt
variable {P : Program} {w : World} {K : PySem.W.Frag} {mg : Str → Option Value} {base : Heap}
abbrev prO (r : Rn) : HO := .tup [.int r.1, .int r.2]
theorem pairs_of {es : Lg} {ds : List Rn} (h : es.map (·.2) = ds.map prO) : ∃ ps : List Pr2, ps.map (fun e => (e.1, prO e.2)) = es ∧ ps.map (·.2) = ds := es_pairs h
theorem prs_of {ps : List Pr2} {es : Lg} (h : ps.map (fun e => (e.1, prO e.2)) = es) (L : Lg) : Prs2 ps (es ++ L) := fun e he => List.mem_append_left _ (h ▸ List.mem_map.mpr ⟨e, he, rfl⟩)
theorem refs_of {ps : List Pr2} {es : Lg} (h : ps.map (fun e => (e.1, prO e.2)) = es) : refs es = prV ps := by
  subst h
  unfold refs prV
  rw [List.map_map]
  rfl
def spMaximal : SpL := fun vs L Q _ => ∃ (p : Int) (r : Addr) (o : HO) (ps : List Pr2), vs = [.int p, .ref r] ∧ RowO o (prV ps) ∧ (r, o) ∈ L ∧ Prs2 ps L ∧ ps.length ≤ 100000 ∧ 1 ≤ p ∧ (∀ e ∈ ps, e.2.1 ≤ e.2.2) ∧ NewRows (fun rs => Mx p (ps.map (·.2)) rs ∧ rs.length ≤ ps.length) L Q
theorem fn_maximal (B : Bi mg) (F : Df K mg "maximal" s_maximal) (D1 : Fn P w K mg base CX0 "length_of" 1 spLen) (D2 : Fn P w K mg base CX0 "melted" 1 spMelted) (D3 : Fn P w K mg base CX0 "closed_round" 1 spClosed) : Fn P w K mg base CX0 "maximal" 2 spMaximal := by
  refine fn_plain F sc_maximal (fun _ _ _ _ _ _ us hl => match us, hl with | [_, _], _ => rfl) (by decide) (by tm_at "g_len") ?_
  intro X f cdv A outer s H E0 L vs Q E hX nd hr h
  subst hX
  obtain ⟨p, r, o, ps, rfl, ro, m, hp, hl, p1, le, q⟩ := h
  show GSs _ (defBody s_maximal) (bodyD Q) [("period", some (.int p)), ("runs", some (.ref r)), ("moved", none), ("found", none), ("run", none)] L
  refine gss_cons ?_
  tm_at "g"
  refine ge_lcP (by tm_at "g_put") (gi_rowO ro ?_) (show blkC N_maximal (defScope s_maximal) _ [(_, List.idxOf _ N_maximal)] = true by decide +kernel)
  tm_at "g"
  refine ⟨m, ?_⟩
  refine pure_rowPr (t := fun _ => true) (g := fun e => .bl (decide (p ≤ e.2.2 - e.2.1 + 1))) m (by omega) (fun e he D acc s1 H1 C1 cl1 fp1 => ?_) fun D => ?_
  · refine gts_nil ⟨rfl, Sub.refl, fun _ s2 H2 C2 cl2 fp2 => ?_⟩
    tm_at "g"
    refine ge_call (El := NoX) D1 hr passA ?_
    tm_at "g"
    refine ⟨_, _, _, rfl, memS (hp e he), ?_⟩
    tm_at "g"
    exact ⟨rfl, Sub.refl⟩
  rw [List.filter_eq_self.mpr fun _ _ => rfl]
  have eb : ps.map (fun e : Pr2 => V.bl (decide (p ≤ e.2.2 - e.2.1 + 1))) = (ps.map fun e => decide (p ≤ e.2.2 - e.2.1 + 1)).map V.bl := by
    rw [List.map_map]
    rfl
  rw [eb]
  tm_at "g"
  refine gc_anyB (by rfl) mem0 ?_
  refine ⟨_, rfl, ite_b (fun z => ?_) (fun z => ?_)⟩
  · -- a run as long as a round
    obtain ⟨e, he, hz⟩ : ∃ e ∈ ps, p ≤ e.2.2 - e.2.1 + 1 := by
      obtain ⟨b, hb, hz⟩ := List.any_eq_true.mp z
      obtain ⟨e, he, rfl⟩ := List.mem_map.mp hb
      exact ⟨e, he, of_decide_eq_true hz⟩
    tm_at "g"
    rename_i t1 t2
    refine ⟨_, Sub.refl, q t2 [(t1, (0, p - 1))] _ (Sub.drop.trans (Sub.drop.trans Sub.drop)) mem0 ?_ ⟨.inl ⟨rfl, fun n => ?_⟩, ?_⟩⟩
    · intro x hx
      rw [List.mem_singleton.mp hx]
      exact memS mem0
    · exact in_long (r := e.2) (by omega) (List.mem_map.mpr ⟨e, he, rfl⟩) hz n
    · exact List.length_pos_of_mem he
  · have short : ∀ e ∈ ps, e.2.2 - e.2.1 + 1 < p := fun e he => by
      have := List.any_eq_false.mp z (decide (p ≤ e.2.2 - e.2.1 + 1)) (List.mem_map.mpr ⟨e, he, rfl⟩)
      simp at this
      omega
    tm_at "g"
    refine ge_lcF (by tm_at "g_put") (gi_rowO ro ?_) (show blkC N_maximal (defScope s_maximal) _ [(_, List.idxOf _ N_maximal)] = true by decide +kernel)
    tm_at "g"
    refine ⟨memS m, ?_⟩
    refine fresh_rowPr (t := fun _ => true) (pl := fun e => prO (into p e.2)) (memS m) (by omega) (fun e he N hN s1 H1 C1 cl1 fp1 => ?_) fun d2 es hes => ?_
    · have me := hN _ (memS (hp e he))
      refine gts_nil ⟨rfl, Sub.refl, fun _ s2 H2 C2 cl2 fp2 => ?_⟩
      tm_at "g"
      refine go_mod p1 ?_
      tm_at "g"
      refine go_mod p1 ?_
      tm_at "g"
      refine ge_call (El := NoX) D1 hr passA ?_
      tm_at "g"
      refine ⟨_, _, _, rfl, me, ?_⟩
      tm_at "g"
      exact Sub.refl
    rw [List.filter_eq_self.mpr fun _ _ => rfl] at hes
    have hes2 : es.map (·.2) = (ps.map fun e => into p e.2).map prO := by rw [hes, List.map_map]; rfl
    obtain ⟨ms, e1, e2⟩ := pairs_of hes2
    rw [refs_of e1]
    have hm1 := prs_of e1 ((D, .lst ((ps.map fun e => decide (p ≤ e.2.2 - e.2.1 + 1)).map V.bl)) :: L)
    tm_at "g"
    refine gc_sortedP (ps := ms) mem0 (hm1.mono fun _ => memS) fun qs q1 pm srt => ?_
    tm_at "g"
    have hq1 : Prs2 qs ((q1, HO.lst (prV qs)) :: (d2, HO.lst (prV ms)) :: (es ++ (D, .lst ((ps.map fun e => decide (p ≤ e.2.2 - e.2.1 + 1)).map V.bl)) :: L)) := fun x hx => memS (memS (hm1 x (pm.mem_iff.mp hx)))
    have qlen : qs.length = ps.length := by
      have a := pm.length_eq
      have b := congrArg List.length e2
      rw [List.length_map, List.length_map] at b
      omega
    -- the runs, brought into the round
    have same : ∀ y, y ∈ qs.map (·.2) ↔ ∃ r ∈ ps.map (·.2), y = into p r := fun y => by
      have a : y ∈ qs.map (·.2) ↔ y ∈ ms.map (·.2) := (pm.map (·.2)).mem_iff
      rw [a, e2]
      constructor
      · intro h
        obtain ⟨e, he, rfl⟩ := List.mem_map.mp h
        exact ⟨e.2, List.mem_map.mpr ⟨e, he, rfl⟩, rfl⟩
      · rintro ⟨r, h, rfl⟩
        obtain ⟨e, he, rfl⟩ := List.mem_map.mp h
        exact List.mem_map.mpr ⟨e, he, rfl⟩
    refine go_nePN (ps := qs) hr (by tm_at "g_mem") (by tm_at "g_mem") rfl (hq1.mono fun _ => memS) ?_
    have alike : ∀ n, In p (qs.map (·.2)) n ↔ In p (ps.map (·.2)) n := in_into same
    rcases List.eq_nil_or_concat qs with e0 | ⟨q0, ql, e0⟩
    · -- no run at all
      obtain rfl : ps = [] := by
        rw [e0] at qlen
        exact List.length_eq_zero_iff.mp qlen.symm
      subst e0
      refine ⟨false, rfl, ite_f ?_⟩
      tm_at "g"
      rename_i f2 f3
      refine go_nePN (ps := []) (xs := []) hr (by tm_at "g_mem") (by tm_at "g_mem") rfl (fun _ z => nomatch z) ?_
      refine ⟨false, rfl, ite_f ?_⟩
      tm_at "g"
      refine ⟨_, Sub.refl, q f2 [] _ ?_ (by show (f2, HO.lst []) ∈ _; tm_at "g_mem") (fun _ z => nomatch z) ⟨.inr ⟨⟨(fun _ z => nomatch z), (fun _ z => nomatch z), List.Pairwise.nil, (fun _ z => nomatch z)⟩, fun n => Iff.rfl⟩, Nat.le_refl _⟩⟩
      tm_at "g_end"
    · have ne : qs ≠ [] := by
        rw [e0]
        simp
      rw [show qs.isEmpty = false by cases qs with | nil => exact absurd rfl ne | cons _ _ => rfl]
      tm_at "g"
      refine ge_call (El := NoX) D3 hr passA ?_
      tm_at "g"
      refine ge_call (El := NoX) D2 hr passA ?_
      tm_at "g"
      have inR : ∀ y ∈ qs.map (·.2), 0 ≤ y.1 ∧ y.1 < p ∧ y.1 ≤ y.2 := fun y hy => by
        obtain ⟨r0, h0, rfl⟩ := (same y).mp hy
        obtain ⟨e, he, rfl⟩ := List.mem_map.mp h0
        have := le e he
        refine ⟨Int.emod_nonneg _ (by omega), Int.emod_lt_of_pos _ p1, ?_⟩
        show e.2.1 % p ≤ e.2.1 % p + (e.2.2 - e.2.1 + 1) - 1
        omega
      refine ⟨q1, qs, rfl, by tm_at "g_mem", hq1.mono fun _ => memS, by omega, fun e he => (inR e.2 (List.mem_map.mpr ⟨e, he, rfl⟩)).2.2, srt, fun f ms2 M2 sM mf hp2 ⟨melt, hlen2⟩ => ?_⟩
      -- what was melted is not empty
      obtain ⟨mm, l, rfl⟩ : ∃ mm l, ms2 = mm ++ [l] := by
        rcases List.eq_nil_or_concat ms2 with e1 | ⟨mm, l, e1⟩
        · exfalso
          subst e1
          have hl0 : ql ∈ qs := by rw [e0, List.concat_eq_append]; exact List.mem_append_right _ (List.mem_singleton.mpr rfl)
          have k := (melt.cov ql.2.1).mpr ⟨ql.2, List.mem_map.mpr ⟨ql, hl0, rfl⟩, Int.le_refl _, (inR ql.2 (List.mem_map.mpr ⟨ql, hl0, rfl⟩)).2.2⟩
          obtain ⟨z, hz, _⟩ := k
          cases hz
        · exact ⟨mm, l, by rw [e1, List.concat_eq_append]⟩
      have ml2 : (mm ++ [l]).map (·.2) = mm.map (·.2) ++ [l.2] := by rw [List.map_append]; rfl
      rw [ml2] at melt hlen2
      tm_at "g"
      refine ⟨p, f, mm, l, rfl, by unfold prV at mf ⊢; rw [List.map_append] at mf; exact mf, hp2, ?_, melt.le, melt.ap, fun r0 h0 => ?_, fun f3 ps3 M3 s3 m3 hp3 ⟨m', e', hrs, far, near, len3⟩ => ?_⟩
      · rw [List.length_append, List.length_map] at hlen2
        omega
      · obtain ⟨y, hy, e2⟩ := melt.of r0 h0
        have := inR y hy
        omega
      have alike2 : ∀ n, In p (mm.map (·.2) ++ [l.2]) n ↔ In p (ps.map (·.2)) n := fun n => (in_cov melt.cov n).trans (alike n)
      obtain ⟨m3', l3, rfl⟩ : ∃ m3' l3, ps3 = m3' ++ [l3] := by
        rcases List.eq_nil_or_concat ps3 with e1 | ⟨a, b, e1⟩
        · rw [e1] at hrs
          simp at hrs
        · exact ⟨a, b, by rw [e1, List.concat_eq_append]⟩
      have hl3 : l3.2 = (l.2.1, e') := by
        rw [List.map_append] at hrs
        exact (List.cons.inj (List.append_inj' hrs rfl).2).1
      have ml3 := hp3 l3 (List.mem_append_right _ (List.mem_singleton.mpr rfl))
      have m3b : (f3, HO.lst (prV m3' ++ [V.ref l3.1])) ∈ M3 := by
        unfold prV at m3 ⊢
        rw [List.map_append] at m3
        exact m3
      tm_at "g"
      refine go_nePN (ps := m3' ++ [l3]) hr (by tm_at "g_mem") (by tm_at "g_mem") rfl (hp3.mono fun _ => memS) ?_
      rw [show (m3' ++ [l3]).isEmpty = false by cases m3' <;> rfl]
      tm_at "g"
      refine ge_call (El := NoX) D1 hr passA ?_
      tm_at "g"
      refine gi_lst (by exact memS m3b) (atI_last _ _) ?_
      tm_at "g"
      refine ⟨_, _, _, rfl, memS ml3, ?_⟩
      tm_at "g"
      have sL : Sub L M3 := Sub.trans (Sub.trans (by tm_at "g_end") sM) s3
      have ge1 : ps.length ≥ 1 := by
        rw [← qlen]
        exact List.length_pos_iff.mpr ne
      refine ite_d (fun c => ?_) (fun c => ?_)
      · tm_at "g"
        rename_i t1 t2
        rw [hl3] at c
        refine ⟨_, Sub.refl, q t2 [(t1, (0, p - 1))] _ (Sub.trans sL (by tm_at "g_end")) mem0 ?_ ⟨.inl ⟨rfl, fun n => (alike2 n).mp (far c n)⟩, ge1⟩⟩
        intro x hx
        rw [List.mem_singleton.mp hx]
        exact memS mem0
      · tm_at "g"
        rw [hl3] at c
        have nf := near (by omega)
        refine ⟨_, Sub.refl, q f3 (m3' ++ [l3]) _ (Sub.trans sL (by tm_at "g_end")) (by tm_at "g_mem") (hp3.mono fun _ => memS) ⟨.inr ⟨nf.1, fun n => (nf.2 n).trans (alike2 n)⟩, ?_⟩⟩
        omega
end
section
open Lt
variable {P : Program} {w : World} {K : PySem.W.Frag} {mg : Str → Option Value} {base : Heap}
/-- what the least form is told as -/
def spLeast : SpL := fun vs L Q _ => ∃ (p : Int) (r : Addr) (ps : List Pr2) (rs : List Rn), vs = [.int p, .ref r] ∧ (r, HO.lst (prV ps)) ∈ L ∧ Prs2 ps L ∧ ps.length ≤ 10000 ∧ 1 ≤ p ∧ Mx p rs (ps.map (·.2)) ∧
  ∀ (t t2 : Addr) (q : Int) (few : List Pr2) (M : Lg), Sub L M → (t, HO.tup [.int q, .ref t2]) ∈ M → (t2, HO.tup (prV few)) ∈ M → Prs2 few M → Form (In p rs) q (few.map (·.2)) → few.length ≤ ps.length → Q (.ref t) M
theorem next_at {p : Int} {ps : List Pr2} {l : Pr2} {i : Nat} {x : Pr2} (h0 : ps ≠ []) (hl : ∀ e, ps[0]? = some e → l.2.1 = e.2.1 + p) (hi : i < ps.length) (h : (ps.drop 1 ++ [l])[i]? = some x) : x.2.1 = bOf p (ps.map (·.2)) (i + 1) := by
  have pos : 0 < ps.length := List.length_pos_iff.mpr h0
  have ln : (ps.map (·.2)).length = ps.length := List.length_map ..
  rcases Nat.lt_or_ge (i + 1) ps.length with k | k
  · rw [List.getElem?_append_left (by rw [List.length_drop]; omega), List.getElem?_drop, Nat.add_comm 1 i] at h
    rw [(bOf_lt (by rw [ln]; exact k)).1, List.getD_eq_getElem?_getD, List.getElem?_map, h]
    rfl
  · have e : i + 1 = ps.length := by omega
    rw [List.getElem?_append_right (by rw [List.length_drop]; omega), List.length_drop, show i - (ps.length - 1) = 0 by omega] at h
    obtain rfl : l = x := by simpa using h
    have hb := (bOf_add (p := p) (rs := ps.map (·.2)) (by rw [ln]; exact pos) 0).1
    rw [Nat.zero_add, ln] at hb
    rw [e, hb, (bOf_lt (by rw [ln]; exact pos)).1, List.getD_eq_getElem?_getD, List.getElem?_map]
    obtain ⟨e0, he0⟩ : ∃ e, ps[0]? = some e := ⟨_, List.getElem?_eq_getElem pos⟩
    rw [hl e0 he0, he0]
    rfl
theorem fn_least_form (B : Bi mg) (F : Df K mg "least_form" s_least_form) (F1 : Fn P w K mg base CX0 "length_of" 1 spLen) : Fn P w K mg base CX0 "least_form" 2 spLeast := by
  refine fn_plain F sc_least_form (fun _ _ _ _ _ _ us hl => match us, hl with | [_, _], _ => rfl) (by decide) (by tm_at "g_len") ?_
  intro X f cdv A outer s H E0 L vs Q E hX nd hr h
  subst hX
  obtain ⟨p, r, ps, rs, rfl, m, hp, hl, p1, mx, q⟩ := h
  show GSs _ (defBody s_least_form) (bodyD Q) [("period", some (.int p)), ("runs", some (.ref r)), ("many", none), ("nexts", none), ("row", none), ("turns", none), ("few", none), ("run", none), ("later", none), ("turn", none), ("pair", none)] L
  refine gss_cons ?_
  tm_at "g"
  rw [prV_len]
  cases ps with
  | nil =>
    refine ite_d (fun _ => ?_) (fun z => absurd rfl z)
    tm_at "g"
    rename_i t2 t
    exact ⟨_, Sub.refl, q t t2 1 [] _ (Sub.drop.trans Sub.drop) mem0 (memS mem0) (fun _ z => nomatch z) (form_none mx) (Nat.le_refl _)⟩
  | cons e0 pt =>
    have m0 := hp e0 List.mem_cons_self
    refine ite_d (fun z => ?_) (fun _ => ?_)
    · exfalso
      rw [List.length_cons] at z
      omega
    tm_at "g"
    refine ge_call (El := NoX) F1 hr passA ?_
    tm_at "g"
    refine gi_lst m (show atI (V.ref e0.1 :: prV pt) ((0 : Nat) : Int) = _ from atI_nat rfl) ?_
    tm_at "g"
    refine ⟨_, _, _, rfl, m0, ?_⟩
    tm_at "g"
    refine ite_d (fun c => ?_) (fun c => ?_)
    · tm_at "g"
      rename_i t3 t2 t
      have al := (mx.full_or (r := e0.2) List.mem_cons_self).mp c
      refine ⟨_, Sub.refl, q t t2 1 [(t3, (0, 0))] _ (Sub.drop.trans (Sub.drop.trans Sub.drop)) mem0 (memS mem0) ?_ (form_all al) (by simp)⟩
      intro x hx
      rw [List.mem_singleton.mp hx]
      exact memS (memS mem0)
    have c' : e0.2.2 - e0.2.1 + 1 < p := by omega
    obtain ⟨nf, eIn⟩ := form_of mx (r := e0.2) (t := pt.map (·.2)) rfl c'
    have pn : (e0 :: pt) ≠ [] := by simp
    have p00 : (e0 :: pt)[0]? = some e0 := rfl
    generalize e0 :: pt = ps at *
    have pos : 0 < ps.length := List.length_pos_iff.mpr pn
    have ln : (ps.map (·.2)).length = ps.length := List.length_map ..
    have rn : ps.map (·.2) ≠ [] := by
      intro z
      exact pn (List.map_eq_nil_iff.mp z)
    tm_at "g"
    rw [prV_len]
    refine ⟨r, prV ps, rfl, ?_⟩
    show GE _ _ _ _ _
    tm_at "g"
    refine ⟨fun H hH => sql hH m, fun q1 => ?_⟩
    rw [show cutV (prV ps) (some 1) none = (prV ps).drop 1 from cut_from (k := 1) (by rw [prV_len]; omega)]
    refine ⟨q1, _, rfl, .inr mem0, ?_⟩
    tm_at "g"
    refine gi_lst (by tm_at "g_mem") (show atI (prV ps) ((0 : Nat) : Int) = some (.ref e0.1) from atI_nat (by unfold prV; rw [List.getElem?_map, p00]; rfl)) ?_
    tm_at "g"
    rename_i tp
    refine ⟨szL (by simp only [List.length_append, List.length_drop, prV_len, List.length_cons, List.length_nil]; omega), fun nx => ?_⟩
    tm_at "g"
    obtain ⟨nxp, enx⟩ : ∃ nxp : List Pr2, nxp = ps.drop 1 ++ [(tp, (e0.2.1 + p, 0))] := ⟨_, rfl⟩
    have eN : (prV ps).drop 1 ++ [V.ref tp] = prV nxp := by
      rw [enx]
      unfold prV
      rw [List.map_append, List.map_drop]
      rfl
    have nlen : nxp.length = ps.length := by
      rw [enx, List.length_append, List.length_drop, List.length_singleton]
      omega
    rw [eN]
    have hp1 : Prs2 ps ((nx, HO.lst (prV nxp)) :: (tp, HO.tup [.int (e0.2.1 + p), .int 0]) :: (q1, HO.lst ((prV ps).drop 1)) :: L) := fun x hx => memS (memS (memS (hp x hx)))
    have hn1 : Prs2 nxp ((nx, HO.lst (prV nxp)) :: (tp, HO.tup [.int (e0.2.1 + p), .int 0]) :: (q1, HO.lst ((prV ps).drop 1)) :: L) := by
      rw [enx]
      exact Prs2.snoc (fun x hx => memS (memS (memS (hp x (List.mem_of_mem_drop hx))))) (memS mem0)
    refine ge_lcF2 (by tm_at "g_put") (fun _ => by tm_at "g_put") (gi_zip ?_ B.zip) (by decide) (show blkC N_least_form (defScope s_least_form) _ [(_, List.idxOf _ N_least_form), (_, List.idxOf _ N_least_form)] = true by decide +kernel)
    tm_at "g"
    refine ⟨r, nx, prV ps, prV nxp, rfl, by tm_at "g_mem", by tm_at "g_mem", ?_⟩
    refine fresh_zip (p := fun _ => true) (pl := fun i => prO (fR p (ps.map (·.2)) i)) (by tm_at "g_mem") (by tm_at "g_mem") (by rw [prV_len]; omega) (fun i x y N hx hy hN s1 H1 C1 cl1 fp1 => ?_) fun d2 es hes => ?_
    · obtain ⟨e, he, rfl⟩ := prV_at hx
      obtain ⟨la, hla, rfl⟩ := prV_at hy
      have me := hN _ (hp1 e (List.mem_of_getElem? he))
      have mla := hN _ (hn1 la (List.mem_of_getElem? hla))
      have il : i < ps.length := (List.getElem?_eq_some_iff.mp he).1
      have v1 : la.2.1 = bOf p (ps.map (·.2)) (i + 1) := next_at (l := (tp, (e0.2.1 + p, 0))) pn (fun e h => by rw [p00] at h; cases h; rfl) il (by rw [← enx]; exact hla)
      have ge : (ps.map (·.2)).getD i (0, 0) = e.2 := by
        rw [List.getD_eq_getElem?_getD, List.getElem?_map, he]
        rfl
      have v2 : bOf p (ps.map (·.2)) i = e.2.1 := by rw [(bOf_lt (by rw [ln]; exact il)).1, ge]
      have v3 : eOf p (ps.map (·.2)) i = e.2.2 := by rw [(bOf_lt (by rw [ln]; exact il)).2, ge]
      refine gts_nil ⟨rfl, Sub.refl, fun _ s2 H2 C2 cl2 fp2 => ?_⟩
      tm_at "g"
      refine ge_call (El := NoX) F1 hr passA ?_
      tm_at "g"
      refine ⟨_, _, _, rfl, me, ?_⟩
      tm_at "g"
      unfold fR
      rw [v2, v3, ← v1]
      exact Sub.refl
    have hes2 : es.map (·.2) = (rowOf p (ps.map (·.2))).map prO := by
      rw [hes, List.filter_eq_self.mpr fun _ _ => rfl, prV_len, prV_len, nlen, Nat.min_self]
      unfold rowOf
      rw [List.map_map, ln]
      rfl
    obtain ⟨row, r1, r2⟩ := pairs_of hes2
    rw [refs_of r1]
    have hr1 := prs_of r1 ((nx, HO.lst (prV nxp)) :: (tp, HO.tup [.int (e0.2.1 + p), .int 0]) :: (q1, HO.lst ((prV ps).drop 1)) :: L)
    have rlen : row.length = ps.length := by
      have z := congrArg List.length r2
      rw [List.length_map, rowOf_len, ln] at z
      exact z
    tm_at "g"
    refine gs_lcP (by tm_at "g_put") (by tm_at "g_put") (gi_range2 ?_ B.range) (show blkC N_least_form (defScope s_least_form) _ [(_, List.idxOf _ N_least_form)] = true by decide +kernel)
    tm_at "g"
    refine ⟨⟨by decide, by decide, by omega, by omega⟩, ?_⟩
    let rot : Nat → Bool := fun t => decide ((rowOf p (ps.map (·.2))).drop t ++ (rowOf p (ps.map (·.2))).take t = rowOf p (ps.map (·.2)))
    refine pure_fn (p := fun i => decide ((ps.length : Int) % (1 + (i : Int)) = 0) && rot (1 + i)) (g := fun i => .int (1 + (i : Int))) (by omega) (fun i hi D acc s1 H1 C1 cl1 fp1 => ?_) fun d3 => ?_
    · have hi' : i < ps.length := by omega
      show G.GT _ _ _ _ _
      tm_at "g"
      refine go_mod (by omega) ?_
      tm_at "g"
      refine ite_d (fun z => ?_) (fun z => ?_)
      · tm_at "g"
        have ec : (1 + (i : Int)) = ((1 + i : Nat) : Int) := by omega
        refine ⟨d2, prV row, rfl, ?_⟩
        show GE _ _ _ _ _
        tm_at "g"
        refine ⟨fun H hH => sql hH (by tm_at "g_mem"), fun q2 => ?_⟩
        rw [ec, cut_from (by rw [prV_len]; omega)]
        refine ⟨q2, _, rfl, .inr mem0, ?_⟩
        tm_at "g"
        refine ⟨d2, prV row, rfl, ?_⟩
        show GE _ _ _ _ _
        tm_at "g"
        refine ⟨fun H hH => sql hH (by tm_at "g_mem"), fun q3 => ?_⟩
        rw [cut_to (by rw [prV_len]; omega)]
        refine ⟨q3, _, rfl, .inr mem0, ?_⟩
        tm_at "g"
        refine ⟨szL (by simp only [List.length_append, List.length_drop, List.length_take, prV_len, List.length_nil]; omega), fun q4 => ?_⟩
        tm_at "g"
        refine go_eqPL (ps := row.drop (1 + i) ++ row.take (1 + i)) (qs := row) hr mem0 (by tm_at "g_mem") (by unfold prV; rw [List.map_append, List.map_drop, List.map_take, List.append_nil]) rfl (fun x hx => ?_) (fun x hx => ?_) ?_
        · refine memS (memS (memS (memS (memS (hr1 x ?_)))))
          rcases List.mem_append.mp hx with hx | hx
          · exact List.mem_of_mem_drop hx
          · exact List.mem_of_mem_take hx
        · exact memS (memS (memS (memS (memS (hr1 x hx)))))
        rw [List.map_append, List.map_drop, List.map_take, r2]
        refine ⟨_, rfl, ?_, by tm_at "g_end", fun _ s2 H2 C2 cl2 fp2 => ?_⟩
        · rw [← ec, decide_eq_true z, Bool.true_and]
        · tm_at "g"
          exact ⟨rfl, by tm_at "g_end"⟩
      · exact ⟨by rw [decide_eq_false z]; rfl, Sub.refl, fun y => nomatch y⟩
    have en : ((ps.length : Int) + 1 - 1).toNat = ps.length := by omega
    have hcast : ∀ i : Nat, (ps.length : Int) % (1 + (i : Int)) = 0 ↔ ps.length % (1 + i) = 0 := fun i => by
      rw [show (1 + (i : Int)) = ((1 + i : Nat) : Int) by omega, ← Int.natCast_emod]
      omega
    rw [en]
    obtain ⟨i0, rest, hf⟩ : ∃ i0 rest, (List.range ps.length).filter (fun i : Nat => decide ((ps.length : Int) % (1 + (i : Int)) = 0) && rot (1 + i)) = i0 :: rest := by
      cases hz : (List.range ps.length).filter (fun i : Nat => decide ((ps.length : Int) % (1 + (i : Int)) = 0) && rot (1 + i)) with
      | cons a b => exact ⟨a, b, rfl⟩
      | nil =>
        exfalso
        have k := List.filter_eq_nil_iff.mp hz (ps.length - 1) (List.mem_range.mpr (by omega))
        refine k ?_
        rw [Bool.and_eq_true]
        have e1 : 1 + (ps.length - 1) = ps.length := by omega
        refine ⟨decide_eq_true ((hcast _).mpr (by rw [e1, Nat.mod_self])), decide_eq_true ?_⟩
        rw [e1]
        have z : (rowOf p (ps.map (·.2))).length = ps.length := by rw [rowOf_len, ln]
        rw [List.drop_of_length_le (by omega), List.take_of_length_le (by omega), List.nil_append]
    rw [hf]
    obtain ⟨i1, pi0, pm⟩ := filter_head hf
    obtain ⟨pi1, pi2⟩ := Bool.and_eq_true_iff.mp pi0
    have td : ps.length % (1 + i0) = 0 := (hcast i0).mp (of_decide_eq_true pi1)
    have frm : Form (In p (ps.map (·.2))) ((((rowOf p (ps.map (·.2))).take (1 + i0)).map (·.2)).sum) ((ps.map (·.2)).take (1 + i0)) := by
      refine least_form nf rn (by omega) (by rw [ln]; omega) (by rw [ln]; exact td) (of_decide_eq_true pi2) fun s s1 s2 s3 s4 => ?_
      have z := pm (s - 1) (by omega)
      rw [Bool.and_eq_false_iff] at z
      rw [ln] at s3
      have e1 : 1 + (s - 1) = s := by omega
      rcases z with z | z
      · exact of_decide_eq_false z ((hcast _).mpr (by rw [e1]; exact s3))
      · exact of_decide_eq_false z (by rw [e1]; exact s4)
    rw [eIn] at frm
    have ec : (1 + (i0 : Int)) = ((1 + i0 : Nat) : Int) := by omega
    have at0 : atI ((i0 :: rest).map fun i : Nat => V.int (1 + (i : Int))) 0 = some (.int (1 + (i0 : Int))) := show atI _ ((0 : Nat) : Int) = _ from atI_nat rfl
    tm_at "g"
    refine ⟨r, prV ps, rfl, ?_⟩
    show GE _ _ _ _ _
    tm_at "g"
    refine gi_lst (by tm_at "g_mem") at0 ?_
    refine ⟨_, rfl, ?_⟩
    refine ⟨fun H hH => sql hH (by tm_at "g_mem"), fun q5 => ?_⟩
    rw [ec, cut_to (by rw [prV_len]; omega)]
    tm_at "g"
    refine ge_lcP (by tm_at "g_put") (gi_list ?_) (show blkC N_least_form (defScope s_least_form) _ [(_, List.idxOf _ N_least_form)] = true by decide +kernel)
    tm_at "g"
    refine ⟨d2, prV row, rfl, ?_⟩
    show GE _ _ _ _ _
    tm_at "g"
    refine gi_lst (by tm_at "g_mem") at0 ?_
    refine ⟨_, rfl, ?_⟩
    refine ⟨fun H hH => sql hH (by tm_at "g_mem"), fun q6 => ?_⟩
    have eT : (prV row).take (1 + i0) = prV (row.take (1 + i0)) := by
      unfold prV
      rw [List.map_take]
    have eF : (prV ps).take (1 + i0) = prV (ps.take (1 + i0)) := by
      unfold prV
      rw [List.map_take]
    rw [ec, cut_to (by rw [prV_len]; omega), eT, eF]
    refine ⟨q6, _, rfl, mem0, ?_⟩
    refine pure_rowPr (t := fun _ => true) (g := fun e => .int e.2.2) mem0 (by rw [List.length_take]; omega) (fun e he D acc s1 H1 C1 cl1 fp1 => ?_) fun d4 => ?_
    · have me := hr1 e (List.mem_of_mem_take he)
      refine gts_nil ⟨rfl, Sub.refl, fun _ s2 H2 C2 cl2 fp2 => ?_⟩
      tm_at "g"
      exact ⟨rfl, Sub.refl⟩
    rw [List.filter_eq_self.mpr fun _ _ => rfl]
    have eS : (row.take (1 + i0)).map (fun e : Pr2 => V.int e.2.2) = (((rowOf p (ps.map (·.2))).take (1 + i0)).map (·.2)).map V.int := by
      rw [← r2, ← List.map_take, List.map_map, List.map_map]
      rfl
    rw [eS]
    tm_at "g"
    refine gc_sumI (by rfl) mem0 ?_
    tm_at "g"
    refine gc_tupL (by tm_at "g_mem") fun t2 => ?_
    tm_at "g"
    rename_i t1
    rw [← List.map_take] at frm
    refine ⟨_, Sub.refl, q t1 t2 _ (ps.take (1 + i0)) _ (by tm_at "g_end") mem0 (memS mem0) (fun x hx => ?_) frm (by rw [List.length_take]; omega)⟩
    have z := hp1 x (List.mem_of_mem_take hx)
    repeat (first | with_reducible exact z | with_reducible apply memS | with_reducible apply memR)
end
section
open Lt
variable {P : Program} {w : World} {K : PySem.W.Frag} {mg : Str → Option Value} {base : Heap}
abbrev lotO (C dx : Addr) (q : Int) (t : Addr) (s : Int) (ob : Addr) : HO := .ins C dx [("period", .int q), ("runs", .ref t), ("size", .int s), ("own_begins", .ref ob)]
/-- what the class of lots must have for its fields -/
structure LotA (K : PySem.W.Frag) (C : Addr) : Prop where
  c : L2.Cls K C
  n1 : NoAttr K C "period"
  n2 : NoAttr K C "runs"
  n3 : NoAttr K C "size"
  n4 : NoAttr K C "own_begins"
def lens (rs : List Rn) : List Int := rs.map fun r => r.2 - r.1 + 1
/-- a lot in the ledger: its class, its object's dict, its fields -/
structure LotAt (C a dx : Addr) (q : Int) (t : Addr) (few : List Pr2) (ob : Addr) (L : Lg) : Prop where
  o : (a, lotO C dx q t (lens (few.map (·.2))).sum ob) ∈ L
  t : (t, HO.tup (prV few)) ∈ L
  ps : Prs2 few L
  ob : (ob, HO.lst ((few.map fun e => e.2.1).map V.int)) ∈ L
theorem LotAt.mono {C a dx : Addr} {q : Int} {t : Addr} {few : List Pr2} {ob : Addr} {L M : Lg} (h : LotAt C a dx q t few ob L) (s : ∀ e ∈ L, e ∈ M) : LotAt C a dx q t few ob M := ⟨s _ h.o, s _ h.t, h.ps.mono s, s _ h.ob⟩
theorem split_at {M : Lg} {x : Addr × HO} (h : x ∈ M) : ∃ R, M.Perm (x :: R) := by
  obtain ⟨s, t, rfl⟩ := List.append_of_mem h
  exact ⟨s ++ t, List.perm_middle⟩
theorem sub_put {a : Addr} {o : HO} {L0 M R : Lg} (s : Sub ((a, o) :: L0) M) (p : M.Perm ((a, o) :: R)) (o' : HO) : Sub ((a, o') :: L0) ((a, o') :: R) := by
  refine ⟨fun nd => ?_⟩
  have ndM : (M.map (·.1)).Nodup := (p.map _).nodup_iff.mpr nd
  obtain ⟨n1, n2⟩ := s.to ndM
  refine ⟨n1, fun e he => ?_⟩
  rcases List.mem_cons.mp he with rfl | he
  · exact List.mem_cons_self
  · have k := p.mem_iff.mp (n2 e (List.mem_cons_of_mem _ he))
    rcases List.mem_cons.mp k with e1 | k
    · exfalso
      exact (List.nodup_cons.mp n1).1 (List.mem_map.mpr ⟨e, he, by rw [e1]⟩)
    · exact List.mem_cons_of_mem _ k
theorem GSs.nd {X : Cx} {sts : List Stmt} {D : GD} {η : En} {L : Lg} (h : (L.map (·.1)).Nodup → GSs X sts D η L) : GSs X sts D η L := fun hN H hH => h hH.1 hN H hH
def spFew : SpL := fun vs L Q _ => ∃ n : Int, vs = [.int n] ∧ n ≤ 2000 ∧ Q .non L
theorem fn_need_few (F : Df K mg "need_few" s_need_few) {u : Value} (hM : mg "MOST_RUNS_lots" = some u) (rM : RelV (.int 2000) u) : Fn P w K mg base CX0 "need_few" 1 spFew := by
  refine fn_plain F sc_need_few (fun _ _ _ _ _ _ us hl => match us, hl with | [_], _ => rfl) (by decide) (by tm_at "g_len") ?_
  intro X f cdv A outer s H E0 L vs Q E hX nd hr h
  subst hX
  obtain ⟨n, rfl, hn, q⟩ := h
  show GSs _ (defBody s_need_few) (bodyD Q) [("many", some (.int n))] L
  refine gss_cons ?_
  tm_at "g"
  refine gv_con hM rM ?_
  tm_at "g"
  refine ite_d (fun z => absurd z (by omega)) (fun _ => ?_)
  tm_at "g"
  exact ⟨_, Sub.refl, q⟩
/-- Lot.__init__ of a right period and right runs -/
def spLotInit (K : PySem.W.Frag) : SpL := fun vs L Q _ => ∃ (a C dx : Addr) (p : Int) (r : Addr) (ps : List Pr2) (L0 : Lg), vs = [.ref a, .int p, .ref r] ∧ Sub ((a, HO.ins C dx []) :: L0) L ∧ LotA K C ∧ (r, HO.tup (prV ps)) ∈ L0 ∧ Prs2 ps L0 ∧ ps.length ≤ 2000 ∧ 1 ≤ p ∧ (∀ e ∈ ps, e.2.1 ≤ e.2.2) ∧
  ∀ (q : Int) (t : Addr) (few : List Pr2) (ob : Addr) (M R : Lg), M = (a, lotO C dx q t (lens (few.map (·.2))).sum ob) :: R → Sub ((a, lotO C dx q t (lens (few.map (·.2))).sum ob) :: L0) M → LotAt C a dx q t few ob M → Form (In p (ps.map (·.2))) q (few.map (·.2)) → few.length ≤ 2000 → (∀ o, (ob, o) ∉ L0) → Q .non M
theorem run_Lot_init (B : Bi mg) {f : Addr} {fd : FuncData} (F : Fun K "__init__" "Lot.__init__" s_Lot_init f fd) (G1 : Fn P w K mg base CX0 "is_whole" 1 spWholeI) (G2 : Fn P w K mg base CX0 "is_run" 2 spIsRun) (G3 : Fn P w K mg base CX0 "maximal" 2 spMaximal) (G4 : Fn P w K mg base CX0 "need_few" 1 spFew) (G5 : Fn P w K mg base CX0 "least_form" 2 spLeast) (G6 : Fn P w K mg base CX0 "length_of" 1 spLen) :
    RunG P w K mg base CX0 4 f argsP (toSp fun vs L Q E => ∃ ws rest, vs = ws ++ rest ∧ ws.length = 2 ∧ rest.length ≤ sizeLine ∧ ∀ p, spLotInit K (ws ++ [.ref p]) ((p, .tup rest) :: L) Q E) := by
  refine run_starred (ps := ["self", "period"]) F sc_Lot_init (fun _ _ _ _ _ _ us rest hl => match us, hl with | [u, v], _ => by cases rest <;> rfl) (by decide) ?_ (by tm_at "g_len")
  intro X f cdv A outer s H E0 L vs Q E hX nd hr h
  subst hX
  obtain ⟨a, C, dx, p, r, ps, L0, rfl, s0, ⟨c, n1, n2, n3, n4⟩, m, hp, hl, p1, le, q⟩ := h
  with_reducible refine GSs.sub s0 ?_
  show GSs _ (defBody s_Lot_init) (bodyD Q) [("self", some (.ref a)), ("period", some (.int p)), ("runs", some (.ref r)), ("found", none), ("least", none), ("run", none)] _
  refine gss_cons ?_
  tm_at "g"
  refine ge_call (El := NoX) G1 hr passA ?_
  tm_at "g"
  refine ⟨p, rfl, ?_⟩
  tm_at "g"
  refine ite_d (fun z => absurd z (by omega)) (fun _ => ?_)
  tm_at "g"
  refine ge_lcP (by tm_at "g_put") (gi_tuple ?_) (show blkC N_Lot_init (defScope s_Lot_init) _ [(_, List.idxOf _ N_Lot_init)] = true by decide +kernel)
  tm_at "g"
  refine pure_rowPr (t := fun _ => true) (g := fun _ => .bl true) (memS m) (by omega) (fun e he D acc s1 H1 C1 cl1 fp1 => ?_) fun D => ?_
  · refine gts_nil ⟨rfl, Sub.refl, fun _ s2 H2 C2 cl2 fp2 => ?_⟩
    tm_at "g"
    refine ge_call (El := NoX) G2 hr passA ?_
    tm_at "g"
    refine ⟨_, _, _, rfl, memS (memS (hp e he)), ?_⟩
    rw [decide_eq_true (le e he)]
    exact ⟨rfl, Sub.refl⟩
  rw [List.filter_eq_self.mpr fun _ _ => rfl, show ps.map (fun _ : Pr2 => V.bl true) = (ps.map fun _ => true).map V.bl by rw [List.map_map]; rfl]
  tm_at "g"
  refine gc_allB (by rfl) mem0 ?_
  rw [show (ps.map fun _ => true).all id = true by simp]
  tm_at "g"
  refine ge_call (El := NoX) G3 hr passA ?_
  tm_at "g"
  refine ⟨p, r, _, ps, rfl, .inr rfl, memS (memS m), hp.mono fun _ h => memS (memS h), by omega, p1, le, fun f1 ps1 M1 s1 m1 hp1 ⟨mx, len1⟩ => ?_⟩
  rw [List.length_map] at len1
  tm_at "g"
  refine ge_call (El := NoX) G4 hr passA ?_
  tm_at "g"
  rw [prV_len]
  refine ⟨_, rfl, by omega, ?_⟩
  tm_at "g"
  refine ge_call (El := NoX) G5 hr passA ?_
  tm_at "g"
  refine ⟨p, f1, ps1, ps.map (·.2), rfl, m1, hp1, by omega, p1, mx, fun t t2 q' few M2 s2 mt mt2 hfew frm len2 => ?_⟩
  show GSs _ _ _ _ _
  refine GSs.nd fun nd2 => ?_
  have s02 : Sub ((a, HO.ins C dx []) :: L0) M2 := Sub.trans (Sub.trans Sub.drop s1) s2
  obtain ⟨R, pm⟩ := split_at ((s02.to nd2).2 _ List.mem_cons_self)
  have inR : ∀ {b : Addr} {o : HO}, (b, o) ∈ M2 → o ≠ HO.ins C dx [] → (b, o) ∈ R := fun {b o} h ne => by
    rcases List.mem_cons.mp (pm.mem_iff.mp h) with e | h
    · exact absurd (congrArg Prod.snd e) ne
    · exact h
  have rt := inR mt (fun z => nomatch z)
  have rt2 := inR mt2 (fun z => nomatch z)
  have rfew : Prs2 few R := fun e he => inR (hfew e he) (fun z => nomatch z)
  refine GSs.sub (Sub.perm pm.symm) ?_
  clear inR mt mt2 hfew
  tm_at "g"
  refine ⟨a, C, dx, [], (a, HO.ins C dx [("period", .int q')]) :: R, rfl, mem0, c, n1, by decide, .here, ?_⟩
  tm_at "g"
  refine ⟨a, C, dx, _, (a, HO.ins C dx [("period", .int q'), ("runs", .ref t2)]) :: R, rfl, mem0, c, n2, by simp, .here, ?_⟩
  tm_at "g"
  refine ge_lcP (by tm_at "g_put") (gi_tuple ?_) (show blkC N_Lot_init (defScope s_Lot_init) _ [(_, List.idxOf _ N_Lot_init)] = true by decide +kernel)
  tm_at "g"
  refine pure_rowPr (t := fun _ => true) (g := fun e => .int (e.2.2 - e.2.1 + 1)) (memS rt2) (by omega) (fun e he D acc s1 H1 C1 cl1 fp1 => ?_) fun D2 => ?_
  · refine gts_nil ⟨rfl, Sub.refl, fun _ s2 H2 C2 cl2 fp2 => ?_⟩
    tm_at "g"
    refine ge_call (El := NoX) G6 hr passA ?_
    tm_at "g"
    exact ⟨_, _, _, rfl, memS (memS (rfew e he)), rfl, Sub.refl⟩
  rw [List.filter_eq_self.mpr fun _ _ => rfl, show few.map (fun e : Pr2 => V.int (e.2.2 - e.2.1 + 1)) = (lens (few.map (·.2))).map V.int by unfold lens; rw [List.map_map, List.map_map]; rfl]
  tm_at "g"
  refine gc_sumI (by rfl) mem0 ?_
  tm_at "g"
  refine ⟨a, C, dx, _, (D2, HO.lst ((lens (few.map (·.2))).map V.int)) :: (a, HO.ins C dx [("period", .int q'), ("runs", .ref t2), ("size", .int (lens (few.map (·.2))).sum)]) :: R, rfl, memS mem0, c, n3, by simp, .there .here, ?_⟩
  tm_at "g"
  refine GE.nd ?_
  refine ge_lcP (by tm_at "g_put") (gi_tuple ?_) (show blkC N_Lot_init (defScope s_Lot_init) _ [(_, List.idxOf _ N_Lot_init)] = true by decide +kernel)
  tm_at "g"
  refine pure_rowPr (t := fun _ => true) (g := fun e => .int e.2.1) (memS (memS rt2)) (by omega) (fun e he D acc s1 H1 C1 cl1 fp1 => ?_) fun D3 => ?_
  · have me := rfew e he
    refine gts_nil ⟨rfl, Sub.refl, fun _ s2 H2 C2 cl2 fp2 => ?_⟩
    tm_at "g"
    exact ⟨rfl, Sub.refl⟩
  rw [List.filter_eq_self.mpr fun _ _ => rfl, show few.map (fun e : Pr2 => V.int e.2.1) = (few.map fun e => e.2.1).map V.int by rw [List.map_map]; rfl]
  intro nd3
  have fr : ∀ o, (D3, o) ∉ L0 := fun o ho => by
    have n3 := (List.nodup_cons.mp nd3).1
    have h1 := pm.mem_iff.mp ((s02.to nd2).2 _ (memS ho))
    rcases List.mem_cons.mp h1 with e | h2
    · exact n3 (List.mem_map.mpr ⟨(a, HO.ins C dx [("period", .int q'), ("runs", .ref t2), ("size", .int (lens (few.map (·.2))).sum)]), memS mem0, (congrArg Prod.fst e).symm⟩)
    · exact n3 (List.mem_map.mpr ⟨_, memS (memS h2), rfl⟩)
  tm_at "g"
  refine ⟨a, C, dx, _, (D3, HO.lst ((few.map fun e => e.2.1).map V.int)) :: (D2, HO.lst ((lens (few.map (·.2))).map V.int)) :: (a, lotO C dx q' t2 (lens (few.map (·.2))).sum D3) :: R, rfl, memS (memS mem0), c, n4, by simp, .there (.there .here), ?_⟩
  tm_at "g"
  refine ⟨(a, lotO C dx q' t2 (lens (few.map (·.2))).sum D3) :: (D3, HO.lst ((few.map fun e => e.2.1).map V.int)) :: (D2, HO.lst ((lens (few.map (·.2))).map V.int)) :: R, Sub.perm (by exact List.perm_middle (l₁ := [_, _]).symm), q q' t2 few D3 _ _ rfl ?_ ⟨mem0, memS (memS (memS rt2)), rfew.mono fun _ h => memS (memS (memS h)), memS mem0⟩ frm (by omega) fr⟩
  have z := sub_put s02 pm (lotO C dx q' t2 (lens (few.map (·.2))).sum D3)
  exact Sub.trans z (Sub.sublist (List.Sublist.cons_cons _ (List.Sublist.cons _ (List.Sublist.cons _ (List.Sublist.refl _)))))
end
section
open Lt
variable {P : Program} {w : World} {K : PySem.W.Frag} {mg : Str → Option Value} {base : Heap} {C : Addr}
/-- a new lot of the members S -/
def LotR (C : Addr) (S : Int → Prop) (L : Lg) (Q : QV) : Prop := ∀ (x dx : Addr) (q : Int) (t : Addr) (few : List Pr2) (ob : Addr) (M : Lg), Sub L M → LotAt C x dx q t few ob M → Form S q (few.map (·.2)) → few.length ≤ 2000 → Q (.ref x) M
def LotRF (C : Addr) (S : Int → Prop) (L : Lg) (Q : QV) : Prop := ∀ (x dx : Addr) (q : Int) (t : Addr) (few : List Pr2) (ob : Addr) (M : Lg), Sub L M → LotAt C x dx q t few ob M → Form S q (few.map (·.2)) → few.length ≤ 2000 → (∀ o, (ob, o) ∉ L) → Q (.ref x) M
/-- Lot(p, run, ..) -/
theorem gf_lotF {X : Cx} {η : En} {Q : QV} {j : Nat} {fI : Addr} (la : LotA X.K C) (M0 : Mk X.K C fI) (R : RunG X.prog X.w X.K X.mg X.base CX0 4 fI argsP (toSp fun vs L Q E => ∃ ws rest, vs = ws ++ rest ∧ ws.length = 2 ∧ rest.length ≤ sizeLine ∧ ∀ p, spLotInit X.K (ws ++ [.ref p]) ((p, .tup rest) :: L) Q E)) (hr : RoomG j X.A) (hj : 5 ≤ j := by decide) :
    GF X η C argsP (fun vs L => ∃ (p : Int) (ps : List Pr2), vs = .int p :: prV ps ∧ Prs2 ps L ∧ ps.length ≤ 2000 ∧ 1 ≤ p ∧ (∀ e ∈ ps, e.2.1 ≤ e.2.2) ∧ LotRF C (In p (ps.map (·.2))) L Q) Q := fun pins s H us vs L hH I r ⟨p, ps, ev, hp, hl, p1, le, q⟩ => by
  refine gf_make (El := NoX) M0 R (fun _ _ => rfl) hr passA hj pins s H us vs L hH I r fun x dx => ?_
  subst ev
  refine ⟨[.ref x, .int p], prV ps, rfl, rfl, szL (by rw [prV_len]; omega), fun pa => ⟨x, C, dx, p, pa, ps, (pa, .tup (prV ps)) :: (dx, .own x) :: L, rfl, Sub.perm (.swap _ _ _), la, mem0, hp.mono fun _ h => memS (memS h), hl, p1, le, fun q' t few ob M R' _ sM at' frm hl' fr => ⟨rfl, q x dx q' t few ob M ?_ at' frm hl' fun o ho => fr o (memS (memS ho))⟩⟩⟩
  exact Sub.trans (Sub.drop.trans (Sub.drop.trans Sub.drop)) sM
theorem gf_lot {X : Cx} {η : En} {Q : QV} {j : Nat} {fI : Addr} (la : LotA X.K C) (M0 : Mk X.K C fI) (R : RunG X.prog X.w X.K X.mg X.base CX0 4 fI argsP (toSp fun vs L Q E => ∃ ws rest, vs = ws ++ rest ∧ ws.length = 2 ∧ rest.length ≤ sizeLine ∧ ∀ p, spLotInit X.K (ws ++ [.ref p]) ((p, .tup rest) :: L) Q E)) (hr : RoomG j X.A) (hj : 5 ≤ j := by decide) :
    GF X η C argsP (fun vs L => ∃ (p : Int) (ps : List Pr2), vs = .int p :: prV ps ∧ Prs2 ps L ∧ ps.length ≤ 2000 ∧ 1 ≤ p ∧ (∀ e ∈ ps, e.2.1 ≤ e.2.2) ∧ LotR C (In p (ps.map (·.2))) L Q) Q := fun pins s H us vs L hH I r ⟨p, ps, ev, hp, hl, p1, le, q⟩ => gf_lotF la M0 R hr hj pins s H us vs L hH I r ⟨p, ps, ev, hp, hl, p1, le, fun x dx q' t few ob M sM at' frm hl' _ => q x dx q' t few ob M sM at' frm hl'⟩
theorem all_zero (n : Int) : In 1 [(0, 0)] n := ⟨(0, 0), by simp, -n, by show (0 : Int) ≤ n + 1 * -n; omega, by show n + 1 * -n ≤ (0 : Int); omega⟩
def spEvery (C : Addr) : SpL := fun vs L Q _ => vs = [] ∧ LotR C (fun _ => True) L Q
def spNoLot (C : Addr) : SpL := fun vs L Q _ => vs = [] ∧ LotR C (fun _ => False) L Q
theorem run_Lot_every {f fI : Addr} {fd : FuncData} (F : Fun K "every" "Lot.every" s_Lot_every f fd) (hC : mg "Lot" = some (.ref C)) (la : LotA K C) (M0 : Mk K C fI) (R : RunG P w K mg base CX0 4 fI argsP (toSp fun vs L Q E => ∃ ws rest, vs = ws ++ rest ∧ ws.length = 2 ∧ rest.length ≤ sizeLine ∧ ∀ p, spLotInit K (ws ++ [.ref p]) ((p, .tup rest) :: L) Q E)) :
    RunG P w K mg base CX0 6 f argsP (toSp (spEvery C)) := by
  refine run_plain F sc_Lot_every argsP id id (fun _ _ r => r) (fun _ _ _ _ _ _ us hl => match us, hl with | [], _ => rfl) (by decide) (fun vs L Q E h => by obtain ⟨rfl, _⟩ := h; rfl) ?_
  intro X f cdv A outer s H E0 L vs Q E hX nd hr h
  subst hX
  obtain ⟨rfl, q⟩ := h
  show GSs _ (defBody s_Lot_every) (bodyD Q) [] L
  refine gss_cons ?_
  tm_at "g"
  refine ge_callF hC M0.kp (fun _ => gf_lot la M0 R hr) ?_
  tm_at "g"
  rename_i t0
  refine ⟨1, [(t0, (0, 0))], rfl, fun e he => ?_, by simp, by decide, fun e he => ?_, fun x dx q' t few ob M sM at' frm hl => ?_⟩
  · rw [List.mem_singleton.mp he]
    exact mem0
  · rw [List.mem_singleton.mp he]
    exact Int.le_refl _
  · have e : In 1 (List.map (fun x : Pr2 => x.2) [(t0, ((0, 0) : Rn))]) = fun _ => True := funext fun n => propext ⟨fun _ => True.intro, fun _ => all_zero n⟩
    rw [e] at frm
    exact ⟨_, Sub.refl, q x dx q' t few ob M (Sub.trans Sub.drop sM) at' frm hl⟩
theorem run_Lot_none {f fI : Addr} {fd : FuncData} (F : Fun K "none" "Lot.none" s_Lot_none f fd) (hC : mg "Lot" = some (.ref C)) (la : LotA K C) (M0 : Mk K C fI) (R : RunG P w K mg base CX0 4 fI argsP (toSp fun vs L Q E => ∃ ws rest, vs = ws ++ rest ∧ ws.length = 2 ∧ rest.length ≤ sizeLine ∧ ∀ p, spLotInit K (ws ++ [.ref p]) ((p, .tup rest) :: L) Q E)) :
    RunG P w K mg base CX0 6 f argsP (toSp (spNoLot C)) := by
  refine run_plain F sc_Lot_none argsP id id (fun _ _ r => r) (fun _ _ _ _ _ _ us hl => match us, hl with | [], _ => rfl) (by decide) (fun vs L Q E h => by obtain ⟨rfl, _⟩ := h; rfl) ?_
  intro X f cdv A outer s H E0 L vs Q E hX nd hr h
  subst hX
  obtain ⟨rfl, q⟩ := h
  show GSs _ (defBody s_Lot_none) (bodyD Q) [] L
  refine gss_cons ?_
  tm_at "g"
  refine ge_callF hC M0.kp (fun _ => gf_lot la M0 R hr) ?_
  tm_at "g"
  refine ⟨1, [], rfl, (fun e he => nomatch he), by decide, by decide, (fun e he => nomatch he), fun x dx q' t few ob M sM at' frm hl => ?_⟩
  have e : In 1 (List.map (fun x : Pr2 => x.2) []) = fun _ => False := funext fun n => propext ⟨(fun ⟨r, hr, _⟩ => nomatch hr), (fun z => z.elim)⟩
  rw [e] at frm
  exact ⟨_, Sub.refl, q x dx q' t few ob M sM at' frm hl⟩
/-- __len__ -/
def spLotLen (K : PySem.W.Frag) : SpL := fun vs L Q _ => ∃ (a C dx : Addr) (q : Int) (t : Addr) (few : List Pr2) (ob : Addr), vs = [.ref a] ∧ LotA K C ∧ LotAt C a dx q t few ob L ∧ Q (.int few.length) L
theorem run_Lot_len (B : Bi mg) {f : Addr} {fd : FuncData} (F : Fun K "__len__" "Lot.__len__" s_Lot_len f fd) : RunG P w K mg base CX0 1 f argsP (toSp (spLotLen K)) := by
  refine run_plain F sc_Lot_len argsP id id (fun _ _ r => r) (fun _ _ _ _ _ _ us hl => match us, hl with | [_], _ => rfl) (by decide) (by tm_at "g_len") ?_
  intro X f cdv A outer s H E0 L vs Q E hX nd hr h
  subst hX
  obtain ⟨a, C, dx, q', t, few, ob, rfl, ⟨c, n1, n2, n3, n4⟩, at', q⟩ := h
  have mo := at'.o
  have mt := at'.t
  show GSs _ (defBody s_Lot_len) (bodyD Q) [("self", some (.ref a))] L
  refine gss_cons ?_
  tm_at "g"
  rw [prV_len]
  exact ⟨_, Sub.refl, q⟩
/-- what stands at a lot's runs -/
def LotIt (K : PySem.W.Frag) : Addr → Addr → List V → Lg → Prop := fun a t xs L => ∃ (C dx : Addr) (q : Int) (few : List Pr2) (ob : Addr), LotA K C ∧ LotAt C a dx q t few ob L ∧ xs = prV few
theorem run_Lot_iter (B : Bi mg) {f : Addr} {fd : FuncData} (F : Fun K "__iter__" "Lot.__iter__" s_Lot_iter f fd) (n : Nat) : RunN n P w K mg base CX0 1 f argsP (toSp (spIterT n (LotIt K))) := by
  refine run_plainN F sc_Lot_iter (fun _ _ _ _ _ _ us hl => match us, hl with | [_], _ => rfl) (by decide) (by tm_at "g_len") ?_
  intro X f cdv A outer s H E0 L vs Q E hX hn nd hr h
  subst hX
  obtain ⟨a, t, xs, rfl, ⟨C, dx, q', few, ob, ⟨c, n1, n2, n3, n4⟩, at', rfl⟩, mt, q⟩ := h
  have mo := at'.o
  show GSs _ (defBody s_Lot_iter) (bodyD Q) [("self", some (.ref a))] L
  refine gss_cons ?_
  tm_at "g"
  refine ge_B B.iter bt_iter ?_
  tm_at "g"
  refine gc_iterT mt fun it hit => ?_
  exact ⟨_, Sub.refl, q it (Nat.le_trans hn hit)⟩
/-- __eq__ of two lots -/
def spLotEq (C : Addr) : SpL := fun vs L Q _ => ∃ (a b dx dy : Addr) (q : Int) (t : Addr) (few : List Pr2) (ob : Addr) (q2 : Int) (t2 : Addr) (few2 : List Pr2) (ob2 : Addr), vs = [.ref a, .ref b] ∧ LotAt C a dx q t few ob L ∧ LotAt C b dy q2 t2 few2 ob2 L ∧ Q (.bl (decide (q = q2 ∧ few.map (·.2) = few2.map (·.2)))) L
theorem run_Lot_eq (B : Bi mg) {f : Addr} {fd : FuncData} (F : Fun K "__eq__" "Lot.__eq__" s_Lot_eq f fd) (hC : mg "Lot" = some (.ref C)) (la : LotA K C) (ot : OwnT K C) (kk : PySem.W.kitOne K (.ref C) (.ref C) = some true) : RunG P w K mg base CX0 1 f argsP (toSp (spLotEq C)) := by
  obtain ⟨c, n1, n2, n3, n4⟩ := la
  refine run_plain F sc_Lot_eq argsP id id (fun _ _ r => r) (fun _ _ _ _ _ _ us hl => match us, hl with | [_, _], _ => rfl) (by decide) (by tm_at "g_len") ?_
  intro X f cdv A outer s H E0 L vs Q E hX nd hr h
  subst hX
  obtain ⟨a, b, dx, dy, q', t, few, ob, q2, t2, few2, ob2, rfl, at1, at2, q⟩ := h
  have mo := at1.o
  have mt := at1.t
  have mo2 := at2.o
  have mt2 := at2.t
  show GSs _ (defBody s_Lot_eq) (bodyD Q) [("self", some (.ref a)), ("other", some (.ref b))] L
  refine gss_cons ?_
  tm_at "g"
  refine gv_def hC ?_
  tm_at "g"
  refine gc_isI ot mo2 (.own _) kk ?_
  tm_at "g"
  refine ite_d (fun z => ?_) (fun z => ?_)
  · tm_at "g"
    refine go_eqPT (ps := few) (qs := few2) hr mt mt2 rfl rfl at1.ps at2.ps ?_
    rw [show decide (q' = q2 ∧ few.map (·.2) = few2.map (·.2)) = decide (few.map (·.2) = few2.map (·.2)) by rw [decide_eq_decide]; simp [z]] at q
    exact ⟨_, Sub.refl, q⟩
  · rw [decide_eq_false fun y => z y.1] at q
    exact ⟨_, Sub.refl, q⟩
end
section
open Lt
variable {P : Program} {w : World} {K : PySem.W.Frag} {mg : Str → Option Value} {base : Heap} {C : Addr}
theorem Sh.mono {d : PyData} {n k n' k' : Nat} (h : Sh d n k) (a : n ≤ n') (b : k ≤ k') : Sh d n' k' := ⟨h.s, Nat.le_trans h.dp b, Nat.le_trans h.l a⟩
theorem Form.small {S : Int → Prop} {q p : Int} {few : List Rn} (h : Form S q few) (p0 : 0 < p) (pp : Per S p) : q ≤ p ∧ (∀ r ∈ few, 0 ≤ r.1 ∧ r.1 < p ∧ r.1 ≤ r.2 ∧ r.2 < 2 * p) := by
  have ql := h.least _ p0 pp
  refine ⟨ql, fun r hr => ?_⟩
  rcases h.runs with ⟨a, b⟩ | ⟨a, b⟩
  · rw [b] at hr
    rw [List.mem_singleton.mp hr]
    simp
    omega
  · have w := a.wd r hr
    have l := a.le r hr
    have c := a.cl r hr r hr
    omega
theorem LotR.up {S : Int → Prop} {L M : Lg} {Q : QV} (h : LotR C S L Q) (s : Sub L M) : LotR C S M Q := fun x dx q t few ob N sN a b c => h x dx q t few ob N (Sub.trans s sN) a b c
theorem LotR.drp {S : Int → Prop} {L : Lg} {Q : QV} (h : LotR C S L Q) : LotR C S L (G.drp Q) := fun x dx q t few ob N sN a b c => ⟨N, Sub.refl, h x dx q t few ob N sN a b c⟩
/-- the pen brought ahead of everything else -/
theorem pen_out {p c : Addr} {n m : Int} {ns : List Int} {R M : Lg} (nd : (M.map (·.1)).Nodup) (s : Sub ((p, penO c n m) :: (c, celO ns) :: R) M) : ∃ R2, M.Perm ((p, penO c n m) :: (c, celO ns) :: R2) ∧ (∀ x ∈ R, x ∈ R2) ∧ ∀ x ∈ M, x = (p, penO c n m) ∨ x ∈ (c, celO ns) :: R2 := by
  obtain ⟨nd1, mem⟩ := s.to nd
  obtain ⟨M1, p1⟩ := split_at (mem _ List.mem_cons_self)
  have ne : (c, celO ns) ≠ (p, penO c n m) := fun e => by
    have := (List.nodup_cons.mp nd1).1
    rw [← e] at this
    exact this List.mem_cons_self
  have mc : (c, celO ns) ∈ M1 := by
    rcases List.mem_cons.mp (p1.mem_iff.mp (mem _ (List.mem_cons_of_mem _ List.mem_cons_self))) with h | h
    · exact absurd h ne
    · exact h
  obtain ⟨M2, p2⟩ := split_at mc
  have p3 := p1.trans (p2.cons _)
  refine ⟨M2, p3, fun x hx => ?_, fun x hx => List.mem_cons.mp (p3.mem_iff.mp hx)⟩
  have hm := p3.mem_iff.mp (mem x (List.mem_cons_of_mem _ (List.mem_cons_of_mem _ hx)))
  have n1 := (List.nodup_cons.mp nd1).1
  have n2 := (List.nodup_cons.mp (List.nodup_cons.mp nd1).2).1
  rcases List.mem_cons.mp hm with rfl | hm
  · exact absurd (List.mem_cons_of_mem _ (List.mem_map.mpr ⟨_, hx, rfl⟩)) n1
  rcases List.mem_cons.mp hm with rfl | hm
  · exact absurd (List.mem_map.mpr ⟨_, hx, rfl⟩) n2
  · exact hm
/-- a lot is none of the pen's -/
theorem LotAt.rest {a dx : Addr} {q : Int} {t : Addr} {few : List Pr2} {ob p c : Addr} {n m : Int} {M N : Lg} (h : LotAt C a dx q t few ob M) (k : ∀ x ∈ M, x = (p, penO c n m) ∨ x ∈ N) : LotAt C a dx q t few ob N := by
  have ne : ∀ {x : Addr × HO}, x ∈ M → x.2 ≠ penO c n m → x ∈ N := fun hx z => (k _ hx).resolve_left fun e => z (by rw [e])
  refine ⟨ne h.o ?_, ne h.t ?_, fun e he => ne (h.ps e he) ?_, ne h.ob ?_⟩
  · exact fun e => by cases e
  · exact fun e => by cases e
  · exact fun e => by cases e
  · intro e
    injection e with e
    cases few with
    | nil => cases e
    | cons _ _ => injection e with e _; cases e
theorem gif_imp {X : Cx} {η : En} {L : Lg} {a b : Expr} {k : Bool} {Q Q' : QV} (h : if k = true then GE X a η L Q' else GE X b η L Q') (m : ∀ v M, Q' v M → Q v M) : if k = true then GE X a η L Q else GE X b η L Q := by
  cases k with
  | true => exact GE.imp h m
  | false => exact GE.imp h m
theorem GA.ndc {X : Cx} {es : List Expr} {η : En} {L : Lg} {Q : List V → Lg → Prop} (h : (L.map (·.1)).Nodup → GA X es η L Q) : GA X es η L Q := fun hN H hH => h hH.1 hN H hH
theorem GGs.ndc {X : Cx} {es : List Expr} {vs : List V} {η : En} {L : Lg} {Q : En → Lg → Prop} (h : (L.map (·.1)).Nodup → GGs X es vs η L Q) : GGs X es vs η L Q := fun hN H hH => h hH.1 hN H hH
theorem GOp.ndc {X : Cx} {f x y} {L : Lg} {Q : QV} (h : (L.map (·.1)).Nodup → GOp X f x y L Q) : GOp X f x y L Q := fun pins s σ H v u hH => h hH.1 pins s σ H v u hH
/-- what == of lots wants -/
structure LotEq (P : Program) (w : World) (K : PySem.W.Frag) (mg : Str → Option Value) (base : Heap) (C : Addr) where
  g : Addr
  oe : OwnEq K C g
  run : RunG P w K mg base CX0 1 g argsP (toSp (spLotEq C))
  nf : PySem.W.notFirst K C (.ref C) = true
theorem LotR.of {S : Int → Prop} {L : Lg} {Q : QV} {q0 : Int} {few0 : List Rn} (f0 : Form S q0 few0) (k : ∀ (x dx t : Addr) (few : List Pr2) (ob : Addr) (M : Lg), Sub L M → LotAt C x dx q0 t few ob M → few.map (·.2) = few0 → Q (.ref x) M) : LotR C S L Q := fun x dx q t few ob M s a f _ => by
  obtain ⟨rfl, e⟩ := Form.unique f f0
  exact k x dx t few ob M s a e
end
section
open Lt
variable {P : Program} {w : World} {K : PySem.W.Frag} {mg : Str → Option Value} {base : Heap} {C : Addr}
theorem tupK_ty {a : Addr} {xs : List V} (h : TupK K a xs) (H : Hp) : TyX K H (.ref a) (.type "tuple") := by
  obtain ⟨o, _, _, e, c, _⟩ := h
  exact .kTuple e c
section
variable {X : Cx} {L : Lg} {Q : QV} {p : Addr} {xs : List V} {i : Int} {v : V}
theorem gc_lenK (m : TupK X.K p xs) (h : Q (.int (xs.length : Int)) L) : GC X (.builtin "len") [.ref p] L Q := GC.of call_len_seq fun H hH => ⟨p, xs, rfl, .inr (m.sq H), L, hH, h⟩
theorem gi_tupK (m : TupK X.K p xs) (e : atI xs i = some v) (h : Q v L) : GIx X (.ref p) (.int i) L Q := GIx.of ix_tup fun H hH => ⟨p, xs, i, v, rfl, rfl, m.sq H, e, L, hH, h⟩
end
/-- constant runs -/
def PrsK (K : PySem.W.Frag) (ps : List Pr2) : Prop := ∀ e ∈ ps, TupK K e.1 [.int e.2.1, .int e.2.2]
def spIsRunK (K : PySem.W.Frag) : SpL := fun vs L Q _ => ∃ (t : Addr) (a b : Int), vs = [.ref t] ∧ TupK K t [.int a, .int b] ∧ Q (.bl (decide (a ≤ b))) L
def spLenK (K : PySem.W.Frag) : SpL := fun vs L Q _ => ∃ (t : Addr) (a b : Int), vs = [.ref t] ∧ TupK K t [.int a, .int b] ∧ Q (.int (b - a + 1)) L
theorem fn_is_runK (B : Bi mg) (F : Df K mg "is_run" s_is_run) (D1 : Fn P w K mg base CX0 "is_whole" 1 spWholeI) : Fn P w K mg base CX0 "is_run" 2 (spIsRunK K) := by
  refine fn_plain F sc_is_run (fun _ _ _ _ _ _ us hl => match us, hl with | [_], _ => rfl) (by decide) (by tm_at "g_len") ?_
  intro X f cdv A outer s H E0 L vs Q E hX nd hr h
  subst hX
  obtain ⟨t, a, b, rfl, m, q⟩ := h
  show GSs _ (defBody s_is_run) (bodyD Q) [("value", some (.ref t))] L
  refine gss_cons ?_
  tm_at "g"
  refine gc_isi (fun H _ => tupK_ty m H) kb_tuple_tuple ?_
  tm_at "g"
  refine gc_lenK m ?_
  tm_at "g"
  rw [show (!decide ((([.int a, .int b] : List V).length : Int) = 2)) = false from rfl]
  tm_at "g"
  refine ge_call (El := NoX) D1 hr passA ?_
  tm_at "g"
  refine gi_tupK m rfl ?_
  tm_at "g"
  refine ⟨a, rfl, ?_⟩
  tm_at "g"
  refine ge_call (El := NoX) D1 hr passA ?_
  tm_at "g"
  refine gi_tupK m rfl ?_
  tm_at "g"
  refine ⟨b, rfl, ?_⟩
  tm_at "g"
  refine gi_tupK m rfl ?_
  tm_at "g"
  refine gi_tupK m rfl ?_
  tm_at "g"
  exact ⟨_, Sub.refl, q⟩
theorem fn_length_ofK (F : Df K mg "length_of" s_length_of) : Fn P w K mg base CX0 "length_of" 1 (spLenK K) := by
  refine fn_plain F sc_length_of (fun _ _ _ _ _ _ us hl => match us, hl with | [_], _ => rfl) (by decide) (by tm_at "g_len") ?_
  intro X f cdv A outer s H E0 L vs Q E hX nd hr h
  subst hX
  obtain ⟨t, a, b, rfl, m, q⟩ := h
  show GSs _ (defBody s_length_of) (bodyD Q) [("run", some (.ref t))] L
  refine gss_cons ?_
  tm_at "g"
  refine gi_tupK m rfl ?_
  tm_at "g"
  refine gi_tupK m rfl ?_
  tm_at "g"
  exact ⟨_, Sub.refl, q⟩
def spMaximalK (K : PySem.W.Frag) : SpL := fun vs L Q _ => ∃ (p : Int) (r : Addr) (o : HO) (ps : List Pr2), vs = [.int p, .ref r] ∧ RowO o (prV ps) ∧ (r, o) ∈ L ∧ PrsK K ps ∧ ps.length ≤ 100000 ∧ 1 ≤ p ∧ (∃ e ∈ ps, p ≤ e.2.2 - e.2.1 + 1) ∧ (∀ e ∈ ps, e.2.1 ≤ e.2.2) ∧ NewRows (fun rs => Mx p (ps.map (·.2)) rs ∧ rs.length ≤ ps.length) L Q
theorem fn_maximalK (B : Bi mg) (F : Df K mg "maximal" s_maximal) (D1 : Fn P w K mg base CX0 "length_of" 1 (spLenK K)) : Fn P w K mg base CX0 "maximal" 2 (spMaximalK K) := by
  refine fn_plain F sc_maximal (fun _ _ _ _ _ _ us hl => match us, hl with | [_, _], _ => rfl) (by decide) (by tm_at "g_len") ?_
  intro X f cdv A outer s H E0 L vs Q E hX nd hr h
  subst hX
  obtain ⟨p, r, o, ps, rfl, ro, m, hp, hl, p1, cov, le, q⟩ := h
  show GSs _ (defBody s_maximal) (bodyD Q) [("period", some (.int p)), ("runs", some (.ref r)), ("moved", none), ("found", none), ("run", none)] L
  refine gss_cons ?_
  tm_at "g"
  refine ge_lcP (by tm_at "g_put") (gi_rowO ro ?_) (show blkC N_maximal (defScope s_maximal) _ [(_, List.idxOf _ N_maximal)] = true by decide +kernel)
  tm_at "g"
  refine ⟨m, ?_⟩
  refine pure_rowPr (t := fun _ => true) (g := fun e => .bl (decide (p ≤ e.2.2 - e.2.1 + 1))) m (by omega) (fun e he D acc s1 H1 C1 cl1 fp1 => ?_) fun D => ?_
  · refine gts_nil ⟨rfl, Sub.refl, fun _ s2 H2 C2 cl2 fp2 => ?_⟩
    tm_at "g"
    refine ge_call (El := NoX) D1 hr passA ?_
    tm_at "g"
    refine ⟨_, _, _, rfl, hp e he, ?_⟩
    tm_at "g"
    exact ⟨rfl, Sub.refl⟩
  rw [List.filter_eq_self.mpr fun _ _ => rfl]
  have eb : ps.map (fun e : Pr2 => V.bl (decide (p ≤ e.2.2 - e.2.1 + 1))) = (ps.map fun e => decide (p ≤ e.2.2 - e.2.1 + 1)).map V.bl := by
    rw [List.map_map]
    rfl
  rw [eb]
  tm_at "g"
  refine gc_anyB (by rfl) mem0 ?_
  refine ⟨_, rfl, ite_b (fun z => ?_) (fun z => ?_)⟩
  · -- a run as long as a round
    obtain ⟨e, he, hz⟩ : ∃ e ∈ ps, p ≤ e.2.2 - e.2.1 + 1 := by
      obtain ⟨b, hb, hz⟩ := List.any_eq_true.mp z
      obtain ⟨e, he, rfl⟩ := List.mem_map.mp hb
      exact ⟨e, he, of_decide_eq_true hz⟩
    tm_at "g"
    rename_i t1 t2
    refine ⟨_, Sub.refl, q t2 [(t1, (0, p - 1))] _ (Sub.drop.trans (Sub.drop.trans Sub.drop)) mem0 ?_ ⟨.inl ⟨rfl, fun n => ?_⟩, ?_⟩⟩
    · intro x hx
      rw [List.mem_singleton.mp hx]
      exact memS mem0
    · exact in_long (r := e.2) (by omega) (List.mem_map.mpr ⟨e, he, rfl⟩) hz n
    · exact List.length_pos_of_mem he
  · obtain ⟨e, he, hz⟩ := cov
    have := List.any_eq_false.mp z (decide (p ≤ e.2.2 - e.2.1 + 1)) (List.mem_map.mpr ⟨e, he, rfl⟩)
    rw [decide_eq_true hz] at this
    exact absurd rfl this
def spLotInitK (K : PySem.W.Frag) : SpL := fun vs L Q _ => ∃ (a C dx : Addr) (p : Int) (r : Addr) (ps : List Pr2) (L0 : Lg), vs = [.ref a, .int p, .ref r] ∧ Sub ((a, HO.ins C dx []) :: L0) L ∧ LotA K C ∧ (r, HO.tup (prV ps)) ∈ L0 ∧ PrsK K ps ∧ ps.length ≤ 2000 ∧ 1 ≤ p ∧ (∃ e ∈ ps, p ≤ e.2.2 - e.2.1 + 1) ∧ (∀ e ∈ ps, e.2.1 ≤ e.2.2) ∧
  ∀ (q : Int) (t : Addr) (few : List Pr2) (ob : Addr) (M R : Lg), M = (a, lotO C dx q t (lens (few.map (·.2))).sum ob) :: R → Sub ((a, lotO C dx q t (lens (few.map (·.2))).sum ob) :: L0) M → LotAt C a dx q t few ob M → Form (In p (ps.map (·.2))) q (few.map (·.2)) → few.length ≤ 2000 → (∀ o, (ob, o) ∉ L0) → Q .non M
theorem run_Lot_initK (B : Bi mg) {f : Addr} {fd : FuncData} (F : Fun K "__init__" "Lot.__init__" s_Lot_init f fd) (G1 : Fn P w K mg base CX0 "is_whole" 1 spWholeI) (G2 : Fn P w K mg base CX0 "is_run" 2 (spIsRunK K)) (G3 : Fn P w K mg base CX0 "maximal" 2 (spMaximalK K)) (G4 : Fn P w K mg base CX0 "need_few" 1 spFew) (G5 : Fn P w K mg base CX0 "least_form" 2 spLeast) (G6 : Fn P w K mg base CX0 "length_of" 1 spLen) :
    RunG P w K mg base CX0 4 f argsP (toSp fun vs L Q E => ∃ ws rest, vs = ws ++ rest ∧ ws.length = 2 ∧ rest.length ≤ sizeLine ∧ ∀ p, spLotInitK K (ws ++ [.ref p]) ((p, .tup rest) :: L) Q E) := by
  refine run_starred (ps := ["self", "period"]) F sc_Lot_init (fun _ _ _ _ _ _ us rest hl => match us, hl with | [u, v], _ => by cases rest <;> rfl) (by decide) ?_ (by tm_at "g_len")
  intro X f cdv A outer s H E0 L vs Q E hX nd hr h
  subst hX
  obtain ⟨a, C, dx, p, r, ps, L0, rfl, s0, ⟨c, n1, n2, n3, n4⟩, m, hp, hl, p1, cov, le, q⟩ := h
  with_reducible refine GSs.sub s0 ?_
  show GSs _ (defBody s_Lot_init) (bodyD Q) [("self", some (.ref a)), ("period", some (.int p)), ("runs", some (.ref r)), ("found", none), ("least", none), ("run", none)] _
  refine gss_cons ?_
  tm_at "g"
  refine ge_call (El := NoX) G1 hr passA ?_
  tm_at "g"
  refine ⟨p, rfl, ?_⟩
  tm_at "g"
  refine ite_d (fun z => absurd z (by omega)) (fun _ => ?_)
  tm_at "g"
  refine ge_lcP (by tm_at "g_put") (gi_tuple ?_) (show blkC N_Lot_init (defScope s_Lot_init) _ [(_, List.idxOf _ N_Lot_init)] = true by decide +kernel)
  tm_at "g"
  refine pure_rowPr (t := fun _ => true) (g := fun _ => .bl true) (memS m) (by omega) (fun e he D acc s1 H1 C1 cl1 fp1 => ?_) fun D => ?_
  · refine gts_nil ⟨rfl, Sub.refl, fun _ s2 H2 C2 cl2 fp2 => ?_⟩
    tm_at "g"
    refine ge_call (El := NoX) G2 hr passA ?_
    tm_at "g"
    refine ⟨_, _, _, rfl, hp e he, ?_⟩
    rw [decide_eq_true (le e he)]
    exact ⟨rfl, Sub.refl⟩
  rw [List.filter_eq_self.mpr fun _ _ => rfl, show ps.map (fun _ : Pr2 => V.bl true) = (ps.map fun _ => true).map V.bl by rw [List.map_map]; rfl]
  tm_at "g"
  refine gc_allB (by rfl) mem0 ?_
  rw [show (ps.map fun _ => true).all id = true by simp]
  tm_at "g"
  refine ge_call (El := NoX) G3 hr passA ?_
  tm_at "g"
  refine ⟨p, r, _, ps, rfl, .inr rfl, memS (memS m), hp, by omega, p1, cov, le, fun f1 ps1 M1 s1 m1 hp1 ⟨mx, len1⟩ => ?_⟩
  rw [List.length_map] at len1
  tm_at "g"
  refine ge_call (El := NoX) G4 hr passA ?_
  tm_at "g"
  rw [prV_len]
  refine ⟨_, rfl, by omega, ?_⟩
  tm_at "g"
  refine ge_call (El := NoX) G5 hr passA ?_
  tm_at "g"
  refine ⟨p, f1, ps1, ps.map (·.2), rfl, m1, hp1, by omega, p1, mx, fun t t2 q' few M2 s2 mt mt2 hfew frm len2 => ?_⟩
  show GSs _ _ _ _ _
  refine GSs.nd fun nd2 => ?_
  have s02 : Sub ((a, HO.ins C dx []) :: L0) M2 := Sub.trans (Sub.trans Sub.drop s1) s2
  obtain ⟨R, pm⟩ := split_at ((s02.to nd2).2 _ List.mem_cons_self)
  have inR : ∀ {b : Addr} {o : HO}, (b, o) ∈ M2 → o ≠ HO.ins C dx [] → (b, o) ∈ R := fun {b o} h ne => by
    rcases List.mem_cons.mp (pm.mem_iff.mp h) with e | h
    · exact absurd (congrArg Prod.snd e) ne
    · exact h
  have rt := inR mt (fun z => nomatch z)
  have rt2 := inR mt2 (fun z => nomatch z)
  have rfew : Prs2 few R := fun e he => inR (hfew e he) (fun z => nomatch z)
  refine GSs.sub (Sub.perm pm.symm) ?_
  clear inR mt mt2 hfew
  tm_at "g"
  refine ⟨a, C, dx, [], (a, HO.ins C dx [("period", .int q')]) :: R, rfl, mem0, c, n1, by decide, .here, ?_⟩
  tm_at "g"
  refine ⟨a, C, dx, _, (a, HO.ins C dx [("period", .int q'), ("runs", .ref t2)]) :: R, rfl, mem0, c, n2, by simp, .here, ?_⟩
  tm_at "g"
  refine ge_lcP (by tm_at "g_put") (gi_tuple ?_) (show blkC N_Lot_init (defScope s_Lot_init) _ [(_, List.idxOf _ N_Lot_init)] = true by decide +kernel)
  tm_at "g"
  refine pure_rowPr (t := fun _ => true) (g := fun e => .int (e.2.2 - e.2.1 + 1)) (memS rt2) (by omega) (fun e he D acc s1 H1 C1 cl1 fp1 => ?_) fun D2 => ?_
  · refine gts_nil ⟨rfl, Sub.refl, fun _ s2 H2 C2 cl2 fp2 => ?_⟩
    tm_at "g"
    refine ge_call (El := NoX) G6 hr passA ?_
    tm_at "g"
    exact ⟨_, _, _, rfl, memS (memS (rfew e he)), rfl, Sub.refl⟩
  rw [List.filter_eq_self.mpr fun _ _ => rfl, show few.map (fun e : Pr2 => V.int (e.2.2 - e.2.1 + 1)) = (lens (few.map (·.2))).map V.int by unfold lens; rw [List.map_map, List.map_map]; rfl]
  tm_at "g"
  refine gc_sumI (by rfl) mem0 ?_
  tm_at "g"
  refine ⟨a, C, dx, _, (D2, HO.lst ((lens (few.map (·.2))).map V.int)) :: (a, HO.ins C dx [("period", .int q'), ("runs", .ref t2), ("size", .int (lens (few.map (·.2))).sum)]) :: R, rfl, memS mem0, c, n3, by simp, .there .here, ?_⟩
  tm_at "g"
  refine GE.nd ?_
  refine ge_lcP (by tm_at "g_put") (gi_tuple ?_) (show blkC N_Lot_init (defScope s_Lot_init) _ [(_, List.idxOf _ N_Lot_init)] = true by decide +kernel)
  tm_at "g"
  refine pure_rowPr (t := fun _ => true) (g := fun e => .int e.2.1) (memS (memS rt2)) (by omega) (fun e he D acc s1 H1 C1 cl1 fp1 => ?_) fun D3 => ?_
  · have me := rfew e he
    refine gts_nil ⟨rfl, Sub.refl, fun _ s2 H2 C2 cl2 fp2 => ?_⟩
    tm_at "g"
    exact ⟨rfl, Sub.refl⟩
  rw [List.filter_eq_self.mpr fun _ _ => rfl, show few.map (fun e : Pr2 => V.int e.2.1) = (few.map fun e => e.2.1).map V.int by rw [List.map_map]; rfl]
  intro nd3
  have fr : ∀ o, (D3, o) ∉ L0 := fun o ho => by
    have n3 := (List.nodup_cons.mp nd3).1
    have h1 := pm.mem_iff.mp ((s02.to nd2).2 _ (memS ho))
    rcases List.mem_cons.mp h1 with e | h2
    · exact n3 (List.mem_map.mpr ⟨(a, HO.ins C dx [("period", .int q'), ("runs", .ref t2), ("size", .int (lens (few.map (·.2))).sum)]), memS mem0, (congrArg Prod.fst e).symm⟩)
    · exact n3 (List.mem_map.mpr ⟨_, memS (memS h2), rfl⟩)
  tm_at "g"
  refine ⟨a, C, dx, _, (D3, HO.lst ((few.map fun e => e.2.1).map V.int)) :: (D2, HO.lst ((lens (few.map (·.2))).map V.int)) :: (a, lotO C dx q' t2 (lens (few.map (·.2))).sum D3) :: R, rfl, memS (memS mem0), c, n4, by simp, .there (.there .here), ?_⟩
  tm_at "g"
  refine ⟨(a, lotO C dx q' t2 (lens (few.map (·.2))).sum D3) :: (D3, HO.lst ((few.map fun e => e.2.1).map V.int)) :: (D2, HO.lst ((lens (few.map (·.2))).map V.int)) :: R, Sub.perm (by exact List.perm_middle (l₁ := [_, _]).symm), q q' t2 few D3 _ _ rfl ?_ ⟨mem0, memS (memS (memS rt2)), rfew.mono fun _ h => memS (memS (memS h)), memS mem0⟩ frm (by omega) fr⟩
  have z := sub_put s02 pm (lotO C dx q' t2 (lens (few.map (·.2))).sum D3)
  exact Sub.trans z (Sub.sublist (List.Sublist.cons_cons _ (List.Sublist.cons _ (List.Sublist.cons _ (List.Sublist.refl _)))))
theorem gf_lotK {X : Cx} {η : En} {Q : QV} {j : Nat} {fI : Addr} (la : LotA X.K C) (M0 : Mk X.K C fI) (R : RunG X.prog X.w X.K X.mg X.base CX0 4 fI argsP (toSp fun vs L Q E => ∃ ws rest, vs = ws ++ rest ∧ ws.length = 2 ∧ rest.length ≤ sizeLine ∧ ∀ p, spLotInitK X.K (ws ++ [.ref p]) ((p, .tup rest) :: L) Q E)) (hr : RoomG j X.A) (hj : 5 ≤ j := by decide) :
    GF X η C argsP (fun vs L => ∃ (p : Int) (ps : List Pr2), vs = .int p :: prV ps ∧ PrsK X.K ps ∧ ps.length ≤ 2000 ∧ 1 ≤ p ∧ (∃ e ∈ ps, p ≤ e.2.2 - e.2.1 + 1) ∧ (∀ e ∈ ps, e.2.1 ≤ e.2.2) ∧ LotR C (In p (ps.map (·.2))) L Q) Q := fun pins s H us vs L hH I r ⟨p, ps, ev, hp, hl, p1, cov, le, q⟩ => by
  refine gf_make (El := NoX) M0 R (fun _ _ => rfl) hr passA hj pins s H us vs L hH I r fun x dx => ?_
  subst ev
  refine ⟨[.ref x, .int p], prV ps, rfl, rfl, szL (by rw [prV_len]; omega), fun pa => ⟨x, C, dx, p, pa, ps, (pa, .tup (prV ps)) :: (dx, .own x) :: L, rfl, Sub.perm (.swap _ _ _), la, mem0, hp, hl, p1, cov, le, fun q' t few ob M R' _ sM at' frm hl' _ => ⟨rfl, q x dx q' t few ob M ?_ at' frm hl'⟩⟩⟩
  exact Sub.trans (Sub.drop.trans (Sub.drop.trans Sub.drop)) sM
end
section
def spInteger : SpL := fun vs L Q _ => ∃ n : Int, vs = [.int n] ∧ Q .non L
end
section
open Lt
variable {P : Program} {w : World} {K : PySem.W.Frag} {mg : Str → Option Value} {base : Heap} {C : Addr}
theorem srt_le {ns : List Int} (h : ns.Pairwise (· ≤ ·)) {i j : Nat} (hij : i ≤ j) {x y : Int} (hx : ns[i]? = some x) (hy : ns[j]? = some y) : x ≤ y := by
  obtain ⟨hi, rfl⟩ := List.getElem?_eq_some_iff.mp hx
  obtain ⟨hj, rfl⟩ := List.getElem?_eq_some_iff.mp hy
  rcases Nat.lt_or_ge i j with z | z
  · exact List.pairwise_iff_getElem.mp h i j hi hj z
  · obtain rfl : i = j := by omega
    exact Int.le_refl _
def spPlace : SpL := fun vs L Q _ => ∃ (r : Addr) (ns : List Int) (v : Int), vs = [.ref r, .int v] ∧ (r, HO.lst (ns.map V.int)) ∈ L ∧ ns.length ≤ 1000000 ∧ ns.Pairwise (· ≤ ·) ∧ ∀ k : Nat, Below ns v k → Q (.int k) L
theorem fn_place_among (B : Bi mg) (F : Df K mg "place_among" s_place_among) : Fn P w K mg base CX0 "place_among" 1 spPlace := by
  refine fn_plain F sc_place_among (fun _ _ _ _ _ _ us hl => match us, hl with | [_, _], _ => rfl) (by decide) (by tm_at "g_len") ?_
  intro X f cdv A outer s H E0 L vs Q E hX nd hr h
  subst hX
  obtain ⟨r, ns, v, rfl, mr, hl, srt, q⟩ := h
  show GSs _ (defBody s_place_among) (bodyD Q) [("row", some (.ref r)), ("value", some (.int v)), ("low", none), ("high", none), ("middle", none)] L
  refine gss_cons ?_
  tm_at "g"
  rw [List.length_map]
  refine GS.cut (fun θ M => ∃ (k : Nat) (u : Option V), θ = ([("row", some (.ref r)), ("value", some (.int v)), ("low", some (.int k)), ("high", some (.int k)), ("middle", u)] : En) ∧ Sub L M ∧ Below ns v k) ?_ ?_
  · refine gs_while (fun n θ M => ∃ (lo hi : Nat) (u : Option V), θ = ([("row", some (.ref r)), ("value", some (.int v)), ("low", some (.int lo)), ("high", some (.int hi)), ("middle", u)] : En) ∧ Sub L M ∧ n = hi - lo ∧ lo ≤ hi ∧ hi ≤ ns.length ∧ (∀ i x, i < lo → ns[i]? = some x → x < v) ∧ ∀ i x, hi ≤ i → ns[i]? = some x → v ≤ x) ns.length ⟨0, ns.length, none, rfl, Sub.refl, rfl, Nat.zero_le _, Nat.le_refl _, fun i x h => by omega, fun i x h e => by
      have := (List.getElem?_eq_some_iff.mp e).1
      omega⟩ ?_
    rintro n θ M ⟨lo, hi, u, rfl, sb, rfl, lh, hn, h1, h2⟩
    refine GT.sub sb ?_
    tm_at "g"
    refine ite_d (fun z => ?_) (fun z => ?_)
    · tm_at "g"
      refine go_divS (by decide) (by decide) ?_
      obtain ⟨m, em⟩ : ∃ m : Nat, ((lo : Int) + (hi : Int)) / 2 = (m : Int) := ⟨(lo + hi) / 2, by omega⟩
      rw [em]
      have ml : m < ns.length := by omega
      have gm : ns[m]? = some (ns.getD m 0) := by rw [List.getD_eq_getElem?_getD, List.getElem?_eq_getElem ml]; rfl
      tm_at "g"
      refine gi_lst mr (at_ints ml) ?_
      tm_at "g"
      refine ite_d (fun y => ?_) (fun y => ?_)
      · tm_at "g"
        exact ⟨hi - (m + 1), by omega, m + 1, hi, _, rfl, Sub.refl, rfl, by omega, hn, fun i x hi' e => by
          have := srt_le srt (show i ≤ m by omega) e gm
          omega, h2⟩
      · tm_at "g"
        exact ⟨m - lo, by omega, lo, m, _, rfl, Sub.refl, rfl, by omega, by omega, h1, fun i x hi' e => by
          have := srt_le srt hi' gm e
          omega⟩
    · obtain rfl : lo = hi := by omega
      exact ⟨lo, u, rfl, Sub.refl, hn, h1, h2⟩
  · rintro θ M ⟨k, u, rfl, sb, bl⟩
    refine GSs.sub sb ?_
    tm_at "g"
    exact ⟨_, Sub.refl, q k bl⟩
end
section
variable {P : Program} {w : World} {K : PySem.W.Frag} {mg : Str → Option Value} {base : Heap} {C : Addr}
theorem getMapInt {ns : List Int} {i : Nat} {x : V} (h : (ns.map V.int)[i]? = some x) : ∃ n, ns[i]? = some n ∧ x = .int n := by
  rw [List.getElem?_map] at h
  cases e : ns[i]? with
  | none => rw [e] at h; cases h
  | some n => rw [e] at h; cases h; exact ⟨n, rfl, rfl⟩
def gcds (l : List Int) : Nat := l.foldl (fun a n => Nat.gcd a n.natAbs) 0
theorem gcds_more {ns : List Int} {i : Nat} {n : Int} (h : ns[i]? = some n) : gcds (ns.take (i + 1)) = Nat.gcd (gcds (ns.take i)) n.natAbs := by
  unfold gcds
  rw [List.take_succ, h]
  simp
def spDivOf : SpL := fun vs L Q _ => ∃ a b : Nat, vs = [.int a, .int b] ∧ b < 2 ^ 9000 ∧ Q (.int (Nat.gcd a b : Nat)) L
theorem fn_divisor_of (B : Bi mg) (F : Df K mg "divisor_of" s_divisor_of) : Fn P w K mg base CX0 "divisor_of" 1 spDivOf := by
  refine fn_plain F sc_divisor_of (fun _ _ _ _ _ _ us hl => match us, hl with | [_, _], _ => rfl) (by decide) (by tm_at "g_len") ?_
  intro X f cdv A outer s H E0 L vs Q E hX nd hr h
  subst hX
  obtain ⟨a, b, rfl, hb, q⟩ := h
  show GSs _ (defBody s_divisor_of) (bodyD Q) [("one", some (.int a)), ("other", some (.int b))] L
  refine gss_cons ?_
  refine gs_while (fun m θ M => ∃ c d : Nat, θ = ([("one", some (.int c)), ("other", some (.int d))] : En) ∧ M = L ∧ Nat.gcd c d = Nat.gcd a b ∧ m = d) b ⟨a, b, rfl, rfl, rfl, rfl⟩ ?_
  rintro m θ M ⟨c, d, rfl, rfl, hg, rfl⟩
  tm_at "g"
  refine ite_n (fun hd => ?_) (fun hd => ?_)
  · tm_at "g"
    refine go_mod (by omega) ?_
    tm_at "g"
    refine ⟨c % m, Nat.mod_lt _ (by omega), m, c % m, ?_, rfl, ?_, rfl⟩
    · rw [Int.natCast_emod]
    · rw [← hg, Nat.gcd_comm m (c % m), ← Nat.gcd_rec, Nat.gcd_comm]
  · tm_at "g"
    have e : m = 0 := by omega
    subst e
    rw [← hg, Nat.gcd_zero_right] at q
    exact ⟨_, Sub.refl, q⟩
theorem fn_need_wholeI (F : Df K mg "need_whole" s_need_whole) (D1 : Fn P w K mg base CX0 "is_whole" 1 spWholeI) : Fn P w K mg base CX0 "need_whole" 2 spInteger := by
  refine fn_plain F sc_need_whole (fun _ _ _ _ _ _ us hl => match us, hl with | [_], _ => rfl) (by decide) (by tm_at "g_len") ?_
  intro X f cdv A outer s H E0 L vs Q E hX nd hr h
  subst hX
  obtain ⟨n, rfl, q⟩ := h
  show GSs _ (defBody s_need_whole) (bodyD Q) [("value", some (.int n))] L
  refine gss_cons ?_
  tm_at "g"
  refine ge_call (El := NoX) D1 hr passA ?_
  tm_at "g"
  refine ⟨n, rfl, ?_⟩
  tm_at "g"
  exact ⟨_, Sub.refl, q⟩
def spGcds : SpL := fun vs L Q _ => ∃ (p : Addr) (ns : List Int) (M : Lg), vs = [.ref p] ∧ L = (p, .tup (ns.map V.int)) :: M ∧ (∀ n ∈ ns, n.natAbs < 2 ^ 9000) ∧ Q (.int (gcds ns : Nat)) M
theorem fn_commonI (B : Bi mg) (F : Df K mg "common" s_common) (D1 : Fn P w K mg base CX0 "need_whole" 2 spInteger) (D2 : Fn P w K mg base CX0 "divisor_of" 1 spDivOf) : Fn P w K mg base CX0 "common" 3 (spStar spGcds) := by
  refine fn_starred F sc_common (fun _ _ _ _ _ _ => rfl) (fun _ _ _ _ _ _ _ _ => rfl) (by decide) (by tm_at "g_len") ?_
  intro X f cdv A outer s H E0 L vs Q E hX nd hr h
  subst hX
  obtain ⟨p, ns, M, rfl, rfl, hb, q⟩ := h
  show GSs _ (defBody s_common) (bodyD Q) [("numbers", some (.ref p)), ("number", none), ("found", none)] _
  refine gss_cons ?_
  refine gs_for (gi_tuple ?_)
  tm_at "g"
  refine ⟨fun i θ N => N = (p, .tup (ns.map V.int)) :: M ∧ ∃ u, θ = ([("numbers", some (.ref p)), ("number", u), ("found", none)] : En), ⟨rfl, ⟨none, rfl⟩⟩, fun i θ N _ _ ⟨e, _⟩ => by rw [e]; exact mem0, ?_, ?_⟩
  · rintro i x E1 θ N hi ⟨hx, rfl⟩ ⟨rfl, u, rfl⟩
    obtain ⟨n, hn, rfl⟩ := getMapInt hx
    dsimp only [List.nil_append]
    refine gg_name (by tm_at "g_pv") ?_
    tm_at "g"
    refine ge_call (El := NoX) D1 hr passA ?_
    tm_at "g"
    refine ⟨n, rfl, ?_⟩
    tm_at "g"
    exact ⟨rfl, ⟨_, rfl⟩⟩
  rintro θ N ⟨rfl, u, rfl⟩
  tm_at "g"
  refine gs_for (gi_tuple ?_)
  tm_at "g"
  refine ⟨fun i θ N => N = (p, .tup (ns.map V.int)) :: M ∧ ∃ u, θ = ([("numbers", some (.ref p)), ("number", u), ("found", some (.int (gcds (ns.take i) : Nat)))] : En), ⟨rfl, u, rfl⟩, fun i θ N _ _ ⟨e, _⟩ => by rw [e]; exact mem0, ?_, ?_⟩
  · rintro i x E1 θ N hi ⟨hx, rfl⟩ ⟨rfl, u, rfl⟩
    obtain ⟨n, hn, rfl⟩ := getMapInt hx
    dsimp only [List.nil_append]
    refine gg_name (by tm_at "g_pv") ?_
    tm_at "g"
    refine ge_call (El := NoX) D2 hr passA ?_
    tm_at "g"
    refine ⟨_, _, rfl, hb n (List.mem_of_getElem? hn), ?_⟩
    tm_at "g"
    refine ⟨rfl, some (.int n), ?_⟩
    rw [gcds_more hn]
  · rintro θ N ⟨rfl, u, rfl⟩
    tm_at "g"
    rw [List.length_map, List.take_length]
    exact ⟨_, Sub.drop, q⟩
end
section
open Lt
variable {P : Program} {w : World} {K : PySem.W.Frag} {mg : Str → Option Value} {base : Heap} {C : Addr}
theorem Lt.Below.count {ns : List Int} {v : Int} {k : Nat} (h : Below ns v k) : (k : Int) = belowN ns v := by
  obtain ⟨kl, h1, h2⟩ := h
  unfold belowN
  have e := congrArg (List.countP fun x => decide (x < v)) (List.take_append_drop k ns)
  rw [List.countP_append] at e
  have a : (ns.take k).countP (fun x => decide (x < v)) = (ns.take k).length := List.countP_eq_length.mpr fun x hx => by
    obtain ⟨i, hi⟩ := List.getElem?_of_mem hx
    have ik := (List.getElem?_eq_some_iff.mp hi).1
    rw [List.length_take] at ik
    rw [List.getElem?_take_of_lt (by omega)] at hi
    exact decide_eq_true (h1 i x (by omega) hi)
  have b : (ns.drop k).countP (fun x => decide (x < v)) = 0 := List.countP_eq_zero.mpr fun x hx => by
    obtain ⟨i, hi⟩ := List.getElem?_of_mem hx
    rw [List.getElem?_drop] at hi
    have := h2 (k + i) x (by omega) hi
    rw [decide_eq_true_iff]
    omega
  rw [a, b, List.length_take] at e
  rw [← e]
  omega
theorem if_min {i j : Int} : (if j < i then j else i) = min i j := by
  rw [Int.min_def]
  split <;> split <;> omega
def spCountIn : SpL := fun vs L Q _ => ∃ (r : Addr) (row : List Int) (b m g : Int), vs = [.ref r, .int b, .int m, .int g] ∧ (r, HO.lst (row.map V.int)) ∈ L ∧ row.Pairwise (· ≤ ·) ∧ 0 < g ∧ g.natAbs < 2 ^ 2000 ∧ row.length ≤ 2000 ∧ Q (.int (countIn row b m g)) L
theorem fn_count_in (B : Bi mg) (F : Df K mg "count_in" s_count_in) (D1 : Fn P w K mg base CX0 "place_among" 1 spPlace) : Fn P w K mg base CX0 "count_in" 2 spCountIn := by
  refine fn_plain F sc_count_in (fun _ _ _ _ _ _ us hl => match us, hl with | [_, _, _, _], _ => rfl) (by decide) (by tm_at "g_len") ?_
  intro X f cdv A outer s H E0 L vs Q E hX nd hr h
  subst hX
  obtain ⟨r, row, b, m, g, rfl, mr, srt, g0, gb, rl, q⟩ := h
  show GSs _ (defBody s_count_in) (bodyD Q) [("row", some (.ref r)), ("begin", some (.int b)), ("many", some (.int m)), ("step", some (.int g)), ("low", none), ("high", none), ("found", none)] L
  refine gss_cons ?_
  tm_at "g"
  refine go_mod g0 ?_
  tm_at "g"
  refine go_mod g0 ?_
  tm_at "g"
  refine go_divK (k := 2000) g0 gb (by decide) ?_
  tm_at "g"
  rw [List.length_map]
  refine go_mulS (.inr ⟨by omega, by omega⟩) ?_
  tm_at "g"
  refine ge_call (El := NoX) D1 hr passA ?_
  tm_at "g"
  rw [if_min]
  refine ⟨r, row, _, rfl, mr, by omega, srt, fun k1 b1 => ?_⟩
  tm_at "g"
  refine ge_call (El := NoX) D1 hr passA ?_
  tm_at "g"
  refine ⟨r, row, _, rfl, mr, by omega, srt, fun k2 b2 => ?_⟩
  tm_at "g"
  have c1 := b1.count
  have c2 := b2.count
  unfold Lt.countIn at q
  refine ite_d (fun z => ?_) (fun z => ?_)
  · tm_at "g"
    refine ge_call (El := NoX) D1 hr passA ?_
    tm_at "g"
    refine ⟨r, row, _, rfl, mr, by omega, srt, fun k3 b3 => ?_⟩
    tm_at "g"
    have c3 := b3.count
    rw [if_pos z] at q
    rw [c1, c2, c3]
    exact ⟨_, Sub.refl, q⟩
  · tm_at "g"
    rw [if_neg z] at q
    rw [c1, c2]
    exact ⟨_, Sub.refl, q⟩
def spRems : SpL := fun vs L Q _ => ∃ (r : Addr) (o : HO) (ps : List Pr2) (g : Int), vs = [.ref r, .int g] ∧ RowO o (prV ps) ∧ (r, o) ∈ L ∧ Prs2 ps L ∧ 0 < g ∧ ps.length ≤ 2000 ∧ ∀ (ms : List Int) p, ms.Perm (rems (ps.map (·.2)) g) → ms.Pairwise (· ≤ ·) → Q (.ref p) ((p, .lst (ms.map V.int)) :: L)
theorem fn_remainders (B : Bi mg) (F : Df K mg "remainders" s_remainders) : Fn P w K mg base CX0 "remainders" 1 spRems := by
  refine fn_plain F sc_remainders (fun _ _ _ _ _ _ us hl => match us, hl with | [_, _], _ => rfl) (by decide) (by tm_at "g_len") ?_
  intro X f cdv A outer s H E0 L vs Q E hX nd hr h
  subst hX
  obtain ⟨r, o, ps, g, rfl, ro, mr, hp, g0, rl, q⟩ := h
  show GSs _ (defBody s_remainders) (bodyD Q) [("runs", some (.ref r)), ("step", some (.int g)), ("run", none)] L
  refine gss_cons ?_
  tm_at "g"
  refine ge_lcP (by tm_at "g_put") (gi_rowO ro ?_) (show blkC N_remainders (defScope s_remainders) _ [(_, List.idxOf _ N_remainders)] = true by decide +kernel)
  tm_at "g"
  refine ⟨mr, ?_⟩
  refine pure_rowPr (t := fun _ => true) (g := fun e => .int (e.2.1 % g)) mr (by omega) (fun e he D acc s1 H1 C1 cl1 fp1 => ?_) fun D => ?_
  · have me := hp e he
    refine gts_nil ⟨rfl, Sub.refl, fun _ s2 H2 C2 cl2 fp2 => ?_⟩
    tm_at "g"
    refine go_mod g0 ?_
    tm_at "g"
    exact ⟨rfl, Sub.refl⟩
  rw [List.filter_eq_self.mpr fun _ _ => rfl]
  have eb : ps.map (fun e : Pr2 => V.int (e.2.1 % g)) = (rems (ps.map (·.2)) g).map V.int := by
    unfold rems
    rw [List.map_map, List.map_map]
    rfl
  rw [eb]
  tm_at "g"
  refine gc_sorted mem0 fun ms p hp1 hs1 => ?_
  tm_at "g"
  exact ⟨_, Sub.keep (List.sublist_cons_self ..), q ms p hp1 hs1⟩
def spMeets : SpL := fun vs L Q _ => ∃ (ta tb ra rb : Addr) (oa ob : HO) (p q : Nat) (ps ts : List Pr2), vs = [.ref ta, .ref tb] ∧ (ta, HO.tup [.int p, .ref ra]) ∈ L ∧ (tb, HO.tup [.int q, .ref rb]) ∈ L ∧ RowO oa (prV ps) ∧ RowO ob (prV ts) ∧ (ra, oa) ∈ L ∧ (rb, ob) ∈ L ∧ Prs2 ps L ∧ Prs2 ts L ∧
  0 < p ∧ 0 < q ∧ p < 2 ^ 2000 ∧ q < 2 ^ 2000 ∧ ps.length ≤ 2000 ∧ ts.length ≤ 2000 ∧ Q (.int (meetsN (Nat.gcd p q : Nat) (ps.map (·.2)) (ts.map (·.2)))) L
theorem fn_meets (B : Bi mg) (F : Df K mg "meets" s_meets) (D1 : Fn P w K mg base CX0 "common" 3 (spStar spGcds)) (D2 : Fn P w K mg base CX0 "remainders" 1 spRems) (D3 : Fn P w K mg base CX0 "count_in" 2 spCountIn) (D4 : Fn P w K mg base CX0 "length_of" 1 spLen) : Fn P w K mg base CX0 "meets" 4 spMeets := by
  refine fn_plain F sc_meets (fun _ _ _ _ _ _ us hl => match us, hl with | [_, _], _ => rfl) (by decide) (by tm_at "g_len") ?_
  intro X f cdv A outer s H E0 L vs Q E hX nd hr h
  subst hX
  obtain ⟨ta, tb, ra, rb, oa, ob, p, q, ps, ts, rfl, mta, mtb, roa, rob, mra, mrb, hps, hts, p0, q0, pb, qb, lps, lts, k⟩ := h
  show GSs _ (defBody s_meets) (bodyD Q) [("table", some (.ref ta)), ("other", some (.ref tb)), ("step", none), ("own", none), ("its", none), ("found", none), ("run", none)] L
  refine gss_cons ?_
  tm_at "g"
  refine ge_call (El := NoX) D1 hr passA ?_
  tm_at "g"
  have eg : gcds [(p : Int), (q : Int)] = Nat.gcd p q := by simp [gcds]
  have g0 : 0 < Nat.gcd p q := Nat.gcd_pos_of_pos_left _ p0
  have gp : Nat.gcd p q ≤ p := Nat.gcd_le_left _ p0
  have big : (2 : Nat) ^ 2000 ≤ 2 ^ 9000 := Nat.pow_le_pow_right (by decide) (by decide)
  refine ⟨szL (show (2 : Nat) ≤ 16777216 by decide), fun c => ⟨c, [(p : Int), (q : Int)], L, rfl, rfl, ?_, ?_⟩⟩
  · intro x hx
    rcases List.mem_cons.mp hx with rfl | hx
    · rw [Int.natAbs_natCast]
      omega
    · rw [List.mem_singleton.mp hx, Int.natAbs_natCast]
      omega
  rw [eg]
  have gb : ((Nat.gcd p q : Nat) : Int).natAbs < 2 ^ 2000 := by rw [Int.natAbs_natCast]; omega
  generalize hg : Nat.gcd p q = g at *
  show GSs _ _ _ _ _
  tm_at "g"
  refine ge_call (El := NoX) D2 hr passA ?_
  tm_at "g"
  refine ⟨ra, oa, ps, g, rfl, roa, mra, hps, by omega, lps, fun own x1 pm1 sr1 => ?_⟩
  tm_at "g"
  refine ge_call (El := NoX) D2 hr passA ?_
  tm_at "g"
  refine ⟨rb, ob, ts, g, rfl, rob, memS mrb, hts.mono fun _ h => memS h, by omega, lts, fun its x2 pm2 sr2 => ?_⟩
  tm_at "g"
  have mtb2 := mtb
  refine ge_lcP (by tm_at "g_put") (gi_rowO roa ?_) (show blkC N_meets (defScope s_meets) _ [(_, List.idxOf _ N_meets)] = true by decide +kernel)
  tm_at "g"
  refine ⟨memS (memS (memS mra)), ?_⟩
  refine pure_rowPr (t := fun _ => true) (g := fun e => .int (countIn (rems (ts.map (·.2)) g) e.2.1 (e.2.2 - e.2.1 + 1) g)) (memS (memS (memS mra))) (by omega) (fun e he D acc s1 H1 C1 cl1 fp1 => ?_) fun D => ?_
  · have me := hps e he
    refine gts_nil ⟨rfl, Sub.refl, fun _ s2 H2 C2 cl2 fp2 => ?_⟩
    tm_at "g"
    refine ge_call (El := NoX) D3 hr passA ?_
    tm_at "g"
    refine ge_call (El := NoX) D4 hr passA ?_
    tm_at "g"
    refine ⟨e.1, e.2.1, e.2.2, rfl, by tm_at "g_mem", ?_⟩
    tm_at "g"
    refine ⟨x2, its, _, _, g, rfl, by tm_at "g_mem", sr2, by omega, gb, ?_, ?_⟩
    · have := pm2.length_eq
      unfold rems at this
      rw [List.length_map, List.length_map] at this
      omega
    rw [countIn_perm pm2]
    tm_at "g"
    exact ⟨rfl, Sub.refl⟩
  rw [List.filter_eq_self.mpr fun _ _ => rfl]
  have e1 : ps.map (fun e : Pr2 => V.int (countIn (rems (ts.map (·.2)) g) e.2.1 (e.2.2 - e.2.1 + 1) g)) = ((ps.map (·.2)).map fun r => countIn (rems (ts.map (·.2)) g) r.1 (r.2 - r.1 + 1) g).map V.int := by
    rw [List.map_map, List.map_map]
    rfl
  rw [e1]
  tm_at "g"
  refine gc_sumI (by rfl) mem0 ?_
  tm_at "g"
  refine ge_lcP (by tm_at "g_put") (gi_rowO rob ?_) (show blkC N_meets (defScope s_meets) _ [(_, List.idxOf _ N_meets)] = true by decide +kernel)
  tm_at "g"
  refine ⟨by tm_at "g_mem", ?_⟩
  refine pure_rowPr (t := fun _ => true) (g := fun e => .int (countIn (rems (ps.map (·.2)) g) (e.2.1 + 1) (e.2.2 - e.2.1 + 1 - 1) g)) (by tm_at "g_mem") (by omega) (fun e he D2 acc s1 H1 C1 cl1 fp1 => ?_) fun D2 => ?_
  · have me := hts e he
    refine gts_nil ⟨rfl, Sub.refl, fun _ s2 H2 C2 cl2 fp2 => ?_⟩
    tm_at "g"
    refine ge_call (El := NoX) D3 hr passA ?_
    tm_at "g"
    refine ge_call (El := NoX) D4 hr passA ?_
    tm_at "g"
    refine ⟨e.1, e.2.1, e.2.2, rfl, by tm_at "g_mem", ?_⟩
    tm_at "g"
    refine ⟨x1, own, _, _, g, rfl, by tm_at "g_mem", sr1, by omega, gb, ?_, ?_⟩
    · have := pm1.length_eq
      unfold rems at this
      rw [List.length_map, List.length_map] at this
      omega
    rw [countIn_perm pm1]
    tm_at "g"
    exact ⟨rfl, Sub.refl⟩
  rw [List.filter_eq_self.mpr fun _ _ => rfl]
  have e2 : ts.map (fun e : Pr2 => V.int (countIn (rems (ps.map (·.2)) g) (e.2.1 + 1) (e.2.2 - e.2.1 + 1 - 1) g)) = ((ts.map (·.2)).map fun t => countIn (rems (ps.map (·.2)) g) (t.1 + 1) (t.2 - t.1 + 1 - 1) g).map V.int := by
    rw [List.map_map, List.map_map]
    rfl
  rw [e2]
  tm_at "g"
  refine gc_sumI (by rfl) mem0 ?_
  tm_at "g"
  exact ⟨_, by tm_at "g_end", k⟩
end
section
open Lt
variable {P : Program} {w : World} {K : PySem.W.Frag} {mg : Str → Option Value} {base : Heap} {C : Addr}
def lcms (l : List Int) : Nat := l.foldl (fun a n => Nat.lcm a n.natAbs) 1
def spAboveI : SpL := fun vs L Q _ => ∃ i : Int, vs = [.int i] ∧ 1 ≤ i ∧ Q .non L
def spMultiple0 : SpL := fun vs L Q _ => ∃ p ns M, vs = [.ref p] ∧ L = (p, .tup (ns.map V.int)) :: M ∧ (∀ n ∈ ns, 1 ≤ n ∧ n.natAbs < 2 ^ 5000) ∧ ns.length ≤ 60 ∧ Q (.int (lcms ns : Nat)) M
theorem lcms_more {ns : List Int} {i : Nat} {n : Int} (h : ns[i]? = some n) : lcms (ns.take (i + 1)) = Nat.lcm (lcms (ns.take i)) n.natAbs := by
  unfold lcms
  rw [List.take_succ, h]
  simp
theorem lcms_pos : ∀ {ns : List Int}, (∀ n ∈ ns, 1 ≤ n) → ∀ i, 0 < lcms (ns.take i) := by
  intro ns h i
  induction i with
  | zero => exact Nat.one_pos
  | succ i ih =>
    cases e : ns[i]? with
    | none =>
      have z : ns.take (i + 1) = ns.take i := by rw [List.take_succ, e] <;> simp
      rw [z]
      exact ih
    | some n =>
      rw [lcms_more e]
      have h1 := h n (List.mem_of_getElem? e)
      exact Nat.lcm_pos ih (by omega)
theorem lcms_lt {ns : List Int} (h : ∀ n ∈ ns, n.natAbs < 2 ^ 5000) : ∀ i, lcms (ns.take i) < 2 ^ (5000 * i + 1) := by
  intro i
  induction i with
  | zero => exact (by decide : 1 < 2 ^ 1)
  | succ i ih =>
    cases e : ns[i]? with
    | none =>
      have z : ns.take (i + 1) = ns.take i := by rw [List.take_succ, e] <;> simp
      rw [z]
      exact Nat.lt_of_lt_of_le ih (Nat.pow_le_pow_right (by decide) (by omega))
    | some n =>
      rw [lcms_more e]
      have h1 := h n (List.mem_of_getElem? e)
      have h2 : Nat.lcm (lcms (ns.take i)) n.natAbs ≤ lcms (ns.take i) * n.natAbs := Nat.div_le_self _ _
      have h3 : lcms (ns.take i) * n.natAbs < 2 ^ (5000 * i + 1) * 2 ^ 5000 := Nat.mul_lt_mul'' ih h1
      rw [← Nat.pow_add] at h3
      exact Nat.lt_of_le_of_lt h2 (Nat.lt_of_lt_of_le h3 (Nat.pow_le_pow_right (by decide) (by omega)))
def spInv : SpL := fun vs L Q _ => ∃ a m : Nat, vs = [.int a, .int m] ∧ 1 ≤ m ∧ m < 2 ^ 8000 ∧ ∀ r : Nat, r < m → ((a * r : Nat) : Int) % m = ((Nat.gcd a m : Nat) : Int) % m → Q (.int (r : Nat)) L
structure InvAt (a m : Nat) (one other : Nat) (first second : Int) : Prop where
  g : Nat.gcd one other = Nat.gcd a m
  e1 : (m : Int) ∣ (a : Int) * first - one
  e2 : (m : Int) ∣ (a : Int) * second - other
  b : first.natAbs * other + second.natAbs * one ≤ m
  p : 1 ≤ one
  o : one ≤ m
  s : other ≤ m
theorem InvAt.start {a m : Nat} (h : 1 ≤ m) : InvAt a m m (a % m) 0 1 where
  g := by rw [Nat.gcd_comm, ← Nat.gcd_rec, Nat.gcd_comm]
  e1 := by rw [Int.mul_zero]; exact ⟨-1, by omega⟩
  e2 := by
    rw [Int.mul_one, Int.natCast_emod]
    exact Int.dvd_self_sub_emod
  b := by simp
  p := h
  o := Nat.le_refl _
  s := Nat.le_of_lt (Nat.mod_lt _ h)
theorem InvAt.turn {a m one other : Nat} {first second : Int} (i : InvAt a m one other first second) (h : 0 < other) : InvAt a m other (one % other) second (first - (one / other : Nat) * second) where
  g := by rw [← i.g, Nat.gcd_comm other, ← Nat.gcd_rec, Nat.gcd_comm]
  e1 := i.e2
  e2 := by
    obtain ⟨k, hk⟩ := i.e1
    obtain ⟨l, hl⟩ := i.e2
    refine ⟨k - (one / other : Nat) * l, ?_⟩
    have z : ((one % other : Nat) : Int) = (one : Int) - (one / other : Nat) * (other : Int) := by
      have := Nat.div_add_mod one other
      rw [Nat.mul_comm] at this
      omega
    rw [z, Int.mul_sub, Int.mul_sub, ← hk, Int.mul_left_comm (m : Int), ← hl, Int.mul_sub, Int.mul_left_comm (a : Int)]
    omega
  b := by
    have z := Nat.div_add_mod one other
    have h1 : (first - (one / other : Nat) * second).natAbs ≤ first.natAbs + (one / other) * second.natAbs := by
      have q := Int.natAbs_sub_le first (((one / other : Nat) : Int) * second)
      rw [Int.natAbs_mul, Int.natAbs_natCast] at q
      exact q
    have h2 : (first - (one / other : Nat) * second).natAbs * other ≤ (first.natAbs + (one / other) * second.natAbs) * other := Nat.mul_le_mul_right _ h1
    have h3 : second.natAbs * one = second.natAbs * (one % other) + (one / other) * second.natAbs * other := by
      conv => lhs; rw [← z]
      rw [Nat.mul_add, Nat.add_comm, Nat.mul_comm other, ← Nat.mul_assoc, Nat.mul_comm second.natAbs (one / other)]
    have h4 := i.b
    rw [Nat.add_mul] at h2
    omega
  p := h
  o := i.s
  s := Nat.le_trans (Nat.le_of_lt (Nat.mod_lt _ h)) i.s
theorem InvAt.done {a m one : Nat} {first second : Int} (i : InvAt a m one 0 first second) (hm : 1 ≤ m) : ∃ r : Nat, (r : Int) = first % m ∧ r < m ∧ ((a * r : Nat) : Int) % m = ((Nat.gcd a m : Nat) : Int) % m := by
  have n0 : 0 ≤ first % m := Int.emod_nonneg _ (by omega)
  have n1 : first % m < m := Int.emod_lt_of_pos _ (by omega)
  refine ⟨(first % m).toNat, by omega, by omega, ?_⟩
  have g := i.g
  rw [Nat.gcd_zero_right] at g
  rw [Int.natCast_mul, Int.toNat_of_nonneg n0, ← g]
  have e := i.e1
  rw [Int.mul_emod, Int.emod_emod_of_dvd _ (Int.dvd_refl _), ← Int.mul_emod]
  exact Int.emod_eq_emod_iff_emod_sub_eq_zero.mpr (Int.emod_eq_zero_of_dvd e)
theorem fn_need_above (B : Bi mg) (F : Df K mg "need_above" s_need_above) (D1 : Fn P w K mg base CX0 "is_whole" 1 spWholeI) : Fn P w K mg base CX0 "need_above" 2 spAboveI := by
  refine fn_plain F sc_need_above (fun _ _ _ _ _ _ us hl => match us, hl with | [_], _ => rfl) (by decide) (by tm_at "g_len") ?_
  intro X f cdv A outer s H E0 L vs Q E hX nd hr h
  subst hX
  obtain ⟨i, rfl, h1, q⟩ := h
  show GSs _ (defBody s_need_above) (bodyD Q) [("value", some (.int i))] L
  refine gss_cons ?_
  tm_at "g"
  refine ge_call (El := NoX) D1 hr passA ?_
  tm_at "g"
  refine ⟨i, rfl, ?_⟩
  tm_at "g"
  refine ite_d (fun z => absurd z (by omega)) (fun _ => ?_)
  tm_at "g"
  exact ⟨_, Sub.refl, q⟩
theorem fn_multiple (B : Bi mg) (F : Df K mg "multiple" s_multiple) (D1 : Fn P w K mg base CX0 "need_above" 2 spAboveI) (D2 : Fn P w K mg base CX0 "divisor_of" 1 spDivOf) : Fn P w K mg base CX0 "multiple" 3 (spStar spMultiple0) := by
  refine fn_starred F sc_multiple (fun _ _ _ _ _ _ => rfl) (fun _ _ _ _ _ _ _ _ => rfl) (by decide) (by tm_at "g_len") ?_
  intro X f cdv A outer s H E0 L vs Q E hX nd hr h
  subst hX
  obtain ⟨p, ns, M, rfl, rfl, hb, hl, q⟩ := h
  show GSs _ (defBody s_multiple) (bodyD Q) [("numbers", some (.ref p)), ("number", none), ("found", none)] _
  refine gss_cons ?_
  refine gs_for (gi_tuple ?_)
  tm_at "g"
  refine ⟨fun i θ N => N = (p, .tup (ns.map V.int)) :: M ∧ ∃ u, θ = ([("numbers", some (.ref p)), ("number", u), ("found", none)] : En), ⟨rfl, ⟨none, rfl⟩⟩, fun i θ N _ _ ⟨e, _⟩ => by rw [e]; exact mem0, ?_, ?_⟩
  · rintro i x E1 θ N hi ⟨hx, rfl⟩ ⟨rfl, u, rfl⟩
    obtain ⟨n, hn, rfl⟩ := getMapInt hx
    dsimp only [List.nil_append]
    refine gg_name (by tm_at "g_pv") ?_
    tm_at "g"
    refine ge_call (El := NoX) D1 hr passA ?_
    tm_at "g"
    refine ⟨n, rfl, (hb n (List.mem_of_getElem? hn)).1, ?_⟩
    tm_at "g"
    exact ⟨rfl, _, rfl⟩
  rintro θ N ⟨rfl, u, rfl⟩
  tm_at "g"
  refine gs_for (gi_tuple ?_)
  tm_at "g"
  refine ⟨fun i θ N => N = (p, .tup (ns.map V.int)) :: M ∧ ∃ u, θ = ([("numbers", some (.ref p)), ("number", u), ("found", some (.int (lcms (ns.take i) : Nat)))] : En), ⟨rfl, u, rfl⟩, fun i θ N _ _ ⟨e, _⟩ => by rw [e]; exact mem0, ?_, ?_⟩
  · rintro i x E1 θ N hi ⟨hx, rfl⟩ ⟨rfl, u, rfl⟩
    obtain ⟨n, hn, rfl⟩ := getMapInt hx
    dsimp only [List.nil_append]
    replace hi : i < ns.length := by
      have : i < (ns.map V.int).length := hi
      rwa [List.length_map] at this
    obtain ⟨n1, n2⟩ := hb n (List.mem_of_getElem? hn)
    have hp := lcms_pos (fun n h => (hb n h).1) i
    have hlt := lcms_lt (fun n h => (hb n h).2) i
    have en : (n.natAbs : Int) = n := by omega
    have gp : 0 < Nat.gcd (lcms (ns.take i)) n.natAbs := Nat.gcd_pos_of_pos_left _ hp
    have gle : Nat.gcd (lcms (ns.take i)) n.natAbs ≤ n.natAbs := Nat.le_of_dvd (by omega) (Nat.gcd_dvd_right _ _)
    refine gg_name (by tm_at "g_pv") ?_
    tm_at "g"
    refine ge_call (El := NoX) D2 hr passA ?_
    tm_at "g"
    refine ⟨lcms (ns.take i), n.natAbs, by rw [en], Nat.lt_of_lt_of_le n2 (Nat.pow_le_pow_right (by decide) (by decide)), ?_⟩
    refine go_div (by omega) (Nat.lt_of_le_of_lt gle (Nat.lt_of_lt_of_le n2 (Nat.pow_le_pow_right (by decide) (by decide)))) ?_
    tm_at "g"
    refine go_mul (wide_mul (a := 5000 * 60 + 1) (b := 5000) ?_ n2 (by decide) (by decide) (by decide)) ?_
    · rw [← Int.natCast_ediv, Int.natAbs_natCast]
      exact Nat.lt_of_le_of_lt (Nat.div_le_self _ _) (Nat.lt_of_lt_of_le hlt (Nat.pow_le_pow_right (by decide) (by omega)))
    tm_at "g"
    refine ⟨rfl, some (.int n), ?_⟩
    have e2 : ((lcms (ns.take i) : Nat) : Int) / ((Nat.gcd (lcms (ns.take i)) n.natAbs : Nat) : Int) * n = ((lcms (ns.take (i + 1)) : Nat) : Int) := by
      rw [lcms_more hn, Nat.lcm]
      conv => lhs; rhs; rw [← en]
      rw [← Int.natCast_ediv, ← Int.natCast_mul]
      congr 1
      rw [Nat.div_mul_right_comm (Nat.gcd_dvd_left _ _)]
    rw [e2]
  · rintro θ N ⟨rfl, u, rfl⟩
    tm_at "g"
    rw [List.length_map, List.take_length]
    exact ⟨_, Sub.drop, q⟩
theorem fn_inverse_of (B : Bi mg) (F : Df K mg "inverse_of" s_inverse_of) : Fn P w K mg base CX0 "inverse_of" 1 spInv := by
  refine fn_plain F sc_inverse_of (fun _ _ _ _ _ _ us hl => match us, hl with | [_, _], _ => rfl) (by decide) (by tm_at "g_len") ?_
  intro X f cdv A outer s H E0 L vs Q E hX nd hr h
  subst hX
  obtain ⟨a, m, rfl, hm, hb, q⟩ := h
  show GSs _ (defBody s_inverse_of) (bodyD Q) [("number", some (.int a)), ("modulus", some (.int m)), ("one", none), ("other", none), ("first", none), ("second", none), ("times", none)] L
  refine gss_cons ?_
  tm_at "g"
  refine go_mod (by omega) ?_
  tm_at "g"
  refine gs_while (fun n θ M => ∃ (c d : Nat) (x y : Int) (u : Option V), θ = ([("number", some (.int a)), ("modulus", some (.int m)), ("one", some (.int c)), ("other", some (.int d)), ("first", some (.int x)), ("second", some (.int y)), ("times", u)] : En) ∧ Sub L M ∧ InvAt a m c d x y ∧ n = d) (a % m) ⟨m, a % m, 0, 1, none, by rw [Int.natCast_emod], by tm_at "g_sub", InvAt.start hm, rfl⟩ ?_
  rintro n θ M ⟨c, d, x, y, u, rfl, hs, iv, rfl⟩
  tm_at "g"
  have big : (2 : Nat) ^ 8000 ≤ 2 ^ 9000 := Nat.pow_le_pow_right (by decide) (by decide)
  refine ite_d (fun hd => ?_) (fun hd => ?_)
  · have iv2 := iv.turn (by omega : 0 < n)
    have ny : y.natAbs ≤ m := Nat.le_trans (Nat.le_mul_of_pos_right _ iv.p) (Nat.le_trans (Nat.le_add_left _ _) iv.b)
    have hbb := iv2.b
    have sn : ∀ k : Nat, k ≤ m → ((k : Nat) : Int).natAbs < 2 ^ 8000 := fun k hk => by
      rw [Int.natAbs_natCast]
      exact Nat.lt_of_le_of_lt hk hb
    have ec : (c : Int) / (n : Int) = ((c / n : Nat) : Int) := (Int.natCast_ediv c n).symm
    have tm : c / n ≤ m := Nat.le_trans (Nat.div_le_self _ _) iv.o
    have sy : y.natAbs < 2 ^ 8000 := Nat.lt_of_le_of_lt ny hb
    tm_at "g"
    refine go_div (by omega) (Nat.lt_of_lt_of_le (sn n iv.s) big) ?_
    tm_at "g"
    rw [ec]
    refine go_mul (wide_mul (sn _ tm) (sn n iv.s) (by decide) (by decide) (by decide)) ?_
    tm_at "g"
    refine go_mul (wide_mul (sn _ tm) sy (by decide) (by decide) (by decide)) ?_
    tm_at "g"
    refine ⟨c % n, Nat.mod_lt _ (by omega), n, c % n, y, x - ((c / n : Nat) : Int) * y, some (.int ((c / n : Nat) : Int)), ?_, hs, iv2, rfl⟩
    have z : (c : Int) - ((c / n : Nat) : Int) * (n : Int) = ((c % n : Nat) : Int) := by
      have := Nat.div_add_mod c n
      rw [Nat.mul_comm] at this
      omega
    rw [z]
  · have e : n = 0 := by omega
    subst e
    tm_at "g"
    refine go_mod (by omega) ?_
    tm_at "g"
    obtain ⟨r, r1, r2, r3⟩ := iv.done hm
    rw [← r1]
    exact ⟨L, hs, q r r2 r3⟩
/-- a Round in the ledger -/
abbrev rdO (D dx : Addr) (p g part inv tot : Int) : HO := .ins D dx [("step", .int g), ("own", .int p), ("part", .int part), ("total", .int tot), ("inverse", .int inv)]
structure RdA (K : PySem.W.Frag) (D : Addr) : Prop where
  c : Cls K D
  n1 : PySem.W.findIn K (.ref D) "step" = some none
  n2 : PySem.W.findIn K (.ref D) "own" = some none
  n3 : PySem.W.findIn K (.ref D) "part" = some none
  n4 : PySem.W.findIn K (.ref D) "total" = some none
  n5 : PySem.W.findIn K (.ref D) "inverse" = some none
/-- of these periods -/
structure Rdn (p q : Nat) (inv : Int) : Prop where
  i0 : 0 ≤ inv
  i1 : inv < (q / Nat.gcd p q : Nat)
  iv : (((p / Nat.gcd p q : Nat) : Int) * inv) % (q / Nat.gcd p q : Nat) = 1 % (q / Nat.gcd p q : Nat)
def spRoundInit (K : PySem.W.Frag) : SpL := fun vs L Q _ => ∃ (a D dx : Addr) (p q : Nat) (L0 : Lg), vs = [.ref a, .int p, .int q] ∧ Sub ((a, HO.ins D dx []) :: L0) L ∧ RdA K D ∧ 0 < p ∧ 0 < q ∧ p < 2 ^ 2000 ∧ q < 2 ^ 2000 ∧
  ∀ inv : Int, Rdn p q inv → Q .non ((a, rdO D dx p (Nat.gcd p q : Nat) (q / Nat.gcd p q : Nat) inv (Nat.lcm p q : Nat)) :: L0)
theorem run_Round_init {f : Addr} {fd : FuncData} (B : Bi mg) (F : Fun K "__init__" "Round.__init__" s_Round_init f fd) (D1 : Fn P w K mg base CX0 "common" 3 (spStar spGcds)) (D2 : Fn P w K mg base CX0 "multiple" 3 (spStar spMultiple0)) (D3 : Fn P w K mg base CX0 "inverse_of" 1 spInv) : RunG P w K mg base CX0 4 f argsP (toSp (spRoundInit K)) := by
  refine run_plain F sc_Round_init argsP id id (fun _ _ r => r) (fun _ _ _ _ _ _ us hl => match us, hl with | [_, _, _], _ => rfl) (by decide) (by tm_at "g_len") ?_
  intro X f cdv A outer s H E0 L vs Q E hX nd hr h
  subst hX
  obtain ⟨a, D, dx, p, q, L0, rfl, sb, ⟨c, n1, n2, n3, n4, n5⟩, p0, q0, pb, qb, k⟩ := h
  have big : (2 : Nat) ^ 2000 ≤ 2 ^ 9000 := Nat.pow_le_pow_right (by decide) (by decide)
  have big5 : (2 : Nat) ^ 2000 ≤ 2 ^ 5000 := Nat.pow_le_pow_right (by decide) (by decide)
  have big8 : (2 : Nat) ^ 2000 ≤ 2 ^ 8000 := Nat.pow_le_pow_right (by decide) (by decide)
  have eg : gcds [(p : Int), (q : Int)] = Nat.gcd p q := by simp [gcds]
  have el : lcms [(p : Int), (q : Int)] = Nat.lcm p q := by simp [lcms]
  have g0 : 0 < Nat.gcd p q := Nat.gcd_pos_of_pos_left _ p0
  have gp : Nat.gcd p q ≤ p := Nat.gcd_le_left _ p0
  have gq : Nat.gcd p q ∣ q := Nat.gcd_dvd_right p q
  have m0 : 1 ≤ q / Nat.gcd p q := Nat.div_pos (Nat.le_of_dvd q0 gq) g0
  have m1 : q / Nat.gcd p q < 2 ^ 8000 := Nat.lt_of_le_of_lt (Nat.div_le_self _ _) (by omega)
  have cop : Nat.gcd (p / Nat.gcd p q) (q / Nat.gcd p q) = 1 := by rw [Nat.gcd_div (Nat.gcd_dvd_left ..) (Nat.gcd_dvd_right ..), Nat.div_self g0]
  have gb : (((Nat.gcd p q : Nat) : Int)).natAbs < 2 ^ 2000 := by rw [Int.natAbs_natCast]; omega
  show GSs _ (defBody s_Round_init) (bodyD Q) [("self", some (.ref a)), ("period", some (.int p)), ("other", some (.int q))] L
  refine GSs.sub sb ?_
  refine gss_cons ?_
  tm_at "g"
  refine ge_call (El := NoX) D1 hr passA ?_
  tm_at "g"
  refine ⟨szL (show (2 : Nat) ≤ 16777216 by decide), fun t => ⟨t, [(p : Int), (q : Int)], _, rfl, rfl, ?_, ?_⟩⟩
  · intro x hx
    rcases List.mem_cons.mp hx with rfl | hx
    · rw [Int.natAbs_natCast]; omega
    · rw [List.mem_singleton.mp hx, Int.natAbs_natCast]; omega
  rw [eg]
  tm_at "g"
  refine ⟨a, D, dx, [], _, rfl, mem0, c, n1, by decide, by tm_at "g_swap", ?_⟩
  tm_at "g"
  refine ⟨a, D, dx, _, _, rfl, mem0, c, n2, (show (1 : Nat) < 1000 by decide), by tm_at "g_swap", ?_⟩
  tm_at "g"
  refine go_divK (k := 2000) (by omega) gb (by decide) ?_
  tm_at "g"
  refine ⟨a, D, dx, _, _, rfl, mem0, c, n3, (show (2 : Nat) < 1000 by decide), by tm_at "g_swap", ?_⟩
  tm_at "g"
  refine ge_call (El := NoX) D2 hr passA ?_
  tm_at "g"
  refine ⟨szL (show (2 : Nat) ≤ 16777216 by decide), fun t => ⟨t, [(p : Int), (q : Int)], _, rfl, rfl, ?_, by simp, ?_⟩⟩
  · intro x hx
    rcases List.mem_cons.mp hx with rfl | hx
    · rw [Int.natAbs_natCast]; omega
    · rw [List.mem_singleton.mp hx, Int.natAbs_natCast]; omega
  rw [el]
  tm_at "g"
  refine ⟨a, D, dx, _, _, rfl, mem0, c, n4, (show (3 : Nat) < 1000 by decide), by tm_at "g_swap", ?_⟩
  tm_at "g"
  refine ge_call (El := NoX) D3 hr passA ?_
  tm_at "g"
  refine go_divK (k := 2000) (by omega) gb (by decide) ?_
  tm_at "g"
  rw [← Int.natCast_ediv, ← Int.natCast_ediv]
  refine ⟨p / Nat.gcd p q, q / Nat.gcd p q, rfl, m0, m1, fun r hr1 hr2 => ?_⟩
  tm_at "g"
  refine ⟨a, D, dx, _, _, rfl, mem0, c, n5, (show (4 : Nat) < 1000 by decide), by tm_at "g_swap", ?_⟩
  tm_at "g"
  rw [cop] at hr2
  refine ⟨_, Sub.refl, k r ⟨by omega, by omega, ?_⟩⟩
  rw [← Int.natCast_mul]
  exact hr2
/-- Round.place -/
def spPlaceR (K : PySem.W.Frag) : SpL := fun vs L Q _ => ∃ (a D dx : Addr) (p g part inv tot x y : Int), vs = [.ref a, .int x, .int y] ∧ RdA K D ∧ (a, rdO D dx p g part inv tot) ∈ L ∧ 0 < g ∧ g.natAbs < 2 ^ 2000 ∧ 0 < part ∧ part.natAbs < 2 ^ 2000 ∧ 0 ≤ inv ∧ inv < part ∧ p.natAbs < 2 ^ 2000 ∧ 0 < tot ∧ x.natAbs < 2 ^ 2002 ∧ y.natAbs < 2 ^ 2002 ∧ Q (.int (plc p g part inv tot x y)) L
theorem run_Round_place {f : Addr} {fd : FuncData} (B : Bi mg) (F : Fun K "place" "Round.place" s_Round_place f fd) : RunG P w K mg base CX0 1 f argsP (toSp (spPlaceR K)) := by
  refine run_plain F sc_Round_place argsP id id (fun _ _ r => r) (fun _ _ _ _ _ _ us hl => match us, hl with | [_, _, _], _ => rfl) (by decide) (by tm_at "g_len") ?_
  intro X f cdv A outer s H E0 L vs Q E hX nd hr h
  subst hX
  obtain ⟨a, D, dx, p, g, part, inv, tot, x, y, rfl, ⟨c, n1, n2, n3, n4, n5⟩, mo, g0, gb, pt0, ptb, i0, i1, pb, t0, xb, yb, q⟩ := h
  show GSs _ (defBody s_Round_place) (bodyD Q) [("self", some (.ref a)), ("first", some (.int x)), ("last", some (.int y)), ("times", none)] L
  refine gss_cons ?_
  tm_at "g"
  refine go_divK (k := 2000) g0 gb (by decide) ?_
  tm_at "g"
  have db : ((y - x) / g).natAbs < 2 ^ 2004 := by
    have e : (2 : Nat) ^ 2004 = 4 * 2 ^ 2002 := by rw [show (2004 : Nat) = 2 + 2002 from rfl, Nat.pow_add]
    have h1 : (y - x).natAbs < 2 ^ 2004 := by omega
    exact Nat.lt_of_le_of_lt (Int.natAbs_ediv_le_natAbs _ _) h1
  have ib : inv.natAbs < 2 ^ 2000 := by omega
  refine go_mul (wide_mul db ib (by decide) (by decide) (by decide)) ?_
  tm_at "g"
  refine go_mod pt0 ?_
  tm_at "g"
  have t0' := Int.emod_nonneg ((y - x) / g * inv) (show part ≠ 0 by omega)
  have t1' := Int.emod_lt_of_pos ((y - x) / g * inv) pt0
  refine go_mul (wide_mul pb (b := 2000) (by omega) (by decide) (by decide) (by decide)) ?_
  tm_at "g"
  refine go_mod t0 ?_
  tm_at "g"
  exact ⟨_, Sub.refl, q⟩
/-- what a run shares with one that begins in it, beyond its begin -/
def spFar : SpL := fun vs L Q _ => ∃ (r t : Addr) (a b : Int) (e : SrtO.I3), vs = [.ref r, .ref t] ∧ (r, HO.tup [.int a, .int b]) ∈ L ∧ (t, trO e) ∈ L ∧ Q (.int (min (b - a - e.2.2) (e.2.1 - e.1))) L
theorem fn_shared_far (B : Bi mg) (F : Df K mg "shared_far" s_shared_far) : Fn P w K mg base CX0 "shared_far" 1 spFar := by
  refine fn_plain F sc_shared_far (fun _ _ _ _ _ _ us hl => match us, hl with | [_, _], _ => rfl) (by decide) (by tm_at "g_len") ?_
  intro X f cdv A outer s H E0 L vs Q E hX nd hr h
  subst hX
  obtain ⟨r, t, a, b, e, rfl, mr, mt, q⟩ := h
  unfold trO at mt
  show GSs _ (defBody s_shared_far) (bodyD Q) [("run", some (.ref r)), ("row", some (.ref t))] L
  refine gss_cons ?_
  tm_at "g"
  rw [if_min]
  exact ⟨_, Sub.refl, q⟩
end
section
open Lt
variable {P : Program} {w : World} {K : PySem.W.Frag} {mg : Str → Option Value} {base : Heap} {Dk : Addr}
/-- a Ranked in the ledger -/
structure RkAt (D a dx : Addr) (g : Int) (ra fa : Addr) (qs : List Tr3) (L : Lg) : Prop where
  o : (a, HO.ins D dx [("step", .int g), ("rows", .ref ra), ("firsts", .ref fa)]) ∈ L
  r : (ra, HO.lst (trV qs)) ∈ L
  f : (fa, HO.lst ((qs.map fun e => e.2.1).map V.int)) ∈ L
  t : Trs qs L
theorem RkAt.mono {D a dx : Addr} {g : Int} {ra fa : Addr} {qs : List Tr3} {L M : Lg} (h : RkAt D a dx g ra fa qs L) (s : ∀ e ∈ L, e ∈ M) : RkAt D a dx g ra fa qs M := ⟨s _ h.o, s _ h.r, s _ h.f, fun e he => s _ (h.t e he)⟩
structure RkA (K : PySem.W.Frag) (D : Addr) : Prop where
  c : Cls K D
  n1 : PySem.W.findIn K (.ref D) "step" = some none
  n2 : PySem.W.findIn K (.ref D) "rows" = some none
  n3 : PySem.W.findIn K (.ref D) "firsts" = some none
theorem es_trips : ∀ {es : Lg} {ds : List SrtO.I3}, es.map (·.2) = ds.map trO → ∃ ms : List Tr3, ms.map (fun e => (e.1, trO e.2)) = es ∧ ms.map (·.2) = ds
  | [], [], _ => ⟨[], rfl, rfl⟩
  | e :: es, d :: ds, h => by
    obtain ⟨h1, h2⟩ := List.cons.inj h
    obtain ⟨ms, e1, e2⟩ := es_trips h2
    refine ⟨(e.1, d) :: ms, ?_, by rw [List.map_cons, e2]⟩
    rw [List.map_cons, e1]
    exact congrArg (· :: es) (Prod.ext rfl h1.symm)
theorem trs_of {ms : List Tr3} {es : Lg} (h : ms.map (fun e => (e.1, trO e.2)) = es) (L : Lg) : Trs ms (es ++ L) := fun e he => List.mem_append_left _ (h ▸ List.mem_map.mpr ⟨e, he, rfl⟩)
theorem refs_trs {ms : List Tr3} {es : Lg} (h : ms.map (fun e => (e.1, trO e.2)) = es) : refs es = trV ms := by
  subst h
  unfold refs trV
  rw [List.map_map]
  rfl
def spRkInit (K : PySem.W.Frag) : SpL := fun vs L Q _ => ∃ (a D dx : Addr) (g : Int) (r : Addr) (o : HO) (ps : List Pr2) (L0 : Lg), vs = [.ref a, .ref r, .int g] ∧ Sub ((a, HO.ins D dx []) :: L0) L ∧ RkA K D ∧ RowO o (prV ps) ∧ (r, o) ∈ L0 ∧ Prs2 ps L0 ∧ 0 < g ∧ ps.length ≤ 2000 ∧
  ∀ (ra fa : Addr) (qs : List Tr3) (M : Lg), Sub L0 M → RkAt D a dx g ra fa qs M → RowsOf (ps.map (·.2)) g (qs.map (·.2)) → Q .non M
theorem run_Ranked_init {f : Addr} {fd : FuncData} (B : Bi mg) (F : Fun K "__init__" "Ranked.__init__" s_Ranked_init f fd) : RunG P w K mg base CX0 1 f argsP (toSp (spRkInit K)) := by
  refine run_plain F sc_Ranked_init argsP id id (fun _ _ r => r) (fun _ _ _ _ _ _ us hl => match us, hl with | [_, _, _], _ => rfl) (by decide) (by tm_at "g_len") ?_
  intro X f cdv A outer s H E0 L vs Q E hX nd hr h
  subst hX
  obtain ⟨a, D, dx, g, r, o, ps, L0, rfl, sb, ⟨c, n1, n2, n3⟩, ro, mr, hp, g0, rl, q⟩ := h
  show GSs _ (defBody s_Ranked_init) (bodyD Q) [("self", some (.ref a)), ("runs", some (.ref r)), ("step", some (.int g)), ("run", none), ("row", none)] L
  refine GSs.sub sb ?_
  refine gss_cons ?_
  tm_at "g"
  refine ⟨a, D, dx, [], _, rfl, mem0, c, n1, by decide, by tm_at "g_swap", ?_⟩
  tm_at "g"
  refine ge_lcF (by tm_at "g_put") (gi_rowO ro ?_) (show blkC N_Ranked_init (defScope s_Ranked_init) _ [(_, List.idxOf _ N_Ranked_init)] = true by decide +kernel)
  tm_at "g"
  refine ⟨memS mr, ?_⟩
  refine fresh_rowPr (t := fun _ => true) (pl := fun e => trO (e.2.1 % g, e.2.1, e.2.2)) (memS mr) (by omega) (fun e he N hN s1 H1 C1 cl1 fp1 => ?_) fun d5 es5 hes5 => ?_
  · have px := hN _ (memS (hp e he))
    refine gts_nil ⟨rfl, Sub.refl, fun _ s2 H2 C2 cl2 fp2 => ?_⟩
    tm_at "g"
    refine go_mod g0 ?_
    tm_at "g"
    exact Sub.refl
  rw [List.filter_eq_self.mpr fun _ _ => rfl] at hes5
  obtain ⟨ms, e7, e8⟩ := es_trips (ds := ps.map fun e => (e.2.1 % g, e.2.1, e.2.2)) (by rw [hes5, List.map_map]; rfl)
  rw [refs_trs e7]
  have tm := trs_of e7 ((a, HO.ins D dx [("step", .int g)]) :: L0)
  tm_at "g"
  refine gc_sorted3 mem0 (fun e he => memS (tm e he)) fun qs p5 pm asc => ?_
  tm_at "g"
  refine ⟨a, D, dx, [("step", .int g)], _, rfl, memS (memS (List.mem_append_right _ mem0)), c, n2, (show (1 : Nat) < 1000 by decide), by tm_at "g_swap", ?_⟩
  have tq : ∀ (o o2 : HO), Trs qs ((p5, o2) :: (d5, HO.lst (trV ms)) :: (es5 ++ (a, o) :: L0)) := fun o o2 e he => memS (memS (trs_of e7 _ e (pm.mem_iff.mp he)))
  tm_at "g"
  refine ge_lcP (by tm_at "g_put") (gi_list ?_) (show blkC N_Ranked_init (defScope s_Ranked_init) _ [(_, List.idxOf _ N_Ranked_init)] = true by decide +kernel)
  tm_at "g"
  refine pure_rowA (α := Tr3) (val := fun e => V.ref e.1) (t := fun _ => true) (g := fun e => .int e.2.1) (by tm_at "g_mem") (by have := pm.length_eq; have := congrArg List.length e8; rw [List.length_map, List.length_map] at this; omega) (fun e he Dd acc s1 H1 C1 cl1 fp1 => ?_) fun fa => ?_
  · have me := memS (b := (Dd, HO.lst acc)) (tq (HO.ins D dx (putF "rows" (.ref p5) [("step", .int g)])) (HO.lst (trV qs)) e he)
    unfold trO at me
    refine gts_nil ⟨rfl, Sub.refl, fun _ s2 H2 C2 cl2 fp2 => ?_⟩
    tm_at "g"
    exact ⟨rfl, Sub.refl⟩
  rw [List.filter_eq_self.mpr fun _ _ => rfl, show qs.map (fun e : Tr3 => V.int e.2.1) = (qs.map fun e => e.2.1).map V.int by rw [List.map_map]; rfl]
  tm_at "g"
  refine ⟨a, D, dx, [("step", .int g), ("rows", .ref p5)], _, rfl, memS (memS (memS (List.mem_append_right _ mem0))), c, n3, (show (2 : Nat) < 1000 by decide), by tm_at "g_swap", ?_⟩
  tm_at "g"
  refine ⟨_, Sub.refl, q p5 fa qs _ ?_ ⟨memS (memS (memS (List.mem_append_right _ mem0))), memS mem0, mem0, fun e he => memS (tq _ _ e he)⟩ ?_⟩
  · exact Sub.trans (Sub.trans Sub.drop Sub.dropE) (Sub.trans Sub.drop (Sub.trans Sub.drop Sub.drop))
  · refine ⟨?_, List.pairwise_map.mpr (List.pairwise_map.mpr asc), fun e he => ?_⟩
    · rw [List.map_map]
      refine (pm.map _).trans ?_
      have := congrArg (List.map fun e : SrtO.I3 => ((e.2.1, e.2.2) : Rn)) e8
      rw [List.map_map, List.map_map] at this
      rw [show (fun e : T3 => ((e.2.1, e.2.2) : Rn)) ∘ (fun x : Tr3 => x.2) = (fun e : SrtO.I3 => ((e.2.1, e.2.2) : Rn)) ∘ (fun x : Tr3 => x.2) from rfl, this]
      exact .of_eq rfl
    · obtain ⟨x, hx, rfl⟩ := List.mem_map.mp he
      have : x.2 ∈ ms.map (·.2) := List.mem_map.mpr ⟨x, pm.mem_iff.mp hx, rfl⟩
      rw [e8] at this
      obtain ⟨y, -, ey⟩ := List.mem_map.mp this
      rw [← ey]
theorem cut_two {xs : List V} {i j : Nat} (h : i ≤ xs.length) (k : j ≤ xs.length) : cutV xs (some (i : Int)) (some (j : Int)) = (xs.take j).drop i := by
  unfold cutV
  rw [HT.sIx_nat, HT.sIx_nat, Nat.min_eq_left h, Nat.min_eq_left k, List.drop_take]
def spHit (K : PySem.W.Frag) : SpL := fun vs L Q _ => ∃ (a Dk dx : Addr) (g b m : Int) (ra fa : Addr) (qs : List Tr3), vs = [.ref a, .int b, .int m] ∧ RkA K Dk ∧ RkAt Dk a dx g ra fa qs L ∧ (qs.map fun e => e.2.1).Pairwise (· ≤ ·) ∧ 0 < g ∧ qs.length ≤ 2000 ∧
  ∀ (r : Addr) (M : Lg), Sub L M → (r, HO.lst (trV (hitF (fun e : Tr3 => e.2.1) qs g b m))) ∈ M → Q (.ref r) M
theorem run_Ranked_hit {f : Addr} {fd : FuncData} (B : Bi mg) (F : Fun K "hit" "Ranked.hit" s_Ranked_hit f fd) (D1 : Fn P w K mg base CX0 "place_among" 1 spPlace) : RunG P w K mg base CX0 2 f argsP (toSp (spHit K)) := by
  refine run_plain F sc_Ranked_hit argsP id id (fun _ _ r => r) (fun _ _ _ _ _ _ us hl => match us, hl with | [_, _, _], _ => rfl) (by decide) (by tm_at "g_len") ?_
  intro X f cdv A outer s H E0 L vs Q E hX nd hr h
  subst hX
  obtain ⟨a, Dk, dx, g, b, m, ra, fa, qs, rfl, ⟨c, n1, n2, n3⟩, rk, asc, g0, ql, q⟩ := h
  have mo := rk.o
  have mr := rk.r
  have mf := rk.f
  have fl : (qs.map fun e => e.2.1).length ≤ 1000000 := by rw [List.length_map]; omega
  have l0 : ∀ v, cB (qs.map fun e : Tr3 => e.2.1) v ≤ (trV qs).length := fun v => by
    have := cB_le (ks := qs.map fun e : Tr3 => e.2.1) (v := v)
    unfold trV
    rw [List.length_map] at this ⊢
    exact this
  show GSs _ (defBody s_Ranked_hit) (bodyD Q) [("self", some (.ref a)), ("begin", some (.int b)), ("many", some (.int m)), ("low", none), ("high", none), ("first", none)] L
  refine gss_cons ?_
  tm_at "g"
  unfold hitF at q
  refine ite_d (fun z => ?_) (fun z => ?_)
  · rw [if_pos z] at q
    tm_at "g"
    exact ⟨_, Sub.refl, q ra L Sub.refl mr⟩
  rw [if_neg z] at q
  tm_at "g"
  refine go_mod g0 ?_
  tm_at "g"
  refine ge_call (El := NoX) D1 hr passA ?_
  tm_at "g"
  refine ⟨fa, _, _, rfl, mf, fl, asc, fun k1 b1 => ?_⟩
  obtain rfl := below_eq b1
  tm_at "g"
  refine ite_d (fun y => ?_) (fun y => ?_)
  · rw [if_pos y] at q
    show GSs _ _ _ _ _
    tm_at "g"
    refine ⟨ra, trV qs, rfl, ?_⟩
    show GE _ _ _ _ _
    tm_at "g"
    show GE _ _ _ _ _
    tm_at "g"
    refine ge_call (El := NoX) D1 hr passA ?_
    tm_at "g"
    refine ⟨fa, _, _, rfl, mf, fl, asc, fun k2 b2 => ?_⟩
    obtain rfl := below_eq b2
    refine ⟨_, rfl, fun H hH => sql hH mr, fun r => ?_⟩
    rw [cut_two (l0 _) (l0 _)]
    refine ⟨_, Sub.refl, q r _ Sub.drop ?_⟩
    unfold trV
    rw [List.map_drop, List.map_take]
    exact mem0
  rw [if_neg y] at q
  show GSs _ _ _ _ _
  tm_at "g"
  refine ⟨ra, trV qs, rfl, ?_⟩
  show GE _ _ _ _ _
  tm_at "g"
  refine ⟨fun H hH => sql hH mr, fun r1 => ?_⟩
  rw [cut_from (l0 _)]
  refine ⟨r1, _, rfl, .inr mem0, ?_⟩
  tm_at "g"
  refine ⟨ra, trV qs, rfl, ?_⟩
  show GE _ _ _ _ _
  tm_at "g"
  refine ge_call (El := NoX) D1 hr passA ?_
  tm_at "g"
  refine ⟨fa, _, _, rfl, memS mf, fl, asc, fun k2 b2 => ?_⟩
  obtain rfl := below_eq b2
  refine ⟨_, rfl, fun H hH => sql hH (memS mr), fun r2 => ?_⟩
  rw [cut_to (l0 _)]
  refine ⟨r2, _, rfl, .inr mem0, ?_⟩
  tm_at "g"
  have l1 : (List.take (cB (List.map (fun e : Tr3 => e.2.1) qs) (b % g + m - g)) (trV qs)).length ≤ 2000 := by
    unfold trV
    rw [List.length_take, List.length_map]
    omega
  have l2 : (List.drop (cB (List.map (fun e : Tr3 => e.2.1) qs) (b % g)) (trV qs)).length ≤ 2000 := by
    unfold trV
    rw [List.length_drop, List.length_map]
    omega
  refine ⟨szL (by rw [List.length_append, List.append_nil]; omega), fun r3 => ?_⟩
  refine ⟨_, Sub.refl, q r3 _ (Sub.trans Sub.drop (Sub.trans Sub.drop Sub.drop)) ?_⟩
  rw [List.append_nil]
  unfold trV
  rw [List.map_append, List.map_drop, List.map_take]
  exact mem0
end
section
open Lt
variable {P : Program} {w : World} {K : PySem.W.Frag} {mg : Str → Option Value} {base : Heap} {Dk : Addr}
/-- a row of triples as a new list -/
def NewTrs (vs : List T3) (L : Lg) (Q : QV) : Prop := ∀ (r : Addr) (ms : List Tr3) (M : Lg), Sub L M → Trs ms M → ms.map (·.2) = vs → Q (.ref r) ((r, HO.lst (trV ms)) :: M)
def TrR (M : Lg) (v : V) (e : T3) : Prop := ∃ t, v = .ref t ∧ (t, trO e) ∈ M
theorem trR_mono : RepMono TrR := fun _ _ _ _ s ⟨t, e, m⟩ => ⟨t, e, s _ m⟩
theorem reps_trs {L : Lg} : ∀ {zs : List V} {ds : List T3}, Reps (TrR L) zs ds → ∃ ms : List Tr3, zs = trV ms ∧ ms.map (·.2) = ds ∧ Trs ms L
  | _, _, .nil => ⟨[], rfl, rfl, fun _ h => nomatch h⟩
  | _, _, .cons ⟨t, e, m⟩ r => by
    obtain ⟨ms, h1, h2, h3⟩ := reps_trs r
    subst e h1
    refine ⟨(t, _) :: ms, rfl, by rw [List.map_cons, h2], fun x hx => ?_⟩
    rcases List.mem_cons.mp hx with rfl | hx
    · exact m
    · exact h3 x hx
def spBegun (Dk : Addr) : SpL := fun vs L Q _ => ∃ (a dx t : Addr) (g least : Int) (ra fa : Addr) (qs : List Tr3) (r : Rn), vs = [.ref t, .ref a, .int least] ∧ RkAt Dk a dx g ra fa qs L ∧ (qs.map fun e => e.2.1).Pairwise (· ≤ ·) ∧ 0 < g ∧ g.natAbs < 2 ^ 2000 ∧ qs.length ≤ 2000 ∧ (t, prO r) ∈ L ∧
  (begV (qs.map (·.2)) r g least).length ≤ 100000 ∧ NewTrs (begV (qs.map (·.2)) r g least) L Q
theorem fn_begun_inside (B : Bi mg) (F : Df K mg "begun_inside" s_begun_inside) (D1 : Fn P w K mg base CX0 "length_of" 1 spLen) {gh : Addr} (hm : Meth K Dk "hit" gh) (Rh : RunG P w K mg base CX0 2 gh argsP (toSp (spHit K))) (ck : RkA K Dk) : Fn P w K mg base CX0 "begun_inside" 3 (spBegun Dk) := by
  refine fn_plain F sc_begun_inside (fun _ _ _ _ _ _ us hl => match us, hl with | [_, _, _], _ => rfl) (by decide) (by tm_at "g_len") ?_
  intro X f cdv A outer s H E0 L vs Q E hX nd hr h
  subst hX
  obtain ⟨a, dx, t, g, least, ra, fa, qs, r, rfl, rk, asc, g0, gb, ql, mt, len, q⟩ := h
  obtain ⟨c, n1, n2, n3⟩ := id ck
  unfold prO at mt
  have mo := rk.o
  show GSs _ (defBody s_begun_inside) (bodyD Q) [("run", some (.ref t)), ("ranked", some (.ref a)), ("least", some (.int least)), ("many", none), ("step", none), ("rows", none), ("some", none), ("key", none), ("begin", none), ("end", none), ("low", none), ("gap", none)] L
  refine GSs.nd fun nd0 => ?_
  refine gss_cons ?_
  tm_at "g"
  refine ge_call (El := NoX) D1 hr passA ?_
  tm_at "g"
  refine ⟨t, _, _, rfl, mt, ?_⟩
  tm_at "g"
  have big : (2 : Nat) ^ 2000 ≤ 2 ^ 9000 := Nat.pow_le_pow_right (by decide) (by decide)
  obtain ⟨hs, ehs⟩ : ∃ hs, hs = if least < r.2 - r.1 + 1 then hitF (fun e : Tr3 => e.2.1) qs g (r.1 + least) (r.2 - r.1 + 1 - least) else [] := ⟨_, rfl⟩
  have hsub : ∀ e ∈ hs, e ∈ qs := fun e he => by
    rw [ehs] at he
    split at he
    · obtain ⟨s, h1, h2⟩ := hit_sub (key := fun e : Tr3 => e.2.1) (qs := qs) (g := g) (b := r.1 + least) (m := r.2 - r.1 + 1 - least) g0
      exact h1.subset (h2.mem_iff.mp he)
    · cases he
  have hlen : hs.length ≤ 2000 := by
    rw [ehs]
    split
    · obtain ⟨s, h1, h2⟩ := hit_sub (key := fun e : Tr3 => e.2.1) (qs := qs) (g := g) (b := r.1 + least) (m := r.2 - r.1 + 1 - least) g0
      rw [h2.length_eq]
      exact Nat.le_trans h1.length_le ql
    · exact Nat.zero_le _
  have ebeg : begV (qs.map (·.2)) r g least = hs.flatMap fun e => (List.range (stN (lowG r g least e.2) (r.2 - r.1 + 1) g)).map fun t : Nat => (e.2.2.1, e.2.2.2, lowG r g least e.2 + t * g) := by
    rw [ehs]
    unfold begV
    split
    · rw [← hit_map (f := fun e : Tr3 => e.2) (key := fun e : Tr3 => e.2.1) (key2 := fun e : T3 => e.1) (fun _ => rfl), List.flatMap_map]
    · rfl
  refine gif_imp (Q' := fun v M => ∃ r1, v = .ref r1 ∧ Sub L M ∧ (r1, HO.lst (trV hs)) ∈ M) ?_ fun v M hv => ?_
  · refine ite_d (fun z => ?_) (fun z => ?_)
    · rw [if_pos z] at ehs
      refine ge_meth (El := NoX) Rh hm c hr passA ?_
      tm_at "g"
      refine ⟨a, dx, _, rfl, memS mo, rfl, ?_⟩
      tm_at "g"
      refine ⟨a, Dk, dx, g, _, _, ra, fa, qs, rfl, ck, rk.mono fun _ h => memS h, asc, g0, ql, fun r1 M sM m1 => ⟨r1, rfl, Sub.trans Sub.drop sM, by rw [ehs]; exact m1⟩⟩
    · rw [if_neg z] at ehs
      refine ge_lst (ga_nil ⟨sz_le (n := 0) (by decide), fun p => ⟨p, rfl, Sub.trans Sub.drop Sub.drop, by rw [ehs]; exact mem0⟩⟩)
  obtain ⟨r1, rfl, sM, m1⟩ := hv
  refine GSs.nd fun ndM => ?_
  have up := (sM.to ndM).2
  have mt2 := up _ mt
  have mo2 := up _ mo
  have hts : Trs hs M := fun e he => up _ (rk.t e (hsub e he))
  show GSs _ _ _ _ _
  refine gss_cons ?_
  refine gs_lcF3 (by tm_at "g_put") (by tm_at "g_put") (fun _ => by tm_at "g_put") (fun _ _ => by tm_at "g_put") (gi_list ?_) (show blkC N_begun_inside (defScope s_begun_inside) _ [(_, List.idxOf _ N_begun_inside), (_, List.idxOf _ N_begun_inside), (_, List.idxOf _ N_begun_inside)] = true by decide +kernel) (by rfl)
  tm_at "g"
  refine fresh_rowA3 (α := Tr3) (val := fun e => V.ref e.1) (t := fun _ => true) (x := fun e => .int e.2.1) (y := fun e => .int e.2.2.1) (z := fun e => .int e.2.2.2) (pl := fun e => trO (e.2.2.1, e.2.2.2, lowG r g least e.2)) m1 (by omega) (fun e he => ⟨e.1, rfl, hts e he, fun N hN s1 H1 C1 cl1 fp1 => ?_⟩) fun d2 es2 hes2 => ?_
  · have mt3 := hN _ mt2
    have mo3 := hN _ mo2
    refine gts_nil ⟨rfl, Sub.refl, fun _ s2 H2 C2 cl2 fp2 => ?_⟩
    tm_at "g"
    refine go_mod g0 ?_
    tm_at "g"
    exact Sub.refl
  rw [List.filter_eq_self.mpr fun _ _ => rfl] at hes2
  obtain ⟨ms, e7, e8⟩ := es_trips (ds := hs.map fun e => (e.2.2.1, e.2.2.2, lowG r g least e.2)) (by rw [hes2, List.map_map]; rfl)
  have mo3 : (a, _) ∈ es2 ++ M := List.mem_append_right _ mo2
  have htm := trs_of e7 M
  have erf := refs_trs e7
  have mlen : ms.length = hs.length := by have := congrArg List.length e8; rw [List.length_map, List.length_map] at this; exact this
  rw [erf]
  show GSs _ _ _ _ _
  refine gss_cons (gs_ret ?_)
  refine ge_lcR31 (by tm_at "g_put") (fun _ => by tm_at "g_put") (fun _ _ => by tm_at "g_put") (gi_list ?_) (show _ ∈ N_begun_inside from by decide +kernel) (show blkC N_begun_inside (defScope s_begun_inside) _ [(_, List.idxOf _ N_begun_inside), (_, List.idxOf _ N_begun_inside), (_, List.idxOf _ N_begun_inside), (_, List.idxOf _ N_begun_inside)] = true by decide +kernel) (by rfl)
  tm_at "g"
  let gs : Tr3 → List T3 := fun x => (List.range (stN x.2.2.2 (r.2 - r.1 + 1) g)).map fun t : Nat => (x.2.1, x.2.2.1, x.2.2.2 + t * g)
  have eall : ms.flatMap gs = begV (qs.map (·.2)) r g least := by
    rw [ebeg]
    have h1 : ms.flatMap gs = (ms.map (·.2)).flatMap fun x => (List.range (stN x.2.2 (r.2 - r.1 + 1) g)).map fun t : Nat => (x.1, x.2.1, x.2.2 + t * g) := by rw [List.flatMap_map]
    rw [h1, e8, List.flatMap_map]
  refine ⟨T3, TrR, fun i => gotA ms gs [] i, trR_mono, ?_, fun M s => s _ mem0, ?_, ?_⟩
  · show ((List.range (trV ms).length).flatMap fun i => gotA ms gs [] i).length ≤ 1000000
    rw [show (trV ms).length = ms.length from List.length_map .., range_flat (g := gs) (fun i e he => gotA_at he), eall]
    omega
  · intro D i x E1 zs R hi ⟨hx, hE⟩ hR nd2
    subst hE
    obtain ⟨e, he, rfl⟩ := map_at (as := ms) (val := fun e : Tr3 => V.ref e.1) hx
    have em := List.mem_of_getElem? he
    have pe := hR _ (memS (htm e em))
    have mo4 := hR _ (memS mo3)
    refine ⟨e.1, _, _, _, rfl, memS pe, ?_⟩
    intro s1 H1 C1 cl1 fp1
    refine gi_rangeB ?_ B.range
    tm_at "g"
    refine ⟨g0, log2_lt gb (by decide), R, Sub.refl, fun _ h => h, ?_, fun _ _ => True.intro, ?_⟩
    · rw [gotA_at he]
      exact (List.length_map ..).trans (List.length_range ..) |>.symm
    · intro j y E2 zs2 R2 hj ⟨hy, hE2⟩ hR2 nd3
      subst hE2 hy
      refine ⟨(e.2.1, e.2.2.1, e.2.2.2 + (j : Nat) * g), ?_, _, by tm_at "g_pv", ?_⟩
      · rw [gotA_at he]
        show ((List.range _).map _)[j]? = _
        rw [List.getElem?_map, List.getElem?_range (show j < stN e.2.2.2 (r.2 - r.1 + 1) g from hj)]
        rfl
      · intro s2 H2 C2 cl2 fp2
        tm_at "g"
        exact ⟨_ :: R2, Sub.perm (List.Perm.swap ..), fun _ h => memS h, _, rfl, mem0⟩
  · intro D zs R hR rp
    rw [show (⟨(trV ms).length, KeepL d2 (trV ms), G.itemAt (trV ms)⟩ : Src).n = ms.length from List.length_map .., range_flat (g := gs) (fun i e he => gotA_at he), eall] at rp
    obtain ⟨ms5, rfl, e9, ht5⟩ := reps_trs rp
    refine ⟨_, Sub.refl, q D ms5 R ?_ ht5 e9⟩
    exact ⟨fun nd3 => ⟨nd0, fun e he => hR e (memS (List.mem_append_right _ (up e he)))⟩⟩
end
section
open Lt
variable {P : Program} {w : World} {K : PySem.W.Frag} {mg : Str → Option Value} {base : Heap}
/-- the classes Round and Ranked -/
structure RingC (P : Program) (w : World) (K : PySem.W.Frag) (mg : Str → Option Value) (base : Heap) where
  DR : Addr
  DK : Addr
  fR : Addr
  fK : Addr
  gp : Addr
  hR : mg "Round" = some (.ref DR)
  hK : mg "Ranked" = some (.ref DK)
  MR : Mk K DR fR
  MK : Mk K DK fK
  aR : RdA K DR
  aK : RkA K DK
  RR : RunG P w K mg base CX0 4 fR argsP (toSp (spRoundInit K))
  RK : RunG P w K mg base CX0 1 fK argsP (toSp (spRkInit K))
  mp : Meth K DR "place" gp
  Rp : RunG P w K mg base CX0 1 gp argsP (toSp (spPlaceR K))
/-- a pair of a run and a row -/
def RrR (M : Lg) (v : V) (x : Rn × T3) : Prop := ∃ p rt et, v = .ref p ∧ (p, HO.tup [.ref rt, .ref et]) ∈ M ∧ (rt, prO x.1) ∈ M ∧ (et, trO x.2) ∈ M
theorem rrR_mono : RepMono RrR := fun _ _ _ _ s ⟨p, rt, et, e, a, b, c⟩ => ⟨p, rt, et, e, s _ a, s _ b, s _ c⟩
theorem piece_le {α β : Type} {f : α → List β} {l : List α} {a : α} (h : a ∈ l) : (f a).length ≤ (l.flatMap f).length := by
  induction l with
  | nil => cases h
  | cons b l ih =>
    rw [List.flatMap_cons, List.length_append]
    rcases List.mem_cons.mp h with rfl | h
    · omega
    · have := ih h
      omega
/-- a new list beside the one that grows -/
theorem inn_out {D r : Addr} {zs : List V} {o : HO} {R Mx : Lg} (nd : (((r, o) :: Mx).map (·.1)).Nodup) (s : Sub ((D, HO.lst zs) :: R) Mx) : ∃ R', Sub ((D, HO.lst zs) :: R') ((r, o) :: Mx) ∧ (∀ e ∈ R, e ∈ R') ∧ (r, o) ∈ R' ∧ ∀ e ∈ Mx, e = (D, HO.lst zs) ∨ e ∈ R' := by
  obtain ⟨R', pm, u1, u2⟩ := out1 (List.nodup_cons.mp nd).2 s
  refine ⟨(r, o) :: R', Sub.perm ((List.Perm.swap ..).trans (pm.symm.cons _)), fun e he => memS (u1 e he), mem0, fun e he => ?_⟩
  rcases u2 e he with h | h
  · exact .inl h
  · exact .inr (memS h)
def spShared : SpL := fun vs L Q _ => ∃ (ta tb ra rb : Addr) (p q : Nat) (ps ts : List Pr2), vs = [.ref ta, .ref tb] ∧ (ta, HO.tup [.int p, .ref ra]) ∈ L ∧ (tb, HO.tup [.int q, .ref rb]) ∈ L ∧ (ra, HO.tup (prV ps)) ∈ L ∧ (rb, HO.tup (prV ts)) ∈ L ∧ Prs2 ps L ∧ Prs2 ts L ∧
  0 < p ∧ 0 < q ∧ p < 2 ^ 2000 ∧ q < 2 ^ 2000 ∧ ps.length ≤ 2000 ∧ ts.length ≤ 2000 ∧ NF 0 p (ps.map (·.2)) ∧ NF 0 q (ts.map (·.2)) ∧ meetsN (Nat.gcd p q : Nat) (ps.map (·.2)) (ts.map (·.2)) ≤ 2000 ∧
  ∀ (t tr : Addr) (ms : List Pr2) (M : Lg), Sub L M → (t, HO.tup [.int (Nat.lcm p q : Nat), .ref tr]) ∈ M → (tr, HO.tup (prV ms)) ∈ M → Prs2 ms M → (∀ e ∈ ms, e.2.1 ≤ e.2.2) → (ms.length : Int) ≤ meetsN (Nat.gcd p q : Nat) (ps.map (·.2)) (ts.map (·.2)) → (∀ n, In (Nat.lcm p q : Nat) (ms.map (·.2)) n ↔ In p (ps.map (·.2)) n ∧ In q (ts.map (·.2)) n) → NF 0 (Nat.lcm p q : Nat) (ms.map (·.2)) → Q (.ref t) M
theorem fn_shared_runs (B : Bi mg) (F : Df K mg "shared_runs" s_shared_runs) (C : RingC P w K mg base) (D1 : Fn P w K mg base CX0 "begun_inside" 3 (spBegun C.DK)) (D2 : Fn P w K mg base CX0 "shared_far" 1 spFar) : Fn P w K mg base CX0 "shared_runs" 6 spShared := by
  refine fn_plain F sc_shared_runs (fun _ _ _ _ _ _ us hl => match us, hl with | [_, _], _ => rfl) (by decide) (by tm_at "g_len") ?_
  intro X f cdv A outer s H E0 L vs Q E hX nd hr h
  subst hX
  obtain ⟨ta, tb, ra, rb, p, q, ps, ts, rfl, mta, mtb, mra, mrb, hps, hts, p0, q0, pb, qb, lps, lts, nfp, nfq, ml, k⟩ := h
  have g0 : 0 < Nat.gcd p q := Nat.gcd_pos_of_pos_left _ p0
  have gb : ((Nat.gcd p q : Nat) : Int).natAbs < 2 ^ 2000 := by
    rw [Int.natAbs_natCast]
    exact Nat.lt_of_le_of_lt (Nat.gcd_le_left _ p0) pb
  have aR := C.aR
  have aK := C.aK
  obtain ⟨cR, nR1, nR2, nR3, nR4, nR5⟩ := id aR
  obtain ⟨cK, nK1, nK2, nK3⟩ := id aK
  show GSs _ (defBody s_shared_runs) (bodyD Q) [("table", some (.ref ta)), ("other", some (.ref tb)), ("turn", none), ("own", none), ("its", none), ("later", none), ("found", none), ("ahead", none), ("more", none), ("run", none), ("row", none), ("begin", none), ("far", none)] L
  refine GSs.nd fun nd0 => ?_
  refine gss_cons ?_
  tm_at "g"
  refine ge_callF C.hR C.MR.kp (fun _ => gf_make (El := NoX) C.MR C.RR (fun _ _ => rfl) hr passA (by decide)) ?_
  tm_at "g"
  refine fun tn dn => ⟨tn, C.DR, dn, p, q, _, rfl, Sub.refl, aR, p0, q0, pb, qb, fun inv ri => ⟨rfl, ?_⟩⟩
  show GSs _ _ _ _ _
  obtain ⟨pt, ept⟩ : ∃ pt : Nat, pt = q / Nat.gcd p q := ⟨_, rfl⟩
  obtain ⟨g, eg⟩ : ∃ g : Nat, g = Nat.gcd p q := ⟨_, rfl⟩
  obtain ⟨tot, etot⟩ : ∃ tot : Nat, tot = Nat.lcm p q := ⟨_, rfl⟩
  rw [← eg] at g0 gb ml k
  rw [← etot] at k
  have pt0 : 0 < pt := by
    rw [ept]
    exact Nat.div_pos (Nat.le_of_dvd q0 (Nat.gcd_dvd_right p q)) (eg ▸ g0)
  have ptb : (pt : Int).natAbs < 2 ^ 2000 := by
    rw [Int.natAbs_natCast, ept]
    exact Nat.lt_of_le_of_lt (Nat.div_le_self _ _) qb
  have tot0 : 0 < tot := by
    rw [etot]
    exact Nat.lcm_pos p0 q0
  have iv0 := ri.i0
  have iv1 := ri.i1
  have ivv := ri.iv
  rw [← ept] at iv1
  rw [← ept, ← eg] at ivv
  rw [← ept, ← eg, ← etot]
  tm_at "g"
  refine ge_callF C.hK C.MK.kp (fun _ => gf_make (El := NoX) C.MK C.RK (fun _ _ => rfl) hr passA (by decide)) ?_
  tm_at "g"
  refine fun on don => ⟨on, C.DK, don, g, ra, _, ps, _, rfl, Sub.refl, aK, .inr rfl, memS (memS (memS mra)), hps.mono fun _ h => memS (memS (memS h)), by omega, lps, fun ro fo' qo M1 sM1 ko Ro => ⟨rfl, ?_⟩⟩
  show GA _ _ _ _ _
  refine GA.ndc fun nd1 => ?_
  have up1 := (sM1.to nd1).2
  have mtn1 := up1 _ (memS mem0)
  have mtb1 := up1 _ (memS (memS (memS mtb)))
  tm_at "g"
  refine ge_callF C.hK C.MK.kp (fun _ => gf_make (El := NoX) C.MK C.RK (fun _ _ => rfl) hr passA (by decide)) ?_
  tm_at "g"
  refine fun jn djn => ⟨jn, C.DK, djn, g, rb, _, ts, _, rfl, Sub.refl, aK, .inr rfl, memS (up1 _ (memS (memS (memS mrb)))), hts.mono fun _ h => memS (up1 _ (memS (memS (memS h)))), by omega, lts, fun rj fj qj M2 sM2 kj Rj => ⟨rfl, ?_⟩⟩
  refine ga_nil ⟨szL (show (2 : Nat) ≤ 16777216 by decide), fun tp => ?_⟩
  refine gg_tup mem0 ?_
  refine GGs.ndc fun nd2' => ?_
  have nd2 := (List.nodup_cons.mp nd2').2
  have up2 := (sM2.to nd2).2
  have ko2 := ko.mono fun e he => memS (b := (tp, HO.tup [.ref on, .ref jn])) (up2 e (memS he))
  have kj2 := kj.mono fun e he => memS (b := (tp, HO.tup [.ref on, .ref jn])) he
  have upL : ∀ e ∈ L, e ∈ (tp, HO.tup [.ref on, .ref jn]) :: M2 := fun e he => memS (up2 _ (memS (up1 _ (memS (memS (memS he))))))
  have mtn := memS (b := (tp, HO.tup [.ref on, .ref jn])) (up2 _ (memS mtn1))
  generalize hM : (tp, HO.tup [.ref on, .ref jn]) :: M2 = M at nd2' ko2 kj2 upL mtn ⊢
  clear hM up2 nd2 mtn1 mtb1 up1 nd1 ko kj sM1 sM2
  have mta2 := upL _ mta
  have mtb2 := upL _ mtb
  have mra2 := upL _ mra
  have mrb2 := upL _ mrb
  have hps2 := hps.mono upL
  have hts2 := hts.mono upL
  tm_at "g"
  have leR := nfp.le
  have leT := nfq.le
  have shl := shared_len (p := p) (part := pt) (inv := inv) (tot := tot) (show (0 : Int) < g by omega) Ro Rj leR leT
  obtain ⟨sh1, sh2, sh3⟩ := shl
  have ascJ := Rj.asc
  have ascO := Ro.asc
  rw [List.map_map] at ascJ ascO
  have lqj : qj.length ≤ 2000 := by
    have := Rj.perm.length_eq
    rw [List.length_map, List.length_map, List.length_map] at this
    omega
  have lqo : qo.length ≤ 2000 := by
    have := Ro.perm.length_eq
    rw [List.length_map, List.length_map, List.length_map] at this
    omega
  have lbj : ∀ e ∈ ps, (begV (qj.map (·.2)) e.2 g 0).length ≤ 100000 := fun e he => by
    have h1 := piece_le (f := fun r => begV (qj.map (·.2)) r g 0) (List.mem_map.mpr ⟨e, he, rfl⟩ : e.2 ∈ ps.map (·.2))
    omega
  have lbo : ∀ e ∈ ts, (begV (qo.map (·.2)) e.2 g 1).length ≤ 100000 := fun e he => by
    have h1 := piece_le (f := fun r => begV (qo.map (·.2)) r g 1) (List.mem_map.mpr ⟨e, he, rfl⟩ : e.2 ∈ ts.map (·.2))
    omega
  refine gs_lcR11 (by tm_at "g_put") (by tm_at "g_put") (gi_tuple ?_) (show _ ∈ N_shared_runs from by decide +kernel) (show blkC N_shared_runs (defScope s_shared_runs) _ [(_, List.idxOf _ N_shared_runs), (_, List.idxOf _ N_shared_runs)] = true by decide +kernel) (by rfl)
  tm_at "g"
  let fl : Pr2 → List (Rn × T3) := fun e => (begV (qj.map (·.2)) e.2 g 0).map fun x => (e.2, x)
  have efl : ps.flatMap fl = (ps.map (·.2)).flatMap fun r => (begV (qj.map (·.2)) r g 0).map fun x => (r, x) := by rw [List.flatMap_map]
  have lfl : (ps.flatMap fl).length ≤ 2000 := by
    have : (ps.flatMap fl).length = ((ps.map (·.2)).flatMap fun r => begV (qj.map (·.2)) r g 0).length := by
      rw [efl, List.length_flatMap, List.length_flatMap]
      simp only [List.length_map]
    omega
  refine ⟨Rn × T3, RrR, fun i => gotA ps fl [] i, rrR_mono, ?_, fun M s => s _ mra2, ?_, ?_⟩
  · show ((List.range (prV ps).length).flatMap fun i => gotA ps fl [] i).length ≤ 1000000
    rw [prV_len, range_flat (g := fl) (fun i e he => gotA_at he)]
    omega
  · intro D i x E1 zs R hi ⟨hx, hE⟩ hR nd4
    subst hE
    obtain ⟨e, he, rfl⟩ := prV_at hx
    have em := List.mem_of_getElem? he
    have pe := hR _ (hps2 e em)
    intro s1 H1 C1 cl1 fp1
    refine gi_list (GE.nd (ge_call (El := NoX) D1 hr passA ?_))
    tm_at "g"
    refine ⟨jn, djn, e.1, g, 0, rj, fj, qj, e.2, rfl, kj2.mono fun _ h => memS (hR _ h), ascJ, by omega, gb, lqj, memS pe, lbj e em, fun r ms Mx sMx hms ems ndx => ?_⟩
    obtain ⟨R', sb', up', in', out'⟩ := inn_out ndx sMx
    refine ⟨r, trV ms, rfl, mem0, R', sb', up', ?_, fun M2 s => s _ in', ?_⟩
    · rw [gotA_at he]
      show (trV ms).length = ((begV (qj.map (·.2)) e.2 g 0).map _).length
      rw [List.length_map, ← ems, List.length_map]
      exact List.length_map ..
    · intro j y E2 zs2 R2 hj ⟨hy, hE2⟩ hR2 nd5
      subst hE2
      obtain ⟨u, hu, rfl⟩ := map_at (as := ms) (val := fun e : Tr3 => V.ref e.1) hy
      have mu := hR2 _ ((out' _ (hms u (List.mem_of_getElem? hu))).resolve_left fun z => nomatch congrArg Prod.snd z)
      have pe2 := hR2 _ (up' _ pe)
      refine ⟨(e.2, u.2), ?_, _, by tm_at "g_pv", ?_⟩
      · rw [gotA_at he]
        show ((begV (qj.map (·.2)) e.2 g 0).map _)[j]? = _
        rw [← ems, List.map_map, List.getElem?_map, hu]
        rfl
      · intro s2 H2 C2 cl2 fp2
        tm_at "g"
        exact ⟨_ :: R2, Sub.perm (List.Perm.swap ..), fun _ h => memS h, _, e.1, u.1, rfl, mem0, memS pe2, memS mu⟩
  intro D1' zs R1 hR1 rp1
  rw [show (⟨(prV ps).length, KeepT ra (prV ps), G.itemAt (prV ps)⟩ : Src).n = ps.length from prV_len, range_flat (g := fl) (fun i e he => gotA_at he), efl] at rp1
  show GSs _ _ _ _ _
  have mtn3 := hR1 _ mtn
  refine gss_cons ?_
  refine gs_lcF2 (by tm_at "g_put") (by tm_at "g_put") (fun _ => by tm_at "g_put") (gi_list ?_) (by decide) (show blkC N_shared_runs (defScope s_shared_runs) _ [(_, List.idxOf _ N_shared_runs), (_, List.idxOf _ N_shared_runs)] = true by decide +kernel)
  tm_at "g"
  obtain ⟨ds1, eds1⟩ : ∃ ds1, ds1 = (ps.map (·.2)).flatMap fun r => (begV (qj.map (·.2)) r g 0).map fun x => ((r, x) : Rn × T3) := ⟨_, rfl⟩
  rw [← eds1] at rp1
  have ld1 : ds1.length ≤ 2000 := by rw [eds1, ← efl]; exact lfl
  have e2004 : (2 : Nat) ^ 2002 = 4 * 2 ^ 2000 := by rw [show (2002 : Nat) = 2 + 2000 from rfl, Nat.pow_add]
  have bd : ∀ x ∈ ds1, (x.1.1 + x.2.2.2).natAbs < 2 ^ 2002 ∧ x.2.1.natAbs < 2 ^ 2002 := fun x hx => by
    rw [eds1] at hx
    obtain ⟨r, hr1, hx⟩ := List.mem_flatMap.mp hx
    obtain ⟨o, ho, rfl⟩ := List.mem_map.mp hx
    obtain ⟨t, ht, k', k0, k1, -, rfl⟩ := (beg_mem Rj (by omega) o).mp ho
    have w1 := nfp.wd r hr1
    have w2 := nfp.cl r hr1 r hr1
    have w3 := nfq.wd t ht
    dsimp only
    generalize (2 : Nat) ^ 2000 = Z at *
    omega
  let f1 : Rn × T3 → Rn := fun x => (plc p g pt inv tot (x.1.1 + x.2.2.2) x.2.1, min (x.1.2 - x.1.1 - x.2.2.2) (x.2.2.1 - x.2.1))
  refine fresh_row2 (p := fun _ => true) (pl := fun i => prO (gotA ds1 f1 (0, 0) i)) mem0 (by rw [rp1.len]; omega) (fun i v hx => ?_) fun d3 es3 hes3 => ?_
  · obtain ⟨x, hx1, pa, rt, et, rfl, h1, h2, h3⟩ := rp1.get hx
    have xm := List.mem_of_getElem? hx1
    obtain ⟨b1, b2⟩ := bd x xm
    rw [gotA_at hx1]
    refine ⟨pa, _, _, rfl, memS h1, fun N hN s1 H1 C1 cl1 fp1 => ?_⟩
    have h4 := hN _ (memS h2)
    have h5 := hN _ (memS h3)
    have h6 := hN _ (memS mtn3)
    unfold prO at h4
    have h5' := h5
    unfold trO at h5
    refine gts_nil ⟨rfl, Sub.refl, fun _ s2 H2 C2 cl2 fp2 => ?_⟩
    tm_at "g"
    refine ge_meth (El := NoX) C.Rp C.mp cR hr passA ?_
    tm_at "g"
    refine ⟨tn, dn, _, rfl, h6, rfl, ?_⟩
    tm_at "g"
    refine ⟨tn, C.DR, dn, p, g, pt, inv, tot, _, _, rfl, aR, h6, by omega, gb, by omega, ptb, iv0, by omega, by rw [Int.natAbs_natCast]; exact pb, by omega, b1, b2, ?_⟩
    tm_at "g"
    refine ge_call (El := NoX) D2 hr passA ?_
    tm_at "g"
    refine ⟨rt, et, _, _, x.2, rfl, h4, h5', ?_⟩
    tm_at "g"
    exact Sub.refl
  have hes3' : es3.map (·.2) = (ds1.map f1).map prO := by
    rw [hes3, List.filter_eq_self.mpr fun _ _ => rfl, rp1.len, List.map_map]
    exact range_mapsG (g := prO ∘ f1) (f := fun i => prO (gotA ds1 f1 (0, 0) i)) (fun i x hx => by rw [gotA_at hx]; rfl)
  obtain ⟨ms3, e3a, e3b⟩ := pairs_of hes3'
  rw [refs_of e3a]
  have hp3 := (prs_of e3a ((D1', HO.lst zs) :: R1)).mono fun _ h => memS (b := (d3, HO.lst (prV ms3))) h
  have up3 : ∀ e ∈ M, e ∈ (d3, HO.lst (prV ms3)) :: (es3 ++ (D1', HO.lst zs) :: R1) := fun e he => memS (List.mem_append_right _ (memS (hR1 e he)))
  have m3 : (d3, HO.lst (prV ms3)) ∈ (d3, HO.lst (prV ms3)) :: (es3 ++ (D1', HO.lst zs) :: R1) := mem0
  show GSs _ _ _ _ _
  generalize (d3, HO.lst (prV ms3)) :: (es3 ++ (D1', HO.lst zs) :: R1) = M3 at hp3 up3 m3 ⊢
  clear hes3' hes3 e3a rp1 hR1 mtn3
  have upL3 : ∀ e ∈ L, e ∈ M3 := fun e he => up3 e (upL e he)
  have mtn4 := up3 _ mtn
  have mtb4 := up3 _ mtb2
  have mrb4 := up3 _ mrb2
  have hts4 := hts2.mono up3
  have ko4 := ko2.mono up3
  clear hps2 mra2 mta2 kj2 mtn mtb2 mrb2 hts2 ko2 nd2' upL
  refine gss_cons ?_
  refine gs_lcR11 (by tm_at "g_put") (by tm_at "g_put") (gi_tuple ?_) (show _ ∈ N_shared_runs from by decide +kernel) (show blkC N_shared_runs (defScope s_shared_runs) _ [(_, List.idxOf _ N_shared_runs), (_, List.idxOf _ N_shared_runs)] = true by decide +kernel) (by rfl)
  tm_at "g"
  let fo : Pr2 → List (Rn × T3) := fun e => (begV (qo.map (·.2)) e.2 g 1).map fun x => (e.2, x)
  have efo : ts.flatMap fo = (ts.map (·.2)).flatMap fun r => (begV (qo.map (·.2)) r g 1).map fun x => (r, x) := by rw [List.flatMap_map]
  have lfo : (ts.flatMap fo).length ≤ 2000 := by
    have : (ts.flatMap fo).length = ((ts.map (·.2)).flatMap fun r => begV (qo.map (·.2)) r g 1).length := by
      rw [efo, List.length_flatMap, List.length_flatMap]
      simp only [List.length_map]
    omega
  refine ⟨Rn × T3, RrR, fun i => gotA ts fo [] i, rrR_mono, ?_, fun M s => s _ mrb4, ?_, ?_⟩
  · show ((List.range (prV ts).length).flatMap fun i => gotA ts fo [] i).length ≤ 1000000
    rw [prV_len, range_flat (g := fo) (fun i e he => gotA_at he)]
    omega
  · intro D i x E1 zs R hi ⟨hx, hE⟩ hR nd4
    subst hE
    obtain ⟨e, he, rfl⟩ := prV_at hx
    have em := List.mem_of_getElem? he
    have pe := hR _ (hts4 e em)
    intro s1 H1 C1 cl1 fp1
    refine gi_list (GE.nd (ge_call (El := NoX) D1 hr passA ?_))
    tm_at "g"
    refine ⟨on, don, e.1, g, 1, ro, fo', qo, e.2, rfl, ko4.mono fun _ h => memS (hR _ h), ascO, by omega, gb, lqo, memS pe, lbo e em, fun r ms Mx sMx hms ems ndx => ?_⟩
    obtain ⟨R', sb', up', in', out'⟩ := inn_out ndx sMx
    refine ⟨r, trV ms, rfl, mem0, R', sb', up', ?_, fun M2 s => s _ in', ?_⟩
    · rw [gotA_at he]
      show (trV ms).length = ((begV (qo.map (·.2)) e.2 g 1).map _).length
      rw [List.length_map, ← ems, List.length_map]
      exact List.length_map ..
    · intro j y E2 zs2 R2 hj ⟨hy, hE2⟩ hR2 nd5
      subst hE2
      obtain ⟨u, hu, rfl⟩ := map_at (as := ms) (val := fun e : Tr3 => V.ref e.1) hy
      have mu := hR2 _ ((out' _ (hms u (List.mem_of_getElem? hu))).resolve_left fun z => nomatch congrArg Prod.snd z)
      have pe2 := hR2 _ (up' _ pe)
      refine ⟨(e.2, u.2), ?_, _, by tm_at "g_pv", ?_⟩
      · rw [gotA_at he]
        show ((begV (qo.map (·.2)) e.2 g 1).map _)[j]? = _
        rw [← ems, List.map_map, List.getElem?_map, hu]
        rfl
      · intro s2 H2 C2 cl2 fp2
        tm_at "g"
        exact ⟨_ :: R2, Sub.perm (List.Perm.swap ..), fun _ h => memS h, _, e.1, u.1, rfl, mem0, memS pe2, memS mu⟩
  intro D2' zs2 R2 hR2 rp2
  rw [show (⟨(prV ts).length, KeepT rb (prV ts), G.itemAt (prV ts)⟩ : Src).n = ts.length from prV_len, range_flat (g := fo) (fun i e he => gotA_at he), efo] at rp2
  show GSs _ _ _ _ _
  have mtn5 := hR2 _ mtn4
  refine gss_cons ?_
  refine gs_lcF2 (by tm_at "g_put") (by tm_at "g_put") (fun _ => by tm_at "g_put") (gi_list ?_) (by decide) (show blkC N_shared_runs (defScope s_shared_runs) _ [(_, List.idxOf _ N_shared_runs), (_, List.idxOf _ N_shared_runs)] = true by decide +kernel)
  tm_at "g"
  obtain ⟨ds2, eds2⟩ : ∃ ds2, ds2 = (ts.map (·.2)).flatMap fun r => (begV (qo.map (·.2)) r g 1).map fun x => ((r, x) : Rn × T3) := ⟨_, rfl⟩
  rw [← eds2] at rp2
  have ld2 : ds2.length ≤ 2000 := by rw [eds2, ← efo]; exact lfo
  have bd2 : ∀ x ∈ ds2, (x.1.1 + x.2.2.2).natAbs < 2 ^ 2002 ∧ x.2.1.natAbs < 2 ^ 2002 := fun x hx => by
    rw [eds2] at hx
    obtain ⟨r, hr1, hx⟩ := List.mem_flatMap.mp hx
    obtain ⟨o, ho, rfl⟩ := List.mem_map.mp hx
    obtain ⟨t, ht, k', k0, k1, -, rfl⟩ := (beg_mem Ro (by omega) o).mp ho
    have w1 := nfq.wd r hr1
    have w2 := nfq.cl r hr1 r hr1
    have w3 := nfp.wd t ht
    dsimp only
    generalize (2 : Nat) ^ 2000 = Z at *
    omega
  let f2 : Rn × T3 → Rn := fun x => (plc p g pt inv tot x.2.1 (x.1.1 + x.2.2.2), min (x.1.2 - x.1.1 - x.2.2.2) (x.2.2.1 - x.2.1))
  refine fresh_row2 (p := fun _ => true) (pl := fun i => prO (gotA ds2 f2 (0, 0) i)) mem0 (by rw [rp2.len]; omega) (fun i v hx => ?_) fun d4 es4 hes4 => ?_
  · obtain ⟨x, hx1, pa, rt, et, rfl, h1, h2, h3⟩ := rp2.get hx
    have xm := List.mem_of_getElem? hx1
    obtain ⟨b1, b2⟩ := bd2 x xm
    rw [gotA_at hx1]
    refine ⟨pa, _, _, rfl, memS h1, fun N hN s1 H1 C1 cl1 fp1 => ?_⟩
    have h4 := hN _ (memS h2)
    have h5 := hN _ (memS h3)
    have h6 := hN _ (memS mtn5)
    unfold prO at h4
    have h5' := h5
    unfold trO at h5
    refine gts_nil ⟨rfl, Sub.refl, fun _ s2 H2 C2 cl2 fp2 => ?_⟩
    tm_at "g"
    refine ge_meth (El := NoX) C.Rp C.mp cR hr passA ?_
    tm_at "g"
    refine ⟨tn, dn, _, rfl, h6, rfl, ?_⟩
    tm_at "g"
    refine ⟨tn, C.DR, dn, p, g, pt, inv, tot, _, _, rfl, aR, h6, by omega, gb, by omega, ptb, iv0, by omega, by rw [Int.natAbs_natCast]; exact pb, by omega, b2, b1, ?_⟩
    tm_at "g"
    refine ge_call (El := NoX) D2 hr passA ?_
    tm_at "g"
    refine ⟨rt, et, _, _, x.2, rfl, h4, h5', ?_⟩
    tm_at "g"
    exact Sub.refl
  have hes4' : es4.map (·.2) = (ds2.map f2).map prO := by
    rw [hes4, List.filter_eq_self.mpr fun _ _ => rfl, rp2.len, List.map_map]
    exact range_mapsG (g := prO ∘ f2) (f := fun i => prO (gotA ds2 f2 (0, 0) i)) (fun i x hx => by rw [gotA_at hx]; rfl)
  obtain ⟨ms4, e4a, e4b⟩ := pairs_of hes4'
  rw [refs_of e4a]
  have hp4 := (prs_of e4a ((D2', HO.lst zs2) :: R2)).mono fun _ h => memS (b := (d4, HO.lst (prV ms4))) h
  have up4 : ∀ e ∈ M3, e ∈ (d4, HO.lst (prV ms4)) :: (es4 ++ (D2', HO.lst zs2) :: R2) := fun e he => memS (List.mem_append_right _ (memS (hR2 e he)))
  have m4 : (d4, HO.lst (prV ms4)) ∈ (d4, HO.lst (prV ms4)) :: (es4 ++ (D2', HO.lst zs2) :: R2) := mem0
  show GSs _ _ _ _ _
  generalize (d4, HO.lst (prV ms4)) :: (es4 ++ (D2', HO.lst zs2) :: R2) = M4 at hp4 up4 m4 ⊢
  clear hes4' hes4 e4a rp2 hR2 mtn5 zs2 es4 R2
  have upL4 : ∀ e ∈ L, e ∈ M4 := fun e he => up4 e (upL3 e he)
  have m34 := up4 _ m3
  have mtn6 := up4 _ mtn4
  have hp34 := hp3.mono up4
  clear mtn4 mtb4 mrb4 hts4 ko4 m3 hp3
  tm_at "g"
  refine ge_lcF2 (by tm_at "g_put") (fun _ => by tm_at "g_put") (gi_list ?_) (by decide) (show blkC N_shared_runs (defScope s_shared_runs) _ [(_, List.idxOf _ N_shared_runs), (_, List.idxOf _ N_shared_runs)] = true by decide +kernel)
  tm_at "g"
  refine ⟨d3, prV ms3, rfl, .inr m34, ?_⟩
  tm_at "g"
  refine ⟨d4, prV ms4, rfl, .inr m4, ?_⟩
  tm_at "g"
  have lm3 : ms3.length ≤ 2000 := by have := congrArg List.length e3b; rw [List.length_map, List.length_map] at this; omega
  have lm4 : ms4.length ≤ 2000 := by have := congrArg List.length e4b; rw [List.length_map, List.length_map] at this; omega
  have epv : prV ms3 ++ (prV ms4 ++ []) = prV (ms3 ++ ms4) := by unfold prV; rw [List.append_nil, List.map_append]
  rw [epv]
  refine ⟨szL (by rw [prV_len, List.length_append]; omega), fun tb5 => ⟨tb5, _, rfl, mem0, ?_⟩⟩
  have hpb : Prs2 (ms3 ++ ms4) M4 := fun e he => by
    rcases List.mem_append.mp he with h | h
    · exact hp34 e h
    · exact hp4 e h
  refine fresh_rowP2 (t := fun _ => true) (pl := fun e => prO (e.2.1, e.2.1 + e.2.2)) mem0 (hpb.mono fun _ h => memS h) (by rw [List.length_append]; omega) (fun e he N hN s1 H1 C1 cl1 fp1 => ?_) fun d6 es6 hes6 => ?_
  · refine gts_nil ⟨rfl, Sub.refl, fun _ s2 H2 C2 cl2 fp2 => ?_⟩
    tm_at "g"
    exact Sub.refl
  rw [List.filter_eq_self.mpr fun _ _ => rfl] at hes6
  have hes6' : es6.map (·.2) = ((ms3 ++ ms4).map fun e => ((e.2.1, e.2.1 + e.2.2) : Rn)).map prO := by rw [hes6, List.map_map]; rfl
  obtain ⟨ms6, e6a, e6b⟩ := pairs_of hes6'
  rw [refs_of e6a]
  have hp6 := (prs_of e6a ((tb5, HO.lst (prV (ms3 ++ ms4))) :: M4)).mono fun _ h => memS (b := (d6, HO.lst (prV ms6))) h
  tm_at "g"
  refine gc_sortedP (ps := ms6) mem0 hp6 fun ms7 d7 pm7 asc7 => ?_
  tm_at "g"
  refine gc_tupL mem0 fun t8 => ?_
  tm_at "g"
  rename_i tz
  have e7 : (ms6.map (·.2)) = sharedV p g pt inv tot (ps.map (·.2)) (ts.map (·.2)) (qo.map (·.2)) (qj.map (·.2)) := by
    rw [e6b, show (fun e : Pr2 => ((e.2.1, e.2.1 + e.2.2) : Rn)) = (fun e : Rn => ((e.1, e.1 + e.2) : Rn)) ∘ (fun e : Pr2 => e.2) from rfl, ← List.map_map, List.map_append, e3b, e4b, eds1, eds2]
    unfold sharedV
    rw [List.map_append, List.map_flatMap, List.map_flatMap, List.map_flatMap, List.map_flatMap]
    simp only [List.map_map]
    rfl
  have shr := shared_shr (p := p) (q := q) (part := pt) (inv := inv) (tot := tot) (show (0 : Int) < g by omega) Ro Rj
  rw [← e7] at shr sh3
  have pg : p / g * g = p := Nat.div_mul_cancel (eg ▸ Nat.gcd_dvd_left p q)
  have qg : q / g * g = q := Nat.div_mul_cancel (eg ▸ Nat.gcd_dvd_right p q)
  rw [← eg] at ept
  have pl := plc_ok (p := p) (q := q) (g := g) (part := pt) (own := ((p / g : Nat) : Int)) (inv := inv) (tot := tot) (by omega) (by rw [Int.mul_comm, ← Int.natCast_mul, pg]) (by rw [ept, Int.mul_comm, ← Int.natCast_mul, qg]) (by omega) (by omega) (by rw [eg]; rw [eg] at ivv; exact ivv) (by rw [etot]; exact Int.ofNat_dvd.mpr (Nat.dvd_lcm_left p q)) (by rw [etot]; exact Int.ofNat_dvd.mpr (Nat.dvd_lcm_right p q))
  have tell := shared_in pl shr (by rw [eg]; exact Int.ofNat_dvd.mpr (Nat.gcd_dvd_left p q)) (by rw [eg]; exact Int.ofNat_dvd.mpr (Nat.gcd_dvd_right p q)) (by rw [etot]; exact Int.ofNat_dvd.mpr (Nat.dvd_lcm_left p q)) (by rw [etot]; exact Int.ofNat_dvd.mpr (Nat.dvd_lcm_right p q)) (fun x h1 h2 => by
    rw [etot]
    exact Int.ofNat_dvd_left.mpr (Nat.lcm_dvd (Int.ofNat_dvd_left.mp h1) (Int.ofNat_dvd_left.mp h2)))
  refine ⟨_, Sub.refl, k tz t8 ms7 _ ⟨fun _ => ⟨nd0, fun e he => memS (memS (memS (memS (List.mem_append_right _ (memS (upL4 e he))))))⟩⟩ mem0 (memS mem0) (fun e he => memS (memS (memS (hp6 e (pm7.mem_iff.mp he))))) (fun e he => ?_) ?_ (fun n => ?_) ?_⟩
  · have : e.2 ∈ ms6.map (·.2) := List.mem_map.mpr ⟨e, pm7.mem_iff.mp he, rfl⟩
    rcases shr.sound e.2 this with ⟨r, hr, t, ht, k', k0, k1, ke, e1, e2⟩ | ⟨r, hr, t, ht, k', k0, k1, ke, e1, e2⟩
    · have := leR r hr
      have := leT t ht
      omega
    · have := leR r hr
      have := leT t ht
      omega
  · rw [List.length_map] at sh3
    have := pm7.length_eq
    omega
  · rw [← tell n]
    constructor
    · rintro ⟨r, hr, z⟩
      exact ⟨r, (pm7.map _).mem_iff.mp hr, z⟩
    · rintro ⟨r, hr, z⟩
      exact ⟨r, (pm7.map _).mem_iff.mpr hr, z⟩
  · have snd := shared_nd (part := pt) (inv := inv) (tot := tot) (show (0 : Int) < g by omega) pl nfp nfq Ro Rj
    rw [← e7] at snd
    refine shared_nf pl shr nfp nfq (by omega) (fun n => ?_) tell snd (pm7.map _) (asc7.imp fun {a b} h => by unfold le2 at h; omega)
    exact (tell _).symm.trans ((in_per n).trans (tell _))
end
section
open Lt
variable {P : Program} {w : World} {K : PySem.W.Frag} {mg : Str → Option Value} {base : Heap} {C : Addr}
abbrev InitR (P : Program) (w : World) (K : PySem.W.Frag) (mg : Str → Option Value) (base : Heap) (fI : Addr) : Prop := RunG P w K mg base CX0 4 fI argsP (toSp fun vs L Q E => ∃ ws rest, vs = ws ++ rest ∧ ws.length = 2 ∧ rest.length ≤ sizeLine ∧ ∀ p, spLotInit K (ws ++ [.ref p]) ((p, .tup rest) :: L) Q E)
def spAround (C : Addr) : SpL := fun vs L Q _ => ∃ p k : Int, vs = [.int p, .int k] ∧ 1 ≤ p ∧ 0 ≤ k ∧ LotR C (Lt.In p [(-k, k)]) L Q
theorem run_Lot_around {f fI : Addr} {fd : FuncData} (F : Fun K "around" "Lot.around" s_Lot_around f fd) (args : List Value → Args) (pmV : List V → List V) (pmU : List Value → List Value) (hpm : ∀ vs us, Vals vs us → Vals (pmV vs) (pmU us))
    (hb : ∀ (kV doc pm : Value) (an : Option Addr) (cdv ct : Value) (us : List Value), (pmU us).length = (["period", "play"] : List Str).length → bindArgs (PySem.W.fnOf "around" "Lot.around" (defArgs s_Lot_around) (defBody s_Lot_around) (defScope s_Lot_around) .none kV doc pm an cdv ct) (args us) = pure ((["period", "play"] : List Str).zip (pmU us)))
    (D1 : Fn P w K mg base CX0 "is_whole" 1 spWholeI) (hC : mg "Lot" = some (.ref C)) (la : LotA K C) (M0 : Mk K C fI) (R : InitR P w K mg base fI) :
    RunG P w K mg base CX0 6 f args (fun vs => toSp (spAround C) (pmV vs)) := by
  refine run_plain F sc_Lot_around args pmV pmU hpm hb (by decide) (by tm_at "g_len") ?_
  intro X f cdv A outer s H E0 L vs Q E hX nd hr h
  subst hX
  obtain ⟨p, k, rfl, p1, k0, q⟩ := h
  show GSs _ (defBody s_Lot_around) (bodyD Q) [("period", some (.int p)), ("play", some (.int k))] L
  refine gss_cons ?_
  tm_at "g"
  refine ge_call (El := NoX) D1 hr passA ?_
  tm_at "g"
  refine ⟨p, rfl, ?_⟩
  tm_at "g"
  refine ite_d (fun z => absurd z (by omega)) fun _ => ?_
  tm_at "g"
  refine ge_call (El := NoX) D1 hr passA ?_
  tm_at "g"
  refine ⟨k, rfl, ?_⟩
  tm_at "g"
  refine ite_d (fun z => absurd z (by omega)) fun _ => ?_
  tm_at "g"
  refine ge_callF hC M0.kp (fun _ => gf_lot la M0 R hr) ?_
  tm_at "g"
  rename_i t0
  refine ⟨p, [(t0, (-k, k))], rfl, fun e he => ?_, by simp, p1, fun e he => ?_, ?_⟩
  · rw [List.mem_singleton.mp he]
    exact mem0
  · rw [List.mem_singleton.mp he]
    dsimp only
    omega
  exact LotR.drp (LotR.up q Sub.drop)
end
section
open Lt
variable {P : Program} {w : World} {K : PySem.W.Frag} {mg : Str → Option Value} {base : Heap} {C : Addr}
theorem Lt.Form.tell {S : Int → Prop} {q : Int} {f : List Rn} (h : Form S q f) (n : Int) : In q f n ↔ S n := by
  rcases h.runs with ⟨a, e⟩ | ⟨-, t⟩
  · subst e
    have q1 : q = 1 := by
      have := h.least 1 (by omega) (fun n => ⟨fun _ => a _, fun _ => a _⟩)
      have := h.pos
      omega
    subst q1
    exact ⟨fun _ => a n, fun _ => all_zero n⟩
  · exact t n
theorem Lt.Form.none_all {S : Int → Prop} {q : Int} (h : Form S q []) : q = 1 := by
  have no : ∀ n, ¬ S n := fun n hn => by
    obtain ⟨r, hr, -⟩ := (h.tell n).mpr hn
    exact nomatch hr
  have := h.least 1 (by omega) (fun n => ⟨fun x => absurd x (no _), fun x => absurd x (no _)⟩)
  have := h.pos
  omega
theorem Lt.Form.le {S : Int → Prop} {q : Int} {f : List Rn} (h : Form S q f) : ∀ r ∈ f, r.1 ≤ r.2 := by
  rcases h.runs with ⟨-, e⟩ | ⟨nf, -⟩
  · subst e
    intro r hr
    rw [List.mem_singleton.mp hr]
    exact Int.le_refl _
  · exact nf.le
/-- the lot at a has the members S -/
structure LotS (C : Addr) (S : Int → Prop) (a : Addr) (L : Lg) : Prop where
  ex : ∃ (dx : Addr) (q : Int) (t : Addr) (few : List Pr2) (ob : Addr), LotAt C a dx q t few ob L ∧ Form S q (few.map (·.2)) ∧ few.length ≤ 2000
theorem LotS.up {S : Int → Prop} {a : Addr} {L M : Lg} (h : LotS C S a L) (u : ∀ e ∈ L, e ∈ M) : LotS C S a M := by
  obtain ⟨dx, q, t, few, ob, x, f, l⟩ := h.ex
  exact ⟨dx, q, t, few, ob, x.mono u, f, l⟩
theorem LotS.of {S U : Int → Prop} {a : Addr} {L : Lg} (h : LotS C S a L) (e : ∀ n, S n ↔ U n) : LotS C U a L := by
  have : S = U := funext fun n => propext (e n)
  rw [← this]
  exact h
/-- a new lot of the members S -/
def LotN (C : Addr) (S : Int → Prop) (L : Lg) (Q : QV) : Prop := ∀ (x : Addr) (M : Lg), Sub L M → LotS C S x M → Q (.ref x) M
theorem LotN.r {S : Int → Prop} {L : Lg} {Q : QV} (h : LotN C S L Q) : LotR C S L Q := fun x dx q t few ob M s a f l => h x M s ⟨dx, q, t, few, ob, a, f, l⟩
theorem LotN.of {S U : Int → Prop} {L : Lg} {Q : QV} (h : LotN C U L Q) (e : ∀ n, S n ↔ U n) : LotN C S L Q := fun x M s k => h x M s (k.of e)
theorem LotN.drp {S : Int → Prop} {L L0 : Lg} {Q : QV} (h : LotN C S L Q) (s : Sub L L0) : LotN C S L0 (G.drp Q) := fun x M s' k => ⟨M, Sub.refl, h x M (Sub.trans s s') k⟩
/-- lots compared -/
theorem go_neL {X : Cx} {j : Nat} {L : Lg} {Q : QV} {S U : Int → Prop} {a b : Addr} (E : LotEq X.prog X.w X.K X.mg X.base C) (hr : RoomG j X.A) (h1 : LotS C S a L) (h2 : LotS C U b L) (e : ∀ n, S n ↔ U n) (q : Q (.bl false) L) (hj : 2 ≤ j := by decide) : GOp X (compareOp .NotEq) (.ref a) (.ref b) L Q := by
  obtain ⟨dx, q1, t, few, ob, x, f, l⟩ := h1.ex
  obtain ⟨dy, q2, t2, few2, ob2, y, g, l2⟩ := (h2.of fun n => (e n).symm).ex
  exact go_neM (El := NoX) E.oe E.run hr passA x.o y.o E.nf ⟨a, b, _, _, q1, t, few, ob, q2, t2, few2, ob2, rfl, x, y, _, rfl, by rw [decide_eq_true (Form.unique f g)]; exact q⟩ hj
def spLotOf (C : Addr) : SpL := fun vs L Q _ => ∃ (p : Int) (r : Addr) (o : HO) (ps : List Pr2), vs = [.int p, .ref r] ∧ RowO o (prV ps) ∧ (r, o) ∈ L ∧ Prs2 ps L ∧ ps.length ≤ 2000 ∧ 1 ≤ p ∧ (∀ e ∈ ps, e.2.1 ≤ e.2.2) ∧ LotN C (In p (ps.map (·.2))) L Q
theorem fn_lot_of (F : Df K mg "lot_of" s_lot_of) {fI : Addr} (hC : mg "Lot" = some (.ref C)) (la : LotA K C) (M0 : Mk K C fI) (R : InitR P w K mg base fI) : Fn P w K mg base CX0 "lot_of" 6 (spLotOf C) := by
  refine fn_plain F sc_lot_of (fun _ _ _ _ _ _ us hl => match us, hl with | [_, _], _ => rfl) (by decide) (by tm_at "g_len") ?_
  intro X f cdv A outer s H E0 L vs Q E hX nd hr h
  subst hX
  obtain ⟨p, r, o, ps, rfl, ro, mr, hp, hl, p1, le, q⟩ := h
  show GSs _ (defBody s_lot_of) (bodyD Q) [("period", some (.int p)), ("runs", some (.ref r))] L
  refine gss_cons ?_
  tm_at "g"
  refine ge_callFS hC M0.kp (fun _ => gf_lot la M0 R hr) ?_
  tm_at "g"
  refine ⟨r, prV ps, rfl, ?_, ?_⟩
  · rcases ro with rfl | rfl
    · exact .inr mr
    · exact .inl mr
  tm_at "g"
  exact ⟨p, ps, by rw [List.append_nil], hp, hl, p1, le, LotN.r (LotN.drp q Sub.refl)⟩
end
section
open Lt
variable {P : Program} {w : World} {K : PySem.W.Frag} {mg : Str → Option Value} {base : Heap} {C : Addr}
/-- moved by an integer -/
def spMovedBy (K : PySem.W.Frag) (C : Addr) : SpL := fun vs L Q _ => ∃ (a : Addr) (k : Int) (S : Int → Prop), vs = [.ref a, .int k] ∧ LotA K C ∧ LotS C S a L ∧ LotN C (fun n => S (n - k)) L Q
theorem fn_moved (F : Df K mg "moved" s_moved) (D1 : Fn P w K mg base CX0 "lot_of" 6 (spLotOf C)) : Fn P w K mg base CX0 "moved" 7 (spMovedBy K C) := by
  refine fn_plain F sc_moved (fun _ _ _ _ _ _ us hl => match us, hl with | [_, _], _ => rfl) (by decide) (by tm_at "g_len") ?_
  intro X f cdv A outer s H E0 L vs Q E hX nd hr h
  subst hX
  obtain ⟨a, k, S, rfl, ⟨c, n1, n2, n3, n4⟩, ls, q⟩ := h
  obtain ⟨dx, q1, t, few, ob, at1, frm, fl⟩ := ls.ex
  have mo := at1.o
  have mt := at1.t
  have q0 := frm.pos
  show GSs _ (defBody s_moved) (bodyD Q) [("lot", some (.ref a)), ("k", some (.int k)), ("run", none)] L
  refine gss_cons ?_
  tm_at "g"
  refine ge_call (El := NoX) D1 hr passA ?_
  tm_at "g"
  refine ge_lcF (by tm_at "g_put") (gi_tuple ?_) (show blkC N_moved (defScope s_moved) _ [(_, List.idxOf _ N_moved)] = true by decide +kernel)
  tm_at "g"
  refine fresh_rowPr (t := fun _ => true) (pl := fun e => prO (e.2.1 + k, e.2.2 + k)) mt (by omega) (fun e he N hN s1 H1 C1 cl1 fp1 => ?_) fun d5 es5 hes5 => ?_
  · have px := hN _ (at1.ps e he)
    refine gts_nil ⟨rfl, Sub.refl, fun _ s2 H2 C2 cl2 fp2 => ?_⟩
    tm_at "g"
    exact Sub.refl
  rw [List.filter_eq_self.mpr fun _ _ => rfl] at hes5
  have hes6 : es5.map (·.2) = (few.map fun e => ((e.2.1 + k, e.2.2 + k) : Rn)).map prO := by rw [hes5, List.map_map]; rfl
  obtain ⟨ms5, e7, e8⟩ := pairs_of hes6
  rw [refs_of e7]
  tm_at "g"
  have ml5 : ms5.length = few.length := by have := congrArg List.length e8; simpa using this
  refine ⟨q1, d5, _, ms5, rfl, .inl rfl, mem0, (prs_of e7 _).mono fun _ h => memS h, by omega, by omega, fun e he => ?_, ?_⟩
  · have : e.2 ∈ ms5.map (·.2) := List.mem_map.mpr ⟨e, he, rfl⟩
    rw [e8] at this
    obtain ⟨x, hx, ex⟩ := List.mem_map.mp this
    have := frm.le x.2 (List.mem_map.mpr ⟨x, hx, rfl⟩)
    rw [← ex]
    dsimp only
    omega
  refine LotN.of (LotN.drp q (Sub.trans Sub.dropE Sub.drop)) fun n => ?_
  rw [e8, ← frm.tell (n - k)]
  constructor
  · rintro ⟨r, hr', z, z1, z2⟩
    obtain ⟨x, hx, rfl⟩ := List.mem_map.mp hr'
    dsimp only at z1 z2
    exact ⟨x.2, List.mem_map.mpr ⟨x, hx, rfl⟩, z, by omega, by omega⟩
  · rintro ⟨r, hr', z, z1, z2⟩
    obtain ⟨x, hx, rfl⟩ := List.mem_map.mp hr'
    exact ⟨_, List.mem_map.mpr ⟨x, hx, rfl⟩, z, by dsimp only; omega, by dsimp only; omega⟩
/-- + with an integer -/
theorem run_Lot_add {f : Addr} {fd : FuncData} (F : Fun K "__add__" "Lot.__add__" s_Lot_add f fd) (D0 : Fn P w K mg base CX0 "is_whole" 1 spWholeI) (D1 : Fn P w K mg base CX0 "moved" 7 (spMovedBy K C)) : RunG P w K mg base CX0 8 f argsP (toSp (spMovedBy K C)) := by
  refine run_plain F sc_Lot_add argsP id id (fun _ _ r => r) (fun _ _ _ _ _ _ us hl => match us, hl with | [_, _], _ => rfl) (by decide) (by tm_at "g_len") ?_
  intro X f cdv A outer s H E0 L vs Q E hX nd hr h
  subst hX
  obtain ⟨a, k, S, rfl, la, ls, q⟩ := h
  show GSs _ (defBody s_Lot_add) (bodyD Q) [("self", some (.ref a)), ("other", some (.int k))] L
  refine gss_cons ?_
  tm_at "g"
  refine ge_call (El := NoX) D0 hr passA ?_
  tm_at "g"
  refine ⟨k, rfl, ?_⟩
  tm_at "g"
  refine ge_call (El := NoX) D1 hr passA ?_
  tm_at "g"
  exact ⟨a, k, S, rfl, la, ls, LotN.drp q Sub.refl⟩
end
section
open Lt
variable {P : Program} {w : World} {K : PySem.W.Frag} {mg : Str → Option Value} {base : Heap} {C : Addr}
/-- making, every, none, == -/
structure LotB (P : Program) (w : World) (K : PySem.W.Frag) (mg : Str → Option Value) (base : Heap) (C : Addr) where
  hC : mg "Lot" = some (.ref C)
  la : LotA K C
  fI : Addr
  M0 : Mk K C fI
  R : InitR P w K mg base fI
  mc : Value
  pe : Addr
  ge : Addr
  se : CSta K C mc "every" pe ge
  Re : RunG P w K mg base CX0 6 ge argsP (toSp (spEvery C))
  pn : Addr
  gn : Addr
  sn : CSta K C mc "none" pn gn
  Rn : RunG P w K mg base CX0 6 gn argsP (toSp (spNoLot C))
  eq : LotEq P w K mg base C
end
section
open Lt
variable {P : Program} {w : World} {K : PySem.W.Frag} {mg : Str → Option Value} {base : Heap} {C : Addr}
theorem Lt.Form.nf {S : Int → Prop} {q : Int} {few : List Rn} (h : Form S q few) (q1 : q ≠ 1) : NF 0 q few ∧ few ≠ [] := by
  refine ⟨?_, fun e => ?_⟩
  · rcases h.runs with ⟨a, e⟩ | ⟨nf, -⟩
    · exfalso
      have := h.least 1 (by omega) (fun n => ⟨fun _ => a _, fun _ => a _⟩)
      have := h.pos
      omega
    · exact nf
  · subst e
    exact q1 h.none_all
end
section
open Lt
variable {P : Program} {w : World} {K : PySem.W.Frag} {mg : Str → Option Value} {base : Heap} {C : Addr}
/-- a table in the ledger -/
structure TabL (t : Addr) (p : Nat) (few : List Rn) (L : Lg) : Prop where
  ex : ∃ (r : Addr) (ps : List Pr2), (t, HO.tup [.int p, .ref r]) ∈ L ∧ (r, HO.tup (prV ps)) ∈ L ∧ Prs2 ps L ∧ ps.map (·.2) = few
theorem TabL.up {t : Addr} {p : Nat} {few : List Rn} {L M : Lg} (h : TabL t p few L) (u : ∀ e ∈ L, e ∈ M) : TabL t p few M := by
  obtain ⟨r, ps, m1, m2, h3, e⟩ := h.ex
  exact ⟨r, ps, u _ m1, u _ m2, h3.mono u, e⟩
abbrev tabD (p : Nat) (few : List Rn) : PyData := .tuple [.int p, .tuple (few.map P2)]
theorem dl_tab {t : Addr} {p : Nat} {few : List Rn} {L : Lg} (h : TabL t p few L) : Dl L (.ref t) (tabD p few) := by
  obtain ⟨r, ps, m1, m2, h3, e⟩ := h.ex
  subst e
  exact dl_tup m1 (dls_cons dl_int (dls_cons (dl_prT m2 rfl h3) dls_nil))
theorem shape_tab {p : Nat} {few : List Rn} : SeqAt.shaped (tabD p few) = true := by
  have a := depthPs few
  have b := layPs few
  simp [SeqAt.shaped, PyData.canLay0, PyData.canLayAll0, PyData.depth, PyData.depthAll, b]
  omega
theorem eqv_tab {p q : Nat} {few ts : List Rn} : PyData.eqv (tabD p few) (tabD q ts) = decide (p = q ∧ few = ts) := by
  have e := eqvPs few ts
  simp [PyData.eqv, PyData.eqvAll, e]
  congr 1
  rw [Bool.eq_iff_iff, beq_iff_eq, decide_eq_true_iff]
  omega
/-- the table so far: the constant ahead of the first lot, or one in the ledger -/
def CurT (T : EvT K mg "EVERY_TABLE") (x : V) (p : Nat) (few : List Rn) (L : Lg) : Prop := (x = .ref T.e ∧ p = 1 ∧ few = [(0, 0)]) ∨ ∃ t, x = .ref t ∧ TabL t p few L
theorem CurT.dp {T : EvT K mg "EVERY_TABLE"} {x : V} {p : Nat} {few : List Rn} {L : Lg} (h : CurT T x p few L) (H : Hp) (hH : Has H L) : Dp K H x (tabD p few) := by
  rcases h with ⟨rfl, rfl, rfl⟩ | ⟨t, rfl, tl⟩
  · exact T.dp H
  · exact dl_tab tl K H hH
theorem CurT.up {T : EvT K mg "EVERY_TABLE"} {x : V} {p : Nat} {few : List Rn} {L M : Lg} (h : CurT T x p few L) (u : ∀ e ∈ L, e ∈ M) : CurT T x p few M := h.imp id fun ⟨t, e, l⟩ => ⟨t, e, l.up u⟩
def spTabOf (K : PySem.W.Frag) (C : Addr) : SpL := fun vs L Q _ => ∃ (a dx : Addr) (q : Int) (t : Addr) (s : Int) (ob : Addr), vs = [.ref a] ∧ LotA K C ∧ (a, lotO C dx q t s ob) ∈ L ∧ ∀ p, Q (.ref p) ((p, HO.tup [.int q, .ref t]) :: L)
theorem fn_tab_of (F : Df K mg "table_of" s_table_of) : Fn P w K mg base CX0 "table_of" 1 (spTabOf K C) := by
  refine fn_plain F sc_table_of (fun _ _ _ _ _ _ us hl => match us, hl with | [_], _ => rfl) (by decide) (by tm_at "g_len") ?_
  intro X f cdv A outer s H E0 L vs Q E hX nd hr h
  subst hX
  obtain ⟨a, dx, q, t, s, ob, rfl, la, mo, k⟩ := h
  obtain ⟨c, n1, n2, n3, n4⟩ := id la
  show GSs _ (defBody s_table_of) (bodyD Q) [("lot", some (.ref a))] L
  refine gss_cons ?_
  tm_at "g"
  exact ⟨_, Sub.refl, k _⟩
def NoEv (p : Nat) (few : List Rn) : Prop := ¬ (p = 1 ∧ few = [(0, 0)])
def spNext (K : PySem.W.Frag) (mg : Str → Option Value) (C : Addr) (T : EvT K mg "EVERY_TABLE") : SpL := fun vs L Q _ => ∃ (x : V) (b : Addr) (S U : Int → Prop) (p q N : Nat) (few few2 : List Rn), vs = [x, .ref b] ∧ LotA K C ∧ CurT T x p few L ∧ Tab S p few ∧ LotS C U b L ∧ Form U (q : Int) few2 ∧ p < 2 ^ 2000 ∧ q < 2 ^ 2000 ∧ N ≤ 2000 ∧ few.length ≤ N ∧ few2.length ≤ N ∧
  (NoEv p few → NoEv q few2 → meetsN (Nat.gcd p q : Nat) few few2 ≤ N) ∧
  ∀ (t : Addr) (ms : List Rn) (M : Lg), Sub L M → TabL t (Nat.lcm p q) ms M → Tab (fun n => S n ∧ U n) (Nat.lcm p q) ms → ms.length ≤ N → Q (.ref t) M
theorem fn_next_table (B : Bi mg) (F : Df K mg "next_table" s_next_table) (T : EvT K mg "EVERY_TABLE") {u : Value} (hM : mg "MOST_RUNS_joins" = some u) (rM : RelV (.int 2000) u) (D1 : Fn P w K mg base CX0 "table_of" 1 (spTabOf K C)) (D2 : Fn P w K mg base CX0 "meets" 4 spMeets) (D3 : Fn P w K mg base CX0 "shared_runs" 6 spShared) : Fn P w K mg base CX0 "next_table" 7 (spNext K mg C T) := by
  refine fn_plain F sc_next_table (fun _ _ _ _ _ _ us hl => match us, hl with | [_, _], _ => rfl) (by decide) (by tm_at "g_len") ?_
  intro X f cdv A outer s H E0 L vs Q E hX nd hr h
  subst hX
  obtain ⟨x, b, S, U, p, q, N, few, few2, rfl, la, cur, tb, l2, f2, pb, qb, lN, lf, lf2, hm, k⟩ := h
  obtain ⟨dy, q2, t2, fw2, ob2, at2, g2, e2⟩ := id l2.ex
  obtain ⟨eq1, eq2⟩ := f2.unique g2
  subst eq1 eq2
  have p0 := tb.pos
  have q0 := f2.pos
  have tU := Tab.of_form f2
  show GSs _ (defBody s_next_table) (bodyD Q) [("table", some (x)), ("lot", some (.ref b)), ("own", none)] L
  refine gss_cons ?_
  tm_at "g"
  refine ge_call (El := NoX) D1 hr passA ?_
  tm_at "g"
  refine ⟨b, dy, _, t2, _, ob2, rfl, la, at2.o, fun o => ?_⟩
  have own : TabL o q (fw2.map (·.2)) ((o, HO.tup [.int q, .ref t2]) :: L) := ⟨t2, fw2, mem0, memS at2.t, at2.ps.mono fun _ h => memS h, rfl⟩
  have cur2 := cur.up (M := (o, HO.tup [.int q, .ref t2]) :: L) fun _ h => memS h
  tm_at "g"
  refine gv_def T.at_ ?_
  refine go_eqDK hr.toRoom (fun H hH => cur2.dp H hH) (fun H => T.dp H) shape_tab (shape_tab (p := 1) (few := [(0, 0)])) ?_
  rw [show (PyData.tuple [.int 1, .tuple [.tuple [.int 0, .int 0]]]) = tabD 1 [(0, 0)] from rfl, eqv_tab]
  tm_at "g"
  refine ite_d (fun z => ?_) (fun z => ?_)
  · obtain ⟨rfl, rfl⟩ := z
    have all := tb.is_every
    tm_at "g"
    refine ⟨_, Sub.refl, k o (fw2.map (·.2)) _ Sub.drop ?_ ?_ lf2⟩
    · rw [Nat.lcm_one_left]
      exact own
    · rw [Nat.lcm_one_left]
      exact tU.of fun n => ⟨fun h => ⟨all n, h⟩, fun h => h.2⟩
  have nS := tb.nf z
  tm_at "g"
  refine gv_def T.at_ ?_
  refine go_eqDK hr.toRoom (fun H hH => dl_tab own K H hH) (fun H => T.dp H) shape_tab (shape_tab (p := 1) (few := [(0, 0)])) ?_
  rw [show (PyData.tuple [.int 1, .tuple [.tuple [.int 0, .int 0]]]) = tabD 1 [(0, 0)] from rfl, eqv_tab]
  have cur3 : ∃ t, x = .ref t ∧ TabL t p few ((o, HO.tup [.int q, .ref t2]) :: L) := by
    rcases cur2 with ⟨-, e1, e2⟩ | h
    · exact absurd ⟨e1, e2⟩ z
    · exact h
  obtain ⟨t1, rfl, tl⟩ := cur3
  tm_at "g"
  refine ite_d (fun z2 => ?_) (fun z2 => ?_)
  · obtain ⟨rfl, e1⟩ := z2
    rw [e1] at tU
    have all := tU.is_every
    tm_at "g"
    refine ⟨_, Sub.refl, k t1 few _ Sub.drop ?_ ?_ lf⟩
    · rw [Nat.lcm_one_right]
      exact tl
    · rw [Nat.lcm_one_right]
      exact tb.of fun n => ⟨fun h => ⟨h, all n⟩, fun h => h.1⟩
  have nU := tU.nf z2
  have hm2 := hm z z2
  obtain ⟨r1, ps1, m1, m2, h3, ef⟩ := id tl.ex
  subst ef
  obtain ⟨ro, pso, mo1, mo2, ho3, eo⟩ := id own.ex
  have lps : ps1.length ≤ 2000 := by rw [List.length_map] at lf; omega
  have lpo : pso.length ≤ 2000 := by
    have := congrArg List.length eo
    rw [List.length_map, List.length_map] at this
    omega
  rw [← eo] at hm2 nU tU
  tm_at "g"
  refine ge_call (El := NoX) D2 hr passA ?_
  tm_at "g"
  refine ⟨t1, o, r1, ro, _, _, p, q, ps1, pso, rfl, m1, mo1, .inr rfl, .inr rfl, m2, mo2, h3, ho3, p0, by omega, pb, qb, lps, lpo, ?_⟩
  tm_at "g"
  refine gv_con hM rM ?_
  tm_at "g"
  refine ite_d (fun y => absurd y (by omega)) (fun _ => ?_)
  tm_at "g"
  refine ge_call (El := NoX) D3 hr passA ?_
  tm_at "g"
  refine ⟨t1, o, r1, ro, p, q, ps1, pso, rfl, m1, mo1, m2, mo2, h3, ho3, p0, by omega, pb, qb, lps, lpo, nS.1, nU.1, by omega, fun t tr ms M sM mt mtr hms le ml tell nf => ?_⟩
  refine ⟨_, Sub.refl, k t (ms.map (·.2)) M (Sub.trans Sub.drop sM) ⟨tr, ms, mt, mtr, hms, rfl⟩ (tb.both tU nS.2 nU.2 nf tell) ?_⟩
  rw [List.length_map]
  omega
end
/-- a lot: where it stands, its members, its least period -/
abbrev LQ := Addr × (Int → Prop) × Nat
def lcmL (ls : List LQ) : Nat := ls.foldl (fun m x => Nat.lcm m x.2.2) 1
def cjL (ls : List LQ) (n : Int) : Prop := ∀ x ∈ ls, x.2.1 n
theorem lcmL_snoc {ls : List LQ} {x : LQ} : lcmL (ls ++ [x]) = Nat.lcm (lcmL ls) x.2.2 := by
  unfold lcmL
  rw [List.foldl_append]
  rfl
theorem cjL_snoc {ls : List LQ} {x : LQ} (n : Int) : (cjL ls n ∧ x.2.1 n) ↔ cjL (ls ++ [x]) n := by
  constructor
  · rintro ⟨a, b⟩ y hy
    rcases List.mem_append.mp hy with h | h
    · exact a y h
    · rw [List.mem_singleton.mp h]
      exact b
  · intro h
    exact ⟨fun y hy => h y (List.mem_append_left _ hy), h x (List.mem_append_right _ (List.mem_singleton.mpr rfl))⟩
theorem take_snoc {α : Type} {l : List α} {i : Nat} {x : α} (h : l[i]? = some x) : l.take (i + 1) = l.take i ++ [x] := by
  rw [List.take_succ, h]
  rfl
section
open Lt
variable {P : Program} {w : World} {K : PySem.W.Frag} {mg : Str → Option Value} {base : Heap} {C : Addr}
def LotQ (C : Addr) (x : LQ) (L : Lg) : Prop := LotS C x.2.1 x.1 L ∧ ∃ few, Form x.2.1 (x.2.2 : Int) few
theorem LotQ.up {x : LQ} {L M : Lg} (h : LotQ C x L) (u : ∀ e ∈ L, e ∈ M) : LotQ C x M := ⟨h.1.up u, h.2⟩
/-- a table of the first i lots -/
def TabI (ls : List LQ) (i : Nat) (t : Addr) (L : Lg) : Prop := ∃ few, TabL t (lcmL (ls.take i)) few L ∧ Tab (cjL (ls.take i)) (lcmL (ls.take i)) few ∧ few.length ≤ 2000
theorem TabI.up {ls : List LQ} {i : Nat} {t : Addr} {L M : Lg} (h : TabI ls i t L) (u : ∀ e ∈ L, e ∈ M) : TabI ls i t M := by
  obtain ⟨few, a, b, c⟩ := h
  exact ⟨few, a.up u, b, c⟩
def TabsL (ls : List LQ) (ts : List Addr) (L : Lg) : Prop := ∀ i t, ts[i]? = some t → TabI ls (i + 1) t L
/-- no lot meets the table ahead too often -/
def FewJ (ls : List LQ) : Prop := ∃ bd : Nat → Nat, (∀ i, bd i ≤ 2000) ∧ 1 ≤ bd 0 ∧ (∀ i, bd i ≤ bd (i + 1)) ∧ ∀ i x, ls[i]? = some x → ∀ few2, Form x.2.1 (x.2.2 : Int) few2 → few2.length ≤ bd (i + 1) ∧ ∀ few, Tab (cjL (ls.take i)) (lcmL (ls.take i)) few → few.length ≤ bd i → NoEv (lcmL (ls.take i)) few → NoEv x.2.2 few2 → meetsN (Nat.gcd (lcmL (ls.take i)) x.2.2 : Nat) few few2 ≤ bd (i + 1)
def spNeedLots (C : Addr) : SpL := fun vs L Q _ => ∃ (p : Addr) (ls : List LQ), vs = [.ref p] ∧ (p, HO.tup (ls.map fun x => V.ref x.1)) ∈ L ∧ (∀ x ∈ ls, LotS C x.2.1 x.1 L) ∧ ls.length ≤ 100 ∧ Q .non L
theorem fn_need_lots (B : Bi mg) (F : Df K mg "need_lots" s_need_lots) (hC : mg "Lot" = some (.ref C)) (ot : OwnT K C) (kk : PySem.W.kitOne K (.ref C) (.ref C) = some true) : Fn P w K mg base CX0 "need_lots" 1 (spNeedLots C) := by
  refine fn_plain F sc_need_lots (fun _ _ _ _ _ _ us hl => match us, hl with | [_], _ => rfl) (by decide) (by tm_at "g_len") ?_
  intro X f cdv A outer s H E0 L vs Q E hX nd hr h
  subst hX
  obtain ⟨p, ls, rfl, mp, hl, ll, q⟩ := h
  show GSs _ (defBody s_need_lots) (bodyD Q) [("lots", some (.ref p)), ("at", none), ("lot", none)] L
  refine gss_cons ?_
  tm_at "g"
  refine gs_for (gi_enumT ?_ B.enumerate)
  tm_at "g"
  refine ⟨fun i θ N => ∃ u1 u2, θ = ([("lots", some (.ref p)), ("at", u1), ("lot", u2)] : En) ∧ Sub L N, ⟨none, none, rfl, Sub.refl⟩, fun i θ M _ nd ⟨_, _, _, sb⟩ => (sb.to nd).2 _ mp, ?_, ?_⟩
  · rintro i x E1 θ N hi ⟨t, a, b, rfl, rfl, ea, eb⟩ ⟨u1, u2, rfl, sb⟩
    cases ea
    replace eb : (ls.map fun x => V.ref x.1)[i]? = some b := eb
    obtain ⟨y, hy, rfl⟩ := map_at eb
    obtain ⟨dx, q1, t1, fw1, ob, at1, -⟩ := (hl y (List.mem_of_getElem? hy)).ex
    have mo := at1.o
    refine GG.sub (Sub.cons sb) ?_
    refine gg_tup mem0 ?_
    tm_at "g"
    refine gv_def hC ?_
    tm_at "g"
    refine gc_isI ot (memS mo) (.own _) kk ?_
    tm_at "g"
    exact Sub.drop
  rintro θ N ⟨u1, u2, rfl, sb⟩
  refine GSs.sub sb ?_
  tm_at "g"
  exact ⟨_, Sub.refl, q⟩
/-- Join.__init__ at a new instance -/
def spJoinInit (K : PySem.W.Frag) (C0 : Addr) : SpL := fun vs L Q _ => ∃ (a D dx : Addr) (x : V) (R : Lg), vs = [.ref a, x] ∧ L = (a, HO.ins D dx []) :: R ∧ Cls K D ∧ D = C0 ∧ NoAttr K D "own_parts" ∧ NoAttr K D "tables" ∧
  ∀ p, Q .non ((p, .tup [x]) :: (a, HO.ins D dx [("own_parts", .ref p), ("tables", x)]) :: R)
def spPaperInit (K : PySem.W.Frag) : SpL := fun vs L Q _ => ∃ (a C dx p : Addr) (fs : List (Str × V)) (M : Lg), vs = [.ref a, .ref p] ∧ (a, HO.ins C dx fs) ∈ L ∧ Cls K C ∧ NoAttr K C "own_parts" ∧ fs.length < 900 ∧ Swap a (.ins C dx (putF "own_parts" (.ref p) fs)) L M ∧ Q .non M
theorem run_Paper_init {f : Addr} {fd : FuncData} (F : Fun K "__init__" "Paper.__init__" s_Paper_init f fd) : RunG P w K mg base CX0 1 f argsP (toSp fun vs L Q E => ∃ ws rest, vs = ws ++ rest ∧ ws.length = 1 ∧ rest.length ≤ sizeLine ∧ ∀ p, spPaperInit K (ws ++ [.ref p]) ((p, .tup rest) :: L) Q E) := by
  refine run_starred (ps := ["self"]) F sc_Paper_init (fun _ _ _ _ _ _ us rest hl => match us, hl with | [u], _ => by cases rest <;> rfl) (by decide) ?_ (by tm_at "g_len")
  intro X f cdv A outer s H E0 L vs Q E hX nd hr h
  subst hX
  obtain ⟨a, C, dx, p, fs, M, rfl, m, c, no, hl, sw, q⟩ := h
  show GSs _ (defBody s_Paper_init) (bodyD Q) [("self", some (.ref a)), ("parts", some (.ref p))] L
  refine gss_cons ?_
  tm_at "g"
  refine ⟨a, C, dx, fs, M, rfl, m, c, no, by omega, sw, ?_⟩
  tm_at "g"
  exact ⟨_, Sub.refl, q⟩
theorem run_Join_init {f c cc D g C0 : Addr} {fd : FuncData} (F : SupF P K "__init__" "Join.__init__" s_Join_init f c cc D fd) (G : RunG P w K mg base CX0 1 g argsP (toSp fun vs L Q E => ∃ ws rest, vs = ws ++ rest ∧ ws.length = 1 ∧ rest.length ≤ sizeLine ∧ ∀ p, spPaperInit K (ws ++ [.ref p]) ((p, .tup rest) :: L) Q E))
    (T : SupM K mg C0 D "__init__" g) : RunG P w K mg base CX0 2 f argsP (toSp (spJoinInit K C0)) := by
  refine run_sup (sp := spJoinInit K C0) F sc_Join_init argsP id id (fun _ _ r => r) (fun _ _ _ _ _ us hl => match us, hl with | [_, _], _ => rfl) (by tm_at "g_len") (fun vs hl => match vs, hl with | [_, _], _ => rfl) ?_
  intro X A outer s H E0 L vs Q E hX he nd hr h hH hN
  subst hX
  obtain ⟨a, D1, dx, x, R, rfl, rfl, c0, rfl, n1, n2, q⟩ := h
  obtain ⟨ar, har, hself⟩ : ∃ ar, (fd.params.posonlyargs ++ fd.params.args).head? = some ar ∧ ar.arg = ("self" : Str) := by
    obtain ⟨_, _, _, _, _, _, _, _, efd, _⟩ := F.ex
    rw [efd]
    exact ⟨_, rfl, rfl⟩
  refine at_supi (η := ([("self", some (.ref a)), ("tables", some x), ("__class__", none)] : En)) (ar := ar) (El := NoX) F T rfl rfl rfl har rfl rfl (by rw [hself]; rfl) G hr passA hN hH (by rw [hself]; exact .here) mem0 (fun u => ?_)
  tm_at "g"
  refine ⟨by tm_at "g_mem", [.ref a], [x], rfl, rfl, sz1, fun p => ⟨a, D1, dx, p, [], _, rfl, by tm_at "g_mem", c0, n1, by decide, by tm_at "g_swap", ?_⟩⟩
  tm_at "g"
  refine ⟨a, D1, dx, [("own_parts", .ref p)], (p, .tup [x]) :: (u, .met g a) :: (a, .ins D1 dx [("own_parts", .ref p), ("tables", x)]) :: R, rfl, memS (memS mem0), c0, n2, (show 1 < 1000 by decide), .there (.there .here), ?_⟩
  tm_at "g"
  exact ⟨_, by tm_at "g_end", q p⟩
/-- a join in the ledger -/
abbrev joinO (D dx pp tt : Addr) : HO := .ins D dx [("own_parts", .ref pp), ("tables", .ref tt)]
structure JoinAt (D j : Addr) (ls : List LQ) (tt : Addr) (ts : List Addr) (L : Lg) : Prop where
  ex : ∃ dx pp, (j, joinO D dx pp tt) ∈ L ∧ (pp, HO.tup [.ref tt]) ∈ L
  t : (tt, HO.tup (ts.map V.ref)) ∈ L
  len : ts.length = ls.length
  tabs : TabsL ls ts L
theorem JoinAt.up {D j : Addr} {ls : List LQ} {tt : Addr} {ts : List Addr} {L M : Lg} (h : JoinAt D j ls tt ts L) (u : ∀ e ∈ L, e ∈ M) : JoinAt D j ls tt ts M := by
  obtain ⟨dx, pp, a, b⟩ := h.ex
  exact ⟨⟨dx, pp, u _ a, u _ b⟩, u _ h.t, h.len, fun i t e => (h.tabs i t e).up u⟩
def spJoin (K : PySem.W.Frag) (C D : Addr) : SpL := fun vs L Q _ => ∃ (p : Addr) (ls : List LQ) (M0 : Lg), vs = [.ref p] ∧ L = (p, HO.tup (ls.map fun x => V.ref x.1)) :: M0 ∧ LotA K C ∧ (∀ x ∈ ls, LotQ C x M0) ∧ ls.length ≤ 100 ∧ (∀ x ∈ ls, x.2.2 < 2 ^ 2000) ∧ (∀ k, lcmL (ls.take k) < 2 ^ 2000) ∧ FewJ ls ∧
  ∀ (j tt : Addr) (ts : List Addr) (M : Lg), Sub M0 M → JoinAt D j ls tt ts M → Q (.ref j) M
theorem fn_join (B : Bi mg) (F : Df K mg "join" s_join) (T : EvT K mg "EVERY_TABLE") {D fJ : Addr} (hD : mg "Join" = some (.ref D)) (MJ : Mk K D fJ) (cD : Cls K D) (n1 : NoAttr K D "own_parts") (n2 : NoAttr K D "tables") (RJ : RunG P w K mg base CX0 2 fJ argsP (toSp (spJoinInit K D))) (D1 : Fn P w K mg base CX0 "need_lots" 1 (spNeedLots C)) (D2 : Fn P w K mg base CX0 "next_table" 7 (spNext K mg C T)) : Fn P w K mg base CX0 "join" 8 (spStar (spJoin K C D)) := by
  refine fn_starred F sc_join (fun _ _ _ _ _ _ => rfl) (fun _ _ _ _ _ _ _ _ => rfl) (by decide) (by tm_at "g_len") ?_
  intro X f cdv A outer s H E0 L vs Q E hX nd hr h
  subst hX
  obtain ⟨p, ls, M0, rfl, rfl, la, hl, ll, hq, hp, ⟨bd, bd1, bd2, bd3, fw⟩, q⟩ := h
  show GSs _ (defBody s_join) (bodyD Q) [("lots", some (.ref p)), ("found", none), ("table", none), ("lot", none)] _
  refine gss_cons ?_
  tm_at "g"
  refine ge_call (El := NoX) D1 hr passA ?_
  tm_at "g"
  refine ⟨p, ls, rfl, mem0, fun x hx => (hl x hx).1.up fun _ h => memS h, ll, ?_⟩
  tm_at "g"
  refine gv_def T.at_ ?_
  tm_at "g"
  rename_i f0
  refine gs_for (gi_tuple ?_)
  tm_at "g"
  refine ⟨fun i θ N => ∃ (x : V) (u : Option V) (ts : List Addr) (R : Lg) (few : List Rn), θ = ([("lots", some (.ref p)), ("found", some (.ref f0)), ("table", some (x)), ("lot", u)] : En) ∧ Sub ((f0, HO.lst (ts.map V.ref)) :: R) N ∧ Sub ((p, HO.tup (ls.map fun x => V.ref x.1)) :: M0) R ∧ ts.length = i ∧ TabsL ls ts R ∧ CurT T x (lcmL (ls.take i)) few R ∧ Tab (cjL (ls.take i)) (lcmL (ls.take i)) few ∧ few.length ≤ bd i, ?_, ?_, ?_, ?_⟩
  · exact ⟨.ref T.e, none, [], _, [(0, 0)], rfl, Sub.refl, Sub.refl, rfl, (fun i t h => by simp at h), .inl ⟨rfl, rfl, rfl⟩, Tab.every fun n x hx => by simp at hx, bd2⟩
  · rintro i θ M _ nd2 ⟨x, u, ts, R, few, rfl, sb, sR, -⟩
    have k1 := sb.to nd2
    exact k1.2 _ (memS ((sR.to (List.nodup_cons.mp k1.1).2).2 _ mem0))
  · rintro i x0 E1 θ N hi ⟨hx, rfl⟩ ⟨x, u, ts, R, few, rfl, sb, sR, lt, tbs, cur, tb, lf⟩
    replace hx : (ls.map fun x => V.ref x.1)[i]? = some x0 := hx
    obtain ⟨e, he, rfl⟩ := map_at hx
    have em := List.mem_of_getElem? he
    have hi2 : i < ls.length := (List.getElem?_eq_some_iff.mp he).1
    dsimp only [List.nil_append]
    refine gg_name (by tm_at "g_pv") ?_
    refine GSs.sub sb ?_
    refine GSs.nd fun nd1 => ?_
    have ndR := (List.nodup_cons.mp nd1).2
    have uR := (sR.to ndR).2
    obtain ⟨few2, f2⟩ := (hl e em).2
    have ts1 := take_snoc he
    refine gss_cons ?_
    tm_at "g"
    refine ge_call (El := NoX) D2 hr passA ?_
    tm_at "g"
    have fw' := fw i e he few2 f2
    have bd4 := bd1 (i + 1)
    have bd5 := bd3 i
    refine ⟨x, e.1, cjL (ls.take i), e.2.1, lcmL (ls.take i), e.2.2, bd (i + 1), few, few2, rfl, la, cur.up fun _ h => memS h, tb, (hl e em).1.up fun _ h => memS (uR _ (memS h)), f2, hp i, hq e em, bd4, Nat.le_trans lf bd5, fw'.1, fw'.2 few tb lf, fun t ms M sM tl tb' lm => ?_⟩
    rw [← lcmL_snoc, ← ts1] at tl tb'
    replace tb' := tb'.of (V := cjL (ls.take (i + 1))) fun n => by
      rw [ts1]
      exact cjL_snoc n
    show GSs _ _ _ _ _
    refine GSs.nd fun nd3 => ?_
    obtain ⟨R2, pm, u1, u2⟩ := out1 nd3 sM
    have uM : ∀ y ∈ M, y.2 ≠ HO.lst (ts.map V.ref) → y ∈ R2 := fun y hy ne => (u2 y hy).resolve_left fun z => ne (by rw [z])
    have tl2 : TabL t (lcmL (ls.take (i + 1))) ms R2 := by
      obtain ⟨r, ps, m1, m2, h3, ee⟩ := tl.ex
      exact ⟨r, ps, uM _ m1 (fun z => nomatch z), uM _ m2 (fun z => nomatch z), fun y hy => uM _ (h3 y hy) (fun z => nomatch z), ee⟩
    refine GSs.sub (Sub.perm pm.symm) ?_
    tm_at "g"
    refine ⟨.ref t, _, ts ++ [t], R2, ms, rfl, ?_, ⟨fun nn => ⟨(sR.to ndR).1, fun y hy => u1 _ (uR _ hy)⟩⟩, by rw [List.length_append, lt]; rfl, fun k t' hk => ?_, .inr ⟨t, rfl, tl2⟩, tb', lm⟩
    · rw [List.map_append]
      exact Sub.refl
    · rw [List.getElem?_append] at hk
      split at hk
      · exact (tbs k t' hk).up u1
      · rename_i c
        obtain rfl : k = i := by
          false_or_by_contra
          rw [List.getElem?_eq_none (by rw [List.length_singleton]; omega)] at hk
          cases hk
        rw [lt, Nat.sub_self] at hk
        obtain rfl := (Option.some.inj hk)
        exact ⟨ms, tl2, tb', Nat.le_trans lm bd4⟩
  rintro θ N ⟨x, u, ts, R, few, rfl, sb, sR, lt, tbs, -⟩
  replace lt : ts.length = ls.length := by rw [lt]; exact List.length_map ..
  refine GSs.sub sb ?_
  refine GSs.nd fun nd1 => ?_
  have ndR := (List.nodup_cons.mp nd1).2
  tm_at "g"
  refine ge_callF hD MJ.kp (fun _ => gf_make (El := NoX) MJ RJ (fun _ _ => rfl) hr passA) ?_
  tm_at "g"
  refine gc_tupL mem0 fun tt => ?_
  tm_at "g"
  refine fun j dx => ⟨j, D, dx, _, _, rfl, rfl, cD, rfl, n1, n2, fun pp => ⟨rfl, ?_⟩⟩
  exact ⟨_, Sub.refl, q j tt ts _ (Sub.trans (Sub.trans Sub.drop sR) (by tm_at "g_end")) ⟨⟨dx, pp, memS mem0, mem0⟩, memS (memS (memS mem0)), lt, fun i t e => (tbs i t e).up fun _ h => memS (memS (memS (memS (memS h))))⟩⟩
end
section
open Lt
theorem fewJ_of {ls : List LQ} (h : ∀ i, i < ls.length → cntS (cjL (ls.take (i + 1))) 0 (lcmL (ls.take (i + 1))) ≤ 2000) (f : ∀ x ∈ ls, ∀ few, Form x.2.1 (x.2.2 : Int) few → few.length ≤ 2000) : FewJ ls :=
  ⟨fun _ => 2000, fun _ => Nat.le_refl _, by decide, fun _ => Nat.le_refl _, fun i x hx few2 f2 => by
    have hi := (List.getElem?_eq_some_iff.mp hx).1
    refine ⟨f x (List.mem_of_getElem? hx) few2 f2, fun few tb _ _ _ => ?_⟩
    have t2 := Tab.of_form f2
    have m := meets_meet (Nat.gcd_pos_of_pos_left x.2.2 tb.pos) tb.le t2.le
    have e := meet_cntI tb.pos t2.pos tb.ind t2.ind
    have c := h i hi
    rw [take_snoc hx, lcmL_snoc] at c
    have ec : cjL (ls.take i ++ [x]) = fun n => cjL (ls.take i) n ∧ x.2.1 n := funext fun n => propext (cjL_snoc n).symm
    rw [ec, e] at c
    show meetsN _ _ _ ≤ ((2000 : Nat) : Int)
    omega⟩
theorem lcmL_dvd {d : Nat} : ∀ {ls : List LQ}, (∀ x ∈ ls, x.2.2 ∣ d) → lcmL ls ∣ d := fun {ls} h => by
  have : ∀ (l : List LQ) (m : Nat), m ∣ d → (∀ x ∈ l, x.2.2 ∣ d) → l.foldl (fun m x => Nat.lcm m x.2.2) m ∣ d := by
    intro l
    induction l with
    | nil => exact fun m hm _ => hm
    | cons x l ih => exact fun m hm hl => ih _ (Nat.lcm_dvd hm (hl x List.mem_cons_self)) fun y hy => hl y (List.mem_cons_of_mem _ hy)
  exact this ls 1 (Nat.one_dvd _) h
/-- lots whose periods divide d -/
theorem fewJ_dvd {ls : List LQ} {d : Nat} (d0 : 0 < d) (d1 : d ≤ 2000) (h : ∀ x ∈ ls, x.2.2 ∣ d) : FewJ ls :=
  fewJ_of (fun i _ => Nat.le_trans cntS_leJ (Nat.le_trans (Nat.le_of_dvd d0 (lcmL_dvd fun x hx => h x (List.mem_of_mem_take hx))) d1))
    fun x hx few f => Nat.le_trans (Tab.of_form f).shortP (Nat.le_trans (Nat.le_of_dvd d0 (h x hx)) d1)
end
section
open Lt
variable {P : Program} {w : World} {K : PySem.W.Frag} {mg : Str → Option Value} {base : Heap} {C D fI : Addr}
def spTabLot (C : Addr) : SpL := fun vs L Q _ => ∃ (tt : Addr) (ls : List LQ) (ts : List Addr), vs = [.ref tt] ∧ (tt, HO.tup (ts.map V.ref)) ∈ L ∧ ts.length = ls.length ∧ TabsL ls ts L ∧ LotN C (cjL ls) L Q
theorem fn_table_lot (B : Bi mg) (F : Df K mg "table_lot" s_table_lot) (T : EvT K mg "EVERY_TABLE") (hC : mg "Lot" = some (.ref C)) (la : LotA K C) (M0 : Mk K C fI) (R : InitR P w K mg base fI) (RK : RunG P w K mg base CX0 4 fI argsP (toSp fun vs L Q E => ∃ ws rest, vs = ws ++ rest ∧ ws.length = 2 ∧ rest.length ≤ sizeLine ∧ ∀ p, spLotInitK K (ws ++ [.ref p]) ((p, .tup rest) :: L) Q E)) : Fn P w K mg base CX0 "table_lot" 6 (spTabLot C) := by
  refine fn_plain F sc_table_lot (fun _ _ _ _ _ _ us hl => match us, hl with | [_], _ => rfl) (by decide) (by tm_at "g_len") ?_
  intro X f cdv A outer s H E0 L vs Q E hX nd hr h
  subst hX
  obtain ⟨tt, ls, ts, rfl, mt, lt, tbs, q⟩ := h
  show GSs _ (defBody s_table_lot) (bodyD Q) [("tables", some (.ref tt)), ("period", none), ("runs", none)] L
  refine gss_cons ?_
  tm_at "g"
  rw [List.length_map]
  refine ite_d (fun z => ?_) (fun z => ?_)
  · have hl : ts.length - 1 < ts.length := by omega
    have ht := List.getElem?_eq_getElem hl
    generalize ts[ts.length - 1] = t at ht
    have tI := tbs _ t ht
    rw [show ts.length - 1 + 1 = ls.length by omega] at tI
    obtain ⟨fw, ⟨r, ps, m1, m2, hp, e⟩, tb, sh⟩ := tI
    rw [List.take_length] at m1 tb
    subst e
    have at1 : atI (ts.map V.ref) (-1) = some (.ref t) := by
      unfold atI ixN
      rw [List.length_map, if_neg (by omega), if_pos (by omega), show ((-1 : Int) + (ts.length : Int)).toNat = ts.length - 1 by omega]
      show (ts.map V.ref)[ts.length - 1]? = _
      rw [List.getElem?_map, ht]
      rfl
    rw [List.length_map] at sh
    have p0 := tb.pos
    tm_at "g"
    refine gi_tup mt at1 ?_
    refine gg_tup (xs := [.int (lcmL ls : Nat), .ref r]) m1 ?_
    tm_at "g"
    refine ge_callFS hC M0.kp (fun _ => gf_lot la M0 R hr) ?_
    tm_at "g"
    refine ⟨r, prV ps, rfl, .inl m2, ?_⟩
    tm_at "g"
    exact ⟨_, ps, by rw [List.append_nil], hp, by omega, by omega, fun e he => tb.le e.2 (List.mem_map.mpr ⟨e, he, rfl⟩), LotN.r (LotN.drp (q.of tb.tell) Sub.refl)⟩
  · have e0 : ls = [] := List.length_eq_zero_iff.mp (by omega)
    subst e0
    tm_at "g"
    refine gv_def T.at_ ?_
    refine gg_tupK (xs := [.int 1, .ref T.r]) (fun H _ => T.te.sq H) ?_
    tm_at "g"
    refine ge_callFS hC M0.kp (fun _ => gf_lotK la M0 RK hr) ?_
    refine ga_cons ?_
    refine G.St.to ?_
    refine ga_starK ?_
    refine G.St.to ?_
    refine ⟨T.r, [.ref T.p], rfl, fun H _ => T.tr.sq H, ?_⟩
    tm_at "g"
    exact ⟨1, [(T.p, (0, 0))], rfl, fun e he => by rw [List.mem_singleton.mp he]; exact T.tp, by simp, by decide, ⟨_, List.mem_singleton.mpr rfl, Int.le_refl (1 : Int)⟩, fun e he => by rw [List.mem_singleton.mp he]; exact Int.le_refl _, LotN.r (LotN.drp (q.of fun n => ⟨fun _ => (fun x hx => nomatch hx), fun _ => all_zero n⟩) Sub.refl)⟩
def spJoined (K : PySem.W.Frag) (C D : Addr) : SpL := fun vs L Q _ => ∃ (p : Addr) (ls : List LQ) (M0 : Lg), vs = [.ref p] ∧ L = (p, HO.tup (ls.map fun x => V.ref x.1)) :: M0 ∧ LotA K C ∧ (∀ x ∈ ls, LotQ C x M0) ∧ ls.length ≤ 100 ∧ (∀ x ∈ ls, x.2.2 < 2 ^ 2000) ∧ (∀ k, lcmL (ls.take k) < 2 ^ 2000) ∧ FewJ ls ∧ LotN C (cjL ls) M0 Q
theorem fn_joined (F : Df K mg "joined" s_joined) (cD : Cls K D) (n1 : NoAttr K D "tables") (D1 : Fn P w K mg base CX0 "join" 8 (spStar (spJoin K C D))) (D2 : Fn P w K mg base CX0 "table_lot" 6 (spTabLot C)) : Fn P w K mg base CX0 "joined" 9 (spStar (spJoined K C D)) := by
  refine fn_starred F sc_joined (fun _ _ _ _ _ _ => rfl) (fun _ _ _ _ _ _ _ _ => rfl) (by decide) (by tm_at "g_len") ?_
  intro X f cdv A outer s H E0 L vs Q E hX nd hr h
  subst hX
  obtain ⟨p, ls, M0, rfl, rfl, la, hl, ll, hq, hp, fj, q⟩ := h
  show GSs _ (defBody s_joined) (bodyD Q) [("lots", some (.ref p))] _
  refine gss_cons ?_
  tm_at "g"
  refine ge_call (El := NoX) D2 hr passA ?_
  tm_at "g"
  refine ge_callS (El := NoX) D1 hr passA ?_
  tm_at "g"
  refine ⟨p, ls.map fun x => V.ref x.1, rfl, .inl mem0, szL (by rw [List.length_map]; omega), fun p2 => ⟨p2, ls, _, rfl, rfl, la, fun x hx => (hl x hx).up fun _ h => memS h, ll, hq, hp, fj, fun j tt ts M sM ja => ?_⟩⟩
  obtain ⟨dx, pp, mj, mp⟩ := ja.ex
  tm_at "g"
  exact ⟨tt, ls, ts, rfl, ja.t, ja.len, ja.tabs, q.drp (Sub.trans Sub.drop sM)⟩
end
section
open Lt
theorem countIn_lenM {row : List Int} {b m g : Int} (g0 : 0 < g) (m0 : 0 ≤ m) (h : ∀ x ∈ row, 0 ≤ x ∧ x < g) : countIn row b m g ≤ row.length * m := by
  have e := countIn_sum (b := b) (m := m.toNat) g0 h
  rw [show ((m.toNat : Nat) : Int) = m by omega] at e
  rw [e]
  clear e h
  induction row with
  | nil => simp
  | cons x row ih =>
    have : ∀ n : Nat, cnt (fun n => decide (n % g = x)) b n ≤ n := fun n => by
      induction n with
      | zero => exact Nat.le_refl _
      | succ n ih =>
        show cnt _ b n + _ ≤ _
        split <;> omega
    have := this m.toNat
    rw [List.map_cons, List.sum_cons, List.length_cons, Int.natCast_add, Int.add_mul]
    show _ ≤ (row.length : Int) * m + 1 * m
    omega
theorem meets_oneM {g : Nat} {few : List Rn} {s : Rn} (g0 : 0 < g) (le : ∀ r ∈ few, r.1 ≤ r.2) (ls : s.1 ≤ s.2) : meetsN g few [s] ≤ (few.map fun r => r.2 - r.1 + 1).sum + few.length * (s.2 - s.1) := by
  have g1 : (0 : Int) < g := by omega
  have h2 := countIn_lenM (row := rems few g) (b := s.1 + 1) (m := s.2 - s.1 + 1 - 1) g1 (by omega) (rems_mem g1)
  have l2 : ((rems few g).length : Int) = few.length := by unfold rems; rw [List.length_map]
  have h1 : (few.map fun r => countIn (rems [s] g) r.1 (r.2 - r.1 + 1) g).sum ≤ (few.map fun r => r.2 - r.1 + 1).sum := sum_leI fun r hr => by
    have := le r hr
    have h := countIn_lenM (row := rems [s] g) (b := r.1) (m := r.2 - r.1 + 1) g1 (by omega) (rems_mem g1)
    have l : ((rems [s] g).length : Int) = 1 := rfl
    rw [l] at h
    omega
  unfold meetsN
  rw [List.map_singleton, List.sum_singleton]
  rw [l2, show s.2 - s.1 + 1 - 1 = s.2 - s.1 by omega] at h2
  rw [show s.2 - s.1 + 1 - 1 = s.2 - s.1 by omega]
  omega
theorem prs_leM {g : Int} {r s : Rn} : prs g r s ≤ lenN r * lenN s := by
  have h1 : ∀ (f : Nat → Nat) (c : Nat), (∀ i, f i ≤ c) → ∀ n, sm f n ≤ n * c := fun f c h n => by
    induction n with
    | zero => show 0 ≤ _; omega
    | succ n ih =>
      have := h n
      show sm f n + f n ≤ _
      rw [Nat.add_mul]
      omega
  have h2 : ∀ a, hit g a ≤ 1 := fun a => by unfold hit; split <;> omega
  exact h1 _ _ (fun i => by
    have := h1 (fun j => hit g (r.1 + (i : Int) - (s.1 + (j : Int)))) 1 (fun j => h2 _) (lenN s)
    omega) (lenN r)
theorem meetN_oneM {g : Int} {s : Rn} : ∀ {few : List Rn}, (∀ r ∈ few, r.1 ≤ r.2) → (meetN g few [s] : Int) ≤ (few.map fun r => r.2 - r.1 + 1).sum * (lenN s : Int)
  | [], _ => by show (0 : Int) ≤ 0 * _; omega
  | r :: few, h => by
    have ih := meetN_oneM (g := g) (s := s) fun x hx => h x (List.mem_cons_of_mem _ hx)
    have le := h r List.mem_cons_self
    have p := prs_leM (g := g) (r := r) (s := s)
    have e : meetN g (r :: few) [s] = prs g r s + meetN g few [s] := by
      unfold meetN
      rw [List.map_cons, List.sum_cons]
      rfl
    have l : (lenN r : Int) = r.2 - r.1 + 1 := by unfold lenN; omega
    have p' : (prs g r s : Int) ≤ (r.2 - r.1 + 1) * (lenN s : Int) := by
      rw [← l, ← Int.natCast_mul]
      omega
    rw [e, List.map_cons, List.sum_cons, Int.add_mul]
    omega
/-- a begin at an integer, all runs that begin below it found -/
theorem fnd_ex {S : Int → Bool} {P : Nat} {m : Int} (p0 : 0 < P) (hq : Per (fun n => S n = true) (P : Int)) (hm : S m = false) : ∀ i : Nat, ∃ rs, Fnd S i rs
  | 0 => ⟨[], Fnd.nil⟩
  | i + 1 => by
    obtain ⟨rs, h⟩ := fnd_ex p0 hq hm i
    by_cases c : S i = true ∧ S ((i : Int) - 1) = false
    · -- the end
      have pe : ∀ n z, S (n + (P : Int) * z) = S n := fun n z => Bool.eq_iff_iff.mpr (hq.mul z n)
      obtain ⟨u, hu, hi⟩ : ∃ u, S u = false ∧ (i : Int) ≤ u := by
        refine ⟨m + (P : Int) * ((((i : Int) - m).toNat : Nat) : Int), by rw [pe]; exact hm, ?_⟩
        have h0 : (0 : Int) ≤ ((((i : Int) - m).toNat : Nat) : Int) := by omega
        have := Int.mul_le_mul_of_nonneg_right (show (1 : Int) ≤ P by omega) h0
        omega
      have ex : ∀ (d : Nat) (u : Int), S u = false → u - i = d → ∃ e, (i : Int) ≤ e ∧ (∀ n, (i : Int) ≤ n → n ≤ e → S n = true) ∧ S (e + 1) = false := by
        intro d
        induction d with
        | zero =>
          intro u hu e
          rw [show u = (i : Int) by omega, c.1] at hu
          cases hu
        | succ d ih =>
          intro u hu e
          cases z : S (u - 1) with
          | false => exact ih (u - 1) z (by omega)
          | true =>
            by_cases all : ∀ n, (i : Int) ≤ n → n ≤ u - 1 → S n = true
            · exact ⟨u - 1, by omega, all, by rw [show u - 1 + 1 = u by omega]; exact hu⟩
            · obtain ⟨n, hn⟩ := Classical.not_forall.mp all
              obtain ⟨n0, hn⟩ := Classical.not_forall.mp hn
              obtain ⟨n1, hn⟩ := Classical.not_forall.mp hn
              have hn' : S n = false := by
                cases y : S n with
                | true => exact absurd y hn
                | false => rfl
              -- a hole nearer
              have : ∀ k : Nat, ∀ n : Int, S n = false → (i : Int) ≤ n → n - i = k → ∃ e, (i : Int) ≤ e ∧ (∀ n, (i : Int) ≤ n → n ≤ e → S n = true) ∧ S (e + 1) = false := by
                intro k
                induction k using Nat.strongRecOn with
                | _ k ihk =>
                  intro n hn n0 e
                  by_cases all : ∀ j, (i : Int) ≤ j → j ≤ n - 1 → S j = true
                  · rcases Int.lt_or_eq_of_le n0 with q | q
                    · exact ⟨n - 1, by omega, all, by rw [show n - 1 + 1 = n by omega]; exact hn⟩
                    · rw [← q, c.1] at hn
                      cases hn
                  · obtain ⟨j, hj⟩ := Classical.not_forall.mp all
                    obtain ⟨j0, hj⟩ := Classical.not_forall.mp hj
                    obtain ⟨j1, hj⟩ := Classical.not_forall.mp hj
                    have hj' : S j = false := by
                      cases y : S j with
                      | true => exact absurd y hj
                      | false => rfl
                    exact ihk (j - i).toNat (by omega) j hj' j0 (by omega)
              exact this (n - i).toNat n hn' n0 (by omega)
      obtain ⟨e, e0, e1, e2⟩ := ex (u - i).toNat u hu (by omega)
      exact ⟨_, h.add (by omega) c.2 e0 e1 e2⟩
    · exact ⟨rs, h.skip c⟩
open Classical in
theorem tab_ex {S : Int → Prop} {P : Nat} (p0 : 0 < P) (hq : Per S (P : Int)) (no : ∃ m, ¬ S m) : ∃ few, Tab S P few := by
  obtain ⟨m, hm⟩ := no
  have e : (fun n => (fun n => decide (S n)) n = true) = S := funext fun n => propext decide_eq_true_iff
  have hq' : Per (fun n => (fun n => decide (S n)) n = true) (P : Int) := by rw [e]; exact hq
  obtain ⟨rs, h⟩ := fnd_ex (m := m) p0 hq' (by simpa using hm) P
  have t := h.tab p0 hq' (m := m) (by simpa using hm)
  rw [e] at t
  exact ⟨rs, t⟩
end
section
open Lt
/-- a near lot, moved: where it stands, its period, its play, its move -/
abbrev MQ := Addr × Nat × Nat × Int
def movS (x : MQ) (n : Int) : Prop := Lt.In (x.2.1 : Int) [(-(x.2.2.1 : Int), (x.2.2.1 : Int))] (n - x.2.2.2)
def movL (x : MQ) : LQ := (x.1, movS x, x.2.1)
def MovOk (x : MQ) : Prop := 20 ≤ x.2.1 ∧ x.2.2.1 ≤ 3 ∧ x.2.1 ≤ 1000200000
def movR (x : MQ) : Rn := ((x.2.2.2 - x.2.2.1) % x.2.1, (x.2.2.2 - x.2.2.1) % x.2.1 + 2 * x.2.2.1)
theorem mov_in {x : MQ} (h : MovOk x) (n : Int) : movS x n ↔ (n - (x.2.2.2 - x.2.2.1)) % (x.2.1 : Int) ≤ 2 * x.2.2.1 := by
  unfold MovOk at h
  unfold movS
  rw [in_sole (r := (-(x.2.2.1 : Int), (x.2.2.1 : Int))) (by omega) (by dsimp only; omega)]
  dsimp only
  rw [show n - x.2.2.2 - -(x.2.2.1 : Int) = n - (x.2.2.2 - x.2.2.1) by omega]
  omega
theorem mov_form {x : MQ} (h : MovOk x) : Form (movS x) (x.2.1 : Int) [movR x] := by
  have h' := h
  unfold MovOk at h'
  have m0 := Int.emod_nonneg (x.2.2.2 - x.2.2.1) (show (x.2.1 : Int) ≠ 0 by omega)
  have m1 := Int.emod_lt_of_pos (x.2.2.2 - x.2.2.1) (show (0 : Int) < x.2.1 by omega)
  have f := form_single (p := (x.2.1 : Int)) (r := movR x) (by unfold movR; dsimp only; omega) (by unfold movR; dsimp only; omega) (by unfold movR; dsimp only; omega) (by unfold movR; dsimp only; omega)
  have e : Lt.In (x.2.1 : Int) [movR x] = movS x := funext fun n => propext (by
    rw [mov_in h, in_sole (r := movR x) (by omega) (by unfold movR; dsimp only; omega)]
    unfold movR
    dsimp only
    have e := Int.emod_add_mul_ediv (x.2.2.2 - x.2.2.1) (x.2.1 : Int)
    have e2 : (n - (x.2.2.2 - x.2.2.1) % (x.2.1 : Int)) % (x.2.1 : Int) = (n - (x.2.2.2 - x.2.2.1)) % (x.2.1 : Int) := by
      rw [show n - (x.2.2.2 - x.2.2.1) % (x.2.1 : Int) = n - (x.2.2.2 - x.2.2.1) + (x.2.1 : Int) * ((x.2.2.2 - x.2.2.1) / (x.2.1 : Int)) by omega, Int.add_mul_emod_self_left]
    rw [e2]
    omega)
  rw [← e]
  exact f
theorem movR_len {x : MQ} : (movR x).2 - (movR x).1 = 2 * (x.2.2.1 : Int) := by
  unfold movR
  dsimp only
  omega
theorem mov_hole {x : MQ} (h : MovOk x) : ∃ n, ¬ movS x n := by
  have h' := h
  unfold MovOk at h'
  refine ⟨x.2.2.2 - x.2.2.1 - 1, fun z => ?_⟩
  rw [mov_in h, show x.2.2.2 - x.2.2.1 - 1 - (x.2.2.2 - x.2.2.1) = (-1 : Int) by omega, show (-1 : Int) = (x.2.1 - 1) + (x.2.1 : Int) * (-1) by omega, Int.add_mul_emod_self_left, Int.emod_eq_of_lt (by omega) (by omega)] at z
  omega
theorem lcmL_perM {ls : List LQ} (h : ∀ y ∈ ls, 0 < y.2.2 ∧ Per y.2.1 (y.2.2 : Int)) : Per (cjL ls) (lcmL ls : Int) ∧ 0 < lcmL ls := by
  have key : ∀ (l : List LQ) (m : Nat), 0 < m → (∀ y ∈ l, 0 < y.2.2) → 0 < l.foldl (fun m x => Nat.lcm m x.2.2) m ∧ m ∣ l.foldl (fun m x => Nat.lcm m x.2.2) m ∧ ∀ y ∈ l, y.2.2 ∣ l.foldl (fun m x => Nat.lcm m x.2.2) m := by
    intro l
    induction l with
    | nil => exact fun m hm _ => ⟨hm, Nat.dvd_refl _, fun y hy => nomatch hy⟩
    | cons a l ih =>
      intro m hm hl
      obtain ⟨a1, a2, a3⟩ := ih (Nat.lcm m a.2.2) (Nat.lcm_pos hm (hl a List.mem_cons_self)) fun y hy => hl y (List.mem_cons_of_mem _ hy)
      refine ⟨a1, Nat.dvd_trans (Nat.dvd_lcm_left _ _) a2, fun y hy => ?_⟩
      rcases List.mem_cons.mp hy with rfl | hy
      · exact Nat.dvd_trans (Nat.dvd_lcm_right _ _) a2
      · exact a3 y hy
  obtain ⟨k1, -, k3⟩ := key ls 1 (by decide) fun y hy => (h y hy).1
  refine ⟨fun n => ?_, k1⟩
  have one : ∀ y ∈ ls, y.2.1 (n + (lcmL ls : Int)) ↔ y.2.1 n := fun y hy => by
    obtain ⟨c, hc⟩ : y.2.2 ∣ lcmL ls := k3 y hy
    rw [hc, Int.natCast_mul]
    exact (h y hy).2.nmul c n
  exact ⟨fun k y hy => (one y hy).mp (k y hy), fun k y hy => (one y hy).mpr (k y hy)⟩
theorem p7 : ∀ i : Nat, (0 : Int) ≤ 7 ^ i
  | 0 => by decide
  | i + 1 => by
    have := p7 i
    rw [Int.pow_succ]
    omega
theorem mov_tab {as : List MQ} (h : ∀ x ∈ as, MovOk x) : ∀ i, i ≤ as.length → ∃ few, Tab (cjL ((as.map movL).take i)) (lcmL ((as.map movL).take i)) few ∧ (few.map fun r => r.2 - r.1 + 1).sum ≤ (7 : Int) ^ i
  | 0, _ => ⟨[(0, 0)], Tab.every fun n x hx => by simp at hx, by decide⟩
  | i + 1, hi => by
    obtain ⟨few, t, hs⟩ := mov_tab h i (by omega)
    have hx := List.getElem?_eq_getElem (l := as) (i := i) (by omega)
    generalize as[i] = x at hx
    have xm := List.mem_of_getElem? hx
    have ox := h x xm
    have ox' := ox
    unfold MovOk at ox'
    have hy : (as.map movL)[i]? = some (movL x) := by rw [List.getElem?_map, hx]; rfl
    have f2 := mov_form ox
    have t2 := Tab.of_form f2
    have e := meet_cntI t.pos t2.pos t.ind t2.ind
    have ts := take_snoc hy
    have ec : cjL ((as.map movL).take (i + 1)) = fun n => cjL ((as.map movL).take i) n ∧ movS x n := by
      rw [ts]
      exact funext fun n => propext (cjL_snoc n).symm
    have el : lcmL ((as.map movL).take (i + 1)) = Nat.lcm (lcmL ((as.map movL).take i)) x.2.1 := by
      rw [ts, lcmL_snoc]
      rfl
    obtain ⟨per, pos⟩ := lcmL_perM (ls := (as.map movL).take (i + 1)) fun y hy => by
      obtain ⟨z, hz, rfl⟩ := List.mem_map.mp (List.mem_of_mem_take hy)
      have o := h z hz
      have f := mov_form o
      unfold MovOk at o
      exact ⟨by show 0 < z.2.1; omega, f.per⟩
    obtain ⟨m, hm⟩ := mov_hole ox
    obtain ⟨few', t'⟩ := tab_ex pos per ⟨m, fun k => hm (by rw [ec] at k; exact k.2)⟩
    refine ⟨few', t', ?_⟩
    rw [t'.size, ec, el, e]
    have ml := meetN_oneM (g := (Nat.gcd (lcmL ((as.map movL).take i)) x.2.1 : Nat)) (s := movR x) t.le
    have l7 : (lenN (movR x) : Int) ≤ 7 := by
      have := movR_len (x := x)
      unfold lenN
      omega
    have s0 : (0 : Int) ≤ (few.map fun r => r.2 - r.1 + 1).sum := by
      have := len_sum t.le
      omega
    have q := Int.mul_le_mul hs l7 (by omega) (p7 i)
    rw [Int.pow_succ]
    omega
theorem fewJ_mov {as : List MQ} (h : ∀ x ∈ as, MovOk x) (l : as.length ≤ 4) : FewJ (as.map movL) := by
  refine ⟨fun i => if i < 2 then 1 else if i = 2 then 13 else if i = 3 then 127 else 1105, fun i => ?_, by decide, fun i => ?_, fun i y hy few2 f2 => ?_⟩
  · dsimp only
    split <;> (try split) <;> (try split) <;> omega
  · dsimp only
    split <;> (try split) <;> (try split) <;> (try split) <;> (try split) <;> (try split) <;> omega
  have hi := (List.getElem?_eq_some_iff.mp hy).1
  rw [List.length_map] at hi
  rw [List.getElem?_map] at hy
  obtain ⟨x, hx, rfl⟩ := Option.map_eq_some_iff.mp hy
  have ox := h x (List.mem_of_getElem? hx)
  have f0 := mov_form ox
  unfold MovOk at ox
  obtain rfl : few2 = [movR x] := (f2.unique f0).2
  refine ⟨by rw [List.length_singleton]; dsimp only; split <;> (try split) <;> (try split) <;> decide, fun few tb lf ne _ => ?_⟩
  obtain ⟨few', t', hs⟩ := mov_tab h i (by omega)
  obtain rfl := tb.unique t'
  have hm := meets_oneM (few := few) (g := Nat.gcd (lcmL ((as.map movL).take i)) x.2.1) (s := movR x) (Nat.gcd_pos_of_pos_left _ tb.pos) tb.le (by have := movR_len (x := x); omega)
  rw [movR_len] at hm
  have ml := Int.mul_le_mul (show (few.length : Int) ≤ ((if i < 2 then 1 else if i = 2 then 13 else if i = 3 then 127 else 1105 : Nat) : Int) by exact_mod_cast lf) (show 2 * (x.2.2.1 : Int) ≤ 6 by omega) (by omega) (by omega)
  refine Int.le_trans hm ?_
  have i4 : i < 4 := by omega
  match i, i4 with
  | 0, _ => exact absurd ⟨rfl, tb.unique (Tab.every fun n x hx => by simp at hx)⟩ ne
  | 1, _ => dsimp only at ml hs ⊢; simp at ml hs ⊢; omega
  | 2, _ => dsimp only at ml hs ⊢; simp at ml hs ⊢; omega
  | 3, _ => dsimp only at ml hs ⊢; simp at ml hs ⊢; omega
end
section
open Lt
variable {P : Program} {w : World} {K : PySem.W.Frag} {mg : Str → Option Value} {base : Heap} {C D : Addr}
theorem GAsubJ {X : Cx} {es : List Expr} {η : En} {L M : Lg} {Q : List V → Lg → Prop} (s : Sub M L) (h : GA X es η M Q) : GA X es η L Q := fun hN H hH => h hN H (s.has H hH)
theorem pick_intM {is : List Int} {k : Nat} {x : V} (h : (is.map V.int)[k]? = some x) : ∃ j ∈ is, x = .int j := by
  rw [List.getElem?_map] at h
  obtain ⟨j, hj, rfl⟩ := Option.map_eq_some_iff.mp h
  exact ⟨j, List.mem_of_getElem? hj, rfl⟩
/-- a row of triples -/
def mqV (ts : List MQ) : List V := ts.map fun x => V.ref x.1
def Trs (ts : List MQ) (L : Lg) : Prop := ∀ x ∈ ts, (x.1, HO.tup [.int x.2.1, .int x.2.2.1, .int x.2.2.2]) ∈ L
theorem Trs.up {ts : List MQ} {L M : Lg} (h : Trs ts L) (u : ∀ e ∈ L, e ∈ M) : Trs ts M := fun x hx => u _ (h x hx)
theorem Trs.snoc {ts : List MQ} {x : MQ} {L : Lg} (h : Trs ts L) (m : (x.1, HO.tup [.int x.2.1, .int x.2.2.1, .int x.2.2.2]) ∈ L) : Trs (ts ++ [x]) L := fun y hy => by
  rcases List.mem_append.mp hy with hy | hy
  · exact h y hy
  · rw [List.mem_singleton.mp hy]; exact m
def MvOk (x : MQ) : Prop := MovOk x ∧ 0 ≤ x.2.2.2 ∧ x.2.2.2 ≤ 8
def spSome : SpL := fun vs L Q _ => ∃ (p c : Addr) (ns : List Int) (n m : Int) (R : Lg), vs = [.ref p] ∧ Sub ((p, penO c n m) :: (c, celO ns) :: R) L ∧ ns.length ≤ 63 ∧ 0 ≤ n ∧ n + 100 ≤ 100000 ∧ 0 ≤ m ∧
  ∀ (q : Addr) (ts : List MQ) (R' : Lg) (n' m' : Int), Sub R R' → (q, HO.lst (mqV ts)) ∈ R' → Trs ts R' → 2 ≤ ts.length → ts.length ≤ 4 → (∀ x ∈ ts, MvOk x) → 0 ≤ n' → n' ≤ n + 40 → 0 ≤ m' → Q (.ref q) ((p, penO c n' m') :: (c, celO ns) :: R')
theorem fn_law_some (B : Bi mg) (F : Df K mg "_law_some" s_law_some) (D1 : Fn P w K mg base CX0 "_law_draw" 1 spDraw) (D2 : Fn P w K mg base CX0 "_law_pick" 2 spPick) : Fn P w K mg base CX0 "_law_some" 3 spSome := by
  refine fn_plain F sc_law_some (fun _ _ _ _ _ _ us hl => match us, hl with | [_], _ => rfl) (by decide) (by tm_at "g_len") ?_
  intro X f cdv A outer s H E0 L vs Q E hX nd hr h
  subst hX
  obtain ⟨p, c, ns, n, m, R, rfl, sb, h63, n0, n1, m0, q⟩ := h
  refine GSs.sub sb ?_
  show GSs _ (defBody s_law_some) (bodyD Q) [("_law_pen_here", some (.ref p)), ("_law_shared", none), ("_law_found", none), ("_law_turn", none), ("_law_period", none)] _
  refine gss_cons ?_
  tm_at "g"
  refine ge_call (El := NoX) D2 hr passA ?_
  tm_at "g"
  refine go_powL (r := 10000) ⟨by decide, by decide, by decide⟩ (by decide) ?_
  tm_at "g"
  tm_at "g_pk"
  intro kx x n2 m2 hx a0 a1 a2
  obtain ⟨sh, hsh, rfl⟩ := pick_intM (is := [1, 3, 50, 10000]) hx
  have sh0 : 1 ≤ sh ∧ sh ≤ 10000 := by
    simp only [List.mem_cons, List.not_mem_nil, or_false] at hsh
    omega
  clear hx hsh
  refine GAsubJ (Sub.cons (Sub.cons Sub.drop)) ?_
  tm_at "g"
  rename_i f0
  refine gs_for (gi_range1 ?_ B.range)
  tm_at "g"
  refine ge_call (El := NoX) D1 hr passA ?_
  tm_at "g"
  tm_at "g_dr"
  intro d3 n4 m4 j2 j3 c0 c1 c2
  tm_at "g"
  refine ⟨⟨by omega, by omega⟩, fun i θ N => ∃ (u v : Option V) (ts : List MQ) (n' m' : Int) (R' : Lg), θ = ([("_law_pen_here", some (.ref p)), ("_law_shared", some (.int sh)), ("_law_found", some (.ref f0)), ("_law_turn", u), ("_law_period", v)] : En) ∧ Sub ((p, penO c n' m') :: (c, celO ns) :: (f0, HO.lst (mqV ts)) :: R') N ∧ Sub R R' ∧ Trs ts R' ∧ ts.length = i ∧ (∀ x ∈ ts, MvOk x) ∧ 0 ≤ n' ∧ n' ≤ n + 3 + 8 * (i : Int) ∧ 0 ≤ m', ?_, fun _ _ _ _ _ _ => True.intro, ?_, ?_⟩
  · exact ⟨none, none, [], n4, m4, R, rfl, Sub.refl, Sub.refl, (fun e h => nomatch h), rfl, (fun e h => nomatch h), c0, by omega, c2⟩
  · rintro i x E1 θ N hi ⟨rfl, rfl⟩ ⟨u, v, ts, n5, m5, R', rfl, sb2, sR, hp, hl, hb, e0, e1, e2⟩
    dsimp only [List.nil_append] at hi ⊢
    have hi3 : i < 4 := by omega
    refine gg_name (by tm_at "g_pv") ?_
    refine GSs.sub sb2 ?_
    tm_at "g"
    refine ge_call (El := NoX) D1 hr passA ?_
    tm_at "g"
    refine go_powL (r := 100000) ⟨by decide, by decide, by decide⟩ (by decide) ?_
    tm_at "g"
    tm_at "g_dr"
    intro o n6 m6 o0 o1 f1 f2 f3
    tm_at "g"
    have bl := Int.mul_le_mul sh0.2 (show 20 + o ≤ 100019 by omega) (by omega) (by decide)
    have bs := Int.mul_le_mul sh0.1 (show 20 ≤ 20 + o by omega) (by decide) (by omega)
    refine go_mulS (.inl (by omega)) ?_
    obtain ⟨per, eper⟩ : ∃ per : Nat, sh * (20 + o) = per := ⟨(sh * (20 + o)).toNat, by omega⟩
    rw [eper] at bl bs ⊢
    tm_at "g"
    refine ge_call (El := NoX) D1 hr passA ?_
    tm_at "g"
    tm_at "g_dr"
    intro k n7 m7 k0 k1 g1 g2 g3
    tm_at "g"
    refine ge_call (El := NoX) D2 hr passA ?_
    tm_at "g"
    refine ge_call (El := NoX) D1 hr passA ?_
    tm_at "g"
    tm_at "g_dr"
    intro mv n8 m8 v0 v1 h1 h2 h3
    tm_at "g"
    tm_at "g_pk"
    intro kx x n9 m9 hx i0 i1 i2
    obtain ⟨mm, hmm, rfl⟩ := pick_intM (is := [0, 0, mv]) hx
    have mm0 : 0 ≤ mm ∧ mm ≤ 8 := by
      simp only [List.mem_cons, List.not_mem_nil, or_false] at hmm
      omega
    clear hx hmm
    obtain ⟨kn, rfl⟩ : ∃ kn : Nat, k = kn := ⟨k.toNat, by omega⟩
    refine GAsubJ (Sub.cons (Sub.cons Sub.drop)) ?_
    tm_at "g"
    rename_i tp
    refine ⟨mqV ts, _, memS (memS (memS mem0)), Nat.lt_of_lt_of_le (show (mqV ts).length < 100 by unfold mqV; rw [List.length_map]; omega) (szL (by decide)), .there (.there (.there .here)), ?_⟩
    tm_at "g"
    refine ⟨_, _, ts ++ [(tp, per, kn, mm)], n9, m9, (tp, HO.tup [.int per, .int kn, .int mm]) :: R', rfl, ?_, Sub.trans sR Sub.drop, Trs.snoc (hp.up fun _ h => memS h) mem0, by rw [List.length_append, hl]; rfl, fun y hy => ?_, i0, by omega, i2⟩
    · unfold mqV
      rw [List.map_append]
      exact Sub.perm (List.perm_middle (l₁ := [_, _, _]))
    · rcases List.mem_append.mp hy with hy | hy
      · exact hb y hy
      · rw [List.mem_singleton.mp hy]
        unfold MvOk MovOk
        dsimp only
        omega
  rintro θ N ⟨u, v, ts, n5, m5, R', rfl, sb2, sR, hp, hl, hb, e0, e1, e2⟩
  replace hl : ts.length = (2 + d3).toNat := hl
  replace e1 : n5 ≤ n + 3 + 8 * (((2 + d3).toNat : Nat) : Int) := e1
  refine GSs.sub sb2 ?_
  tm_at "g"
  exact ⟨_, Sub.refl, q f0 ts _ n5 m5 (Sub.trans sR Sub.drop) mem0 (hp.up fun _ h => memS h) (by omega) (by omega) hb e0 (by omega) e2⟩
end
section
open Lt
variable {P : Program} {w : World} {K : PySem.W.Frag} {mg : Str → Option Value} {base : Heap} {C D : Addr}
def spIsInM : SpL := fun vs L Q _ => ∃ (q : Addr) (ts : List MQ) (n : Int), vs = [.ref q, .int n] ∧ (q, HO.lst (mqV ts)) ∈ L ∧ Trs ts L ∧ ts.length ≤ 4 ∧ (∀ x ∈ ts, MvOk x) ∧ (∀ x ∈ ts, movS x n) ∧ Q (.bl true) L
theorem fn_law_is_in (B : Bi mg) (F : Df K mg "_law_is_in" s_law_is_in) : Fn P w K mg base CX0 "_law_is_in" 1 spIsInM := by
  refine fn_plain F sc_law_is_in (fun _ _ _ _ _ _ us hl => match us, hl with | [_, _], _ => rfl) (by decide) (by tm_at "g_len") ?_
  intro X f cdv A outer s H E0 L vs Q E hX nd hr h
  subst hX
  obtain ⟨q', ts, n, rfl, m, tr, hl, ok, al, q⟩ := h
  show GSs _ (defBody s_law_is_in) (bodyD Q) [("_law_some_here", some (.ref q')), ("_law_number", some (.int n)), ("_law_period", none), ("_law_play", none), ("_law_move", none), ("_law_rest", none)] L
  refine gss_cons ?_
  refine gs_for (gi_list ?_)
  tm_at "g"
  refine ⟨fun i θ N => ∃ u v x y : Option V, θ = ([("_law_some_here", some (.ref q')), ("_law_number", some (.int n)), ("_law_period", u), ("_law_play", v), ("_law_move", x), ("_law_rest", y)] : En) ∧ Sub L N, ⟨none, none, none, none, rfl, Sub.refl⟩, fun i θ M _ nd2 ⟨_, _, _, _, _, sb⟩ => (sb.to nd2).2 _ m, ?_, ?_⟩
  · rintro i x E1 θ N hi ⟨hx, rfl⟩ ⟨u, v, x1, y, rfl, sb⟩
    replace hx : (mqV ts)[i]? = some x := hx
    obtain ⟨e, he, rfl⟩ := map_at hx
    have em := List.mem_of_getElem? he
    have oe := (ok e em).1
    have hin := (mov_in oe n).mp (al e em)
    unfold MovOk at oe
    have me := tr e em
    dsimp only [List.nil_append]
    refine GG.sub sb ?_
    refine gg_tup (xs := [.int e.2.1, .int e.2.2.1, .int e.2.2.2]) me ?_
    tm_at "g"
    refine go_mod (by omega) ?_
    have m0 := Int.emod_nonneg (n - e.2.2.2) (show (e.2.1 : Int) ≠ 0 by omega)
    have m1 := Int.emod_lt_of_pos (n - e.2.2.2) (show (0 : Int) < e.2.1 by omega)
    have ap : ¬ ((e.2.2.1 : Int) < (n - e.2.2.2) % e.2.1 ∧ (e.2.2.1 : Int) < e.2.1 - (n - e.2.2.2) % e.2.1) := by
      rintro ⟨a, b⟩
      rw [show n - (e.2.2.2 - (e.2.2.1 : Int)) = (n - e.2.2.2) + e.2.2.1 by omega, ← Int.emod_add_emod] at hin
      rw [Int.emod_eq_of_lt (by omega) (by omega)] at hin
      omega
    tm_at "g"
    refine ite_d (fun z => ?_) (fun z => ?_)
    · tm_at "g"
      refine ite_d (fun z2 => absurd ⟨z, z2⟩ ap) (fun _ => ?_)
      tm_at "g"
      exact ⟨_, _, _, _, rfl, Sub.refl⟩
    · tm_at "g"
      exact ⟨_, _, _, _, rfl, Sub.refl⟩
  rintro θ N ⟨u, v, x, y, rfl, sb⟩
  refine GSs.sub sb ?_
  tm_at "g"
  exact ⟨_, Sub.refl, q⟩
theorem ite_GEV {X : Cx} {ea eb : Expr} {η : En} {L : Lg} {Q : QV} {c : Prop} [Decidable c] {z : Int} (h1 : c → GE X ea η L fun v L1 => L1 = L ∧ v = .int z) (h2 : ¬ c → GE X eb η L fun v L1 => L1 = L ∧ v = .int z) (k : Q (.int z) L) : if decide c = true then GE X ea η L Q else GE X eb η L Q := by
  by_cases y : c
  · rw [if_pos (decide_eq_true y)]
    exact (h1 y).imp fun v L1 ⟨e, ev⟩ => by subst e ev; exact k
  · rw [if_neg (by rw [decide_eq_false y]; exact Bool.false_ne_true)]
    exact (h2 y).imp fun v L1 ⟨e, ev⟩ => by subst e ev; exact k
theorem spot0_y {P n : Int} {r : Rn} (h : n ≤ r.1 + (n - r.1) / P * P + r.2 - r.1) : spot0 P n r = n := if_pos h
theorem spot0_n {P n : Int} {r : Rn} (h : ¬ n ≤ r.1 + (n - r.1) / P * P + r.2 - r.1) : spot0 P n r = r.1 + (n - r.1) / P * P + P := if_neg h
theorem spot_y {P n : Int} {r : Rn} (h : spot0 P n r ≥ n) : spot P n r = spot0 P n r := if_pos h
theorem spot_n {P n : Int} {r : Rn} (h : ¬ spot0 P n r ≥ n) : spot P n r = n := if_neg h
/-- not too great (kept closed: omega is slow over great powers) -/
def Sm (p : Nat) (n : Int) : Prop := p < 2 ^ 200 ∧ n.natAbs < 2 ^ 1000
theorem Sm.div {p : Nat} {n : Int} (h : Sm p n) : (p : Int).natAbs < 2 ^ 200 := by rw [Int.natAbs_natCast]; exact h.1
theorem Sm.mulA {n b : Int} {p : Nat} (h : Sm p n) (b0 : 0 ≤ b) (b1 : b < 2 * p) : (n - b).natAbs < 2 ^ 1002 := by
  obtain ⟨h1, h2⟩ := h
  have e : (2 : Nat) ^ 1002 = 4 * 2 ^ 1000 := by rw [show 1002 = 1000 + 2 by rfl, Nat.pow_add]; rfl
  have e2 : (2 : Nat) ^ 200 ≤ 2 ^ 1000 := Nat.pow_le_pow_right (by decide) (by decide)
  rw [e]
  generalize (2 : Nat) ^ 1000 = A at *
  generalize (2 : Nat) ^ 200 = B at *
  omega
theorem Sm.mul {n b : Int} {p : Nat} (h : Sm p n) (b0 : 0 ≤ b) (b1 : b < 2 * p) : CMulW ((n - b) / (p : Int)) p := wide_mul (a := 1002) (b := 200) (Nat.lt_of_le_of_lt (Int.natAbs_ediv_le_natAbs _ _) (h.mulA b0 b1)) h.div (by decide) (by decide) (by decide)
def spNext21 : SpL := fun vs L Q _ => ∃ (t r : Addr) (p : Nat) (few : List Pr2) (n : Int), vs = [.ref t, .int n] ∧ (t, HO.tup [.int p, .ref r]) ∈ L ∧ (r, HO.tup (prV few)) ∈ L ∧ Prs2 few L ∧ few ≠ [] ∧ few.length ≤ 2000 ∧ 0 < p ∧ Sm p n ∧ (∀ e ∈ few, 0 ≤ e.2.1 ∧ e.2.1 ≤ e.2.2 ∧ e.2.2 < 2 * p) ∧
  ∀ m, m ∈ (few.map (·.2)).map (spot p n) → (∀ y ∈ (few.map (·.2)).map (spot p n), m ≤ y) → Q (.int m) L
theorem fn_law_next (B : Bi mg) (F : Df K mg "_law_next" s_law_next) : Fn P w K mg base CX0 "_law_next" 1 spNext21 := by
  refine fn_plain F sc_law_next (fun _ _ _ _ _ _ us hl => match us, hl with | [_, _], _ => rfl) (by decide) (by tm_at "g_len") ?_
  intro X f cdv A outer s H E0 L vs Q E hX nd hr h
  subst hX
  obtain ⟨t, r, p, few, n, rfl, mt, mr, hp, ne, hl, p0, sm, bd, q⟩ := h
  show GSs _ (defBody s_law_next) (bodyD Q) [("_law_table_here", some (.ref t)), ("_law_number", some (.int n)), ("_law_period", none), ("_law_runs", none), ("_law_found", none), ("_law_begin", none), ("_law_end", none), ("_law_later", none), ("_law_spot", none), ("_law_one", none)] L
  refine gss_cons ?_
  tm_at "g"
  rename_i f0
  refine gs_for (gi_tuple ?_)
  tm_at "g"
  refine ⟨fun i θ N => ∃ (u v x y z : Option V), θ = ([("_law_table_here", some (.ref t)), ("_law_number", some (.int n)), ("_law_period", some (.int p)), ("_law_runs", some (.ref r)), ("_law_found", some (.ref f0)), ("_law_begin", u), ("_law_end", v), ("_law_later", x), ("_law_spot", y), ("_law_one", z)] : En) ∧ Sub ((f0, HO.lst (((few.take i).map fun e => spot p n e.2).map V.int)) :: L) N, ⟨none, none, none, none, none, rfl, Sub.refl⟩, fun i θ M _ nd2 ⟨_, _, _, _, _, _, sb⟩ => (sb.to nd2).2 _ (memS mr), ?_, ?_⟩
  · rintro i x E1 θ N hi ⟨hx, rfl⟩ ⟨u, v, x1, y, z, rfl, sb⟩
    obtain ⟨e, he, rfl⟩ := prV_at hx
    have em := List.mem_of_getElem? he
    have me := hp e em
    obtain ⟨b0, b1, b2⟩ := bd e em
    dsimp only [List.nil_append]
    refine GG.sub sb ?_
    refine gg_tup (xs := [.int e.2.1, .int e.2.2]) (memS me) ?_
    tm_at "g"
    refine go_divK (k := 200) (by omega) sm.div (by decide) ?_
    tm_at "g"
    refine go_mul (sm.mul b0 (by omega)) ?_
    tm_at "g"
    refine ite_GEV (z := spot0 p n e.2) (fun c => ?_) (fun c => ?_) ?_
    · tm_at "g"
      exact ⟨rfl, by rw [spot0_y c]⟩
    · tm_at "g"
      exact ⟨rfl, by rw [spot0_n c]⟩
    tm_at "g"
    refine ite_GEV (z := spot p n e.2) (fun c => ?_) (fun c => ?_) ?_
    · tm_at "g"
      exact ⟨rfl, by rw [spot_y c]⟩
    · tm_at "g"
      exact ⟨rfl, by rw [spot_n c]⟩
    refine ⟨_, _, mem0, Nat.lt_of_lt_of_le (show _ < 16777216 by rw [List.length_map, List.length_map, List.length_take]; omega) (szL (Nat.le_refl _)), by tm_at "g_swap", ?_⟩
    tm_at "g"
    rw [take_snoc he, List.map_append, List.map_append]
    exact ⟨_, _, _, _, _, rfl, Sub.refl⟩
  rintro θ N ⟨u, v, x, y, z, rfl, sb⟩
  replace sb : Sub ((f0, HO.lst (((few.take (prV few).length).map fun e => spot p n e.2).map V.int)) :: L) N := sb
  rw [prV_len, List.take_length] at sb
  refine GSs.sub sb ?_
  tm_at "g"
  refine ge_lcP (by tm_at "g_put") (gi_list ?_) (show blkC N_law_next (defScope s_law_next) _ [(_, List.idxOf _ N_law_next)] = true by decide +kernel)
  tm_at "g"
  refine pure_rowA (α := Int) (val := V.int) (t := fun _ => true) (g := V.int) mem0 (by rw [List.length_map]; omega) (fun a ha D2 acc2 s3 H3 C3 cl3 fp3 => ?_) fun d4 => ?_
  · refine gts_nil ⟨rfl, Sub.refl, fun _ s4 H4 C4 cl4 fp4 => ?_⟩
    tm_at "g"
    exact ⟨rfl, Sub.refl⟩
  rw [List.filter_eq_self.mpr fun _ _ => rfl]
  tm_at "g"
  refine gc_minL rfl mem0 (by rw [List.length_map]; exact List.length_pos_iff.mpr ne) fun m h1 h2 => ?_
  exact ⟨_, by tm_at "g_end", q m (by rw [List.map_map]; exact h1) (by rw [List.map_map]; exact h2)⟩
end
section
open Lt
variable {P : Program} {w : World} {K : PySem.W.Frag} {mg : Str → Option Value} {base : Heap} {C D : Addr}
theorem Sm.mulL {n b i : Int} {p : Nat} (h : Sm p n) (b0 : 0 ≤ b) (b1 : b < 2 * p) (i0 : -10 ≤ i) (i1 : i ≤ 10) : CMulW ((n - b) / (p : Int) + i) p := by
  refine wide_mul (a := 1003) (b := 200) ?_ h.div (by decide) (by decide) (by decide)
  have h1 := Nat.lt_of_le_of_lt (Int.natAbs_ediv_le_natAbs (n - b) p) (h.mulA b0 b1)
  have e : (2 : Nat) ^ 1003 = 2 * 2 ^ 1002 := by rw [show 1003 = 1002 + 1 by rfl, Nat.pow_add]; rfl
  have e2 : (2 : Nat) ^ 10 ≤ 2 ^ 1002 := Nat.pow_le_pow_right (by decide) (by decide)
  rw [e]
  generalize (2 : Nat) ^ 1002 = A at *
  generalize (n - b) / (p : Int) = x at *
  omega
/-- the first laps of a run -/
def lapS (P lo hi : Int) (r : Rn) : Nat → Int
  | 0 => 0
  | j + 1 => lapS P lo hi r j + lapC P lo hi r (-1 + (j : Int))
theorem lapS_four {P lo hi : Int} {r : Rn} : lapS P lo hi r 4 = laps P lo hi r := by
  unfold laps
  show 0 + lapC P lo hi r (-1 + ((0 : Nat) : Int)) + lapC P lo hi r (-1 + ((1 : Nat) : Int)) + lapC P lo hi r (-1 + ((2 : Nat) : Int)) + lapC P lo hi r (-1 + ((3 : Nat) : Int)) = _
  rw [show (-1 + ((0 : Nat) : Int)) = -1 from rfl, show (-1 + ((1 : Nat) : Int)) = 0 from rfl, show (-1 + ((2 : Nat) : Int)) = 1 from rfl, show (-1 + ((3 : Nat) : Int)) = 2 from rfl, Int.zero_add]
theorem lap_eq {P lo hi A B : Int} {r : Rn} {i : Int} (eA : A = r.1 + ((lo - r.1) / P + i) * P) (eB : B = A + r.2 - r.1) : (if (if B < hi then B else hi) - (if A > lo then A else lo) + 1 > 0 then (if B < hi then B else hi) - (if A > lo then A else lo) + 1 else 0) = lapC P lo hi r i := by
  unfold lapC ov
  rw [← eA, ← eB]
  have e1 : (if B < hi then B else hi) = min hi B := by split <;> omega
  have e2 : (if A > lo then A else lo) = max lo A := by split <;> omega
  rw [e1, e2]
  generalize min hi B - max lo A + 1 = x
  split <;> omega
def spMany21 : SpL := fun vs L Q _ => ∃ (t r : Addr) (p : Nat) (few : List Pr2) (lo hi : Int), vs = [.ref t, .int lo, .int hi] ∧ (t, HO.tup [.int p, .ref r]) ∈ L ∧ (r, HO.tup (prV few)) ∈ L ∧ Prs2 few L ∧ few.length ≤ 2000 ∧ 0 < p ∧ Sm p lo ∧ (∀ e ∈ few, 0 ≤ e.2.1 ∧ e.2.1 ≤ e.2.2 ∧ e.2.2 < 2 * p) ∧
  Q (.int (((few.map (·.2)).map (laps p lo hi)).sum)) L
theorem fn_law_many (B : Bi mg) (F : Df K mg "_law_many" s_law_many) : Fn P w K mg base CX0 "_law_many" 1 spMany21 := by
  refine fn_plain F sc_law_many (fun _ _ _ _ _ _ us hl => match us, hl with | [_, _, _], _ => rfl) (by decide) (by tm_at "g_len") ?_
  intro X f cdv A outer s H E0 L vs Q E hX nd hr h
  subst hX
  obtain ⟨t, r, p, few, lo, hi, rfl, mt, mr, hp, hl, p0, sm, bd, q⟩ := h
  show GSs _ (defBody s_law_many) (bodyD Q) [("_law_table_here", some (.ref t)), ("_law_low", some (.int lo)), ("_law_high", some (.int hi)), ("_law_period", none), ("_law_runs", none), ("_law_found", none), ("_law_begin", none), ("_law_end", none), ("_law_lap", none), ("_law_moved", none)] L
  refine gss_cons ?_
  tm_at "g"
  refine gs_for (gi_tuple ?_)
  tm_at "g"
  refine ⟨fun i θ N => ∃ (u v x y : Option V), θ = ([("_law_table_here", some (.ref t)), ("_law_low", some (.int lo)), ("_law_high", some (.int hi)), ("_law_period", some (.int p)), ("_law_runs", some (.ref r)), ("_law_found", some (.int (((few.take i).map fun e => laps p lo hi e.2).sum))), ("_law_begin", u), ("_law_end", v), ("_law_lap", x), ("_law_moved", y)] : En) ∧ Sub L N, ⟨none, none, none, none, rfl, Sub.refl⟩, fun i θ M _ nd2 ⟨_, _, _, _, _, sb⟩ => (sb.to nd2).2 _ mr, ?_, ?_⟩
  · rintro i x E1 θ N hI ⟨hx, rfl⟩ ⟨u, v, x1, y, rfl, sb⟩
    obtain ⟨e, he, rfl⟩ := prV_at hx
    have em := List.mem_of_getElem? he
    have me := hp e em
    obtain ⟨b0, b1, b2⟩ := bd e em
    dsimp only [List.nil_append]
    refine GG.sub sb ?_
    refine gg_tup (xs := [.int e.2.1, .int e.2.2]) me ?_
    tm_at "g"
    obtain ⟨acc, eacc⟩ : ∃ acc, acc = ((few.take i).map fun e => laps p lo hi e.2).sum := ⟨_, rfl⟩
    rw [← eacc]
    refine gs_for (gi_range2 ?_ B.range)
    tm_at "g"
    refine ⟨⟨by decide, by decide, by decide, by decide⟩, fun j θ N => ∃ (x y : Option V), θ = ([("_law_table_here", some (.ref t)), ("_law_low", some (.int lo)), ("_law_high", some (.int hi)), ("_law_period", some (.int p)), ("_law_runs", some (.ref r)), ("_law_found", some (.int (acc + lapS p lo hi e.2 j))), ("_law_begin", some (.int e.2.1)), ("_law_end", some (.int e.2.2)), ("_law_lap", x), ("_law_moved", y)] : En) ∧ Sub L N, ⟨_, _, by rw [show lapS p lo hi e.2 0 = 0 from rfl, Int.add_zero], Sub.refl⟩, fun _ _ _ _ _ _ => True.intro, ?_, ?_⟩
    · rintro j x1 E2 θ N2 hj ⟨rfl, rfl⟩ ⟨x, y, rfl, sb2⟩
      have hj4 : j < 4 := hj
      dsimp only [List.nil_append]
      refine gg_name (by tm_at "g_pv") ?_
      refine GSs.sub sb2 ?_
      tm_at "g"
      refine go_divK (k := 200) (by omega) sm.div (by decide) ?_
      tm_at "g"
      refine go_mul (sm.mulL b0 (by omega) (by omega) (by omega)) ?_
      tm_at "g"
      rw [lap_eq (P := p) (lo := lo) (hi := hi) (r := e.2) (i := -1 + (j : Int)) rfl rfl]
      exact ⟨_, _, by rw [show lapS p lo hi e.2 (j + 1) = lapS p lo hi e.2 j + lapC p lo hi e.2 (-1 + (j : Int)) from rfl, Int.add_assoc], Sub.refl⟩
    rintro θ N2 ⟨x, y, rfl, sb2⟩
    replace sb2 : Sub L N2 := sb2
    refine GSs.sub sb2 ?_
    tm_at "g"
    rw [show ((3 : Int) - -1).toNat = 4 from rfl, lapS_four, eacc]
    rw [take_snoc he, List.map_append, List.sum_append]
    exact ⟨_, _, _, _, by rw [List.map_singleton, List.sum_singleton], Sub.refl⟩
  rintro θ N ⟨u, v, x, y, rfl, sb⟩
  replace sb : Sub L N := sb
  refine GSs.sub sb ?_
  rw [show (prV few).length = few.length from prV_len, List.take_length]
  tm_at "g"
  rw [List.map_map] at q
  exact ⟨_, Sub.refl, q⟩
end
section
open Lt
variable {P : Program} {w : World} {K : PySem.W.Frag} {mg : Str → Option Value} {base : Heap} {C : Addr}
/-- one operator -/
structure LOp (P : Program) (w : World) (K : PySem.W.Frag) (mg : Str → Option Value) (base : Heap) (C : Addr) (nm : String) (lvl : Nat) (sp : SpL) where
  g : Addr
  O : OwnBin K C nm g
  T : BinT K C nm "int"
  R : RunG P w K mg base CX0 lvl g argsP (toSp sp)
section
variable {X : Cx} {j : Nat} {L : Lg} {Q : QV} {S : Int → Prop} {a : Addr} {k : Int}
theorem go_lotAdd (A : LOp X.prog X.w X.K X.mg X.base C "add" 8 (spMovedBy X.K C)) (hr : RoomG j X.A) (la : LotA X.K C) (h1 : LotS C S a L) (q : LotN C (fun n => S (n - k)) L Q) (hj : 8 ≤ j := by decide) : GOp X (binaryOp .Add) (.ref a) (.int k) L Q := by
  obtain ⟨dx, q1, t, few, ob, x, f, l⟩ := id h1.ex
  exact go_binI (op := .Add) (El := NoX) A.O A.T A.R hr passA x.o ⟨a, k, S, rfl, la, h1, q⟩ hj
end
end
section
open Lt
variable {P : Program} {w : World} {K : PySem.W.Frag} {mg : Str → Option Value} {base : Heap} {C D : Addr}
/-- lots that can be joined -/
structure JOk (C : Addr) (ls : List LQ) (L : Lg) : Prop where
  l : ∀ x ∈ ls, LotQ C x L
  h1 : ∀ x ∈ ls, x.2.2 < 2 ^ 2000
  h2 : ∀ k, lcmL (ls.take k) < 2 ^ 2000
  few : FewJ ls
theorem JOk.up {ls : List LQ} {L M : Lg} (h : JOk C ls L) (u : ∀ e ∈ L, e ∈ M) : JOk C ls M := ⟨fun x hx => (h.l x hx).up u, h.h1, h.h2, h.few⟩
theorem JOk.of {ls : List LQ} {L : Lg} {d : Nat} (d0 : 0 < d) (d1 : d ≤ 2000) (l : ∀ x ∈ ls, LotQ C x L) (h : ∀ x ∈ ls, x.2.2 ∣ d) : JOk C ls L :=
  have big : d < 2 ^ 2000 := Nat.lt_of_le_of_lt d1 (Nat.lt_of_lt_of_le (show 2000 < 2 ^ 11 by decide) (Nat.pow_le_pow_right (by decide) (by decide)))
  ⟨l, fun x hx => Nat.lt_of_le_of_lt (Nat.le_of_dvd d0 (h x hx)) big, fun k => Nat.lt_of_le_of_lt (Nat.le_of_dvd d0 (lcmL_dvd fun x hx => h x (List.mem_of_mem_take hx))) big, fewJ_dvd d0 d1 h⟩
/-- what a call of join promises -/
def JoinN (D : Addr) (ls : List LQ) (L : Lg) (Q : QV) : Prop := ∀ (j tt : Addr) (ts : List Addr) (M : Lg), Sub L M → JoinAt D j ls tt ts M → Q (.ref j) M
theorem JOk.join {ls : List LQ} {L : Lg} {Q : QV} {E : XL} (h : JOk C ls L) (la : LotA K C) (n : ls.length ≤ 100) (q : JoinN D ls L Q) : spStar (spJoin K C D) (ls.map fun x => V.ref x.1) L Q E :=
  ⟨szL (by rw [List.length_map]; omega), fun p => ⟨p, ls, L, rfl, rfl, la, h.l, n, h.h1, h.h2, h.few, q⟩⟩
theorem JOk.joined {ls : List LQ} {L : Lg} {Q : QV} {E : XL} (h : JOk C ls L) (la : LotA K C) (n : ls.length ≤ 100) (q : LotN C (cjL ls) L Q) : spStar (spJoined K C D) (ls.map fun x => V.ref x.1) L Q E :=
  ⟨szL (by rw [List.length_map]; omega), fun p => ⟨p, ls, L, rfl, rfl, la, h.l, n, h.h1, h.h2, h.few, q⟩⟩
end
section
open Lt
variable {P : Program} {w : World} {K : PySem.W.Frag} {mg : Str → Option Value} {base : Heap} {C D : Addr}
/-- a lot stands apart from a list of lots -/
theorem LotS.out {S : Int → Prop} {a d : Addr} {M R : Lg} {zs : List V} (h : LotS C S a M) (k : ∀ x ∈ M, x = (d, HO.lst zs) ∨ x ∈ R) (nz : ∀ i : Int, ∀ t, zs ≠ V.int i :: t) (ex : ∃ n, S n) : LotS C S a R := by
  obtain ⟨dx, q, t, few, ob, x, f, l⟩ := h.ex
  have out : ∀ y ∈ M, y.2 ≠ HO.lst zs → y ∈ R := fun y hy ne => (k y hy).resolve_left fun z => ne (by rw [z])
  refine ⟨dx, q, t, few, ob, ⟨out _ x.o (fun z => nomatch z), out _ x.t (fun z => nomatch z), fun e he => out _ (x.ps e he) (fun z => nomatch z), out _ x.ob fun z => ?_⟩, f, l⟩
  have z : (few.map fun e => e.2.1).map V.int = zs := HO.lst.inj z
  rcases few with _ | ⟨e, few⟩
  · obtain ⟨n, hn⟩ := ex
    obtain ⟨r, hr, -⟩ := (f.tell n).mpr hn
    exact nomatch hr
  · exact nz _ _ z.symm
theorem repHead {α : Type} {R : V → α → Prop} : ∀ {v : V} {t : List V} {as : List α}, Reps R (v :: t) as → ∃ a, R v a
  | _, _, _, .cons h _ => ⟨_, h⟩
def MvRep (C : Addr) (R : Lg) (v : V) (x : MQ) : Prop := ∃ a, v = .ref a ∧ LotS C (movS x) a R
theorem mvrep_mono : RepMono (MvRep C) := fun _ _ _ _ up ⟨a, e, l⟩ => ⟨a, e, l.up up⟩
theorem mvreps : ∀ {zs : List V} {ts : List MQ} {R : Lg}, Reps (MvRep C R) zs ts → ∃ as : List MQ, zs = as.map (fun x => V.ref x.1) ∧ as.map (·.2) = ts.map (·.2) ∧ ∀ x ∈ as, LotS C (movS x) x.1 R
  | _, _, _, .nil => ⟨[], rfl, rfl, fun x hx => nomatch hx⟩
  | _, _, _, .cons (a := x) ⟨a, e, l⟩ t => by
    obtain ⟨as, e1, e2, h⟩ := mvreps t
    refine ⟨(a, x.2) :: as, by rw [e, e1]; rfl, by rw [List.map_cons, List.map_cons, e2], fun y hy => ?_⟩
    rcases List.mem_cons.mp hy with rfl | hy
    · exact l
    · exact h y hy
theorem lcm_pow {B : Nat} : ∀ (ls : List LQ), (∀ x ∈ ls, 0 < x.2.2 ∧ x.2.2 < B) → ∀ m : Nat, 0 < m → ls.foldl (fun m x => Nat.lcm m x.2.2) m ≤ m * B ^ ls.length
  | [], _, m, _ => by show m ≤ m * 1; omega
  | x :: ls, h, m, hm => by
    obtain ⟨a, b⟩ := h x List.mem_cons_self
    have l0 := Nat.lcm_pos hm a
    have ih := lcm_pow ls (fun y hy => h y (List.mem_cons_of_mem _ hy)) (Nat.lcm m x.2.2) l0
    have l1 : Nat.lcm m x.2.2 ≤ m * B := Nat.le_trans (Nat.le_of_dvd (Nat.mul_pos hm a) (Nat.lcm_dvd_mul m x.2.2)) (Nat.mul_le_mul_left m (Nat.le_of_lt b))
    refine Nat.le_trans ih (Nat.le_trans (Nat.mul_le_mul_right _ l1) ?_)
    rw [List.length_cons, Nat.pow_succ, Nat.mul_assoc, Nat.mul_comm B (B ^ ls.length)]
    exact Nat.le_refl _
theorem mov_lcm {as : List MQ} (h : ∀ x ∈ as, MovOk x) (l : as.length ≤ 4) (k : Nat) : lcmL ((as.map movL).take k) < 2 ^ 200 := by
  have := lcm_pow (B := 2 ^ 30) ((as.map movL).take k) (fun y hy => by
    obtain ⟨x, hx, rfl⟩ := List.mem_map.mp (List.mem_of_mem_take hy)
    have o := h x hx
    unfold MovOk at o
    exact ⟨by show 0 < x.2.1; omega, by show x.2.1 < 2 ^ 30; omega⟩) 1 (by decide)
  refine Nat.lt_of_le_of_lt this ?_
  rw [Nat.one_mul, ← Nat.pow_mul]
  refine Nat.pow_lt_pow_right (by decide) ?_
  rw [List.length_take, List.length_map]
  omega
theorem mov_jok {as : List MQ} {L : Lg} (h : ∀ x ∈ as, MovOk x) (l : as.length ≤ 4) (hl : ∀ x ∈ as, LotS C (movS x) x.1 L) : JOk C (as.map movL) L :=
  have big : (2 : Nat) ^ 200 ≤ 2 ^ 2000 := Nat.pow_le_pow_right (by decide) (by decide)
  ⟨fun y hy => by
    obtain ⟨x, hx, rfl⟩ := List.mem_map.mp hy
    exact ⟨hl x hx, _, mov_form (h x hx)⟩, fun y hy => by
    obtain ⟨x, hx, rfl⟩ := List.mem_map.mp hy
    have o := h x hx
    unfold MovOk at o
    exact Nat.lt_of_lt_of_le (show x.2.1 < 2 ^ 30 by omega) (Nat.pow_le_pow_right (by decide) (by decide)), fun k => Nat.lt_of_lt_of_le (mov_lcm h l k) big, fewJ_mov h l⟩
/-- what lies near all -/
def nearAll (ts : List MQ) (n : Int) : Prop := ∀ x ∈ ts, movS x n
theorem near_all {as ts : List MQ} (e : as.map (·.2) = ts.map (·.2)) (n : Int) : cjL (as.map movL) n ↔ nearAll ts n := by
  unfold nearAll
  constructor
  · intro h x hx
    have : x.2 ∈ as.map (·.2) := e ▸ List.mem_map.mpr ⟨x, hx, rfl⟩
    obtain ⟨y, hy, ey⟩ := List.mem_map.mp this
    have z : movS y n := h (movL y) (List.mem_map.mpr ⟨y, hy, rfl⟩)
    unfold movS at z ⊢
    rw [← ey]
    exact z
  · intro h z hz
    obtain ⟨y, hy, rfl⟩ := List.mem_map.mp hz
    have : y.2 ∈ ts.map (·.2) := e ▸ List.mem_map.mpr ⟨y, hy, rfl⟩
    obtain ⟨x, hx, ex⟩ := List.mem_map.mp this
    have z := h x hx
    show movS y n
    unfold movS at z ⊢
    rw [← ex]
    exact z
/-- the last table of a join -/
theorem JoinAt.last {j tt : Addr} {ls : List LQ} {ts : List Addr} {L : Lg} (h : JoinAt D j ls tt ts L) (ne : ls ≠ []) : ∃ t few, atI (ts.map V.ref) (-1) = some (.ref t) ∧ TabL t (lcmL ls) few L ∧ Tab (cjL ls) (lcmL ls) few ∧ few.length ≤ 2000 := by
  have l0 : 0 < ls.length := List.length_pos_iff.mpr ne
  have hl : ts.length - 1 < ts.length := by have := h.len; omega
  have ht := List.getElem?_eq_getElem hl
  generalize ts[ts.length - 1] = t at ht
  obtain ⟨few, a, b, c⟩ := h.tabs _ t ht
  have e : ts.length - 1 + 1 = ls.length := by have := h.len; omega
  rw [e, List.take_length] at a b
  refine ⟨t, few, ?_, a, b, c⟩
  unfold atI ixN
  rw [List.length_map, if_neg (by omega), if_pos (by omega), show ((-1 : Int) + (ts.length : Int)).toNat = ts.length - 1 by omega]
  show (ts.map V.ref)[ts.length - 1]? = _
  rw [List.getElem?_map, ht]
  rfl
theorem range_getM {js : List MQ} {d : MQ} : ((List.range (mqV js).length).map fun i => js.getD i d) = js := by
  unfold mqV
  rw [List.length_map]
  refine List.ext_getElem? fun i => ?_
  rw [List.getElem?_map]
  rcases Nat.lt_or_ge i js.length with c | c
  · rw [List.getElem?_range c, List.getElem?_eq_getElem c]
    simp [c]
  · rw [List.getElem?_eq_none (by simpa using c), List.getElem?_eq_none c]
    rfl
def spTable21 (C : Addr) : SpL := fun vs L Q _ => ∃ (q : Addr) (ts : List MQ), vs = [.ref q] ∧ (q, HO.lst (mqV ts)) ∈ L ∧ Trs ts L ∧ 2 ≤ ts.length ∧ ts.length ≤ 4 ∧ (∀ x ∈ ts, MvOk x) ∧
  ∀ (t tb lt : Addr) (p : Nat) (few : List Rn) (M : Lg), Sub L M → (t, HO.tup [.ref tb, .ref lt]) ∈ M → TabL tb p few M → Tab (nearAll ts) p few → few.length ≤ 2000 → p < 2 ^ 200 → LotS C (nearAll ts) lt M → Q (.ref t) M
theorem fn_law_table (B : Bi mg) (F : Df K mg "_law_table" s_law_table) (S0 : LotB P w K mg base C) {pa ga : Addr} (sa : CSta K C S0.mc "around" pa ga) (Ra : RunG P w K mg base CX0 6 ga argsP (toSp (spAround C))) (A : LOp P w K mg base C "add" 8 (spMovedBy K C)) (cD : Cls K D) (nD : NoAttr K D "tables") (J : Fn P w K mg base CX0 "join" 8 (spStar (spJoin K C D))) (JD : Fn P w K mg base CX0 "joined" 9 (spStar (spJoined K C D))) : Fn P w K mg base CX0 "_law_table" 10 (spTable21 C) := by
  refine fn_plain F sc_law_table (fun _ _ _ _ _ _ us hl => match us, hl with | [_], _ => rfl) (by decide) (by tm_at "g_len") ?_
  intro X f cdv A0 outer s H E0 L vs Q E hX nd hr h
  subst hX
  obtain ⟨q', ts, rfl, m, tr, l2, l4, ok, q⟩ := h
  have hC := S0.hC
  have la := S0.la
  show GSs _ (defBody s_law_table) (bodyD Q) [("_law_some_here", some (.ref q')), ("_law_lots", none), ("_law_found", none), ("_law_period", none), ("_law_play", none), ("_law_move", none)] L
  refine GSs.nd fun nd0 => ?_
  refine gss_cons ?_
  refine GS.undrp (gs_lc3 (by tm_at "g_put") (by tm_at "g_put") (fun _ => by tm_at "g_put") (fun _ _ => by tm_at "g_put") (gi_list ?_) (show blkC N_law_table (defScope s_law_table) _ [(_, List.idxOf _ N_law_table), (_, List.idxOf _ N_law_table), (_, List.idxOf _ N_law_table)] = true by decide +kernel) (by rfl))
  tm_at "g"
  intro D2
  refine lc_repZ (Rep := MvRep C) (ds := fun i => ts.getD i (0, 0, 0, 0)) mvrep_mono lift_three (by show (mqV ts).length ≤ _; unfold mqV; rw [List.length_map]; omega) (fun M h => h _ m) D2 (fun i' x E2 zs R hi' hx hR rz nd5 => ?_) fun zs R hR rz => ?_
  · obtain ⟨hx, rfl⟩ := hx
    obtain ⟨y, hy, rfl⟩ := map_at hx
    have ym := List.mem_of_getElem? hy
    have oy := (ok y ym).1
    unfold MovOk at oy
    have ey : ts.getD i' (0, 0, 0, 0) = y := by rw [List.getD_eq_getElem?_getD, hy]; rfl
    dsimp only [List.nil_append]
    rw [ey]
    refine ⟨y.1, _, _, _, rfl, memS (hR _ (tr y ym)), ?_⟩
    intro s2 H2 C2 cl2 fp2
    refine GE.nd ?_
    refine ge_bin ?_
    refine ge_sta sa (fun _ => gf_of (El := NoX) Ra hr passA) ?_
    tm_at "g"
    refine gv_def hC ?_
    refine ⟨rfl, ?_⟩
    tm_at "g"
    refine ⟨y.2.1, y.2.2.1, rfl, by omega, by omega, LotN.r fun x3 M3 s3 l3 => ?_⟩
    tm_at "g"
    refine go_lotAdd A hr la l3 ?_
    intro x4 M4 s4 l4 nd4
    obtain ⟨R3, pm, k1, k2⟩ := out1 nd4 (Sub.trans s3 s4)
    refine ⟨R3, Sub.perm pm.symm, k1, x4, rfl, ?_⟩
    refine LotS.out l4 k2 (fun j t ez => ?_) ⟨y.2.2.2, ?_⟩
    · obtain ⟨b, ⟨c2, eb, _⟩⟩ := repHead (ez ▸ rz)
      exact V.noConfusion eb
    · refine ⟨(-(y.2.2.1 : Int), (y.2.2.1 : Int)), List.mem_singleton.mpr rfl, 0, ?_, ?_⟩
      · show -(y.2.2.1 : Int) ≤ y.2.2.2 - y.2.2.2 + (y.2.1 : Int) * 0
        omega
      · show y.2.2.2 - y.2.2.2 + (y.2.1 : Int) * 0 ≤ (y.2.2.1 : Int)
        omega
  replace rz : Reps (MvRep C R) zs ((List.range (mqV ts).length).map fun i => ts.getD i (0, 0, 0, 0)) := rz
  rw [range_getM] at rz
  obtain ⟨as, rfl, eas, las⟩ := mvreps rz
  have len : as.length = ts.length := by have := congrArg List.length eas; simpa using this
  have oka : ∀ x ∈ as, MovOk x := fun x hx => by
    have : x.2 ∈ ts.map (·.2) := eas ▸ List.mem_map.mpr ⟨x, hx, rfl⟩
    obtain ⟨y, hy, ey⟩ := List.mem_map.mp this
    have o := (ok y hy).1
    unfold MovOk at o ⊢
    rw [← ey]
    exact o
  have jk := (mov_jok (C := C) oka (by omega) las).up (M := (D2, HO.lst (as.map fun x => V.ref x.1)) :: R) fun _ h => memS h
  have ecj : cjL (as.map movL) = nearAll ts := funext fun n => propext (near_all eas n)
  have pb := mov_lcm oka (by omega) as.length
  rw [List.take_of_length_le (by rw [List.length_map]; exact Nat.le_refl _)] at pb
  have ne : as.map movL ≠ [] := fun z => by have := congrArg List.length z; rw [List.length_map, List.length_nil] at this; omega
  show GSs _ _ _ _ _
  refine GSs.nd fun nd6 => ?_
  have uL : ∀ e ∈ L, e ∈ (D2, HO.lst (as.map fun x => V.ref x.1)) :: R := fun e he => memS (hR e he)
  -- what is shown at each end
  have key : ∀ (j tt : Addr) (ts2 : List Addr) (M : Lg), Sub ((D2, HO.lst (as.map fun x => V.ref x.1)) :: R) M → JoinAt D j (as.map movL) tt ts2 M → ∃ tb few, atI (ts2.map V.ref) (-1) = some (.ref tb) ∧ TabL tb (lcmL (as.map movL)) few M ∧ Tab (nearAll ts) (lcmL (as.map movL)) few ∧ few.length ≤ 2000 := fun j tt ts2 M s ja => by
    obtain ⟨tb, few, a1, a2, a3, a4⟩ := ja.last ne
    rw [ecj] at a3
    exact ⟨tb, few, a1, a2, a3, a4⟩
  tm_at "g"
  have ndL : (L.map (·.1)).Nodup := nd0
  rcases as with _ | ⟨x0, _ | ⟨x1, _ | ⟨x2, _ | ⟨x3, _ | ⟨x4, l⟩⟩⟩⟩⟩
  · simp at len; omega
  · simp at len; omega
  · refine ite_d (fun _ => ?_) (fun z => by simp at z)
    tm_at "g"
    refine ge_call (El := NoX) J hr passA ?_
    tm_at "g"
    refine JOk.join (ls := [movL x0, movL x1]) jk la (by simp) fun j tt ts2 M s ja => ?_
    obtain ⟨tb, few, a1, a2, a3, a4⟩ := key j tt ts2 M s ja
    obtain ⟨dx, pp, mj, mp⟩ := ja.ex
    tm_at "g"
    refine gi_tup ja.t a1 ?_
    show GA _ _ _ _ _
    refine GA.ndc fun nd7 => ?_
    have mD := (s.to nd7).2 _ mem0
    tm_at "g"
    refine ge_call (El := NoX) JD hr passA ?_
    tm_at "g"
    refine JOk.joined (ls := [movL x0, movL x1]) (jk.up (s.to nd7).2) la (by simp) ?_
    intro lt M2 s2 l2
    show GA _ _ _ _ _
    refine GA.ndc fun nd8 => ?_
    have up8 := (s2.to nd8).2
    tm_at "g"
    rename_i tp
    exact ⟨_, Sub.refl, q tp tb lt _ few _ ⟨fun nn => ⟨ndL, fun e he => memS (up8 _ ((s.to nd7).2 _ (uL e he)))⟩⟩ mem0 (a2.up fun _ h => memS (up8 _ h)) a3 a4 pb ((l2.of fun n => by rw [← ecj]; rfl).up fun _ h => memS h)⟩
  · refine ite_d (fun z => by simp at z) (fun _ => ?_)
    tm_at "g"
    refine ite_d (fun _ => ?_) (fun z => by simp at z)
    tm_at "g"
    refine ge_call (El := NoX) J hr passA ?_
    tm_at "g"
    refine JOk.join (ls := [movL x0, movL x1, movL x2]) jk la (by simp) fun j tt ts2 M s ja => ?_
    obtain ⟨tb, few, a1, a2, a3, a4⟩ := key j tt ts2 M s ja
    obtain ⟨dx, pp, mj, mp⟩ := ja.ex
    tm_at "g"
    refine gi_tup ja.t a1 ?_
    show GA _ _ _ _ _
    refine GA.ndc fun nd7 => ?_
    have mD := (s.to nd7).2 _ mem0
    tm_at "g"
    refine ge_call (El := NoX) JD hr passA ?_
    tm_at "g"
    refine JOk.joined (ls := [movL x0, movL x1, movL x2]) (jk.up (s.to nd7).2) la (by simp) ?_
    intro lt M2 s2 l2
    show GA _ _ _ _ _
    refine GA.ndc fun nd8 => ?_
    have up8 := (s2.to nd8).2
    tm_at "g"
    rename_i tp
    exact ⟨_, Sub.refl, q tp tb lt _ few _ ⟨fun nn => ⟨ndL, fun e he => memS (up8 _ ((s.to nd7).2 _ (uL e he)))⟩⟩ mem0 (a2.up fun _ h => memS (up8 _ h)) a3 a4 pb ((l2.of fun n => by rw [← ecj]; rfl).up fun _ h => memS h)⟩
  · refine ite_d (fun z => by simp at z) (fun _ => ?_)
    tm_at "g"
    refine ite_d (fun z => by simp at z) (fun _ => ?_)
    tm_at "g"
    refine ge_call (El := NoX) J hr passA ?_
    tm_at "g"
    refine JOk.join (ls := [movL x0, movL x1, movL x2, movL x3]) jk la (by simp) fun j tt ts2 M s ja => ?_
    obtain ⟨tb, few, a1, a2, a3, a4⟩ := key j tt ts2 M s ja
    obtain ⟨dx, pp, mj, mp⟩ := ja.ex
    show GSs _ _ _ _ _
    refine GSs.nd fun nd7 => ?_
    have mD := (s.to nd7).2 _ mem0
    tm_at "g"
    refine gi_tup ja.t a1 ?_
    tm_at "g"
    refine ge_call (El := NoX) JD hr passA ?_
    tm_at "g"
    refine JOk.joined (ls := [movL x0, movL x1, movL x2, movL x3]) (jk.up (s.to nd7).2) la (by simp) ?_
    intro lt M2 s2 l2
    show GA _ _ _ _ _
    refine GA.ndc fun nd8 => ?_
    have up8 := (s2.to nd8).2
    tm_at "g"
    rename_i tp
    exact ⟨_, Sub.refl, q tp tb lt _ few _ ⟨fun nn => ⟨ndL, fun e he => memS (up8 _ ((s.to nd7).2 _ (uL e he)))⟩⟩ mem0 (a2.up fun _ h => memS (up8 _ h)) a3 a4 pb ((l2.of fun n => by rw [← ecj]; rfl).up fun _ h => memS h)⟩
  · simp at len; omega
end
section
open Lt
variable {P : Program} {w : World} {K : PySem.W.Frag} {mg : Str → Option Value} {base : Heap} {C : Addr}
theorem fn_need_integer (F : Df K mg "need_integer" s_need_integer) (D1 : Fn P w K mg base CX0 "is_whole" 1 spWholeI) : Fn P w K mg base CX0 "need_integer" 2 spInteger := by
  refine fn_plain F sc_need_integer (fun _ _ _ _ _ _ us hl => match us, hl with | [_], _ => rfl) (by decide) (by tm_at "g_len") ?_
  intro X f cdv A outer s H E0 L vs Q E hX nd hr h
  subst hX
  obtain ⟨n, rfl, q⟩ := h
  show GSs _ (defBody s_need_integer) (bodyD Q) [("value", some (.int n))] L
  refine gss_cons ?_
  tm_at "g"
  refine ge_call (El := NoX) D1 hr passA ?_
  tm_at "g"
  refine ⟨n, rfl, ?_⟩
  tm_at "g"
  exact ⟨_, Sub.refl, q⟩
theorem Form.begins {S : Int → Prop} {q : Int} {few : List Rn} (h : Form S q few) : (few.map (·.1)).Pairwise (· ≤ ·) := by
  rcases h.runs with ⟨-, e⟩ | ⟨nf, -⟩
  · subst e
    simp
  · rw [List.pairwise_map]
    exact nf.lt.imp fun h => Int.le_of_lt h
theorem at_prVn {few : List Pr2} {i : Nat} {j : Int} (h : i < few.length) (e : j = (i : Int)) : ∃ x, few[i]? = some x ∧ (few.map (·.2)).getD i (0, 0) = x.2 ∧ x ∈ few ∧ atI (prV few) j = some (.ref x.1) := by
  subst e
  refine ⟨few[i], List.getElem?_eq_getElem h, ?_, List.getElem_mem h, atI_nat ?_⟩
  · rw [List.getD_eq_getElem?_getD, List.getElem?_map, List.getElem?_eq_getElem h]
    rfl
  · rw [show prV few = few.map fun e => V.ref e.1 from rfl, List.getElem?_map, List.getElem?_eq_getElem h]
    rfl
theorem at_prVl {few : List Pr2} (h : few ≠ []) : ∃ x, few[few.length - 1]? = some x ∧ (few.map (·.2)).getD ((few.map (·.2)).length - 1) (0, 0) = x.2 ∧ x ∈ few ∧ atI (prV few) (-1) = some (.ref x.1) := by
  have hl : 0 < few.length := List.length_pos_iff.mpr h
  have h1 : few.length - 1 < few.length := by omega
  refine ⟨few[few.length - 1], List.getElem?_eq_getElem h1, ?_, List.getElem_mem h1, ?_⟩
  · rw [List.length_map, List.getD_eq_getElem?_getD, List.getElem?_map, List.getElem?_eq_getElem h1]
    rfl
  · unfold atI ixN
    rw [if_neg (by decide), if_pos (by rw [prV_len]; omega)]
    show (prV few)[((prV few).length + -1 : Int).toNat]? = _
    rw [prV_len, show ((few.length : Int) + -1).toNat = few.length - 1 by omega, show prV few = few.map fun e => V.ref e.1 from rfl, List.getElem?_map, List.getElem?_eq_getElem h1]
    rfl
/-- at_least -/
def spAtLeast (K : PySem.W.Frag) : SpL := fun vs L Q _ => ∃ (a C dx : Addr) (q n : Int) (t : Addr) (few : List Pr2) (ob : Addr) (S : Int → Prop), vs = [.ref a, .int n] ∧ LotA K C ∧ LotAt C a dx q t few ob L ∧ Form S q (few.map (·.2)) ∧ few ≠ [] ∧ few.length ≤ 10000 ∧ ∀ m : Int, S m → n ≤ m → (∀ j, n ≤ j → j < m → ¬ S j) → Q (.int m) L
theorem body_Lot_at_least (B : Bi mg) (D1 : Fn P w K mg base CX0 "need_integer" 2 spInteger) (D2 : Fn P w K mg base CX0 "place_among" 1 spPlace) : BodyOf P w K mg base N_Lot_at_least "Lot.at_least" s_Lot_at_least 2 (spAtLeast K) := by
  intro X f cdv A outer s H E0 L vs Q E hX nd hr h
  subst hX
  obtain ⟨a, C, dx, q', n, t, few, ob, S, rfl, ⟨c, n1, n2, n3, n4⟩, at1, frm, ne, hl, q⟩ := h
  have mo := at1.o
  have mt := at1.t
  have mb := at1.ob
  have q0 := frm.pos
  show GSs _ (defBody s_Lot_at_least) (bodyD Q) [("self", some (.ref a)), ("n", some (.int n)), ("left", none), ("at", none)] L
  refine gss_cons ?_
  tm_at "g"
  refine ge_call (El := NoX) D1 hr passA ?_
  tm_at "g"
  refine ⟨n, rfl, ?_⟩
  tm_at "g"
  have l0 : 0 < few.length := List.length_pos_iff.mpr ne
  rw [prV_len]
  refine ite_d (fun z => absurd z (by omega)) fun _ => ?_
  tm_at "g"
  refine go_mod q0 ?_
  tm_at "g"
  refine ge_call (El := NoX) D2 hr passA ?_
  tm_at "g"
  have bg := Form.begins frm
  rw [List.map_map] at bg
  refine ⟨ob, few.map fun e => e.2.1, n % q' + 1, rfl, mb, by rw [List.length_map]; omega, bg, fun k bk => ?_⟩
  obtain ⟨m, m1, m2, m3, m4, m5⟩ := Form.at_least (n := n) (k := k) frm (by simpa using ne) (by rw [List.map_map]; exact bk)
  have kl : k ≤ few.length := by have := bk.1; rwa [List.length_map] at this
  obtain ⟨xl, gl, el, xm, al⟩ := at_prVl ne
  have pl := at1.ps xl xm
  rw [el] at m1 m2
  tm_at "g"
  have two : (0 < k ∧ ∃ x, (few.map (·.2)).getD (k - 1) (0, 0) = x.2 ∧ x ∈ few ∧ atI (prV few) ((k : Int) - 1) = some (.ref x.1)) ∨ k = 0 := by
    rcases Nat.eq_zero_or_pos k with z | z
    · exact .inr z
    · obtain ⟨x, gx, ex, xmem, ax⟩ := at_prVn (few := few) (i := k - 1) (j := (k : Int) - 1) (by omega) (by omega)
      exact .inl ⟨z, x, ex, xmem, ax⟩
  have fin : (¬ ((0 < k ∧ n % q' ≤ ((few.map (·.2)).getD (k - 1) (0, 0)).2) ∨ n % q' + q' ≤ xl.2.2)) → (∃ x, (if k < few.length then few[k]? = some x ∧ m = n - n % q' + x.2.1 else few[0]? = some x ∧ m = n - n % q' + q' + x.2.1)) := fun c => by
    have e := m2 c
    rw [List.length_map] at e
    by_cases kc : k < few.length
    · rw [if_pos kc] at e
      obtain ⟨x, gx, ex, -⟩ := at_prVn (few := few) (i := k) kc rfl
      rw [ex] at e
      exact ⟨x, by rw [if_pos kc]; exact ⟨gx, e⟩⟩
    · rw [if_neg kc] at e
      obtain ⟨x, gx, ex, -⟩ := at_prVn (few := few) (i := 0) l0 rfl
      rw [ex] at e
      exact ⟨x, by rw [if_neg kc]; exact ⟨gx, e⟩⟩
  refine ite_b (fun k0 => ?_) (fun k0 => ?_)
  · replace k0 := of_decide_eq_true k0
    obtain ⟨-, x, ex, xmem, ax⟩ := two.resolve_right (by omega)
    rw [ex] at m1 m2 fin
    have px := at1.ps x xmem
    tm_at "g"
    refine gi_tup mt ax ?_
    tm_at "g"
    refine ite_d (fun c1 => ?_) (fun c1 => ?_)
    · tm_at "g"
      refine ⟨_, Sub.refl, ?_⟩
      have e := m1 (.inl ⟨by omega, c1⟩)
      rw [← e]
      exact q m m3 m4 m5
    tm_at "g"
    refine gi_tup mt al ?_
    tm_at "g"
    refine ite_d (fun c2 => ?_) (fun c2 => ?_)
    · tm_at "g"
      refine ⟨_, Sub.refl, ?_⟩
      rw [← m1 (.inr c2)]
      exact q m m3 m4 m5
    obtain ⟨y, ey⟩ := fin (fun z => z.elim (fun u => c1 u.2) c2)
    tm_at "g"
    rw [prV_len]
    refine ite_d (fun c3 => ?_) (fun c3 => ?_)
    · rw [if_pos (by omega)] at ey
      tm_at "g"
      refine gi_lst mb (v := .int y.2.1) (atI_nat (by rw [List.getElem?_map, List.getElem?_map, ey.1]; rfl)) ?_
      tm_at "g"
      refine ⟨_, Sub.refl, ?_⟩
      rw [← ey.2]
      exact q m m3 m4 m5
    · rw [if_neg (by omega)] at ey
      tm_at "g"
      refine gi_lst mb (v := .int y.2.1) (atI_nat (j := 0) (by rw [List.getElem?_map, List.getElem?_map, ey.1]; rfl)) ?_
      tm_at "g"
      refine ⟨_, Sub.refl, ?_⟩
      rw [← ey.2]
      exact q m m3 m4 m5
  · replace k0 := of_decide_eq_false k0
    tm_at "g"
    refine gi_tup mt al ?_
    tm_at "g"
    refine ite_d (fun c2 => ?_) (fun c2 => ?_)
    · tm_at "g"
      refine ⟨_, Sub.refl, ?_⟩
      rw [← m1 (.inr c2)]
      exact q m m3 m4 m5
    obtain ⟨y, ey⟩ := fin (fun z => z.elim (fun u => k0 (by omega)) c2)
    tm_at "g"
    rw [prV_len]
    refine ite_d (fun c3 => ?_) (fun c3 => ?_)
    · rw [if_pos (by omega)] at ey
      tm_at "g"
      refine gi_lst mb (v := .int y.2.1) (atI_nat (by rw [List.getElem?_map, List.getElem?_map, ey.1]; rfl)) ?_
      tm_at "g"
      refine ⟨_, Sub.refl, ?_⟩
      rw [← ey.2]
      exact q m m3 m4 m5
    · rw [if_neg (by omega)] at ey
      tm_at "g"
      refine gi_lst mb (v := .int y.2.1) (atI_nat (j := 0) (by rw [List.getElem?_map, List.getElem?_map, ey.1]; rfl)) ?_
      tm_at "g"
      refine ⟨_, Sub.refl, ?_⟩
      rw [← ey.2]
      exact q m m3 m4 m5
theorem run_Lot_at_least (B : Bi mg) {f : Addr} {fd : FuncData} (F : Fun K "at_least" "Lot.at_least" s_Lot_at_least f fd) (D1 : Fn P w K mg base CX0 "need_integer" 2 spInteger) (D2 : Fn P w K mg base CX0 "place_among" 1 spPlace) : RunG P w K mg base CX0 3 f argsP (toSp (spAtLeast K)) :=
  run_plain F sc_Lot_at_least argsP id id (fun _ _ r => r) (fun _ _ _ _ _ _ us hl => match us, hl with | [_, _], _ => rfl) (by decide) (by tm_at "g_len") (body_Lot_at_least B D1 D2)
end
section
open Lt
variable {P : Program} {w : World} {K : PySem.W.Frag} {mg : Str → Option Value} {base : Heap} {C : Addr}
theorem if_max {i j : Int} : (if i < j then j else i) = max i j := by
  rw [Int.max_def]
  split <;> split <;> omega
/-- at_most -/
def spAtMost (K : PySem.W.Frag) : SpL := fun vs L Q _ => ∃ (a C dx : Addr) (q n : Int) (t : Addr) (few : List Pr2) (ob : Addr) (S : Int → Prop), vs = [.ref a, .int n] ∧ LotA K C ∧ LotAt C a dx q t few ob L ∧ Form S q (few.map (·.2)) ∧ few ≠ [] ∧ few.length ≤ 10000 ∧ ∀ m : Int, S m → m ≤ n → (∀ j, m < j → j ≤ n → ¬ S j) → Q (.int m) L
theorem body_Lot_at_most (B : Bi mg) (D1 : Fn P w K mg base CX0 "need_integer" 2 spInteger) (D2 : Fn P w K mg base CX0 "place_among" 1 spPlace) : BodyOf P w K mg base N_Lot_at_most "Lot.at_most" s_Lot_at_most 2 (spAtMost K) := by
  intro X f cdv A outer s H E0 L vs Q E hX nd hr h
  subst hX
  obtain ⟨a, C, dx, q', n, t, few, ob, S, rfl, ⟨c, n1, n2, n3, n4⟩, at1, frm, ne, hl, q⟩ := h
  have mo := at1.o
  have mt := at1.t
  have mb := at1.ob
  have q0 := frm.pos
  show GSs _ (defBody s_Lot_at_most) (bodyD Q) [("self", some (.ref a)), ("n", some (.int n)), ("left", none), ("at", none)] L
  refine gss_cons ?_
  tm_at "g"
  refine ge_call (El := NoX) D1 hr passA ?_
  tm_at "g"
  refine ⟨n, rfl, ?_⟩
  tm_at "g"
  have l0 : 0 < few.length := List.length_pos_iff.mpr ne
  rw [prV_len]
  refine ite_d (fun z => absurd z (by omega)) fun _ => ?_
  tm_at "g"
  refine go_mod q0 ?_
  tm_at "g"
  refine ge_call (El := NoX) D2 hr passA ?_
  tm_at "g"
  have bg := Form.begins frm
  rw [List.map_map] at bg
  refine ⟨ob, few.map fun e => e.2.1, n % q' + 1, rfl, mb, by rw [List.length_map]; omega, bg, fun k bk => ?_⟩
  obtain ⟨m, m1, m2, m3, m4, m5⟩ := Form.at_most (n := n) (k := k) frm (by simpa using ne) (by rw [List.map_map]; exact bk)
  have kl : k ≤ few.length := by have := bk.1; rwa [List.length_map] at this
  obtain ⟨xl, gl, el, xm, al⟩ := at_prVl ne
  have pl := at1.ps xl xm
  rw [el] at m1 m2
  tm_at "g"
  have two : (0 < k ∧ ∃ x, (few.map (·.2)).getD (k - 1) (0, 0) = x.2 ∧ x ∈ few ∧ atI (prV few) ((k : Int) - 1) = some (.ref x.1)) ∨ k = 0 := by
    rcases Nat.eq_zero_or_pos k with z | z
    · exact .inr z
    · obtain ⟨x, gx, ex, xmem, ax⟩ := at_prVn (few := few) (i := k - 1) (j := (k : Int) - 1) (by omega) (by omega)
      exact .inl ⟨z, x, ex, xmem, ax⟩
  refine ite_b (fun k0 => ?_) (fun k0 => ?_)
  · replace k0 := of_decide_eq_true k0
    obtain ⟨-, x, ex, xmem, ax⟩ := two.resolve_right (by omega)
    rw [ex] at m1 m2
    rw [if_pos (by omega)] at m2
    have px := at1.ps x xmem
    tm_at "g"
    refine gi_tup mt ax ?_
    tm_at "g"
    refine ite_d (fun c1 => ?_) (fun c1 => ?_)
    · tm_at "g"
      refine ⟨_, Sub.refl, ?_⟩
      have e := m1 (.inl ⟨by omega, c1⟩)
      rw [← e]
      exact q m m3 m4 m5
    tm_at "g"
    refine gi_tup mt al ?_
    tm_at "g"
    refine ite_d (fun c2 => ?_) (fun c2 => ?_)
    · tm_at "g"
      refine ⟨_, Sub.refl, ?_⟩
      rw [← m1 (.inr c2)]
      exact q m m3 m4 m5
    have e := m2 fun z => z.elim (fun u => c1 u.2) c2
    tm_at "g"
    refine ite_d (fun c3 => ?_) (fun c3 => absurd (by omega) c3)
    tm_at "g"
    refine gi_tup mt ax ?_
    tm_at "g"
    refine ⟨_, Sub.refl, ?_⟩
    rw [← e]
    exact q m m3 m4 m5
  · replace k0 := of_decide_eq_false k0
    rw [if_neg (by omega)] at m2
    tm_at "g"
    refine gi_tup mt al ?_
    tm_at "g"
    refine ite_d (fun c2 => ?_) (fun c2 => ?_)
    · tm_at "g"
      refine ⟨_, Sub.refl, ?_⟩
      rw [← m1 (.inr c2)]
      exact q m m3 m4 m5
    have e := m2 fun z => z.elim (fun u => k0 (by omega)) c2
    tm_at "g"
    refine ite_d (fun c3 => absurd c3 (by omega)) (fun c3 => ?_)
    tm_at "g"
    refine gi_tup mt al ?_
    tm_at "g"
    refine ⟨_, Sub.refl, ?_⟩
    rw [← e]
    exact q m m3 m4 m5
/-- below -/
def spBelow (K : PySem.W.Frag) (C : Addr) : SpL := fun vs L Q _ => ∃ (a dx : Addr) (q n : Int) (t : Addr) (few : List Pr2) (ob : Addr), vs = [.ref a, .int n] ∧ LotA K C ∧ LotAt C a dx q t few ob L ∧ 0 < q ∧ q.natAbs < 2 ^ 2000 ∧ (lens (few.map (·.2))).sum.natAbs < 2 ^ 2000 ∧ n.natAbs < 2 ^ 4000 ∧ few.length ≤ 10000 ∧ Q (.int (belowL q (lens (few.map (·.2))).sum (few.map (·.2)) n)) L
theorem run_Lot_below (B : Bi mg) {f : Addr} {fd : FuncData} (F : Fun K "below" "Lot.below" s_Lot_below f fd) : RunG P w K mg base CX0 1 f argsP (toSp (spBelow K C)) := by
  refine run_plain F sc_Lot_below argsP id id (fun _ _ r => r) (fun _ _ _ _ _ _ us hl => match us, hl with | [_, _], _ => rfl) (by decide) (by tm_at "g_len") ?_
  intro X f cdv A outer s H E0 L vs Q E hX nd hr h
  subst hX
  obtain ⟨a, dx, q', n, t, few, ob, rfl, ⟨c, n1, n2, n3, n4⟩, at1, q0, qb, sb, nb, hl, q⟩ := h
  have mo := at1.o
  have mt := at1.t
  show GSs _ (defBody s_Lot_below) (bodyD Q) [("self", some (.ref a)), ("n", some (.int n)), ("turns", none), ("left", none), ("wrapped", none), ("run", none)] L
  refine gss_cons ?_
  tm_at "g"
  refine go_divK (k := 2000) q0 qb (by decide) ?_
  tm_at "g"
  refine go_mod q0 ?_
  refine ga_nil ⟨szL (show (2 : Nat) ≤ 16777216 by decide), fun tp => ?_⟩
  refine gg_tup mem0 ?_
  tm_at "g"
  rw [prV_len]
  refine gif_imp (Q' := fun v M => v = .int (wrapd q' (few.map (·.2)) (n % q')) ∧ M = (tp, HO.tup [.int (n / q'), .int (n % q')]) :: L) ?_ ?_
  · unfold wrapd
    rw [List.length_map]
    refine ite_d (fun z => ?_) (fun z => ?_)
    · have ne : few ≠ [] := fun y => by rw [y] at z; simp at z
      obtain ⟨xl, gl, el, xm, al⟩ := at_prVl ne
      rw [List.length_map] at el
      have pl := memS (b := (tp, HO.tup [.int (n / q'), .int (n % q')])) (at1.ps xl xm)
      rw [if_pos (by omega), el]
      tm_at "g"
      refine gi_tup (memS mt) al ?_
      tm_at "g"
      rw [if_min, if_max]
      exact ⟨rfl, rfl⟩
    · rw [if_neg (by omega)]
      tm_at "g"
      exact ⟨rfl, rfl⟩
  rintro v M ⟨rfl, rfl⟩
  tm_at "g"
  have tb : (n / q').natAbs < 2 ^ 4000 := Nat.lt_of_le_of_lt (Int.natAbs_ediv_le_natAbs _ _) nb
  refine go_mul (wide_mul tb sb (by decide) (by decide) (by decide)) ?_
  tm_at "g"
  refine ge_lcP (by tm_at "g_put") (gi_tuple ?_) (show blkC N_Lot_below (defScope s_Lot_below) _ [(_, List.idxOf _ N_Lot_below)] = true by decide +kernel)
  tm_at "g"
  refine pure_rowPr (t := fun _ => true) (g := fun e => .int (part (n % q') e.2)) (memS mt) (by omega) (fun e he D acc s1 H1 C1 cl1 fp1 => ?_) fun D => ?_
  · have me := memS (b := (tp, HO.tup [.int (n / q'), .int (n % q')])) (at1.ps e he)
    refine gts_nil ⟨rfl, Sub.refl, fun _ s2 H2 C2 cl2 fp2 => ?_⟩
    tm_at "g"
    refine ⟨?_, Sub.refl⟩
    rw [if_min, show (∀ i j : Int, (if i > j then i else j) = max j i) from fun i j => if_max]
    rfl
  rw [List.filter_eq_self.mpr fun _ _ => rfl, show few.map (fun e : Pr2 => V.int (part (n % q') e.2)) = ((few.map (·.2)).map (part (n % q'))).map V.int by rw [List.map_map, List.map_map]; rfl]
  tm_at "g"
  refine gc_sumI (by rfl) mem0 ?_
  tm_at "g"
  exact ⟨_, Sub.trans Sub.drop Sub.drop, q⟩
theorem size_le {S : Int → Prop} {q : Int} {few : List Pr2} (f : Form S q (few.map (·.2))) : 0 ≤ (lens (few.map (·.2))).sum ∧ (lens (few.map (·.2))).sum ≤ q := by
  refine ⟨sum_nonneg fun x hx => ?_, f.few_members⟩
  unfold lens at hx
  obtain ⟨r, hr, rfl⟩ := List.mem_map.mp hx
  have := f.le r hr
  omega
/-- how_many -/
def spHow (K : PySem.W.Frag) (C : Addr) : SpL := fun vs L Q _ => ∃ (a : Addr) (lo hi : Int) (S : Int → Prop), vs = [.ref a, .int lo, .int hi] ∧ LotA K C ∧ LotS C S a L ∧ (∀ q few, Form S q few → q < 2 ^ 2000) ∧ lo.natAbs < 2 ^ 3000 ∧ hi.natAbs < 2 ^ 3000 ∧ Q (.int (if lo ≤ hi then cntS S lo (hi + 1 - lo).toNat else 0 : Nat)) L
theorem body_Lot_how_many (B : Bi mg) (D1 : Fn P w K mg base CX0 "need_integer" 2 spInteger) {g : Addr} (hm : Meth K C "below" g) (Rb : RunG P w K mg base CX0 1 g argsP (toSp (spBelow K C))) : BodyOf P w K mg base N_Lot_how_many "Lot.how_many" s_Lot_how_many 2 (spHow K C) := by
  intro X f cdv A outer s H E0 L vs Q E hX nd hr h
  subst hX
  obtain ⟨a, lo, hi, S, rfl, la, ls, qb, lb, hb, q⟩ := h
  obtain ⟨dx, q1, t, few, ob, at1, frm, fl⟩ := id ls.ex
  have mo := at1.o
  have q0 := frm.pos
  have qb := qb _ _ frm
  have qb' : q1.natAbs < 2 ^ 2000 := by omega
  have sl := size_le frm
  have sb : (lens (few.map (·.2))).sum.natAbs < 2 ^ 2000 := by omega
  have e3 : (2 : Nat) ^ 3000 * 2 ≤ 2 ^ 4000 := by rw [← Nat.pow_succ]; exact Nat.pow_le_pow_right (by decide) (by decide)
  have e4 : 1 ≤ (2 : Nat) ^ 3000 := Nat.one_le_two_pow
  show GSs _ (defBody s_Lot_how_many) (bodyD Q) [("self", some (.ref a)), ("low", some (.int lo)), ("high", some (.int hi))] L
  refine gss_cons ?_
  tm_at "g"
  refine ge_call (El := NoX) D1 hr passA ?_
  tm_at "g"
  refine ⟨lo, rfl, ?_⟩
  tm_at "g"
  refine ge_call (El := NoX) D1 hr passA ?_
  tm_at "g"
  refine ⟨hi, rfl, ?_⟩
  tm_at "g"
  refine ite_d (fun z => ?_) (fun z => ?_)
  · rw [if_pos z] at q
    tm_at "g"
    refine ge_meth (El := NoX) Rb hm la.1 hr passA ?_
    tm_at "g"
    refine ⟨a, dx, _, rfl, mo, rfl, ?_⟩
    tm_at "g"
    refine ⟨a, dx, q1, _, t, few, ob, rfl, la, at1, q0, qb', sb, by generalize (2 : Nat) ^ 3000 = Z at *; omega, by omega, ?_⟩
    tm_at "g"
    refine ge_meth (El := NoX) Rb hm la.1 hr passA ?_
    tm_at "g"
    refine ⟨a, dx, _, rfl, mo, rfl, ?_⟩
    tm_at "g"
    refine ⟨a, dx, q1, _, t, few, ob, rfl, la, at1, q0, qb', sb, by generalize (2 : Nat) ^ 3000 = Z at *; omega, by omega, ?_⟩
    tm_at "g"
    have e := frm.below_cnt lo (hi + 1 - lo).toNat
    rw [show lo + (((hi + 1 - lo).toNat : Nat) : Int) = hi + 1 by omega] at e
    have e1 : belowL q1 (lens (few.map (·.2))).sum (few.map (·.2)) (hi + 1) = belowL q1 (lens (few.map (·.2))).sum (few.map (·.2)) lo + (cntS S lo (hi + 1 - lo).toNat : Nat) := e
    have e2 : belowL q1 (lens (few.map (·.2))).sum (few.map (·.2)) (hi + 1) - belowL q1 (lens (few.map (·.2))).sum (few.map (·.2)) lo = (cntS S lo (hi + 1 - lo).toNat : Nat) := by omega
    rw [e2]
    exact ⟨_, Sub.refl, q⟩
  · rw [if_neg z] at q
    tm_at "g"
    exact ⟨_, Sub.refl, q⟩
/-- member_at -/
theorem run_Lot_at_most (B : Bi mg) {f : Addr} {fd : FuncData} (F : Fun K "at_most" "Lot.at_most" s_Lot_at_most f fd) (D1 : Fn P w K mg base CX0 "need_integer" 2 spInteger) (D2 : Fn P w K mg base CX0 "place_among" 1 spPlace) : RunG P w K mg base CX0 3 f argsP (toSp (spAtMost K)) :=
  run_plain F sc_Lot_at_most argsP id id (fun _ _ r => r) (fun _ _ _ _ _ _ us hl => match us, hl with | [_, _], _ => rfl) (by decide) (by tm_at "g_len") (body_Lot_at_most B D1 D2)
theorem run_Lot_how_many (B : Bi mg) {f : Addr} {fd : FuncData} (F : Fun K "how_many" "Lot.how_many" s_Lot_how_many f fd) (D1 : Fn P w K mg base CX0 "need_integer" 2 spInteger) {g : Addr} (hm : Meth K C "below" g) (Rb : RunG P w K mg base CX0 1 g argsP (toSp (spBelow K C))) : RunG P w K mg base CX0 3 f argsP (toSp (spHow K C)) :=
  run_plain F sc_Lot_how_many argsP id id (fun _ _ r => r) (fun _ _ _ _ _ _ us hl => match us, hl with | [_, _, _], _ => rfl) (by decide) (by tm_at "g_len") (body_Lot_how_many B D1 hm Rb)
theorem LotS.least {S : Int → Prop} {a : Addr} {n : Int} {L : Lg} {Q : QV} {E : XL} (la : LotA K C) (h : LotS C S a L) (ex : ∃ n, S n) (q : ∀ m : Int, S m → n ≤ m → (∀ j, n ≤ j → j < m → ¬ S j) → Q (.int m) L) : spAtLeast K [.ref a, .int n] L Q E := by
  obtain ⟨dx, q1, t, few, ob, x, f, l⟩ := h.ex
  obtain ⟨n0, hn0⟩ := ex
  refine ⟨a, C, dx, q1, n, t, few, ob, S, rfl, la, x, f, fun e => ?_, by omega, q⟩
  obtain ⟨r, hr', -⟩ := (f.tell n0).mpr hn0
  rw [e] at hr'
  exact nomatch hr'
theorem LotS.most {S : Int → Prop} {a : Addr} {n : Int} {L : Lg} {Q : QV} {E : XL} (la : LotA K C) (h : LotS C S a L) (ex : ∃ n, S n) (q : ∀ m : Int, S m → m ≤ n → (∀ j, m < j → j ≤ n → ¬ S j) → Q (.int m) L) : spAtMost K [.ref a, .int n] L Q E := by
  obtain ⟨dx, q1, t, few, ob, x, f, l⟩ := h.ex
  obtain ⟨n0, hn0⟩ := ex
  refine ⟨a, C, dx, q1, n, t, few, ob, S, rfl, la, x, f, fun e => ?_, by omega, q⟩
  obtain ⟨r, hr', -⟩ := (f.tell n0).mpr hn0
  rw [e] at hr'
  exact nomatch hr'
theorem LotS.obj {S : Int → Prop} {a : Addr} {L : Lg} (h : LotS C S a L) : ∃ dx q t s ob, (a, lotO C dx q t s ob) ∈ L := by
  obtain ⟨dx, q1, t, few, ob, x, f, l⟩ := h.ex
  exact ⟨dx, q1, t, _, ob, x.o⟩
end
section
open Lt
variable {P : Program} {w : World} {K : PySem.W.Frag} {mg : Str → Option Value} {base : Heap} {C D : Addr}
/-- far integers (kept closed) -/
def Far (n : Int) : Prop := n.natAbs < 2 ^ 300
theorem Far.smN {n m : Int} {p : Nat} (h : Far n) (pb : p < 2 ^ 200) (a : n - 2 * p ≤ m) (b : m ≤ n + 2 * p) : Sm p m := by
  refine ⟨pb, ?_⟩
  unfold Far at h
  have e : (2 : Nat) ^ 302 = 4 * 2 ^ 300 := by rw [show 302 = 300 + 2 by rfl, Nat.pow_add]; rfl
  have e1 : (2 : Nat) ^ 302 ≤ 2 ^ 1000 := Nat.pow_le_pow_right (by decide) (by decide)
  have e2 : (2 : Nat) ^ 200 ≤ 2 ^ 300 := Nat.pow_le_pow_right (by decide) (by decide)
  rw [e] at e1
  generalize (2 : Nat) ^ 1000 = A at *
  generalize (2 : Nat) ^ 300 = B at *
  generalize (2 : Nat) ^ 200 = D at *
  clear e
  omega
theorem Far.how {n m : Int} {p : Nat} (h : Far n) (pb : p < 2 ^ 200) (a : n - 7 * p ≤ m) (b : m ≤ n + 7 * p) : m.natAbs < 2 ^ 3000 := by
  unfold Far at h
  have e : (2 : Nat) ^ 304 = 16 * 2 ^ 300 := by rw [show 304 = 300 + 4 by rfl, Nat.pow_add]; rfl
  have e1 : (2 : Nat) ^ 304 ≤ 2 ^ 3000 := Nat.pow_le_pow_right (by decide) (by decide)
  have e2 : (2 : Nat) ^ 200 ≤ 2 ^ 300 := Nat.pow_le_pow_right (by decide) (by decide)
  rw [e] at e1
  generalize (2 : Nat) ^ 3000 = A at *
  generalize (2 : Nat) ^ 300 = B at *
  generalize (2 : Nat) ^ 200 = D at *
  clear e
  omega
theorem far_of {n : Int} {p : Nat} (pb : p < 2 ^ 200) (h : n.natAbs ≤ p ∨ n.natAbs ≤ 10 ^ 60 + 10 ^ 9) : Far n := by
  unfold Far
  have e2 : (2 : Nat) ^ 200 ≤ 2 ^ 300 := Nat.pow_le_pow_right (by decide) (by decide)
  rcases h with h | h
  · exact Nat.lt_of_le_of_lt h (Nat.lt_of_lt_of_le pb e2)
  · exact Nat.lt_of_le_of_lt h (by decide +kernel)
/-- what the law has of a turn -/
structure Turn (C : Addr) (ts : List MQ) (sq tb lt : Addr) (p : Nat) (r : Addr) (ps : List Pr2) (R : Lg) : Prop where
  ms : (sq, HO.lst (mqV ts)) ∈ R
  tr : Trs ts R
  l4 : ts.length ≤ 4
  ok : ∀ x ∈ ts, MvOk x
  mt : (tb, HO.tup [.int p, .ref r]) ∈ R
  mr : (r, HO.tup (prV ps)) ∈ R
  pp : Prs2 ps R
  len : ps.length ≤ 2000
  lot : LotS C (nearAll ts) lt R
theorem Turn.up {ts : List MQ} {sq tb lt : Addr} {p : Nat} {r : Addr} {ps : List Pr2} {R M : Lg} (h : Turn C ts sq tb lt p r ps R) (u : ∀ e ∈ R, e ∈ M) : Turn C ts sq tb lt p r ps M := ⟨u _ h.ms, h.tr.up u, h.l4, h.ok, u _ h.mt, u _ h.mr, h.pp.mono u, h.len, h.lot.up u⟩
theorem Turn.rest {ts : List MQ} {sq tb lt : Addr} {p : Nat} {r : Addr} {ps : List Pr2} {pp c : Addr} {n m : Int} {R N : Lg} (h : Turn C ts sq tb lt p r ps R) (k : ∀ x ∈ R, x = (pp, penO c n m) ∨ x ∈ N) : Turn C ts sq tb lt p r ps N := by
  have ne : ∀ {x : Addr × HO}, x ∈ R → x.2 ≠ penO c n m → x ∈ N := fun hx z => (k _ hx).resolve_left fun e => z (by rw [e])
  refine ⟨ne h.ms (fun e => ?_), (fun x hx => ne (h.tr x hx) (fun e => nomatch e)), h.l4, h.ok, ne h.mt (fun e => nomatch e), ne h.mr (fun e => nomatch e), (fun e he => ne (h.pp e he) (fun e => nomatch e)), h.len, ?_⟩
  · have e' : mqV ts = [.ref c, .int n, .int m] := HO.lst.inj e
    unfold mqV at e'
    match ts, e' with
    | _ :: _ :: _, e' => exact nomatch (List.cons.inj (List.cons.inj e').2).1
  · obtain ⟨dx, q1, t, few, ob, x, f, l⟩ := h.lot.ex
    exact ⟨dx, q1, t, few, ob, x.rest k, f, l⟩
/-- what the table of a turn tells -/
structure TabF (S : Int → Prop) (p : Nat) (few : List Rn) : Prop where
  t : Tab S p few
  nf : NF 0 (p : Int) few
  al : ∀ n, Lt.In (p : Int) few n ↔ S n
  pb : p < 2 ^ 200
theorem TabF.bd {S : Int → Prop} {p : Nat} {few : List Rn} (h : TabF S p few) : ∀ r ∈ few, 0 ≤ r.1 ∧ r.1 ≤ r.2 ∧ r.2 < 2 * p := fun r hr => by
  have a := h.nf.wd r hr
  have b := h.nf.cl r hr r hr
  have c := h.nf.le r hr
  omega
theorem nearAll_hole {ts : List MQ} (l2 : 2 ≤ ts.length) (ok : ∀ x ∈ ts, MvOk x) : ∃ n, ¬ nearAll ts n := by
  match ts, l2 with
  | x :: ts, _ =>
    obtain ⟨n, hn⟩ := mov_hole (ok x List.mem_cons_self).1
    exact ⟨n, fun h => hn (h x List.mem_cons_self)⟩
theorem TabF.of {S : Int → Prop} {p : Nat} {few : List Rn} (t : Tab S p few) (pb : p < 2 ^ 200) (no : ∃ n, ¬ S n) : TabF S p few := by
  rcases t.runs with ⟨a, -⟩ | ⟨nf, al⟩
  · obtain ⟨n, hn⟩ := no
    exact absurd (a n) hn
  · exact ⟨t, nf, al, pb⟩
end
section
open Lt
variable {P : Program} {w : World} {K : PySem.W.Frag} {mg : Str → Option Value} {base : Heap} {C D : Addr}
theorem GGsubM {X : Cx} {es : List Expr} {vs : List V} {η : En} {L M : Lg} {Q : En → Lg → Prop} (s : Sub M L) (h : GGs X es vs η M Q) : GGs X es vs η L Q := fun hN H hH => h hN H (s.has H hH)
theorem shape_runs {rs : List Rn} : SeqAt.shaped (.tuple (rs.map P2)) = true := by
  have a := depthPs rs
  have b := layPs rs
  simp [SeqAt.shaped, PyData.canLay0, PyData.depth, b]
  omega
theorem eqv_runs {rs : List Rn} : PyData.eqv (.tuple (rs.map P2)) (.tuple []) = decide (rs = []) := by
  have e := eqvPs rs []
  rw [PyData.eqv]
  exact e
theorem small_int {p : Nat} (h : p < 2 ^ 200) : (p : Int) < 2 ^ 2000 := by
  have e : p < 2 ^ 2000 := Nat.lt_of_lt_of_le h (Nat.pow_le_pow_right (by decide) (by decide))
  have e2 : ((p : Nat) : Int) < ((2 ^ 2000 : Nat) : Int) := Int.ofNat_lt.mpr e
  rw [Int.natCast_pow] at e2
  exact e2
/-- what the law asks of lots -/
structure Ask (P : Program) (w : World) (K : PySem.W.Frag) (mg : Str → Option Value) (base : Heap) (C : Addr) where
  gl : Addr
  ml : Meth K C "at_least" gl
  Rl : RunG P w K mg base CX0 3 gl argsP (toSp (spAtLeast K))
  gm : Addr
  mm : Meth K C "at_most" gm
  Rm : RunG P w K mg base CX0 3 gm argsP (toSp (spAtMost K))
  gh : Addr
  mh : Meth K C "how_many" gh
  Rh : RunG P w K mg base CX0 3 gh argsP (toSp (spHow K C))
  nb : PySem.W.findIn K (.ref C) "__bool__" = some none
  gn : Addr
  ln : PySem.W.findIn K (.ref C) "__len__" = some (some (.ref gn))
  fn : PySem.W.isFn K (.ref gn) = true
  Rn : RunG P w K mg base CX0 1 gn argsP (toSp (spLotLen K))
theorem law_body (B : Bi mg) (A0 : Fn P w K mg base CX0 "_law_pen" 1 (fun vs L Q _ => ∃ (a : Addr) (ns : List Int), vs = [.ref a] ∧ InL K L a (ns.map V.int) ∧ ∀ p c ms, ms.length ≤ 63 → Q (.ref p) ((p, penO c 0 0) :: (c, celO ms) :: L)))
    (Ad : Fn P w K mg base CX0 "_law_draw" 1 spDraw) (Ab : Fn P w K mg base CX0 "_law_draw" 1 spDrawB) (Ap : Fn P w K mg base CX0 "_law_pick" 2 spPick) (A1 : Fn P w K mg base CX0 "_law_some" 3 spSome) (A2 : Fn P w K mg base CX0 "_law_table" 10 (spTable21 C)) (A3 : Fn P w K mg base CX0 "_law_next" 1 spNext21) (A4 : Fn P w K mg base CX0 "_law_is_in" 1 spIsInM) (A5 : Fn P w K mg base CX0 "_law_many" 1 spMany21) (S0 : LotB P w K mg base C) (AK : Ask P w K mg base C) : BodyOf P w K mg base N_law "law" s_law 11 (spLaw K (tabsL [])) := by
  intro X f cdv A outer s H E0 L vs Q E hX nd hr h
  subst hX
  obtain ⟨a, ns, _, rfl, rfl, hi, -, q⟩ := h
  have hC := S0.hC
  have la := S0.la
  show GSs _ (defBody s_law) (bodyD Q) [("_law_script", some (.ref a)), ("_law_pen_here", none), ("_law_turn", none), ("_law_some_here", none), ("_law_table_here", none), ("_law_made", none), ("_law_period", none), ("_law_runs", none), ("_law_lap", none), ("_law_far", none), ("_law_above", none), ("_law_below", none), ("_law_high", none), ("_law_begin", none), ("_law_end", none)] _
  refine gss_cons ?_
  tm_at "g"
  refine ge_call (El := NoX) A0 hr passA ?_
  tm_at "g"
  refine ⟨a, ns, rfl, hi, fun p c ms h63 => ?_⟩
  tm_at "g"
  refine gs_for (gi_range1 ?_ B.range)
  tm_at "g"
  refine ⟨by decide, fun i θ N => ∃ (u1 u2 u3 u4 u5 u6 u7 u8 u9 u10 u11 u12 u13 : Option V) (n m : Int), θ = ([("_law_script", some (.ref a)), ("_law_pen_here", some (.ref p)), ("_law_turn", u1), ("_law_some_here", u2), ("_law_table_here", u3), ("_law_made", u4), ("_law_period", u5), ("_law_runs", u6), ("_law_lap", u7), ("_law_far", u8), ("_law_above", u9), ("_law_below", u10), ("_law_high", u11), ("_law_begin", u12), ("_law_end", u13)] : En) ∧ Sub ((p, penO c n m) :: (c, celO ms) :: L) N ∧ 0 ≤ n ∧ n ≤ 500 * (i : Int) ∧ 0 ≤ m, ⟨none, none, none, none, none, none, none, none, none, none, none, none, none, 0, 0, rfl, Sub.refl, by decide, by decide, by decide⟩, fun _ _ _ _ _ _ => True.intro, ?_, ?_⟩
  · rintro i x E1 θ N hi ⟨rfl, rfl⟩ ⟨u1, u2, u3, u4, u5, u6, u7, u8, u9, u10, u11, u12, u13, n, m, rfl, sb, n0, n1, m0⟩
    dsimp only [List.nil_append] at hi ⊢
    have hi6 : i < 6 := hi
    refine gg_name (by tm_at "g_pv") ?_
    refine GSs.sub sb ?_
    refine GSs.nd fun nd0 => ?_
    tm_at "g"
    refine ge_call (El := NoX) A1 hr passA ?_
    tm_at "g"
    refine ⟨p, c, ms, n, m, _, rfl, Sub.refl, h63, n0, by omega, m0, fun sq ts R1 n2 m2 sR1 msq htr l2 l4 ok a0 a1 a2 => ?_⟩
    tm_at "g"
    refine ge_call (El := NoX) A2 hr passA ?_
    tm_at "g"
    refine ⟨sq, ts, rfl, memS (memS msq), htr.up fun _ h => memS (memS h), l2, l4, ok, fun t tb lt P0 few M sM mt tl tb0 lf pb lot => ?_⟩
    have no := nearAll_hole l2 ok
    have T := TabF.of tb0 pb no
    obtain ⟨r, ps, e1, e2, e3, e4⟩ := tl.ex
    subst e4
    rw [List.length_map] at lf
    refine gg_tup (xs := [.ref tb, .ref lt]) mt ?_
    show GGs _ _ _ _ _ _
    refine GGs.ndc fun nd1 => ?_
    have up1 := (sM.to nd1).2
    have tu : Turn C ts sq tb lt P0 r ps M := ⟨up1 _ (memS (memS msq)), htr.up fun _ h => up1 _ (memS (memS h)), l4, ok, e1, e2, e3, lf, lot⟩
    obtain ⟨R2, pm, k1, k2⟩ := pen_out nd1 sM
    replace tu := tu.rest k2
    have ndL := (List.nodup_cons.mp (List.nodup_cons.mp nd0).2).2
    have uL : ∀ e ∈ L, e ∈ R2 := fun e he => k1 _ ((sR1.to (List.nodup_cons.mp (List.nodup_cons.mp (sM.to nd1).1).2).2).2 _ he)
    have p0 := T.t.pos
    have tu2 : Turn C ts sq tb lt P0 r ps ((p, penO c n2 m2) :: (c, celO ms) :: R2) := tu.up fun _ h => memS h
    have mt2 := tu2.mt
    have mr2 := tu2.mr
    refine GGsubM (Sub.perm pm.symm) ?_
    tm_at "g"
    rename_i te
    refine go_eqD hr.toRoom (dl_prT (memS mr2) rfl (tu2.pp.mono fun _ h => memS h)) (dl_tup mem0 dls_nil) shape_runs (shape_runs (rs := [])) ?_
    rw [eqv_runs]
    by_cases hz : ps = []
    · have none : ∀ n, ¬ nearAll ts n := fun n hn => by
        obtain ⟨e, he, -⟩ := (T.al n).mpr hn
        rw [hz] at he
        exact nomatch he
      have tuE : Turn C ts sq tb lt P0 r ps ((te, HO.tup []) :: (p, penO c n2 m2) :: (c, celO ms) :: R2) := tu2.up fun _ h => memS h
      obtain ⟨dxl, ql, tl', fwl, obl, atl, fml, lfl⟩ := id tuE.lot.ex
      have fwe : fwl = [] := by
        cases fwl with
        | nil => rfl
        | cons e l => exact absurd ((fml.tell e.2.1).mp ⟨e.2, by simp, 0, by rw [Int.mul_zero, Int.add_zero]; exact Int.le_refl _, by rw [Int.mul_zero, Int.add_zero]; exact (fml.wid e.2 (by simp)).1⟩) (none _)
      rw [decide_eq_true (List.map_eq_nil_iff.mpr hz)]
      refine ⟨_, rfl, ite_t ?_⟩
      refine gss_cons ?_
      refine gs_if ?_
      refine gt_w ?_
      refine gw_or ?_
      refine gt_trM ?_
      tm_at "g"
      refine gtr_len (El := NoX) AK.nb AK.ln AK.fn AK.Rn hr passA atl.o ?_
      refine ⟨lt, C, dxl, ql, tl', fwl, obl, rfl, la, atl, 0, by rw [fwe]; rfl, by decide, by decide, ite_f ?_⟩
      tm_at "g"
      refine ge_sta0 S0.sn (fun _ => gf_of (El := NoX) S0.Rn hr passA) ?_
      tm_at "g"
      refine gv_def hC ?_
      refine ⟨rfl, rfl, LotN.r fun xn Mn sn ln => ?_⟩
      refine GOp.ndc fun nd5 => ?_
      have tuN := tuE.up (sn.to nd5).2
      have mrN := tuN.mr
      refine go_neL S0.eq hr tuN.lot ln (fun n => ⟨fun h => none n h, fun h => h.elim⟩) ?_
      refine ⟨_, rfl, ite_f ?_⟩
      tm_at "g"
      refine gs_for (gi_range1 ?_ B.range)
      tm_at "g"
      refine go_neD hr.toRoom (dl_prT (memS mrN) rfl (tuN.pp.mono fun _ h => memS h)) (dl_tup mem0 dls_nil) shape_runs (shape_runs (rs := [])) ?_
      rw [eqv_runs, decide_eq_true (List.map_eq_nil_iff.mpr hz)]
      refine ⟨_, rfl, ite_nt ?_⟩
      tm_at "g"
      have fin : Sub ((p, penO c n2 m2) :: (c, celO ms) :: L) Mn := ⟨fun nn => ⟨nd0, fun e he => (sn.to nd5).2 _ (memS (by
        rcases List.mem_cons.mp he with rfl | he
        · exact mem0
        · rcases List.mem_cons.mp he with rfl | he
          · exact memS mem0
          · exact memS (memS (uL _ he))))⟩⟩
      refine ⟨by decide, fun j θ N => ∃ (u7 u8 u9 u10 u11 u12 u13 : Option V), θ = ([("_law_script", some (.ref a)), ("_law_pen_here", some (.ref p)), ("_law_turn", some (.int i)), ("_law_some_here", some (.ref sq)), ("_law_table_here", some (.ref tb)), ("_law_made", some (.ref lt)), ("_law_period", some (.int P0)), ("_law_runs", some (.ref r)), ("_law_lap", u7), ("_law_far", u8), ("_law_above", u9), ("_law_below", u10), ("_law_high", u11), ("_law_begin", u12), ("_law_end", u13)] : En) ∧ Sub ((p, penO c n2 m2) :: (c, celO ms) :: L) N, ⟨_, _, _, _, _, _, _, rfl, Sub.trans fin Sub.drop⟩, fun _ _ _ _ _ _ => True.intro, ?_, ?_⟩
      · intro j x2 E2 θ N2 hj
        exact absurd hj (Nat.not_lt_zero j)
      rintro θ N2 ⟨v7, v8, v9, v10, v11, v12, v13, rfl, sb3⟩
      refine GSs.sub sb3 ?_
      tm_at "g"
      exact ⟨_, _, _, _, _, _, _, _, _, _, _, _, _, n2, m2, rfl, Sub.refl, a0, by omega, a2⟩
    · rw [decide_eq_false (fun z => hz (List.map_eq_nil_iff.mp z))]
      refine ⟨_, rfl, ite_f ?_⟩
      tm_at "g"
      refine gs_for (gi_range1 ?_ B.range)
      tm_at "g"
      rename_i te2
      refine go_neD hr.toRoom (dl_prT (memS (memS mr2)) rfl (tu2.pp.mono fun _ h => memS (memS h))) (dl_tup mem0 dls_nil) shape_runs (shape_runs (rs := [])) ?_
      rw [eqv_runs, decide_eq_false (fun z => hz (List.map_eq_nil_iff.mp z))]
      refine ⟨_, rfl, ite_nf ?_⟩
      tm_at "g"
      refine ⟨by decide, fun j θ N => ∃ (u7 u8 u9 u10 u11 u12 u13 : Option V) (n m : Int), θ = ([("_law_script", some (.ref a)), ("_law_pen_here", some (.ref p)), ("_law_turn", some (.int i)), ("_law_some_here", some (.ref sq)), ("_law_table_here", some (.ref tb)), ("_law_made", some (.ref lt)), ("_law_period", some (.int P0)), ("_law_runs", some (.ref r)), ("_law_lap", u7), ("_law_far", u8), ("_law_above", u9), ("_law_below", u10), ("_law_high", u11), ("_law_begin", u12), ("_law_end", u13)] : En) ∧ Sub ((p, penO c n m) :: (c, celO ms) :: R2) N ∧ 0 ≤ n ∧ n ≤ 500 * (i : Int) + 40 + 20 * (j : Int) ∧ 0 ≤ m, ⟨_, _, _, _, _, _, _, n2, m2, rfl, Sub.drop.trans Sub.drop, a0, by omega, a2⟩, fun _ _ _ _ _ _ => True.intro, ?_, ?_⟩
      · rintro j x2 E2 θ N2 hj ⟨rfl, rfl⟩ ⟨v7, v8, v9, v10, v11, v12, v13, n3, m3, rfl, sb3, b0, b1, b2⟩
        dsimp only [List.nil_append] at hj ⊢
        have hj4 : j < 4 := hj
        refine gg_name (by tm_at "g_pv") ?_
        refine GSs.sub sb3 ?_
        tm_at "g"
        refine ge_call (El := NoX) Ap hr passA ?_
        tm_at "g"
        refine go_powL (r := 1000000000000000000000000000000) ⟨by decide, by decide, by decide⟩ (by decide) ?_
        tm_at "g"
        refine go_powL (r := 1000000000000000000000000000000) ⟨by decide, by decide, by decide⟩ (by decide) ?_
        tm_at "g"
        refine go_powL (r := 1000000000000000000000000000000000000000000000000000000000000) ⟨by decide, by decide, by decide⟩ (by decide) ?_
        tm_at "g"
        refine ge_call (El := NoX) Ad hr passA ?_
        tm_at "g"
        refine go_powL (r := 1000000000) ⟨by decide, by decide, by decide⟩ (by decide) ?_
        tm_at "g"
        tm_at "g_dr"
        intro o n4 m4 o0 o1 c0 c1 c2
        tm_at "g"
        refine ge_call (El := NoX) Ab hr passA ?_
        tm_at "g"
        refine ⟨p, c, ms, n4, m4, (P0 : Int), _, rfl, Sub.refl, h63, by omega, by rw [Int.natAbs_natCast]; exact pb, c0, by omega, c2, ?_⟩
        intro dp n5 m5 dp0 dp1 e0 e1' e2'
        tm_at "g"
        tm_at "g_pk"
        intro kx x n6 m6 hx f0 f1 f2
        obtain ⟨far, hfar, rfl⟩ := pick_intM (is := [0, -1, 1000000000000000000000000000000, -1000000000000000000000000000000, 1000000000000000000000000000000000000000000000000000000000000 + o, dp]) hx
        have ff : Far far := far_of pb (by
          simp only [List.mem_cons, List.not_mem_nil, or_false] at hfar
          omega)
        clear hfar hx
        rename_i tpk
        have tuAt : ∀ n m, Turn C ts sq tb lt P0 r ps ((p, penO c n m) :: (c, celO ms) :: (tpk, HO.lst [.int 0, .int (-1), .int 1000000000000000000000000000000, .int (-1000000000000000000000000000000), .int (1000000000000000000000000000000000000000000000000000000000000 + o), .int dp]) :: R2) := fun n m => tu.up fun e he => by
          rcases List.mem_cons.mp he with rfl | he
          · exact memS mem0
          · exact memS (memS (memS he))
        have tuF := tuAt n6 m6
        obtain ⟨dxl, ql, tl', szl, obl, ml⟩ := LotS.obj tuF.lot
        have msF := tuF.ms
        have ex : ∃ n, nearAll ts n := by
          obtain ⟨e, l, rfl⟩ := List.exists_cons_of_ne_nil hz
          exact ⟨e.2.1, (T.al _).mp ⟨e.2, by simp, 0, by rw [Int.mul_zero, Int.add_zero]; exact Int.le_refl _, by rw [Int.mul_zero, Int.add_zero]; exact T.nf.le e.2 (by simp)⟩⟩
        have bd : ∀ e ∈ ps, 0 ≤ e.2.1 ∧ e.2.1 ≤ e.2.2 ∧ e.2.2 < 2 * P0 := fun e he => T.bd e.2 (List.mem_map.mpr ⟨e, he, rfl⟩)
        tm_at "g"
        refine ge_meth (El := NoX) AK.Rl AK.ml la.c hr passA ?_
        tm_at "g"
        refine ⟨lt, dxl, _, rfl, ml, rfl, ?_⟩
        tm_at "g"
        refine LotS.least la tuF.lot ex fun above ab1 ab2 ab3 => ?_
        tm_at "g"
        refine ge_meth (El := NoX) AK.Rm AK.mm la.c hr passA ?_
        tm_at "g"
        refine ⟨lt, dxl, _, rfl, ml, rfl, ?_⟩
        tm_at "g"
        refine LotS.most la tuF.lot ex fun below be1 be2 be3 => ?_
        have bel : far - P0 < below := by
          rcases Int.lt_or_le (far - P0) below with w | w
          · exact w
          · exact absurd ((T.t.per below).mpr be1) (be3 (below + P0) (by omega) (by omega))
        have smF : Sm P0 far := ff.smN pb (by omega) (by omega)
        have smB : Sm P0 below := ff.smN pb (by omega) (by omega)
        have smB1 : Sm P0 (below + 1) := ff.smN pb (by omega) (by omega)
        tm_at "g"
        refine ge_call (El := NoX) A3 hr passA ?_
        tm_at "g"
        refine ⟨tb, r, P0, ps, far, rfl, tuF.mt, tuF.mr, tuF.pp, hz, tuF.len, p0, smF, bd, fun m hm mn => ?_⟩
        obtain rfl : m = above := (next_least T.t hm mn).unique ⟨ab1, ab2, ab3⟩
        tm_at "g"
        refine ite_n (fun z => absurd rfl z) (fun _ => ?_)
        tm_at "g"
        refine ge_call (El := NoX) A4 hr passA ?_
        tm_at "g"
        refine ⟨sq, ts, m, rfl, tuF.ms, tuF.tr, l4, ok, ab1, ?_⟩
        refine ⟨_, rfl, ite_nt ?_⟩
        tm_at "g"
        refine ge_call (El := NoX) A4 hr passA ?_
        tm_at "g"
        refine ⟨sq, ts, below, rfl, tuF.ms, tuF.tr, l4, ok, be1, ?_⟩
        refine ⟨_, rfl, ite_nt ?_⟩
        tm_at "g"
        refine ite_d (fun z => absurd z (by omega)) (fun _ => ?_)
        tm_at "g"
        refine ge_call (El := NoX) A3 hr passA ?_
        tm_at "g"
        refine ⟨tb, r, P0, ps, below, rfl, tuF.mt, tuF.mr, tuF.pp, hz, tuF.len, p0, smB, bd, fun m2' hm2 mn2 => ?_⟩
        obtain rfl : m2' = below := (next_least T.t hm2 mn2).unique ⟨be1, Int.le_refl _, fun j j0 j1 => by omega⟩
        tm_at "g"
        refine ite_n (fun z => absurd rfl z) (fun _ => ?_)
        tm_at "g"
        refine ge_call (El := NoX) A3 hr passA ?_
        tm_at "g"
        refine ⟨tb, r, P0, ps, m2' + 1, rfl, tuF.mt, tuF.mr, tuF.pp, hz, tuF.len, p0, smB1, bd, fun m3' hm3 mn3 => ?_⟩
        have l3 := next_least T.t hm3 mn3
        tm_at "g"
        refine ite_d (fun z => absurd l3.1 (be3 m3' (by have := l3.2.1; omega) z)) (fun _ => ?_)
        tm_at "g"
        refine ge_call (El := NoX) Ab hr passA ?_
        tm_at "g"
        refine ⟨p, c, ms, n6, m6, (P0 : Int), _, rfl, Sub.refl, h63, by omega, by rw [Int.natAbs_natCast]; exact pb, f0, by omega, f2, ?_⟩
        intro dh n7 m7 dh0 dh1 g0 g1 g2
        have tuG := tuAt n7 m7
        obtain ⟨dxg, qg, tg', szg, obg, mg⟩ := LotS.obj tuG.lot
        tm_at "g"
        refine ge_meth (El := NoX) AK.Rh AK.mh la.c hr passA ?_
        tm_at "g"
        refine ⟨lt, dxg, _, rfl, mg, rfl, ?_⟩
        tm_at "g"
        have flt : ∀ q few, Form (nearAll ts) q few → q < 2 ^ 2000 := fun q few f => Int.lt_of_le_of_lt (f.least P0 (by omega) T.t.per) (small_int pb)
        refine ⟨lt, far, far + dh, nearAll ts, rfl, la, tuG.lot, flt, ff.how pb (by omega) (by omega), ff.how pb (by omega) (by omega), ?_⟩
        obtain ⟨mm, emm⟩ : ∃ mm : Nat, dh = mm := ⟨dh.toNat, by omega⟩
        have cn := cnt_runs (lo := far) p0 T.nf T.al (m := mm + 1) (by omega)
        rw [show far + ((mm + 1 : Nat) : Int) - 1 = far + dh by omega] at cn
        rw [if_pos (show far ≤ far + dh by omega), show (far + dh + 1 - far).toNat = mm + 1 by omega]
        tm_at "g"
        refine ge_call (El := NoX) A5 hr passA ?_
        tm_at "g"
        refine ⟨tb, r, P0, ps, far, far + dh, rfl, tuG.mt, tuG.mr, tuG.pp, tuG.len, p0, smF, bd, ?_⟩
        rw [← cn]
        tm_at "g"
        refine ite_n (fun z => absurd rfl z) (fun _ => ?_)
        tm_at "g"
        refine ge_meth (El := NoX) AK.Rh AK.mh la.c hr passA ?_
        tm_at "g"
        refine ⟨lt, dxg, _, rfl, mg, rfl, ?_⟩
        tm_at "g"
        refine go_mulS (.inl ⟨by decide, by decide⟩) ?_
        tm_at "g"
        refine ⟨lt, far, far + 7 * P0 - 1, nearAll ts, rfl, la, tuG.lot, flt, ff.how pb (by omega) (by omega), ff.how pb (by omega) (by omega), ?_⟩
        rw [if_pos (show far ≤ far + 7 * (P0 : Int) - 1 by omega), show (far + 7 * (P0 : Int) - 1 + 1 - far).toNat = P0 * 7 by omega, cnt_turns T.t.per far 7 p0]
        have sz := T.t.size
        have mrG := tuG.mr
        have ppG := tuG.pp
        tm_at "g"
        refine ge_lcP2 (by tm_at "g_put") (fun _ => by tm_at "g_put") (gi_tuple ?_) (by decide) (show blkC N_law (defScope s_law) _ [(_, List.idxOf _ N_law), (_, List.idxOf _ N_law)] = true by decide +kernel)
        tm_at "g"
        refine pure_rowP2 (t := fun _ => true) (g := fun e => .int (e.2.2 - e.2.1 + 1)) mrG ppG (by omega) (fun e he D2 acc2 s2 H2 C2 cl2 fp2 => ?_) fun d4 => ?_
        · refine gts_nil ⟨rfl, Sub.refl, fun _ s3 H3 C3 cl3 fp3 => ?_⟩
          tm_at "g"
          exact ⟨rfl, Sub.refl⟩
        rw [List.filter_eq_self.mpr fun _ _ => rfl, show (ps.map fun e : Pr2 => V.int (e.2.2 - e.2.1 + 1)) = ((ps.map (·.2)).map fun e : Rn => e.2 - e.1 + 1).map V.int by rw [List.map_map, List.map_map]; rfl]
        tm_at "g"
        refine gc_sumI (by rfl) mem0 ?_
        tm_at "g"
        refine go_mulS (.inl ⟨by decide, by decide⟩) ?_
        tm_at "g"
        refine ite_n (fun z => absurd ?_ z) (fun _ => ?_)
        · rw [sz]
          omega
        tm_at "g"
        exact ⟨_, _, _, _, _, _, _, n7, m7, rfl, Sub.trans (Sub.cons (Sub.cons Sub.drop)) Sub.drop, g0, by omega, g2⟩
      rintro θ N2 ⟨v7, v8, v9, v10, v11, v12, v13, n3, m3, rfl, sb3, b0, b1, b2⟩
      replace b1 : n3 ≤ 500 * (i : Int) + 40 + 20 * ((4 : Nat) : Int) := b1
      refine GSs.sub sb3 ?_
      tm_at "g"
      exact ⟨_, _, _, _, _, _, _, _, _, _, _, _, _, n3, m3, rfl, Sub.cons (Sub.cons ⟨fun _ => ⟨ndL, uL⟩⟩), b0, by omega, b2⟩
  rintro θ N0 ⟨u1, u2, u3, u4, u5, u6, u7, u8, u9, u10, u11, u12, u13, n, m, rfl, sb, -, -, -⟩
  tm_at "g"
  exact ⟨_, Sub.refl, q _⟩
end
theorem all_mk {l : PySem.W.OpenLaw} {q : Program} {w : World} {K : PySem.W.Frag} {h : Heap} {mg : Str → Option Value} {fa : Addr} {f0 f1 f2 f3 f4 f5 f6 f7 f8 f9 f10 f11 f12 f13 f14 f15 f16 f17 f18 f19 f20 f21 f22 f23 f24 f25 f26 f27 f28 f29 f30 f31 f32 f33 f34 f35 f36 f37 f38 f39 : Addr} (X : K.In h) (G : h.Ns mainGlobals mg) (hfa : mg "law" = some (.ref fa))
    {od0 an0 od1 an1 od2 an2 od3 an3 od4 an4 od5 an5 od6 an6 od7 an7 od8 an8 od9 an9 od10 an10 od11 an11 od12 an12 od13 an13 od14 an14 od15 an15 od16 an16 od17 an17 od18 an18 od19 an19 od20 an20 od21 an21 od22 an22 od23 an23 od24 an24 od25 an25 od26 an26 od27 an27 od28 an28 od29 an29 od30 an30 od31 an31 od32 an32 od33 an33 od34 an34 od35 an35 od36 an36 od37 an37 od38 an38 od39 an39 : Option Addr} {sl0 sl1 sl2 sl3 sl4 sl5 sl6 sl7 sl8 sl9 sl10 sl11 sl12 sl13 sl14 sl15 sl16 sl17 sl18 sl19 sl20 sl21 sl22 sl23 sl24 sl25 sl26 sl27 sl28 sl29 sl30 sl31 sl32 sl33 sl34 sl35 sl36 sl37 sl38 sl39 : Array (Option Value)} {oc0 kV0 dc0 pm0 cd0 ct0 oc1 kV1 dc1 pm1 cd1 ct1 oc2 kV2 dc2 pm2 cd2 ct2 oc3 kV3 dc3 pm3 cd3 ct3 oc4 kV4 dc4 pm4 cd4 ct4 oc5 kV5 dc5 pm5 cd5 ct5 oc6 kV6 dc6 pm6 cd6 ct6 oc7 kV7 dc7 pm7 cd7 ct7 oc8 kV8 dc8 pm8 cd8 ct8 oc9 kV9 dc9 pm9 cd9 ct9 oc10 kV10 dc10 pm10 cd10 ct10 oc11 kV11 dc11 pm11 cd11 ct11 oc12 kV12 dc12 pm12 cd12 ct12 oc13 kV13 dc13 pm13 cd13 ct13 oc14 kV14 dc14 pm14 cd14 ct14 oc15 kV15 dc15 pm15 cd15 ct15 oc16 kV16 dc16 pm16 cd16 ct16 oc17 kV17 dc17 pm17 cd17 ct17 oc18 kV18 dc18 pm18 cd18 ct18 oc19 kV19 dc19 pm19 cd19 ct19 oc20 kV20 dc20 pm20 cd20 ct20 oc21 kV21 dc21 pm21 cd21 ct21 oc22 kV22 dc22 pm22 cd22 ct22 oc23 kV23 dc23 pm23 cd23 ct23 oc24 kV24 dc24 pm24 cd24 ct24 oc25 kV25 dc25 pm25 cd25 ct25 oc26 kV26 dc26 pm26 cd26 ct26 oc27 kV27 dc27 pm27 cd27 ct27 oc28 kV28 dc28 pm28 cd28 ct28 oc29 kV29 dc29 pm29 cd29 ct29 oc30 kV30 dc30 pm30 cd30 ct30 oc31 kV31 dc31 pm31 cd31 ct31 oc32 kV32 dc32 pm32 cd32 ct32 oc33 kV33 dc33 pm33 cd33 ct33 oc34 kV34 dc34 pm34 cd34 ct34 oc35 kV35 dc35 pm35 cd35 ct35 oc36 kV36 dc36 pm36 cd36 ct36 oc37 kV37 dc37 pm37 cd37 ct37 oc38 kV38 dc38 pm38 cd38 ct38 oc39 kV39 dc39 pm39 cd39 ct39 : Value}
    (a0 : PySem.W.nsIn K mainGlobals "is_whole" = some (some (.ref f0))) (l0 : K.lookup f0 = some ⟨oc0, od0, .func (PySem.W.fnOf "is_whole" "is_whole" (defArgs s_is_whole) (defBody s_is_whole) (defScope s_is_whole) .none kV0 dc0 pm0 an0 cd0 ct0), sl0⟩) (c0 : PySem.W.codeIn K cd0 "is_whole" = true) (k0 : PySem.W.keepIn K (.ref f0) = true)
    (a1 : PySem.W.nsIn K mainGlobals "need_whole" = some (some (.ref f1))) (l1 : K.lookup f1 = some ⟨oc1, od1, .func (PySem.W.fnOf "need_whole" "need_whole" (defArgs s_need_whole) (defBody s_need_whole) (defScope s_need_whole) .none kV1 dc1 pm1 an1 cd1 ct1), sl1⟩) (c1 : PySem.W.codeIn K cd1 "need_whole" = true) (k1 : PySem.W.keepIn K (.ref f1) = true)
    (a2 : PySem.W.nsIn K mainGlobals "need_above" = some (some (.ref f2))) (l2 : K.lookup f2 = some ⟨oc2, od2, .func (PySem.W.fnOf "need_above" "need_above" (defArgs s_need_above) (defBody s_need_above) (defScope s_need_above) .none kV2 dc2 pm2 an2 cd2 ct2), sl2⟩) (c2 : PySem.W.codeIn K cd2 "need_above" = true) (k2 : PySem.W.keepIn K (.ref f2) = true)
    (a3 : PySem.W.nsIn K mainGlobals "divisor_of" = some (some (.ref f3))) (l3 : K.lookup f3 = some ⟨oc3, od3, .func (PySem.W.fnOf "divisor_of" "divisor_of" (defArgs s_divisor_of) (defBody s_divisor_of) (defScope s_divisor_of) .none kV3 dc3 pm3 an3 cd3 ct3), sl3⟩) (c3 : PySem.W.codeIn K cd3 "divisor_of" = true) (k3 : PySem.W.keepIn K (.ref f3) = true)
    (a4 : PySem.W.nsIn K mainGlobals "common" = some (some (.ref f4))) (l4 : K.lookup f4 = some ⟨oc4, od4, .func (PySem.W.fnOf "common" "common" (defArgs s_common) (defBody s_common) (defScope s_common) .none kV4 dc4 pm4 an4 cd4 ct4), sl4⟩) (c4 : PySem.W.codeIn K cd4 "common" = true) (k4 : PySem.W.keepIn K (.ref f4) = true)
    (a5 : PySem.W.nsIn K mainGlobals "multiple" = some (some (.ref f5))) (l5 : K.lookup f5 = some ⟨oc5, od5, .func (PySem.W.fnOf "multiple" "multiple" (defArgs s_multiple) (defBody s_multiple) (defScope s_multiple) .none kV5 dc5 pm5 an5 cd5 ct5), sl5⟩) (c5 : PySem.W.codeIn K cd5 "multiple" = true) (k5 : PySem.W.keepIn K (.ref f5) = true)
    (a6 : PySem.W.nsIn K mainGlobals "inverse_of" = some (some (.ref f6))) (l6 : K.lookup f6 = some ⟨oc6, od6, .func (PySem.W.fnOf "inverse_of" "inverse_of" (defArgs s_inverse_of) (defBody s_inverse_of) (defScope s_inverse_of) .none kV6 dc6 pm6 an6 cd6 ct6), sl6⟩) (c6 : PySem.W.codeIn K cd6 "inverse_of" = true) (k6 : PySem.W.keepIn K (.ref f6) = true)
    (a7 : PySem.W.nsIn K mainGlobals "is_run" = some (some (.ref f7))) (l7 : K.lookup f7 = some ⟨oc7, od7, .func (PySem.W.fnOf "is_run" "is_run" (defArgs s_is_run) (defBody s_is_run) (defScope s_is_run) .none kV7 dc7 pm7 an7 cd7 ct7), sl7⟩) (c7 : PySem.W.codeIn K cd7 "is_run" = true) (k7 : PySem.W.keepIn K (.ref f7) = true)
    (a8 : PySem.W.nsIn K mainGlobals "length_of" = some (some (.ref f8))) (l8 : K.lookup f8 = some ⟨oc8, od8, .func (PySem.W.fnOf "length_of" "length_of" (defArgs s_length_of) (defBody s_length_of) (defScope s_length_of) .none kV8 dc8 pm8 an8 cd8 ct8), sl8⟩) (c8 : PySem.W.codeIn K cd8 "length_of" = true) (k8 : PySem.W.keepIn K (.ref f8) = true)
    (a9 : PySem.W.nsIn K mainGlobals "place_among" = some (some (.ref f9))) (l9 : K.lookup f9 = some ⟨oc9, od9, .func (PySem.W.fnOf "place_among" "place_among" (defArgs s_place_among) (defBody s_place_among) (defScope s_place_among) .none kV9 dc9 pm9 an9 cd9 ct9), sl9⟩) (c9 : PySem.W.codeIn K cd9 "place_among" = true) (k9 : PySem.W.keepIn K (.ref f9) = true)
    (a10 : PySem.W.nsIn K mainGlobals "count_in" = some (some (.ref f10))) (l10 : K.lookup f10 = some ⟨oc10, od10, .func (PySem.W.fnOf "count_in" "count_in" (defArgs s_count_in) (defBody s_count_in) (defScope s_count_in) .none kV10 dc10 pm10 an10 cd10 ct10), sl10⟩) (c10 : PySem.W.codeIn K cd10 "count_in" = true) (k10 : PySem.W.keepIn K (.ref f10) = true)
    (a11 : PySem.W.nsIn K mainGlobals "remainders" = some (some (.ref f11))) (l11 : K.lookup f11 = some ⟨oc11, od11, .func (PySem.W.fnOf "remainders" "remainders" (defArgs s_remainders) (defBody s_remainders) (defScope s_remainders) .none kV11 dc11 pm11 an11 cd11 ct11), sl11⟩) (c11 : PySem.W.codeIn K cd11 "remainders" = true) (k11 : PySem.W.keepIn K (.ref f11) = true)
    (a12 : PySem.W.nsIn K mainGlobals "meets" = some (some (.ref f12))) (l12 : K.lookup f12 = some ⟨oc12, od12, .func (PySem.W.fnOf "meets" "meets" (defArgs s_meets) (defBody s_meets) (defScope s_meets) .none kV12 dc12 pm12 an12 cd12 ct12), sl12⟩) (c12 : PySem.W.codeIn K cd12 "meets" = true) (k12 : PySem.W.keepIn K (.ref f12) = true)
    (a13 : PySem.W.nsIn K mainGlobals "begun_inside" = some (some (.ref f13))) (l13 : K.lookup f13 = some ⟨oc13, od13, .func (PySem.W.fnOf "begun_inside" "begun_inside" (defArgs s_begun_inside) (defBody s_begun_inside) (defScope s_begun_inside) .none kV13 dc13 pm13 an13 cd13 ct13), sl13⟩) (c13 : PySem.W.codeIn K cd13 "begun_inside" = true) (k13 : PySem.W.keepIn K (.ref f13) = true)
    (a14 : PySem.W.nsIn K mainGlobals "shared_far" = some (some (.ref f14))) (l14 : K.lookup f14 = some ⟨oc14, od14, .func (PySem.W.fnOf "shared_far" "shared_far" (defArgs s_shared_far) (defBody s_shared_far) (defScope s_shared_far) .none kV14 dc14 pm14 an14 cd14 ct14), sl14⟩) (c14 : PySem.W.codeIn K cd14 "shared_far" = true) (k14 : PySem.W.keepIn K (.ref f14) = true)
    (a15 : PySem.W.nsIn K mainGlobals "shared_runs" = some (some (.ref f15))) (l15 : K.lookup f15 = some ⟨oc15, od15, .func (PySem.W.fnOf "shared_runs" "shared_runs" (defArgs s_shared_runs) (defBody s_shared_runs) (defScope s_shared_runs) .none kV15 dc15 pm15 an15 cd15 ct15), sl15⟩) (c15 : PySem.W.codeIn K cd15 "shared_runs" = true) (k15 : PySem.W.keepIn K (.ref f15) = true)
    (a16 : PySem.W.nsIn K mainGlobals "melted" = some (some (.ref f16))) (l16 : K.lookup f16 = some ⟨oc16, od16, .func (PySem.W.fnOf "melted" "melted" (defArgs s_melted) (defBody s_melted) (defScope s_melted) .none kV16 dc16 pm16 an16 cd16 ct16), sl16⟩) (c16 : PySem.W.codeIn K cd16 "melted" = true) (k16 : PySem.W.keepIn K (.ref f16) = true)
    (a17 : PySem.W.nsIn K mainGlobals "closed_round" = some (some (.ref f17))) (l17 : K.lookup f17 = some ⟨oc17, od17, .func (PySem.W.fnOf "closed_round" "closed_round" (defArgs s_closed_round) (defBody s_closed_round) (defScope s_closed_round) .none kV17 dc17 pm17 an17 cd17 ct17), sl17⟩) (c17 : PySem.W.codeIn K cd17 "closed_round" = true) (k17 : PySem.W.keepIn K (.ref f17) = true)
    (a18 : PySem.W.nsIn K mainGlobals "maximal" = some (some (.ref f18))) (l18 : K.lookup f18 = some ⟨oc18, od18, .func (PySem.W.fnOf "maximal" "maximal" (defArgs s_maximal) (defBody s_maximal) (defScope s_maximal) .none kV18 dc18 pm18 an18 cd18 ct18), sl18⟩) (c18 : PySem.W.codeIn K cd18 "maximal" = true) (k18 : PySem.W.keepIn K (.ref f18) = true)
    (a19 : PySem.W.nsIn K mainGlobals "least_form" = some (some (.ref f19))) (l19 : K.lookup f19 = some ⟨oc19, od19, .func (PySem.W.fnOf "least_form" "least_form" (defArgs s_least_form) (defBody s_least_form) (defScope s_least_form) .none kV19 dc19 pm19 an19 cd19 ct19), sl19⟩) (c19 : PySem.W.codeIn K cd19 "least_form" = true) (k19 : PySem.W.keepIn K (.ref f19) = true)
    (a20 : PySem.W.nsIn K mainGlobals "gaps_of" = some (some (.ref f20))) (l20 : K.lookup f20 = some ⟨oc20, od20, .func (PySem.W.fnOf "gaps_of" "gaps_of" (defArgs s_gaps_of) (defBody s_gaps_of) (defScope s_gaps_of) .none kV20 dc20 pm20 an20 cd20 ct20), sl20⟩) (c20 : PySem.W.codeIn K cd20 "gaps_of" = true) (k20 : PySem.W.keepIn K (.ref f20) = true)
    (a21 : PySem.W.nsIn K mainGlobals "need_integer" = some (some (.ref f21))) (l21 : K.lookup f21 = some ⟨oc21, od21, .func (PySem.W.fnOf "need_integer" "need_integer" (defArgs s_need_integer) (defBody s_need_integer) (defScope s_need_integer) .none kV21 dc21 pm21 an21 cd21 ct21), sl21⟩) (c21 : PySem.W.codeIn K cd21 "need_integer" = true) (k21 : PySem.W.keepIn K (.ref f21) = true)
    (a22 : PySem.W.nsIn K mainGlobals "need_few" = some (some (.ref f22))) (l22 : K.lookup f22 = some ⟨oc22, od22, .func (PySem.W.fnOf "need_few" "need_few" (defArgs s_need_few) (defBody s_need_few) (defScope s_need_few) .none kV22 dc22 pm22 an22 cd22 ct22), sl22⟩) (c22 : PySem.W.codeIn K cd22 "need_few" = true) (k22 : PySem.W.keepIn K (.ref f22) = true)
    (a23 : PySem.W.nsIn K mainGlobals "lot_of" = some (some (.ref f23))) (l23 : K.lookup f23 = some ⟨oc23, od23, .func (PySem.W.fnOf "lot_of" "lot_of" (defArgs s_lot_of) (defBody s_lot_of) (defScope s_lot_of) .none kV23 dc23 pm23 an23 cd23 ct23), sl23⟩) (c23 : PySem.W.codeIn K cd23 "lot_of" = true) (k23 : PySem.W.keepIn K (.ref f23) = true)
    (a24 : PySem.W.nsIn K mainGlobals "moved" = some (some (.ref f24))) (l24 : K.lookup f24 = some ⟨oc24, od24, .func (PySem.W.fnOf "moved" "moved" (defArgs s_moved) (defBody s_moved) (defScope s_moved) .none kV24 dc24 pm24 an24 cd24 ct24), sl24⟩) (c24 : PySem.W.codeIn K cd24 "moved" = true) (k24 : PySem.W.keepIn K (.ref f24) = true)
    (a25 : PySem.W.nsIn K mainGlobals "need_lots" = some (some (.ref f25))) (l25 : K.lookup f25 = some ⟨oc25, od25, .func (PySem.W.fnOf "need_lots" "need_lots" (defArgs s_need_lots) (defBody s_need_lots) (defScope s_need_lots) .none kV25 dc25 pm25 an25 cd25 ct25), sl25⟩) (c25 : PySem.W.codeIn K cd25 "need_lots" = true) (k25 : PySem.W.keepIn K (.ref f25) = true)
    (a26 : PySem.W.nsIn K mainGlobals "table_of" = some (some (.ref f26))) (l26 : K.lookup f26 = some ⟨oc26, od26, .func (PySem.W.fnOf "table_of" "table_of" (defArgs s_table_of) (defBody s_table_of) (defScope s_table_of) .none kV26 dc26 pm26 an26 cd26 ct26), sl26⟩) (c26 : PySem.W.codeIn K cd26 "table_of" = true) (k26 : PySem.W.keepIn K (.ref f26) = true)
    (a27 : PySem.W.nsIn K mainGlobals "next_table" = some (some (.ref f27))) (l27 : K.lookup f27 = some ⟨oc27, od27, .func (PySem.W.fnOf "next_table" "next_table" (defArgs s_next_table) (defBody s_next_table) (defScope s_next_table) .none kV27 dc27 pm27 an27 cd27 ct27), sl27⟩) (c27 : PySem.W.codeIn K cd27 "next_table" = true) (k27 : PySem.W.keepIn K (.ref f27) = true)
    (a28 : PySem.W.nsIn K mainGlobals "join" = some (some (.ref f28))) (l28 : K.lookup f28 = some ⟨oc28, od28, .func (PySem.W.fnOf "join" "join" (defArgs s_join) (defBody s_join) (defScope s_join) .none kV28 dc28 pm28 an28 cd28 ct28), sl28⟩) (c28 : PySem.W.codeIn K cd28 "join" = true) (k28 : PySem.W.keepIn K (.ref f28) = true)
    (a29 : PySem.W.nsIn K mainGlobals "table_lot" = some (some (.ref f29))) (l29 : K.lookup f29 = some ⟨oc29, od29, .func (PySem.W.fnOf "table_lot" "table_lot" (defArgs s_table_lot) (defBody s_table_lot) (defScope s_table_lot) .none kV29 dc29 pm29 an29 cd29 ct29), sl29⟩) (c29 : PySem.W.codeIn K cd29 "table_lot" = true) (k29 : PySem.W.keepIn K (.ref f29) = true)
    (a30 : PySem.W.nsIn K mainGlobals "joined" = some (some (.ref f30))) (l30 : K.lookup f30 = some ⟨oc30, od30, .func (PySem.W.fnOf "joined" "joined" (defArgs s_joined) (defBody s_joined) (defScope s_joined) .none kV30 dc30 pm30 an30 cd30 ct30), sl30⟩) (c30 : PySem.W.codeIn K cd30 "joined" = true) (k30 : PySem.W.keepIn K (.ref f30) = true)
    (a31 : PySem.W.nsIn K mainGlobals "_law_pen" = some (some (.ref f31))) (l31 : K.lookup f31 = some ⟨oc31, od31, .func (PySem.W.fnOf "_law_pen" "_law_pen" (defArgs s_law_pen) (defBody s_law_pen) (defScope s_law_pen) .none kV31 dc31 pm31 an31 cd31 ct31), sl31⟩) (c31 : PySem.W.codeIn K cd31 "_law_pen" = true) (k31 : PySem.W.keepIn K (.ref f31) = true)
    (a32 : PySem.W.nsIn K mainGlobals "_law_draw" = some (some (.ref f32))) (l32 : K.lookup f32 = some ⟨oc32, od32, .func (PySem.W.fnOf "_law_draw" "_law_draw" (defArgs s_law_draw) (defBody s_law_draw) (defScope s_law_draw) .none kV32 dc32 pm32 an32 cd32 ct32), sl32⟩) (c32 : PySem.W.codeIn K cd32 "_law_draw" = true) (k32 : PySem.W.keepIn K (.ref f32) = true)
    (a33 : PySem.W.nsIn K mainGlobals "_law_pick" = some (some (.ref f33))) (l33 : K.lookup f33 = some ⟨oc33, od33, .func (PySem.W.fnOf "_law_pick" "_law_pick" (defArgs s_law_pick) (defBody s_law_pick) (defScope s_law_pick) .none kV33 dc33 pm33 an33 cd33 ct33), sl33⟩) (c33 : PySem.W.codeIn K cd33 "_law_pick" = true) (k33 : PySem.W.keepIn K (.ref f33) = true)
    (a34 : PySem.W.nsIn K mainGlobals "_law_some" = some (some (.ref f34))) (l34 : K.lookup f34 = some ⟨oc34, od34, .func (PySem.W.fnOf "_law_some" "_law_some" (defArgs s_law_some) (defBody s_law_some) (defScope s_law_some) .none kV34 dc34 pm34 an34 cd34 ct34), sl34⟩) (c34 : PySem.W.codeIn K cd34 "_law_some" = true) (k34 : PySem.W.keepIn K (.ref f34) = true)
    (a35 : PySem.W.nsIn K mainGlobals "_law_is_in" = some (some (.ref f35))) (l35 : K.lookup f35 = some ⟨oc35, od35, .func (PySem.W.fnOf "_law_is_in" "_law_is_in" (defArgs s_law_is_in) (defBody s_law_is_in) (defScope s_law_is_in) .none kV35 dc35 pm35 an35 cd35 ct35), sl35⟩) (c35 : PySem.W.codeIn K cd35 "_law_is_in" = true) (k35 : PySem.W.keepIn K (.ref f35) = true)
    (a36 : PySem.W.nsIn K mainGlobals "_law_table" = some (some (.ref f36))) (l36 : K.lookup f36 = some ⟨oc36, od36, .func (PySem.W.fnOf "_law_table" "_law_table" (defArgs s_law_table) (defBody s_law_table) (defScope s_law_table) .none kV36 dc36 pm36 an36 cd36 ct36), sl36⟩) (c36 : PySem.W.codeIn K cd36 "_law_table" = true) (k36 : PySem.W.keepIn K (.ref f36) = true)
    (a37 : PySem.W.nsIn K mainGlobals "_law_next" = some (some (.ref f37))) (l37 : K.lookup f37 = some ⟨oc37, od37, .func (PySem.W.fnOf "_law_next" "_law_next" (defArgs s_law_next) (defBody s_law_next) (defScope s_law_next) .none kV37 dc37 pm37 an37 cd37 ct37), sl37⟩) (c37 : PySem.W.codeIn K cd37 "_law_next" = true) (k37 : PySem.W.keepIn K (.ref f37) = true)
    (a38 : PySem.W.nsIn K mainGlobals "_law_many" = some (some (.ref f38))) (l38 : K.lookup f38 = some ⟨oc38, od38, .func (PySem.W.fnOf "_law_many" "_law_many" (defArgs s_law_many) (defBody s_law_many) (defScope s_law_many) .none kV38 dc38 pm38 an38 cd38 ct38), sl38⟩) (c38 : PySem.W.codeIn K cd38 "_law_many" = true) (k38 : PySem.W.keepIn K (.ref f38) = true)
    (a39 : PySem.W.nsIn K mainGlobals "law" = some (some (.ref f39))) (l39 : K.lookup f39 = some ⟨oc39, od39, .func (PySem.W.fnOf "law" "law" (defArgs s_law) (defBody s_law) (defScope s_law) .none kV39 dc39 pm39 an39 cd39 ct39), sl39⟩) (c39 : PySem.W.codeIn K cd39 "law" = true) (k39 : PySem.W.keepIn K (.ref f39) = true)
    (z0 : PySem.W.nsIn K mainGlobals "len" = some none) (z1 : PySem.W.nsIn K mainGlobals "int" = some none) (z2 : PySem.W.nsIn K mainGlobals "abs" = some none) (z3 : PySem.W.nsIn K mainGlobals "min" = some none) (z4 : PySem.W.nsIn K mainGlobals "max" = some none) (z5 : PySem.W.nsIn K mainGlobals "range" = some none) (z6 : PySem.W.nsIn K mainGlobals "isinstance" = some none) (z7 : PySem.W.nsIn K mainGlobals "list" = some none) (z8 : PySem.W.nsIn K mainGlobals "tuple" = some none) (z9 : PySem.W.nsIn K mainGlobals "bool" = some none) (z10 : PySem.W.nsIn K mainGlobals "str" = some none) (z11 : PySem.W.nsIn K mainGlobals "repr" = some none) (z12 : PySem.W.nsIn K mainGlobals "sum" = some none) (z13 : PySem.W.nsIn K mainGlobals "sorted" = some none) (z14 : PySem.W.nsIn K mainGlobals "any" = some none) (z15 : PySem.W.nsIn K mainGlobals "all" = some none) (z16 : PySem.W.nsIn K mainGlobals "enumerate" = some none) (z17 : PySem.W.nsIn K mainGlobals "zip" = some none) (z18 : PySem.W.nsIn K mainGlobals "ValueError" = some none) (z19 : PySem.W.nsIn K mainGlobals "LookupError" = some none) (z20 : PySem.W.nsIn K mainGlobals "reversed" = some none) (z21 : PySem.W.nsIn K mainGlobals "set" = some none) (z22 : PySem.W.nsIn K mainGlobals "dict" = some none) (z23 : PySem.W.nsIn K mainGlobals "iter" = some none) (z24 : PySem.W.nsIn K mainGlobals "next" = some none) (z25 : PySem.W.nsIn K mainGlobals "type" = some none) (zs : PySem.W.nsIn K mainGlobals "super" = some none) (op : PySem.W.nsIn K cStatics "thirdparty.any" = some none)
    (g1 : PySem.W.specialIn K (.builtin "object.__class__") "__get__" = some (some (.builtin "getset_descriptor.__get__"))) (g2 : PySem.W.takesIn K (.builtin "object.__class__") = some true) (g3 : (l.prog.main.scope.names.lookup ("super" : Str)).isSome = false)
    {C_0 fI_0 c_0 cc_0 N_0 : Addr} {nm_0 qn_0 fl_0 : Str} {bs_0 bm_0 sub_0 : List Value} {sn_0 : List Str} {ab_0 : Bool} {col_0 : Option Bool} {k0_0 k1_0 k2_0 k3_0 k5_0 : Option Value} {oc_0 kV_0 doc_0 pm_0 ct_0 cl_0 ccl_0 : Value} {dd_0 od_0 an_0 cld_0 cdd_0 : Option Addr} {osl_0 csl_0 ccs_0 : Array (Option Value)} {vs_0 : Array Value} {tf_0 : Tok} {cd_0 : ClassData}
    (E_0 : ErrFacts l.prog K "BadNumber" "BadNumber.__init__" s_BadNumber_init C_0 fI_0 c_0 cc_0 nm_0 qn_0 N_0 bs_0 bm_0 sn_0 sub_0 ab_0 col_0 dd_0 k0_0 k1_0 k2_0 k3_0 k5_0 oc_0 kV_0 doc_0 pm_0 ct_0 cl_0 ccl_0 od_0 an_0 cld_0 cdd_0 osl_0 csl_0 ccs_0 vs_0 fl_0 tf_0 cd_0)
    (e0_0 : PySem.W.findIn K (.ref C_0) "value" = some none)
    {C_1 fI_1 c_1 cc_1 N_1 : Addr} {nm_1 qn_1 fl_1 : Str} {bs_1 bm_1 sub_1 : List Value} {sn_1 : List Str} {ab_1 : Bool} {col_1 : Option Bool} {k0_1 k1_1 k2_1 k3_1 k5_1 : Option Value} {oc_1 kV_1 doc_1 pm_1 ct_1 cl_1 ccl_1 : Value} {dd_1 od_1 an_1 cld_1 cdd_1 : Option Addr} {osl_1 csl_1 ccs_1 : Array (Option Value)} {vs_1 : Array Value} {tf_1 : Tok} {cd_1 : ClassData}
    (E_1 : ErrFacts l.prog K "BadLot" "BadLot.__init__" s_BadLot_init C_1 fI_1 c_1 cc_1 nm_1 qn_1 N_1 bs_1 bm_1 sn_1 sub_1 ab_1 col_1 dd_1 k0_1 k1_1 k2_1 k3_1 k5_1 oc_1 kV_1 doc_1 pm_1 ct_1 cl_1 ccl_1 od_1 an_1 cld_1 cdd_1 osl_1 csl_1 ccs_1 vs_1 fl_1 tf_1 cd_1)
    (e1_0 : PySem.W.findIn K (.ref C_1) "part" = some none)
    {C_2 fI_2 c_2 cc_2 N_2 : Addr} {nm_2 qn_2 fl_2 : Str} {bs_2 bm_2 sub_2 : List Value} {sn_2 : List Str} {ab_2 : Bool} {col_2 : Option Bool} {k0_2 k1_2 k2_2 k3_2 k5_2 : Option Value} {oc_2 kV_2 doc_2 pm_2 ct_2 cl_2 ccl_2 : Value} {dd_2 od_2 an_2 cld_2 cdd_2 : Option Addr} {osl_2 csl_2 ccs_2 : Array (Option Value)} {vs_2 : Array Value} {tf_2 : Tok} {cd_2 : ClassData}
    (E_2 : ErrFacts l.prog K "BadText" "BadText.__init__" s_BadText_init C_2 fI_2 c_2 cc_2 nm_2 qn_2 N_2 bs_2 bm_2 sn_2 sub_2 ab_2 col_2 dd_2 k0_2 k1_2 k2_2 k3_2 k5_2 oc_2 kV_2 doc_2 pm_2 ct_2 cl_2 ccl_2 od_2 an_2 cld_2 cdd_2 osl_2 csl_2 ccs_2 vs_2 fl_2 tf_2 cd_2)
    (e2_0 : PySem.W.findIn K (.ref C_2) "line" = some none)
    (e2_1 : PySem.W.findIn K (.ref C_2) "word" = some none)
    {C_3 fI_3 c_3 cc_3 N_3 : Addr} {nm_3 qn_3 fl_3 : Str} {bs_3 bm_3 sub_3 : List Value} {sn_3 : List Str} {ab_3 : Bool} {col_3 : Option Bool} {k0_3 k1_3 k2_3 k3_3 k5_3 : Option Value} {oc_3 kV_3 doc_3 pm_3 ct_3 cl_3 ccl_3 : Value} {dd_3 od_3 an_3 cld_3 cdd_3 : Option Addr} {osl_3 csl_3 ccs_3 : Array (Option Value)} {vs_3 : Array Value} {tf_3 : Tok} {cd_3 : ClassData}
    (E_3 : ErrFacts l.prog K "NoPlace" "NoPlace.__init__" s_NoPlace_init C_3 fI_3 c_3 cc_3 nm_3 qn_3 N_3 bs_3 bm_3 sn_3 sub_3 ab_3 col_3 dd_3 k0_3 k1_3 k2_3 k3_3 k5_3 oc_3 kV_3 doc_3 pm_3 ct_3 cl_3 ccl_3 od_3 an_3 cld_3 cdd_3 osl_3 csl_3 ccs_3 vs_3 fl_3 tf_3 cd_3)
    (e3_0 : PySem.W.findIn K (.ref C_3) "at" = some none)
    {C_4 fI_4 c_4 cc_4 N_4 : Addr} {nm_4 qn_4 fl_4 : Str} {bs_4 bm_4 sub_4 : List Value} {sn_4 : List Str} {ab_4 : Bool} {col_4 : Option Bool} {k0_4 k1_4 k2_4 k3_4 k5_4 : Option Value} {oc_4 kV_4 doc_4 pm_4 ct_4 cl_4 ccl_4 : Value} {dd_4 od_4 an_4 cld_4 cdd_4 : Option Addr} {osl_4 csl_4 ccs_4 : Array (Option Value)} {vs_4 : Array Value} {tf_4 : Tok} {cd_4 : ClassData}
    (E_4 : ErrFacts l.prog K "TooMany" "TooMany.__init__" s_TooMany_init C_4 fI_4 c_4 cc_4 nm_4 qn_4 N_4 bs_4 bm_4 sn_4 sub_4 ab_4 col_4 dd_4 k0_4 k1_4 k2_4 k3_4 k5_4 oc_4 kV_4 doc_4 pm_4 ct_4 cl_4 ccl_4 od_4 an_4 cld_4 cdd_4 osl_4 csl_4 ccs_4 vs_4 fl_4 tf_4 cd_4)
    (e4_0 : PySem.W.findIn K (.ref C_4) "what" = some none)
    (e4_1 : PySem.W.findIn K (.ref C_4) "most" = some none)
    {D_0 : Addr} (d0 : PySem.W.nsIn K mainGlobals "ReachError" = some (some (.ref D_0)))
    {D_1 : Addr} (d1 : PySem.W.nsIn K mainGlobals "NoMember" = some (some (.ref D_1)))
    {O_Lot : Addr} (oa_Lot : PySem.W.nsIn K mainGlobals "Lot" = some (some (.ref O_Lot)))
    (ob_Lot : PySem.W.plainGet K O_Lot Str.empty = true)
    (oc_Lot : PySem.W.hasDictIn K O_Lot = true)
    (od_Lot : PySem.W.plainOver K O_Lot = true)
    (oe_Lot : PySem.W.findIn K (.ref O_Lot) "__setattr__" = some (some (.builtin "object.__setattr__")))
    (of_Lot : PySem.W.keepIn K (.ref O_Lot) = true)
    (og_Lot : PySem.W.plainGet K O_Lot "__class__" = true)
    (oh_Lot : PySem.W.findIn K (.ref O_Lot) "__class__" = some (some (.builtin "object.__class__")))
    (oi_Lot : PySem.W.mroIn K O_Lot (.type "object") = some true)
    {m_Lot_init : Addr} (ma_Lot_init : PySem.W.findIn K (.ref O_Lot) "__init__" = some (some (.ref m_Lot_init)))
    {voc_Lot_init vkV_Lot_init vdc_Lot_init vpm_Lot_init vcd_Lot_init vct_Lot_init : Value} {vod_Lot_init van_Lot_init : Option Addr} {vsl_Lot_init : Array (Option Value)} (ml_Lot_init : K.lookup m_Lot_init = some ⟨voc_Lot_init, vod_Lot_init, .func (PySem.W.fnOf "__init__" "Lot.__init__" (defArgs s_Lot_init) (defBody s_Lot_init) (defScope s_Lot_init) .none vkV_Lot_init vdc_Lot_init vpm_Lot_init van_Lot_init vcd_Lot_init vct_Lot_init), vsl_Lot_init⟩)
    (mc_Lot_init : PySem.W.codeIn K vcd_Lot_init "Lot.__init__" = true)
    (mk_Lot_init : PySem.W.keepIn K (.ref m_Lot_init) = true)
    (mi_Lot_init : PySem.W.isFn K (.ref m_Lot_init) = true)
    {mq_Lot_every : Addr} (ma_Lot_every : PySem.W.findIn K (.ref O_Lot) "every" = some (some (.ref mq_Lot_every)))
    {m_Lot_every : Addr} {mr_Lot_every : List Value} (mb_Lot_every : PySem.W.recIn K mq_Lot_every "staticmethod" = some (.ref m_Lot_every :: mr_Lot_every))
    {voc_Lot_every vkV_Lot_every vdc_Lot_every vpm_Lot_every vcd_Lot_every vct_Lot_every : Value} {vod_Lot_every van_Lot_every : Option Addr} {vsl_Lot_every : Array (Option Value)} (ml_Lot_every : K.lookup m_Lot_every = some ⟨voc_Lot_every, vod_Lot_every, .func (PySem.W.fnOf "every" "Lot.every" (defArgs s_Lot_every) (defBody s_Lot_every) (defScope s_Lot_every) .none vkV_Lot_every vdc_Lot_every vpm_Lot_every van_Lot_every vcd_Lot_every vct_Lot_every), vsl_Lot_every⟩)
    (mc_Lot_every : PySem.W.codeIn K vcd_Lot_every "Lot.every" = true)
    (mk_Lot_every : PySem.W.keepIn K (.ref m_Lot_every) = true)
    (mi_Lot_every : PySem.W.isFn K (.ref m_Lot_every) = true)
    {mq_Lot_none : Addr} (ma_Lot_none : PySem.W.findIn K (.ref O_Lot) "none" = some (some (.ref mq_Lot_none)))
    {m_Lot_none : Addr} {mr_Lot_none : List Value} (mb_Lot_none : PySem.W.recIn K mq_Lot_none "staticmethod" = some (.ref m_Lot_none :: mr_Lot_none))
    {voc_Lot_none vkV_Lot_none vdc_Lot_none vpm_Lot_none vcd_Lot_none vct_Lot_none : Value} {vod_Lot_none van_Lot_none : Option Addr} {vsl_Lot_none : Array (Option Value)} (ml_Lot_none : K.lookup m_Lot_none = some ⟨voc_Lot_none, vod_Lot_none, .func (PySem.W.fnOf "none" "Lot.none" (defArgs s_Lot_none) (defBody s_Lot_none) (defScope s_Lot_none) .none vkV_Lot_none vdc_Lot_none vpm_Lot_none van_Lot_none vcd_Lot_none vct_Lot_none), vsl_Lot_none⟩)
    (mc_Lot_none : PySem.W.codeIn K vcd_Lot_none "Lot.none" = true)
    (mk_Lot_none : PySem.W.keepIn K (.ref m_Lot_none) = true)
    (mi_Lot_none : PySem.W.isFn K (.ref m_Lot_none) = true)
    {m_Lot_len : Addr} (ma_Lot_len : PySem.W.findIn K (.ref O_Lot) "__len__" = some (some (.ref m_Lot_len)))
    {voc_Lot_len vkV_Lot_len vdc_Lot_len vpm_Lot_len vcd_Lot_len vct_Lot_len : Value} {vod_Lot_len van_Lot_len : Option Addr} {vsl_Lot_len : Array (Option Value)} (ml_Lot_len : K.lookup m_Lot_len = some ⟨voc_Lot_len, vod_Lot_len, .func (PySem.W.fnOf "__len__" "Lot.__len__" (defArgs s_Lot_len) (defBody s_Lot_len) (defScope s_Lot_len) .none vkV_Lot_len vdc_Lot_len vpm_Lot_len van_Lot_len vcd_Lot_len vct_Lot_len), vsl_Lot_len⟩)
    (mc_Lot_len : PySem.W.codeIn K vcd_Lot_len "Lot.__len__" = true)
    (mk_Lot_len : PySem.W.keepIn K (.ref m_Lot_len) = true)
    (mi_Lot_len : PySem.W.isFn K (.ref m_Lot_len) = true)
    {m_Lot_iter : Addr} (ma_Lot_iter : PySem.W.findIn K (.ref O_Lot) "__iter__" = some (some (.ref m_Lot_iter)))
    {voc_Lot_iter vkV_Lot_iter vdc_Lot_iter vpm_Lot_iter vcd_Lot_iter vct_Lot_iter : Value} {vod_Lot_iter van_Lot_iter : Option Addr} {vsl_Lot_iter : Array (Option Value)} (ml_Lot_iter : K.lookup m_Lot_iter = some ⟨voc_Lot_iter, vod_Lot_iter, .func (PySem.W.fnOf "__iter__" "Lot.__iter__" (defArgs s_Lot_iter) (defBody s_Lot_iter) (defScope s_Lot_iter) .none vkV_Lot_iter vdc_Lot_iter vpm_Lot_iter van_Lot_iter vcd_Lot_iter vct_Lot_iter), vsl_Lot_iter⟩)
    (mc_Lot_iter : PySem.W.codeIn K vcd_Lot_iter "Lot.__iter__" = true)
    (mk_Lot_iter : PySem.W.keepIn K (.ref m_Lot_iter) = true)
    (mi_Lot_iter : PySem.W.isFn K (.ref m_Lot_iter) = true)
    {m_Lot_eq : Addr} (ma_Lot_eq : PySem.W.findIn K (.ref O_Lot) "__eq__" = some (some (.ref m_Lot_eq)))
    {voc_Lot_eq vkV_Lot_eq vdc_Lot_eq vpm_Lot_eq vcd_Lot_eq vct_Lot_eq : Value} {vod_Lot_eq van_Lot_eq : Option Addr} {vsl_Lot_eq : Array (Option Value)} (ml_Lot_eq : K.lookup m_Lot_eq = some ⟨voc_Lot_eq, vod_Lot_eq, .func (PySem.W.fnOf "__eq__" "Lot.__eq__" (defArgs s_Lot_eq) (defBody s_Lot_eq) (defScope s_Lot_eq) .none vkV_Lot_eq vdc_Lot_eq vpm_Lot_eq van_Lot_eq vcd_Lot_eq vct_Lot_eq), vsl_Lot_eq⟩)
    (mc_Lot_eq : PySem.W.codeIn K vcd_Lot_eq "Lot.__eq__" = true)
    (mk_Lot_eq : PySem.W.keepIn K (.ref m_Lot_eq) = true)
    (mi_Lot_eq : PySem.W.isFn K (.ref m_Lot_eq) = true)
    (ka_Lot : PySem.W.makesIn K O_Lot = true)
    (kb_Lot : PySem.W.findIn K (.ref O_Lot) "__init__" = some (some (.ref m_Lot_init)))
    (ta_Lot_every : PySem.W.readsIn K O_Lot (.type "type") = true)
    (tb_Lot_every : PySem.W.specialIn K (.ref O_Lot) "__getattribute__" = some (some (.builtin "type.__getattribute__")))
    (tc_Lot_every : PySem.W.findCls K (.ref O_Lot) (.type "type") "every" = some (.get (.builtin "staticmethod.__get__") (.ref mq_Lot_every) .none (.ref O_Lot)))
    (ta_Lot_none : PySem.W.readsIn K O_Lot (.type "type") = true)
    (tb_Lot_none : PySem.W.specialIn K (.ref O_Lot) "__getattribute__" = some (some (.builtin "type.__getattribute__")))
    (tc_Lot_none : PySem.W.findCls K (.ref O_Lot) (.type "type") "none" = some (.get (.builtin "staticmethod.__get__") (.ref mq_Lot_none) .none (.ref O_Lot)))
    (qa_Lot : PySem.W.findIn K (.ref O_Lot) "__eq__" = some (some (.ref m_Lot_eq)))
    (qb_Lot : PySem.W.findIn K (.ref O_Lot) "__ne__" = some (some (.builtin "object.__ne__")))
    (no_Lot_period : PySem.W.findIn K (.ref O_Lot) "period" = some none)
    (no_Lot_runs : PySem.W.findIn K (.ref O_Lot) "runs" = some none)
    (no_Lot_size : PySem.W.findIn K (.ref O_Lot) "size" = some none)
    (no_Lot_own_begins : PySem.W.findIn K (.ref O_Lot) "own_begins" = some none)
    {u_MOST_RUNS_lots : Value} (ga_MOST_RUNS_lots : PySem.W.nsIn K mainGlobals "MOST_RUNS_lots" = some (some u_MOST_RUNS_lots))
    (r_MOST_RUNS_lots : RelV (.int 2000) u_MOST_RUNS_lots)
    {mq_Lot_around : Addr} (ma_Lot_around : PySem.W.findIn K (.ref O_Lot) "around" = some (some (.ref mq_Lot_around)))
    {m_Lot_around : Addr} {mr_Lot_around : List Value} (mb_Lot_around : PySem.W.recIn K mq_Lot_around "staticmethod" = some (.ref m_Lot_around :: mr_Lot_around))
    {voc_Lot_around vkV_Lot_around vdc_Lot_around vpm_Lot_around vcd_Lot_around vct_Lot_around : Value} {vod_Lot_around van_Lot_around : Option Addr} {vsl_Lot_around : Array (Option Value)} (ml_Lot_around : K.lookup m_Lot_around = some ⟨voc_Lot_around, vod_Lot_around, .func (PySem.W.fnOf "around" "Lot.around" (defArgs s_Lot_around) (defBody s_Lot_around) (defScope s_Lot_around) .none vkV_Lot_around vdc_Lot_around vpm_Lot_around van_Lot_around vcd_Lot_around vct_Lot_around), vsl_Lot_around⟩)
    (mc_Lot_around : PySem.W.codeIn K vcd_Lot_around "Lot.around" = true)
    (mk_Lot_around : PySem.W.keepIn K (.ref m_Lot_around) = true)
    (mi_Lot_around : PySem.W.isFn K (.ref m_Lot_around) = true)
    (ta_Lot_around : PySem.W.readsIn K O_Lot (.type "type") = true)
    (tb_Lot_around : PySem.W.specialIn K (.ref O_Lot) "__getattribute__" = some (some (.builtin "type.__getattribute__")))
    (tc_Lot_around : PySem.W.findCls K (.ref O_Lot) (.type "type") "around" = some (.get (.builtin "staticmethod.__get__") (.ref mq_Lot_around) .none (.ref O_Lot)))
    {m_Lot_add : Addr} (ma_Lot_add : PySem.W.findIn K (.ref O_Lot) "__add__" = some (some (.ref m_Lot_add)))
    {voc_Lot_add vkV_Lot_add vdc_Lot_add vpm_Lot_add vcd_Lot_add vct_Lot_add : Value} {vod_Lot_add van_Lot_add : Option Addr} {vsl_Lot_add : Array (Option Value)} (ml_Lot_add : K.lookup m_Lot_add = some ⟨voc_Lot_add, vod_Lot_add, .func (PySem.W.fnOf "__add__" "Lot.__add__" (defArgs s_Lot_add) (defBody s_Lot_add) (defScope s_Lot_add) .none vkV_Lot_add vdc_Lot_add vpm_Lot_add van_Lot_add vcd_Lot_add vct_Lot_add), vsl_Lot_add⟩)
    (mc_Lot_add : PySem.W.codeIn K vcd_Lot_add "Lot.__add__" = true)
    (mk_Lot_add : PySem.W.keepIn K (.ref m_Lot_add) = true)
    (mi_Lot_add : PySem.W.isFn K (.ref m_Lot_add) = true)
    {m_Lot_at_least : Addr} (ma_Lot_at_least : PySem.W.findIn K (.ref O_Lot) "at_least" = some (some (.ref m_Lot_at_least)))
    {voc_Lot_at_least vkV_Lot_at_least vdc_Lot_at_least vpm_Lot_at_least vcd_Lot_at_least vct_Lot_at_least : Value} {vod_Lot_at_least van_Lot_at_least : Option Addr} {vsl_Lot_at_least : Array (Option Value)} (ml_Lot_at_least : K.lookup m_Lot_at_least = some ⟨voc_Lot_at_least, vod_Lot_at_least, .func (PySem.W.fnOf "at_least" "Lot.at_least" (defArgs s_Lot_at_least) (defBody s_Lot_at_least) (defScope s_Lot_at_least) .none vkV_Lot_at_least vdc_Lot_at_least vpm_Lot_at_least van_Lot_at_least vcd_Lot_at_least vct_Lot_at_least), vsl_Lot_at_least⟩)
    (mc_Lot_at_least : PySem.W.codeIn K vcd_Lot_at_least "Lot.at_least" = true)
    (mk_Lot_at_least : PySem.W.keepIn K (.ref m_Lot_at_least) = true)
    (mi_Lot_at_least : PySem.W.isFn K (.ref m_Lot_at_least) = true)
    {m_Lot_at_most : Addr} (ma_Lot_at_most : PySem.W.findIn K (.ref O_Lot) "at_most" = some (some (.ref m_Lot_at_most)))
    {voc_Lot_at_most vkV_Lot_at_most vdc_Lot_at_most vpm_Lot_at_most vcd_Lot_at_most vct_Lot_at_most : Value} {vod_Lot_at_most van_Lot_at_most : Option Addr} {vsl_Lot_at_most : Array (Option Value)} (ml_Lot_at_most : K.lookup m_Lot_at_most = some ⟨voc_Lot_at_most, vod_Lot_at_most, .func (PySem.W.fnOf "at_most" "Lot.at_most" (defArgs s_Lot_at_most) (defBody s_Lot_at_most) (defScope s_Lot_at_most) .none vkV_Lot_at_most vdc_Lot_at_most vpm_Lot_at_most van_Lot_at_most vcd_Lot_at_most vct_Lot_at_most), vsl_Lot_at_most⟩)
    (mc_Lot_at_most : PySem.W.codeIn K vcd_Lot_at_most "Lot.at_most" = true)
    (mk_Lot_at_most : PySem.W.keepIn K (.ref m_Lot_at_most) = true)
    (mi_Lot_at_most : PySem.W.isFn K (.ref m_Lot_at_most) = true)
    {m_Lot_below : Addr} (ma_Lot_below : PySem.W.findIn K (.ref O_Lot) "below" = some (some (.ref m_Lot_below)))
    {voc_Lot_below vkV_Lot_below vdc_Lot_below vpm_Lot_below vcd_Lot_below vct_Lot_below : Value} {vod_Lot_below van_Lot_below : Option Addr} {vsl_Lot_below : Array (Option Value)} (ml_Lot_below : K.lookup m_Lot_below = some ⟨voc_Lot_below, vod_Lot_below, .func (PySem.W.fnOf "below" "Lot.below" (defArgs s_Lot_below) (defBody s_Lot_below) (defScope s_Lot_below) .none vkV_Lot_below vdc_Lot_below vpm_Lot_below van_Lot_below vcd_Lot_below vct_Lot_below), vsl_Lot_below⟩)
    (mc_Lot_below : PySem.W.codeIn K vcd_Lot_below "Lot.below" = true)
    (mk_Lot_below : PySem.W.keepIn K (.ref m_Lot_below) = true)
    (mi_Lot_below : PySem.W.isFn K (.ref m_Lot_below) = true)
    {m_Lot_how_many : Addr} (ma_Lot_how_many : PySem.W.findIn K (.ref O_Lot) "how_many" = some (some (.ref m_Lot_how_many)))
    {voc_Lot_how_many vkV_Lot_how_many vdc_Lot_how_many vpm_Lot_how_many vcd_Lot_how_many vct_Lot_how_many : Value} {vod_Lot_how_many van_Lot_how_many : Option Addr} {vsl_Lot_how_many : Array (Option Value)} (ml_Lot_how_many : K.lookup m_Lot_how_many = some ⟨voc_Lot_how_many, vod_Lot_how_many, .func (PySem.W.fnOf "how_many" "Lot.how_many" (defArgs s_Lot_how_many) (defBody s_Lot_how_many) (defScope s_Lot_how_many) .none vkV_Lot_how_many vdc_Lot_how_many vpm_Lot_how_many van_Lot_how_many vcd_Lot_how_many vct_Lot_how_many), vsl_Lot_how_many⟩)
    (mc_Lot_how_many : PySem.W.codeIn K vcd_Lot_how_many "Lot.how_many" = true)
    (mk_Lot_how_many : PySem.W.keepIn K (.ref m_Lot_how_many) = true)
    (mi_Lot_how_many : PySem.W.isFn K (.ref m_Lot_how_many) = true)
    (xa_Lot_at_least : PySem.W.findIn K (.ref O_Lot) "at_least" = some (some (.ref m_Lot_at_least)))
    (xa_Lot_at_most : PySem.W.findIn K (.ref O_Lot) "at_most" = some (some (.ref m_Lot_at_most)))
    (xa_Lot_below : PySem.W.findIn K (.ref O_Lot) "below" = some (some (.ref m_Lot_below)))
    (xa_Lot_how_many : PySem.W.findIn K (.ref O_Lot) "how_many" = some (some (.ref m_Lot_how_many)))
    (ua_Lot : PySem.W.selfFirst K O_Lot = true)
    (ub_Lot_add : PySem.W.findIn K (.ref O_Lot) "__add__" = some (some (.ref m_Lot_add)))
    (uc_Lot_add_int : PySem.W.findIn K (.ref O_Lot) "__radd__" = some none)
    {ud0_Lot_add_int : Option Value} (ud_Lot_add_int : PySem.W.findIn K (.type "int") "__add__" = some ud0_Lot_add_int)
    {ue0_Lot_add_int : Option Value} (ue_Lot_add_int : PySem.W.findIn K (.type "int") "__radd__" = some ue0_Lot_add_int)
    (uf_Lot_int : PySem.W.subIn K (.type "int") (.ref O_Lot) = some false)
    {O_Round : Addr} (oa_Round : PySem.W.nsIn K mainGlobals "Round" = some (some (.ref O_Round)))
    (ob_Round : PySem.W.plainGet K O_Round Str.empty = true)
    (oc_Round : PySem.W.hasDictIn K O_Round = true)
    (od_Round : PySem.W.plainOver K O_Round = true)
    (oe_Round : PySem.W.findIn K (.ref O_Round) "__setattr__" = some (some (.builtin "object.__setattr__")))
    (of_Round : PySem.W.keepIn K (.ref O_Round) = true)
    (og_Round : PySem.W.plainGet K O_Round "__class__" = true)
    (oh_Round : PySem.W.findIn K (.ref O_Round) "__class__" = some (some (.builtin "object.__class__")))
    (oi_Round : PySem.W.mroIn K O_Round (.type "object") = some true)
    {m_Round_init : Addr} (ma_Round_init : PySem.W.findIn K (.ref O_Round) "__init__" = some (some (.ref m_Round_init)))
    {voc_Round_init vkV_Round_init vdc_Round_init vpm_Round_init vcd_Round_init vct_Round_init : Value} {vod_Round_init van_Round_init : Option Addr} {vsl_Round_init : Array (Option Value)} (ml_Round_init : K.lookup m_Round_init = some ⟨voc_Round_init, vod_Round_init, .func (PySem.W.fnOf "__init__" "Round.__init__" (defArgs s_Round_init) (defBody s_Round_init) (defScope s_Round_init) .none vkV_Round_init vdc_Round_init vpm_Round_init van_Round_init vcd_Round_init vct_Round_init), vsl_Round_init⟩)
    (mc_Round_init : PySem.W.codeIn K vcd_Round_init "Round.__init__" = true)
    (mk_Round_init : PySem.W.keepIn K (.ref m_Round_init) = true)
    (mi_Round_init : PySem.W.isFn K (.ref m_Round_init) = true)
    {m_Round_place : Addr} (ma_Round_place : PySem.W.findIn K (.ref O_Round) "place" = some (some (.ref m_Round_place)))
    {voc_Round_place vkV_Round_place vdc_Round_place vpm_Round_place vcd_Round_place vct_Round_place : Value} {vod_Round_place van_Round_place : Option Addr} {vsl_Round_place : Array (Option Value)} (ml_Round_place : K.lookup m_Round_place = some ⟨voc_Round_place, vod_Round_place, .func (PySem.W.fnOf "place" "Round.place" (defArgs s_Round_place) (defBody s_Round_place) (defScope s_Round_place) .none vkV_Round_place vdc_Round_place vpm_Round_place van_Round_place vcd_Round_place vct_Round_place), vsl_Round_place⟩)
    (mc_Round_place : PySem.W.codeIn K vcd_Round_place "Round.place" = true)
    (mk_Round_place : PySem.W.keepIn K (.ref m_Round_place) = true)
    (mi_Round_place : PySem.W.isFn K (.ref m_Round_place) = true)
    (ka_Round : PySem.W.makesIn K O_Round = true)
    (kb_Round : PySem.W.findIn K (.ref O_Round) "__init__" = some (some (.ref m_Round_init)))
    (xa_Round_place : PySem.W.findIn K (.ref O_Round) "place" = some (some (.ref m_Round_place)))
    (no_Round_step : PySem.W.findIn K (.ref O_Round) "step" = some none)
    (no_Round_own : PySem.W.findIn K (.ref O_Round) "own" = some none)
    (no_Round_part : PySem.W.findIn K (.ref O_Round) "part" = some none)
    (no_Round_total : PySem.W.findIn K (.ref O_Round) "total" = some none)
    (no_Round_inverse : PySem.W.findIn K (.ref O_Round) "inverse" = some none)
    {O_Ranked : Addr} (oa_Ranked : PySem.W.nsIn K mainGlobals "Ranked" = some (some (.ref O_Ranked)))
    (ob_Ranked : PySem.W.plainGet K O_Ranked Str.empty = true)
    (oc_Ranked : PySem.W.hasDictIn K O_Ranked = true)
    (od_Ranked : PySem.W.plainOver K O_Ranked = true)
    (oe_Ranked : PySem.W.findIn K (.ref O_Ranked) "__setattr__" = some (some (.builtin "object.__setattr__")))
    (of_Ranked : PySem.W.keepIn K (.ref O_Ranked) = true)
    (og_Ranked : PySem.W.plainGet K O_Ranked "__class__" = true)
    (oh_Ranked : PySem.W.findIn K (.ref O_Ranked) "__class__" = some (some (.builtin "object.__class__")))
    (oi_Ranked : PySem.W.mroIn K O_Ranked (.type "object") = some true)
    {m_Ranked_init : Addr} (ma_Ranked_init : PySem.W.findIn K (.ref O_Ranked) "__init__" = some (some (.ref m_Ranked_init)))
    {voc_Ranked_init vkV_Ranked_init vdc_Ranked_init vpm_Ranked_init vcd_Ranked_init vct_Ranked_init : Value} {vod_Ranked_init van_Ranked_init : Option Addr} {vsl_Ranked_init : Array (Option Value)} (ml_Ranked_init : K.lookup m_Ranked_init = some ⟨voc_Ranked_init, vod_Ranked_init, .func (PySem.W.fnOf "__init__" "Ranked.__init__" (defArgs s_Ranked_init) (defBody s_Ranked_init) (defScope s_Ranked_init) .none vkV_Ranked_init vdc_Ranked_init vpm_Ranked_init van_Ranked_init vcd_Ranked_init vct_Ranked_init), vsl_Ranked_init⟩)
    (mc_Ranked_init : PySem.W.codeIn K vcd_Ranked_init "Ranked.__init__" = true)
    (mk_Ranked_init : PySem.W.keepIn K (.ref m_Ranked_init) = true)
    (mi_Ranked_init : PySem.W.isFn K (.ref m_Ranked_init) = true)
    {m_Ranked_hit : Addr} (ma_Ranked_hit : PySem.W.findIn K (.ref O_Ranked) "hit" = some (some (.ref m_Ranked_hit)))
    {voc_Ranked_hit vkV_Ranked_hit vdc_Ranked_hit vpm_Ranked_hit vcd_Ranked_hit vct_Ranked_hit : Value} {vod_Ranked_hit van_Ranked_hit : Option Addr} {vsl_Ranked_hit : Array (Option Value)} (ml_Ranked_hit : K.lookup m_Ranked_hit = some ⟨voc_Ranked_hit, vod_Ranked_hit, .func (PySem.W.fnOf "hit" "Ranked.hit" (defArgs s_Ranked_hit) (defBody s_Ranked_hit) (defScope s_Ranked_hit) .none vkV_Ranked_hit vdc_Ranked_hit vpm_Ranked_hit van_Ranked_hit vcd_Ranked_hit vct_Ranked_hit), vsl_Ranked_hit⟩)
    (mc_Ranked_hit : PySem.W.codeIn K vcd_Ranked_hit "Ranked.hit" = true)
    (mk_Ranked_hit : PySem.W.keepIn K (.ref m_Ranked_hit) = true)
    (mi_Ranked_hit : PySem.W.isFn K (.ref m_Ranked_hit) = true)
    (ka_Ranked : PySem.W.makesIn K O_Ranked = true)
    (kb_Ranked : PySem.W.findIn K (.ref O_Ranked) "__init__" = some (some (.ref m_Ranked_init)))
    (xa_Ranked_hit : PySem.W.findIn K (.ref O_Ranked) "hit" = some (some (.ref m_Ranked_hit)))
    (no_Ranked_step : PySem.W.findIn K (.ref O_Ranked) "step" = some none)
    (no_Ranked_rows : PySem.W.findIn K (.ref O_Ranked) "rows" = some none)
    (no_Ranked_firsts : PySem.W.findIn K (.ref O_Ranked) "firsts" = some none)
    {O_Paper : Addr} (oa_Paper : PySem.W.nsIn K mainGlobals "Paper" = some (some (.ref O_Paper)))
    (ob_Paper : PySem.W.plainGet K O_Paper Str.empty = true)
    (oc_Paper : PySem.W.hasDictIn K O_Paper = true)
    (od_Paper : PySem.W.plainOver K O_Paper = true)
    (oe_Paper : PySem.W.findIn K (.ref O_Paper) "__setattr__" = some (some (.builtin "object.__setattr__")))
    (of_Paper : PySem.W.keepIn K (.ref O_Paper) = true)
    (og_Paper : PySem.W.plainGet K O_Paper "__class__" = true)
    (oh_Paper : PySem.W.findIn K (.ref O_Paper) "__class__" = some (some (.builtin "object.__class__")))
    (oi_Paper : PySem.W.mroIn K O_Paper (.type "object") = some true)
    {O_Join : Addr} (oa_Join : PySem.W.nsIn K mainGlobals "Join" = some (some (.ref O_Join)))
    (ob_Join : PySem.W.plainGet K O_Join Str.empty = true)
    (oc_Join : PySem.W.hasDictIn K O_Join = true)
    (od_Join : PySem.W.plainOver K O_Join = true)
    (oe_Join : PySem.W.findIn K (.ref O_Join) "__setattr__" = some (some (.builtin "object.__setattr__")))
    (of_Join : PySem.W.keepIn K (.ref O_Join) = true)
    (og_Join : PySem.W.plainGet K O_Join "__class__" = true)
    (oh_Join : PySem.W.findIn K (.ref O_Join) "__class__" = some (some (.builtin "object.__class__")))
    (oi_Join : PySem.W.mroIn K O_Join (.type "object") = some true)
    {m_Paper_init : Addr} (ma_Paper_init : PySem.W.findIn K (.ref O_Paper) "__init__" = some (some (.ref m_Paper_init)))
    {voc_Paper_init vkV_Paper_init vdc_Paper_init vpm_Paper_init vcd_Paper_init vct_Paper_init : Value} {vod_Paper_init van_Paper_init : Option Addr} {vsl_Paper_init : Array (Option Value)} (ml_Paper_init : K.lookup m_Paper_init = some ⟨voc_Paper_init, vod_Paper_init, .func (PySem.W.fnOf "__init__" "Paper.__init__" (defArgs s_Paper_init) (defBody s_Paper_init) (defScope s_Paper_init) .none vkV_Paper_init vdc_Paper_init vpm_Paper_init van_Paper_init vcd_Paper_init vct_Paper_init), vsl_Paper_init⟩)
    (mc_Paper_init : PySem.W.codeIn K vcd_Paper_init "Paper.__init__" = true)
    (mk_Paper_init : PySem.W.keepIn K (.ref m_Paper_init) = true)
    (mi_Paper_init : PySem.W.isFn K (.ref m_Paper_init) = true)
    {m_Join_init : Addr} (ma_Join_init : PySem.W.findIn K (.ref O_Join) "__init__" = some (some (.ref m_Join_init)))
    {voc_Join_init vkV_Join_init vdc_Join_init vpm_Join_init vct_Join_init : Value} {vod_Join_init van_Join_init : Option Addr} {vsl_Join_init : Array (Option Value)} {vc_Join_init vcc_Join_init : Addr} (ml_Join_init : K.lookup m_Join_init = some ⟨voc_Join_init, vod_Join_init, .func (PySem.W.fnX "__init__" "Join.__init__" (defArgs s_Join_init) (defBody s_Join_init) (defScope s_Join_init) [("__class__", vcc_Join_init)] .none vkV_Join_init vdc_Join_init vpm_Join_init van_Join_init (.ref vc_Join_init) vct_Join_init), vsl_Join_init⟩)
    (mc_Join_init : PySem.W.codeIn K (.ref vc_Join_init) "Join.__init__" = true)
    (mk_Join_init : PySem.W.keepIn K (.ref m_Join_init) = true)
    (mi_Join_init : PySem.W.isFn K (.ref m_Join_init) = true)
    {vcl_Join_init : Value} {vcld_Join_init : Option Addr} {vcsl_Join_init : Array (Option Value)} (mx_Join_init : K.lookup vcc_Join_init = some ⟨vcl_Join_init, vcld_Join_init, .cell (some (.ref O_Join)), vcsl_Join_init⟩)
    {vccl_Join_init : Value} {vcdd_Join_init : Option Addr} {vvs_Join_init : Array Value} {vccs_Join_init : Array (Option Value)} (my_Join_init : K.lookup vc_Join_init = some ⟨vccl_Join_init, vcdd_Join_init, .fields vvs_Join_init, vccs_Join_init⟩)
    {vfl_Join_init : Str} {vtf_Join_init : Tok} (mz_Join_init : vvs_Join_init[2]? = some (.str vfl_Join_init vtf_Join_init))
    (mf_Join_init : (l.prog.main.file == vfl_Join_init) = true)
    {vcd_Join_init : ClassData} (mg_Join_init : PySem.W.clsIn K O_Join = some vcd_Join_init)
    (ka_Join : PySem.W.makesIn K O_Join = true)
    (kb_Join : PySem.W.findIn K (.ref O_Join) "__init__" = some (some (.ref m_Join_init)))
    (sa_Join_Join_init : PySem.W.ks_superIn K O_Join O_Join "__init__" = some (some (.ref m_Paper_init)))
    (sb_Join_Join_init : PySem.W.typeIn K (.ref m_Paper_init) = some (.type "function"))
    (sc_Join_Join_init : PySem.W.fnIn K m_Paper_init = true)
    {vsd_Join_Join_init : ClassData} (sd_Join_Join_init : PySem.W.clsIn K O_Join = some vsd_Join_Join_init)
    (se_Join_Join_init : PySem.W.mroIn K O_Join (.ref O_Join) = some true)
    (no_Join_own_parts : PySem.W.findIn K (.ref O_Join) "own_parts" = some none)
    (no_Join_tables : PySem.W.findIn K (.ref O_Join) "tables" = some none)
    {ze_EVERY_TABLE : Addr} (zy_EVERY_TABLE : PySem.W.nsIn K mainGlobals "EVERY_TABLE" = some (some (.ref ze_EVERY_TABLE)))
    {zoe_EVERY_TABLE : Value} {zde_EVERY_TABLE : Option Addr} {zie_EVERY_TABLE : Array Value} {zne_EVERY_TABLE : Nat} {zse_EVERY_TABLE : Array (Option Value)} (zle_EVERY_TABLE : K.lookup ze_EVERY_TABLE = some ⟨zoe_EVERY_TABLE, zde_EVERY_TABLE, .seq zie_EVERY_TABLE zne_EVERY_TABLE, zse_EVERY_TABLE⟩)
    (zce_EVERY_TABLE : zoe_EVERY_TABLE = .type "tuple")
    {y1_EVERY_TABLE : Tok} {zr_EVERY_TABLE : Addr} (zte_EVERY_TABLE : zie_EVERY_TABLE.toList = [.int 1 y1_EVERY_TABLE, .ref zr_EVERY_TABLE])
    {zor_EVERY_TABLE : Value} {zdr_EVERY_TABLE : Option Addr} {zir_EVERY_TABLE : Array Value} {znr_EVERY_TABLE : Nat} {zsr_EVERY_TABLE : Array (Option Value)} (zlr_EVERY_TABLE : K.lookup zr_EVERY_TABLE = some ⟨zor_EVERY_TABLE, zdr_EVERY_TABLE, .seq zir_EVERY_TABLE znr_EVERY_TABLE, zsr_EVERY_TABLE⟩)
    (zcr_EVERY_TABLE : zor_EVERY_TABLE = .type "tuple")
    {zp_EVERY_TABLE : Addr} (ztr_EVERY_TABLE : zir_EVERY_TABLE.toList = [.ref zp_EVERY_TABLE])
    {zop_EVERY_TABLE : Value} {zdp_EVERY_TABLE : Option Addr} {zip_EVERY_TABLE : Array Value} {znp_EVERY_TABLE : Nat} {zsp_EVERY_TABLE : Array (Option Value)} (zlp_EVERY_TABLE : K.lookup zp_EVERY_TABLE = some ⟨zop_EVERY_TABLE, zdp_EVERY_TABLE, .seq zip_EVERY_TABLE znp_EVERY_TABLE, zsp_EVERY_TABLE⟩)
    (zcp_EVERY_TABLE : zop_EVERY_TABLE = .type "tuple")
    {y2_EVERY_TABLE y3_EVERY_TABLE : Tok} (ztp_EVERY_TABLE : zip_EVERY_TABLE.toList = [.int 0 y2_EVERY_TABLE, .int 0 y3_EVERY_TABLE])
    {u_MOST_RUNS_joins : Value} (ga_MOST_RUNS_joins : PySem.W.nsIn K mainGlobals "MOST_RUNS_joins" = some (some u_MOST_RUNS_joins))
    (r_MOST_RUNS_joins : RelV (.int 2000) u_MOST_RUNS_joins)
    (x1 : PySem.W.kitOne K (.ref O_Lot) (.ref O_Lot) = some true)
    (x2 : PySem.W.notFirst K O_Lot (.ref O_Lot) = true)
    (x3 : PySem.W.findIn K (.ref O_Lot) "__len__" = some (some (.ref m_Lot_len)))
    (x4 : PySem.W.findIn K (.ref O_Lot) "__iter__" = some (some (.ref m_Lot_iter)))
    (x6 : PySem.W.findIn K (.ref O_Lot) "__bool__" = some none) :
    LawG q l.prog w K 12 mg fa := by
  have e := hfa.symm.trans (PySem.W.mg_of X G a39)
  cases e
  have B : Bi mg := ⟨PySem.W.mg_none_of X G z0, PySem.W.mg_none_of X G z1, PySem.W.mg_none_of X G z2, PySem.W.mg_none_of X G z3, PySem.W.mg_none_of X G z4, PySem.W.mg_none_of X G z5, PySem.W.mg_none_of X G z6, PySem.W.mg_none_of X G z7, PySem.W.mg_none_of X G z8, PySem.W.mg_none_of X G z9, PySem.W.mg_none_of X G z10, PySem.W.mg_none_of X G z11, PySem.W.mg_none_of X G z12, PySem.W.mg_none_of X G z13, PySem.W.mg_none_of X G z14, PySem.W.mg_none_of X G z15, PySem.W.mg_none_of X G z16, PySem.W.mg_none_of X G z17, PySem.W.mg_none_of X G z18, PySem.W.mg_none_of X G z19, PySem.W.mg_none_of X G z20, PySem.W.mg_none_of X G z21, PySem.W.mg_none_of X G z22, PySem.W.mg_none_of X G z23, PySem.W.mg_none_of X G z24, PySem.W.mg_none_of X G z25⟩
  have F_is_whole : Df K mg "is_whole" s_is_whole := ⟨_, _, PySem.W.mg_of X G a0, fun_mk l0 c0 k0⟩
  have F_need_whole : Df K mg "need_whole" s_need_whole := ⟨_, _, PySem.W.mg_of X G a1, fun_mk l1 c1 k1⟩
  have F_need_above : Df K mg "need_above" s_need_above := ⟨_, _, PySem.W.mg_of X G a2, fun_mk l2 c2 k2⟩
  have F_divisor_of : Df K mg "divisor_of" s_divisor_of := ⟨_, _, PySem.W.mg_of X G a3, fun_mk l3 c3 k3⟩
  have F_common : Df K mg "common" s_common := ⟨_, _, PySem.W.mg_of X G a4, fun_mk l4 c4 k4⟩
  have F_multiple : Df K mg "multiple" s_multiple := ⟨_, _, PySem.W.mg_of X G a5, fun_mk l5 c5 k5⟩
  have F_inverse_of : Df K mg "inverse_of" s_inverse_of := ⟨_, _, PySem.W.mg_of X G a6, fun_mk l6 c6 k6⟩
  have F_is_run : Df K mg "is_run" s_is_run := ⟨_, _, PySem.W.mg_of X G a7, fun_mk l7 c7 k7⟩
  have F_length_of : Df K mg "length_of" s_length_of := ⟨_, _, PySem.W.mg_of X G a8, fun_mk l8 c8 k8⟩
  have F_place_among : Df K mg "place_among" s_place_among := ⟨_, _, PySem.W.mg_of X G a9, fun_mk l9 c9 k9⟩
  have F_count_in : Df K mg "count_in" s_count_in := ⟨_, _, PySem.W.mg_of X G a10, fun_mk l10 c10 k10⟩
  have F_remainders : Df K mg "remainders" s_remainders := ⟨_, _, PySem.W.mg_of X G a11, fun_mk l11 c11 k11⟩
  have F_meets : Df K mg "meets" s_meets := ⟨_, _, PySem.W.mg_of X G a12, fun_mk l12 c12 k12⟩
  have F_begun_inside : Df K mg "begun_inside" s_begun_inside := ⟨_, _, PySem.W.mg_of X G a13, fun_mk l13 c13 k13⟩
  have F_shared_far : Df K mg "shared_far" s_shared_far := ⟨_, _, PySem.W.mg_of X G a14, fun_mk l14 c14 k14⟩
  have F_shared_runs : Df K mg "shared_runs" s_shared_runs := ⟨_, _, PySem.W.mg_of X G a15, fun_mk l15 c15 k15⟩
  have F_melted : Df K mg "melted" s_melted := ⟨_, _, PySem.W.mg_of X G a16, fun_mk l16 c16 k16⟩
  have F_closed_round : Df K mg "closed_round" s_closed_round := ⟨_, _, PySem.W.mg_of X G a17, fun_mk l17 c17 k17⟩
  have F_maximal : Df K mg "maximal" s_maximal := ⟨_, _, PySem.W.mg_of X G a18, fun_mk l18 c18 k18⟩
  have F_least_form : Df K mg "least_form" s_least_form := ⟨_, _, PySem.W.mg_of X G a19, fun_mk l19 c19 k19⟩
  have F_gaps_of : Df K mg "gaps_of" s_gaps_of := ⟨_, _, PySem.W.mg_of X G a20, fun_mk l20 c20 k20⟩
  have F_need_integer : Df K mg "need_integer" s_need_integer := ⟨_, _, PySem.W.mg_of X G a21, fun_mk l21 c21 k21⟩
  have F_need_few : Df K mg "need_few" s_need_few := ⟨_, _, PySem.W.mg_of X G a22, fun_mk l22 c22 k22⟩
  have F_lot_of : Df K mg "lot_of" s_lot_of := ⟨_, _, PySem.W.mg_of X G a23, fun_mk l23 c23 k23⟩
  have F_moved : Df K mg "moved" s_moved := ⟨_, _, PySem.W.mg_of X G a24, fun_mk l24 c24 k24⟩
  have F_need_lots : Df K mg "need_lots" s_need_lots := ⟨_, _, PySem.W.mg_of X G a25, fun_mk l25 c25 k25⟩
  have F_table_of : Df K mg "table_of" s_table_of := ⟨_, _, PySem.W.mg_of X G a26, fun_mk l26 c26 k26⟩
  have F_next_table : Df K mg "next_table" s_next_table := ⟨_, _, PySem.W.mg_of X G a27, fun_mk l27 c27 k27⟩
  have F_join : Df K mg "join" s_join := ⟨_, _, PySem.W.mg_of X G a28, fun_mk l28 c28 k28⟩
  have F_table_lot : Df K mg "table_lot" s_table_lot := ⟨_, _, PySem.W.mg_of X G a29, fun_mk l29 c29 k29⟩
  have F_joined : Df K mg "joined" s_joined := ⟨_, _, PySem.W.mg_of X G a30, fun_mk l30 c30 k30⟩
  have F_law_pen : Df K mg "_law_pen" s_law_pen := ⟨_, _, PySem.W.mg_of X G a31, fun_mk l31 c31 k31⟩
  have F_law_draw : Df K mg "_law_draw" s_law_draw := ⟨_, _, PySem.W.mg_of X G a32, fun_mk l32 c32 k32⟩
  have F_law_pick : Df K mg "_law_pick" s_law_pick := ⟨_, _, PySem.W.mg_of X G a33, fun_mk l33 c33 k33⟩
  have F_law_some : Df K mg "_law_some" s_law_some := ⟨_, _, PySem.W.mg_of X G a34, fun_mk l34 c34 k34⟩
  have F_law_is_in : Df K mg "_law_is_in" s_law_is_in := ⟨_, _, PySem.W.mg_of X G a35, fun_mk l35 c35 k35⟩
  have F_law_table : Df K mg "_law_table" s_law_table := ⟨_, _, PySem.W.mg_of X G a36, fun_mk l36 c36 k36⟩
  have F_law_next : Df K mg "_law_next" s_law_next := ⟨_, _, PySem.W.mg_of X G a37, fun_mk l37 c37 k37⟩
  have F_law_many : Df K mg "_law_many" s_law_many := ⟨_, _, PySem.W.mg_of X G a38, fun_mk l38 c38 k38⟩
  have FL := fun_mk (st := s_law) l39 c39 k39
  have A : ErrAll l.prog K mg := ⟨g3, op, PySem.W.mg_none_of X G zs, g1, g2⟩
  refine ⟨[], List.nodup_nil, fun p hp => absurd hp (List.not_mem_nil)
  , fun base hK hG hT => ?_⟩
  have T_BadNumber : ErrT l.prog w K mg base "BadNumber" C_0 ["value"] := err_mk1 "value" X G A E_0 e0_0 sc_BadNumber_init rfl rfl rfl rfl (fun _ => rfl) (fun _ => rfl) (fun _ => ⟨_, rfl⟩) (fun _ => rfl) (by decide) (by decide) (fun us hl => match us, hl with | [_, _], _ => rfl)
  have T_BadLot : ErrT l.prog w K mg base "BadLot" C_1 ["part"] := err_mk1 "part" X G A E_1 e1_0 sc_BadLot_init rfl rfl rfl rfl (fun _ => rfl) (fun _ => rfl) (fun _ => ⟨_, rfl⟩) (fun _ => rfl) (by decide) (by decide) (fun us hl => match us, hl with | [_, _], _ => rfl)
  have T_BadText : ErrT l.prog w K mg base "BadText" C_2 ["line", "word"] := err_mk2 "line" "word" X G A E_2 e2_0 e2_1 sc_BadText_init rfl rfl rfl rfl (fun _ => rfl) (fun _ => rfl) (fun _ => ⟨_, rfl⟩) (fun _ => rfl) (fun _ => rfl) (by decide) (by decide) (by decide) (by decide) (fun us hl => match us, hl with | [_, _, _], _ => rfl)
  have T_NoPlace : ErrT l.prog w K mg base "NoPlace" C_3 ["at"] := err_mk1 "at" X G A E_3 e3_0 sc_NoPlace_init rfl rfl rfl rfl (fun _ => rfl) (fun _ => rfl) (fun _ => ⟨_, rfl⟩) (fun _ => rfl) (by decide) (by decide) (fun us hl => match us, hl with | [_, _], _ => rfl)
  have T_TooMany : ErrT l.prog w K mg base "TooMany" C_4 ["what", "most"] := err_mk2 "what" "most" X G A E_4 e4_0 e4_1 sc_TooMany_init rfl rfl rfl rfl (fun _ => rfl) (fun _ => rfl) (fun _ => ⟨_, rfl⟩) (fun _ => rfl) (fun _ => rfl) (by decide) (by decide) (by decide) (by decide) (fun us hl => match us, hl with | [_, _, _], _ => rfl)
  have G_ReachError : mg "ReachError" = some (.ref D_0) := PySem.W.mg_of X G d0
  have G_NoMember : mg "NoMember" = some (.ref D_1) := PySem.W.mg_of X G d1
  have G_Lot : mg "Lot" = some (.ref O_Lot) := PySem.W.mg_of X G oa_Lot
  have c_Lot : L2.Cls K O_Lot := ⟨ob_Lot, oc_Lot, od_Lot, oe_Lot⟩
  have t_Lot : OwnT K O_Lot := ⟨og_Lot, oc_Lot, oh_Lot, g1, g2, oi_Lot⟩
  have FM_Lot_init := fun_mk (st := s_Lot_init) ml_Lot_init mc_Lot_init mk_Lot_init
  have FM_Lot_every := fun_mk (st := s_Lot_every) ml_Lot_every mc_Lot_every mk_Lot_every
  have FM_Lot_none := fun_mk (st := s_Lot_none) ml_Lot_none mc_Lot_none mk_Lot_none
  have FM_Lot_len := fun_mk (st := s_Lot_len) ml_Lot_len mc_Lot_len mk_Lot_len
  have FM_Lot_iter := fun_mk (st := s_Lot_iter) ml_Lot_iter mc_Lot_iter mk_Lot_iter
  have FM_Lot_eq := fun_mk (st := s_Lot_eq) ml_Lot_eq mc_Lot_eq mk_Lot_eq
  have mk_Lot : Mk K O_Lot m_Lot_init := ⟨ka_Lot, kb_Lot, mi_Lot_init, of_Lot⟩
  have sta_Lot_every : CSta K O_Lot (.type "type") "every" mq_Lot_every m_Lot_every := ⟨⟨ta_Lot_every, tb_Lot_every⟩, tc_Lot_every, ⟨_, mb_Lot_every⟩, mk_Lot_every⟩
  have sta_Lot_none : CSta K O_Lot (.type "type") "none" mq_Lot_none m_Lot_none := ⟨⟨ta_Lot_none, tb_Lot_none⟩, tc_Lot_none, ⟨_, mb_Lot_none⟩, mk_Lot_none⟩
  have oe_Lot : OwnEq K O_Lot m_Lot_eq := ⟨qa_Lot, mi_Lot_eq, qb_Lot, oi_Lot⟩
  have g_MOST_RUNS_lots := PySem.W.mg_of X G ga_MOST_RUNS_lots
  have FM_Lot_around := fun_mk (st := s_Lot_around) ml_Lot_around mc_Lot_around mk_Lot_around
  have sta_Lot_around : CSta K O_Lot (.type "type") "around" mq_Lot_around m_Lot_around := ⟨⟨ta_Lot_around, tb_Lot_around⟩, tc_Lot_around, ⟨_, mb_Lot_around⟩, mk_Lot_around⟩
  have FM_Lot_add := fun_mk (st := s_Lot_add) ml_Lot_add mc_Lot_add mk_Lot_add
  have FM_Lot_at_least := fun_mk (st := s_Lot_at_least) ml_Lot_at_least mc_Lot_at_least mk_Lot_at_least
  have FM_Lot_at_most := fun_mk (st := s_Lot_at_most) ml_Lot_at_most mc_Lot_at_most mk_Lot_at_most
  have FM_Lot_below := fun_mk (st := s_Lot_below) ml_Lot_below mc_Lot_below mk_Lot_below
  have FM_Lot_how_many := fun_mk (st := s_Lot_how_many) ml_Lot_how_many mc_Lot_how_many mk_Lot_how_many
  have me_Lot_at_least : Meth K O_Lot "at_least" m_Lot_at_least := ⟨xa_Lot_at_least, mi_Lot_at_least, mk_Lot_at_least⟩
  have me_Lot_at_most : Meth K O_Lot "at_most" m_Lot_at_most := ⟨xa_Lot_at_most, mi_Lot_at_most, mk_Lot_at_most⟩
  have me_Lot_below : Meth K O_Lot "below" m_Lot_below := ⟨xa_Lot_below, mi_Lot_below, mk_Lot_below⟩
  have me_Lot_how_many : Meth K O_Lot "how_many" m_Lot_how_many := ⟨xa_Lot_how_many, mi_Lot_how_many, mk_Lot_how_many⟩
  have bo_Lot_add : OwnBin K O_Lot "add" m_Lot_add := ⟨ua_Lot, ub_Lot_add, mi_Lot_add⟩
  have bt_Lot_add_int : BinT K O_Lot "add" "int" := ⟨uc_Lot_add_int, ⟨_, ud_Lot_add_int⟩, ⟨_, ue_Lot_add_int⟩, uf_Lot_int⟩
  have G_Round : mg "Round" = some (.ref O_Round) := PySem.W.mg_of X G oa_Round
  have c_Round : L2.Cls K O_Round := ⟨ob_Round, oc_Round, od_Round, oe_Round⟩
  have t_Round : OwnT K O_Round := ⟨og_Round, oc_Round, oh_Round, g1, g2, oi_Round⟩
  have FM_Round_init := fun_mk (st := s_Round_init) ml_Round_init mc_Round_init mk_Round_init
  have FM_Round_place := fun_mk (st := s_Round_place) ml_Round_place mc_Round_place mk_Round_place
  have mk_Round : Mk K O_Round m_Round_init := ⟨ka_Round, kb_Round, mi_Round_init, of_Round⟩
  have me_Round_place : Meth K O_Round "place" m_Round_place := ⟨xa_Round_place, mi_Round_place, mk_Round_place⟩
  have G_Ranked : mg "Ranked" = some (.ref O_Ranked) := PySem.W.mg_of X G oa_Ranked
  have c_Ranked : L2.Cls K O_Ranked := ⟨ob_Ranked, oc_Ranked, od_Ranked, oe_Ranked⟩
  have t_Ranked : OwnT K O_Ranked := ⟨og_Ranked, oc_Ranked, oh_Ranked, g1, g2, oi_Ranked⟩
  have FM_Ranked_init := fun_mk (st := s_Ranked_init) ml_Ranked_init mc_Ranked_init mk_Ranked_init
  have FM_Ranked_hit := fun_mk (st := s_Ranked_hit) ml_Ranked_hit mc_Ranked_hit mk_Ranked_hit
  have mk_Ranked : Mk K O_Ranked m_Ranked_init := ⟨ka_Ranked, kb_Ranked, mi_Ranked_init, of_Ranked⟩
  have me_Ranked_hit : Meth K O_Ranked "hit" m_Ranked_hit := ⟨xa_Ranked_hit, mi_Ranked_hit, mk_Ranked_hit⟩
  have G_Paper : mg "Paper" = some (.ref O_Paper) := PySem.W.mg_of X G oa_Paper
  have c_Paper : L2.Cls K O_Paper := ⟨ob_Paper, oc_Paper, od_Paper, oe_Paper⟩
  have t_Paper : OwnT K O_Paper := ⟨og_Paper, oc_Paper, oh_Paper, g1, g2, oi_Paper⟩
  have G_Join : mg "Join" = some (.ref O_Join) := PySem.W.mg_of X G oa_Join
  have c_Join : L2.Cls K O_Join := ⟨ob_Join, oc_Join, od_Join, oe_Join⟩
  have t_Join : OwnT K O_Join := ⟨og_Join, oc_Join, oh_Join, g1, g2, oi_Join⟩
  have FM_Paper_init := fun_mk (st := s_Paper_init) ml_Paper_init mc_Paper_init mk_Paper_init
  have FM_Join_init : SupF l.prog K "__init__" "Join.__init__" s_Join_init m_Join_init vc_Join_init vcc_Join_init O_Join _ := ⟨⟨voc_Join_init, vod_Join_init, vkV_Join_init, vdc_Join_init, vpm_Join_init, vct_Join_init, van_Join_init, vsl_Join_init, rfl, ml_Join_init⟩, mc_Join_init, ⟨vcl_Join_init, vcld_Join_init, vcsl_Join_init, mx_Join_init⟩, ⟨vccl_Join_init, vcdd_Join_init, vvs_Join_init, vccs_Join_init, vfl_Join_init, vtf_Join_init, my_Join_init, mz_Join_init, mf_Join_init⟩, ⟨vcd_Join_init, mg_Join_init⟩, g3⟩
  have mk_Join : Mk K O_Join m_Join_init := ⟨ka_Join, kb_Join, mi_Join_init, of_Join⟩
  have su_Join_Join_init : SupM K mg O_Join O_Join "__init__" m_Paper_init := ⟨sa_Join_Join_init, sb_Join_Join_init, sc_Join_Join_init, ⟨_, sd_Join_Join_init⟩, se_Join_Join_init, op, PySem.W.mg_none_of X G zs⟩
  have ev_EVERY_TABLE : EvT K mg "EVERY_TABLE" := ⟨ze_EVERY_TABLE, zr_EVERY_TABLE, zp_EVERY_TABLE, PySem.W.mg_of X G zy_EVERY_TABLE, ⟨_, _, _, zle_EVERY_TABLE, zce_EVERY_TABLE, rfl, by rw [← Array.length_toList, zte_EVERY_TABLE]; exact szL (Nat.le_of_ble_eq_true rfl), by rw [zte_EVERY_TABLE]; exact .cons ⟨_, rfl⟩ (.cons rfl .nil)⟩, ⟨_, _, _, zlr_EVERY_TABLE, zcr_EVERY_TABLE, rfl, by rw [← Array.length_toList, ztr_EVERY_TABLE]; exact szL (Nat.le_of_ble_eq_true rfl), by rw [ztr_EVERY_TABLE]; exact .cons rfl .nil⟩, ⟨_, _, _, zlp_EVERY_TABLE, zcp_EVERY_TABLE, rfl, by rw [← Array.length_toList, ztp_EVERY_TABLE]; exact szL (Nat.le_of_ble_eq_true rfl), by rw [ztp_EVERY_TABLE]; exact .cons ⟨_, rfl⟩ (.cons ⟨_, rfl⟩ .nil)⟩⟩
  have g_MOST_RUNS_joins := PySem.W.mg_of X G ga_MOST_RUNS_joins
  have D_whole := fn_is_wholeI (P := l.prog) (w := w) (base := base) B F_is_whole
  have D_run := fn_is_run B F_is_run D_whole
  have D_len := fn_length_of (P := l.prog) (w := w) (base := base) F_length_of
  have D_melt := fn_melted (P := l.prog) (w := w) (base := base) B F_melted
  have D_clos := fn_closed_round (P := l.prog) (w := w) (base := base) B F_closed_round
  have D_max := fn_maximal B F_maximal D_len D_melt D_clos
  have D_lform := fn_least_form B F_least_form D_len
  have D_few := fn_need_few (P := l.prog) (w := w) (base := base) F_need_few g_MOST_RUNS_lots r_MOST_RUNS_lots
  have la : LotA K O_Lot := ⟨c_Lot, no_Lot_period, no_Lot_runs, no_Lot_size, no_Lot_own_begins⟩
  have R_i := run_Lot_init B FM_Lot_init D_whole D_run D_max D_few D_lform D_len
  have R_ev := run_Lot_every FM_Lot_every G_Lot la mk_Lot R_i
  have R_no := run_Lot_none FM_Lot_none G_Lot la mk_Lot R_i
  have R_ln := run_Lot_len (P := l.prog) (w := w) (mg := mg) (base := base) B FM_Lot_len
  have R_it := fun n => run_Lot_iter (P := l.prog) (w := w) (mg := mg) (base := base) B FM_Lot_iter n
  have R_eq := run_Lot_eq (P := l.prog) (w := w) (base := base) B FM_Lot_eq G_Lot la t_Lot x1
  have EQ : LotEq l.prog w K mg base O_Lot := ⟨m_Lot_eq, oe_Lot, R_eq, x2⟩
  have D_pen := fn_law_pen (P := l.prog) (w := w) (base := base) B F_law_pen
  have D_draw := fn_law_draw (P := l.prog) (w := w) (base := base) B F_law_draw
  have D_pick := fn_law_pick B F_law_pick D_draw
  have R_ar := run_Lot_around FM_Lot_around argsP id id (fun _ _ r => r) (fun _ _ _ _ _ _ us hl => match us, hl with | [_, _], _ => rfl) D_whole G_Lot la mk_Lot R_i
  obtain ⟨LB, e_mc⟩ : ∃ S : LotB l.prog w K mg base O_Lot, S.mc = .type "type" := ⟨{ hC := G_Lot, la := la, fI := m_Lot_init, M0 := mk_Lot, R := R_i, mc := .type "type", pe := mq_Lot_every, ge := m_Lot_every, se := sta_Lot_every, Re := R_ev, pn := mq_Lot_none, gn := m_Lot_none, sn := sta_Lot_none, Rn := R_no, eq := EQ }, rfl⟩
  have D_nwh := fn_need_wholeI (P := l.prog) (w := w) (base := base) F_need_whole D_whole
  have D_nab := fn_need_above (P := l.prog) (w := w) (base := base) B F_need_above D_whole
  have D_div := fn_divisor_of (P := l.prog) (w := w) (base := base) B F_divisor_of
  have D_com := fn_commonI B F_common D_nwh D_div
  have D_mul := fn_multiple B F_multiple D_nab D_div
  have D_inv := fn_inverse_of (P := l.prog) (w := w) (base := base) B F_inverse_of
  have D_place := fn_place_among (P := l.prog) (w := w) (base := base) B F_place_among
  have D_cin := fn_count_in B F_count_in D_place
  have D_rem := fn_remainders (P := l.prog) (w := w) (base := base) B F_remainders
  have D_meets := fn_meets B F_meets D_com D_rem D_cin D_len
  have aR : RdA K O_Round := ⟨c_Round, no_Round_step, no_Round_own, no_Round_part, no_Round_total, no_Round_inverse⟩
  have aK : RkA K O_Ranked := ⟨c_Ranked, no_Ranked_step, no_Ranked_rows, no_Ranked_firsts⟩
  obtain ⟨RC, e_dk⟩ : ∃ R : RingC l.prog w K mg base, R.DK = O_Ranked := ⟨{ DR := O_Round, DK := O_Ranked, fR := m_Round_init, fK := m_Ranked_init, gp := m_Round_place, hR := G_Round, hK := G_Ranked, MR := mk_Round, MK := mk_Ranked, aR := aR, aK := aK, RR := run_Round_init B FM_Round_init D_com D_mul D_inv, RK := run_Ranked_init B FM_Ranked_init, mp := me_Round_place, Rp := run_Round_place B FM_Round_place }, rfl⟩
  have R_hit := run_Ranked_hit B FM_Ranked_hit D_place
  have D_beg := fn_begun_inside B F_begun_inside D_len me_Ranked_hit R_hit aK
  have D_far := fn_shared_far (P := l.prog) (w := w) (base := base) B F_shared_far
  have D_shr := fn_shared_runs B F_shared_runs RC (e_dk.symm ▸ D_beg) D_far
  have D_to := fn_tab_of (P := l.prog) (w := w) (base := base) (C := O_Lot) F_table_of
  have D_next := fn_next_table B F_next_table ev_EVERY_TABLE g_MOST_RUNS_joins r_MOST_RUNS_joins D_to D_meets D_shr
  have D_nl := fn_need_lots (P := l.prog) (w := w) (base := base) B F_need_lots G_Lot t_Lot x1
  have R_pa := run_Paper_init (P := l.prog) (w := w) (mg := mg) (base := base) FM_Paper_init
  have R_jo := run_Join_init FM_Join_init R_pa su_Join_Join_init
  have D_join := fn_join B F_join ev_EVERY_TABLE G_Join mk_Join c_Join no_Join_own_parts no_Join_tables R_jo D_nl D_next
  have D_runK := fn_is_runK (P := l.prog) (w := w) (base := base) B F_is_run D_whole
  have D_lenK := fn_length_ofK (P := l.prog) (w := w) (base := base) F_length_of
  have D_maxK := fn_maximalK B F_maximal D_lenK
  have R_iK := run_Lot_initK B FM_Lot_init D_whole D_runK D_maxK D_few D_lform D_len
  have D_tlot := fn_table_lot B F_table_lot ev_EVERY_TABLE G_Lot la mk_Lot R_i R_iK
  have D_joined := fn_joined F_joined c_Join no_Join_tables D_join D_tlot
  have D_lotof := fn_lot_of (P := l.prog) (w := w) (base := base) F_lot_of G_Lot la mk_Lot R_i
  have D_moved := fn_moved F_moved D_lotof
  have R_add := run_Lot_add FM_Lot_add D_whole D_moved
  have LA : LOp l.prog w K mg base O_Lot "add" 8 (spMovedBy K O_Lot) := ⟨m_Lot_add, bo_Lot_add, bt_Lot_add_int, R_add⟩
  have D_int := fn_need_integer (P := l.prog) (w := w) (base := base) F_need_integer D_whole
  have R_al := run_Lot_at_least B FM_Lot_at_least D_int D_place
  have R_am := run_Lot_at_most B FM_Lot_at_most D_int D_place
  have R_be := run_Lot_below (P := l.prog) (w := w) (base := base) (C := O_Lot) B FM_Lot_below
  have R_hm := run_Lot_how_many B FM_Lot_how_many D_int me_Lot_below R_be
  have AK : Ask l.prog w K mg base O_Lot := ⟨m_Lot_at_least, me_Lot_at_least, R_al, m_Lot_at_most, me_Lot_at_most, R_am, m_Lot_how_many, me_Lot_how_many, R_hm, x6, m_Lot_len, x3, mi_Lot_len, R_ln⟩
  have D_drawb := fn_law_drawB (P := l.prog) (w := w) (base := base) B F_law_draw
  have D_some := fn_law_some B F_law_some D_draw D_pick
  have D_isin := fn_law_is_in (P := l.prog) (w := w) (base := base) B F_law_is_in
  have D_lnext := fn_law_next (P := l.prog) (w := w) (base := base) B F_law_next
  have D_lmany := fn_law_many (P := l.prog) (w := w) (base := base) B F_law_many
  have D_ltab := fn_law_table B F_law_table LB (e_mc ▸ sta_Lot_around) R_ar LA c_Join no_Join_tables D_join D_joined
  exact (fn_entry FL sc_law (fun _ _ _ _ _ _ us hl => match us, hl with | [_], _ => rfl) (by decide) (by tm_at "g_len") (law_body B D_pen D_draw D_drawb D_pick D_some D_ltab D_lnext D_isin D_lmany LB AK)).mono (by decide)
theorem walk {l : PySem.W.OpenLaw} {q : Program} {loose : List Str} {XP : (Str → Option Value) → Heap → Prop} {YP : World → Heap → Prop} {d : DefRec} {K : Params → PySem.W.Frag} (hn : l.most = some 63) (hdf : d.params.defaults = [])
    (hY : ∀ (w : World) (h : Heap), YP w h → (K w.params).In h)
    (F : ∀ (w : World) (mg : Str → Option Value) (fa : Addr) (h : Heap), (K w.params).In h → h.Ns mainGlobals mg → mg d.name = some (.ref fa) → LawG q l.prog w (K w.params) 12 mg fa) : PySem.W.WalkO q loose XP YP l.row.toRowW d [] (fun f vs => PySem.call f vs) :=
  walkG (n := 63) hn (by decide) hdf ⟨rfl, by decide, by decide⟩ hY F
end T
open PySem PySem.W PyProof.Rows G in
set_option maxRecDepth 100000 in
set_option maxHeartbeats 0 in
theorem PySem.Challenge.cw_wheelreach_k21_whole_far_members_of_join_holds : PySem.Challenge.rw_wheelreach_k21_whole_far_members_of_join.Holds := by
  refine T.headT ?_
  k_fill
  refine T.walk (l := PySem.Challenge.rw_wheelreach_k21_whole_far_members_of_join) rfl rfl (fun w h Y => by first | exact PySem.W.kIn_of Y | exact PySem.W.km_in_of Y) ?F
  case F =>
    intro w mg fa h KX G hmg
    refine' T.all_mk KX G hmg ?a0 ?l0 ?c0 ?k0 ?a1 ?l1 ?c1 ?k1 ?a2 ?l2 ?c2 ?k2 ?a3 ?l3 ?c3 ?k3 ?a4 ?l4 ?c4 ?k4 ?a5 ?l5 ?c5 ?k5 ?a6 ?l6 ?c6 ?k6 ?a7 ?l7 ?c7 ?k7 ?a8 ?l8 ?c8 ?k8 ?a9 ?l9 ?c9 ?k9 ?a10 ?l10 ?c10 ?k10 ?a11 ?l11 ?c11 ?k11 ?a12 ?l12 ?c12 ?k12 ?a13 ?l13 ?c13 ?k13 ?a14 ?l14 ?c14 ?k14 ?a15 ?l15 ?c15 ?k15 ?a16 ?l16 ?c16 ?k16 ?a17 ?l17 ?c17 ?k17 ?a18 ?l18 ?c18 ?k18 ?a19 ?l19 ?c19 ?k19 ?a20 ?l20 ?c20 ?k20 ?a21 ?l21 ?c21 ?k21 ?a22 ?l22 ?c22 ?k22 ?a23 ?l23 ?c23 ?k23 ?a24 ?l24 ?c24 ?k24 ?a25 ?l25 ?c25 ?k25 ?a26 ?l26 ?c26 ?k26 ?a27 ?l27 ?c27 ?k27 ?a28 ?l28 ?c28 ?k28 ?a29 ?l29 ?c29 ?k29 ?a30 ?l30 ?c30 ?k30 ?a31 ?l31 ?c31 ?k31 ?a32 ?l32 ?c32 ?k32 ?a33 ?l33 ?c33 ?k33 ?a34 ?l34 ?c34 ?k34 ?a35 ?l35 ?c35 ?k35 ?a36 ?l36 ?c36 ?k36 ?a37 ?l37 ?c37 ?k37 ?a38 ?l38 ?c38 ?k38 ?a39 ?l39 ?c39 ?k39 ?z0 ?z1 ?z2 ?z3 ?z4 ?z5 ?z6 ?z7 ?z8 ?z9 ?z10 ?z11 ?z12 ?z13 ?z14 ?z15 ?z16 ?z17 ?z18 ?z19 ?z20 ?z21 ?z22 ?z23 ?z24 ?z25 ?zs ?op ?g1 ?g2 ?g3 ?E_0 ?e0_0 ?E_1 ?e1_0 ?E_2 ?e2_0 ?e2_1 ?E_3 ?e3_0 ?E_4 ?e4_0 ?e4_1 ?d0 ?d1 ?oa_Lot ?ob_Lot ?oc_Lot ?od_Lot ?oe_Lot ?of_Lot ?og_Lot ?oh_Lot ?oi_Lot ?ma_Lot_init ?ml_Lot_init ?mc_Lot_init ?mk_Lot_init ?mi_Lot_init ?ma_Lot_every ?mb_Lot_every ?ml_Lot_every ?mc_Lot_every ?mk_Lot_every ?mi_Lot_every ?ma_Lot_none ?mb_Lot_none ?ml_Lot_none ?mc_Lot_none ?mk_Lot_none ?mi_Lot_none ?ma_Lot_len ?ml_Lot_len ?mc_Lot_len ?mk_Lot_len ?mi_Lot_len ?ma_Lot_iter ?ml_Lot_iter ?mc_Lot_iter ?mk_Lot_iter ?mi_Lot_iter ?ma_Lot_eq ?ml_Lot_eq ?mc_Lot_eq ?mk_Lot_eq ?mi_Lot_eq ?ka_Lot ?kb_Lot ?ta_Lot_every ?tb_Lot_every ?tc_Lot_every ?ta_Lot_none ?tb_Lot_none ?tc_Lot_none ?qa_Lot ?qb_Lot ?no_Lot_period ?no_Lot_runs ?no_Lot_size ?no_Lot_own_begins ?ga_MOST_RUNS_lots ?r_MOST_RUNS_lots ?ma_Lot_around ?mb_Lot_around ?ml_Lot_around ?mc_Lot_around ?mk_Lot_around ?mi_Lot_around ?ta_Lot_around ?tb_Lot_around ?tc_Lot_around ?ma_Lot_add ?ml_Lot_add ?mc_Lot_add ?mk_Lot_add ?mi_Lot_add ?ma_Lot_at_least ?ml_Lot_at_least ?mc_Lot_at_least ?mk_Lot_at_least ?mi_Lot_at_least ?ma_Lot_at_most ?ml_Lot_at_most ?mc_Lot_at_most ?mk_Lot_at_most ?mi_Lot_at_most ?ma_Lot_below ?ml_Lot_below ?mc_Lot_below ?mk_Lot_below ?mi_Lot_below ?ma_Lot_how_many ?ml_Lot_how_many ?mc_Lot_how_many ?mk_Lot_how_many ?mi_Lot_how_many ?xa_Lot_at_least ?xa_Lot_at_most ?xa_Lot_below ?xa_Lot_how_many ?ua_Lot ?ub_Lot_add ?uc_Lot_add_int ?ud_Lot_add_int ?ue_Lot_add_int ?uf_Lot_int ?oa_Round ?ob_Round ?oc_Round ?od_Round ?oe_Round ?of_Round ?og_Round ?oh_Round ?oi_Round ?ma_Round_init ?ml_Round_init ?mc_Round_init ?mk_Round_init ?mi_Round_init ?ma_Round_place ?ml_Round_place ?mc_Round_place ?mk_Round_place ?mi_Round_place ?ka_Round ?kb_Round ?xa_Round_place ?no_Round_step ?no_Round_own ?no_Round_part ?no_Round_total ?no_Round_inverse ?oa_Ranked ?ob_Ranked ?oc_Ranked ?od_Ranked ?oe_Ranked ?of_Ranked ?og_Ranked ?oh_Ranked ?oi_Ranked ?ma_Ranked_init ?ml_Ranked_init ?mc_Ranked_init ?mk_Ranked_init ?mi_Ranked_init ?ma_Ranked_hit ?ml_Ranked_hit ?mc_Ranked_hit ?mk_Ranked_hit ?mi_Ranked_hit ?ka_Ranked ?kb_Ranked ?xa_Ranked_hit ?no_Ranked_step ?no_Ranked_rows ?no_Ranked_firsts ?oa_Paper ?ob_Paper ?oc_Paper ?od_Paper ?oe_Paper ?of_Paper ?og_Paper ?oh_Paper ?oi_Paper ?oa_Join ?ob_Join ?oc_Join ?od_Join ?oe_Join ?of_Join ?og_Join ?oh_Join ?oi_Join ?ma_Paper_init ?ml_Paper_init ?mc_Paper_init ?mk_Paper_init ?mi_Paper_init ?ma_Join_init ?ml_Join_init ?mc_Join_init ?mk_Join_init ?mi_Join_init ?mx_Join_init ?my_Join_init ?mz_Join_init ?mf_Join_init ?mg_Join_init ?ka_Join ?kb_Join ?sa_Join_Join_init ?sb_Join_Join_init ?sc_Join_Join_init ?sd_Join_Join_init ?se_Join_Join_init ?no_Join_own_parts ?no_Join_tables ?zy_EVERY_TABLE ?zle_EVERY_TABLE ?zce_EVERY_TABLE ?zte_EVERY_TABLE ?zlr_EVERY_TABLE ?zcr_EVERY_TABLE ?ztr_EVERY_TABLE ?zlp_EVERY_TABLE ?zcp_EVERY_TABLE ?ztp_EVERY_TABLE ?ga_MOST_RUNS_joins ?r_MOST_RUNS_joins ?x1 ?x2 ?x3 ?x4 ?x6
    (case a0 => k_is)
    (case l0 => k_is)
    (case c0 => k_is)
    (case k0 => k_is)
    (case a1 => k_is)
    (case l1 => k_is)
    (case c1 => k_is)
    (case k1 => k_is)
    (case a2 => k_is)
    (case l2 => k_is)
    (case c2 => k_is)
    (case k2 => k_is)
    (case a3 => k_is)
    (case l3 => k_is)
    (case c3 => k_is)
    (case k3 => k_is)
    (case a4 => k_is)
    (case l4 => k_is)
    (case c4 => k_is)
    (case k4 => k_is)
    (case a5 => k_is)
    (case l5 => k_is)
    (case c5 => k_is)
    (case k5 => k_is)
    (case a6 => k_is)
    (case l6 => k_is)
    (case c6 => k_is)
    (case k6 => k_is)
    (case a7 => k_is)
    (case l7 => k_is)
    (case c7 => k_is)
    (case k7 => k_is)
    (case a8 => k_is)
    (case l8 => k_is)
    (case c8 => k_is)
    (case k8 => k_is)
    (case a9 => k_is)
    (case l9 => k_is)
    (case c9 => k_is)
    (case k9 => k_is)
    (case a10 => k_is)
    (case l10 => k_is)
    (case c10 => k_is)
    (case k10 => k_is)
    (case a11 => k_is)
    (case l11 => k_is)
    (case c11 => k_is)
    (case k11 => k_is)
    (case a12 => k_is)
    (case l12 => k_is)
    (case c12 => k_is)
    (case k12 => k_is)
    (case a13 => k_is)
    (case l13 => k_is)
    (case c13 => k_is)
    (case k13 => k_is)
    (case a14 => k_is)
    (case l14 => k_is)
    (case c14 => k_is)
    (case k14 => k_is)
    (case a15 => k_is)
    (case l15 => k_is)
    (case c15 => k_is)
    (case k15 => k_is)
    (case a16 => k_is)
    (case l16 => k_is)
    (case c16 => k_is)
    (case k16 => k_is)
    (case a17 => k_is)
    (case l17 => k_is)
    (case c17 => k_is)
    (case k17 => k_is)
    (case a18 => k_is)
    (case l18 => k_is)
    (case c18 => k_is)
    (case k18 => k_is)
    (case a19 => k_is)
    (case l19 => k_is)
    (case c19 => k_is)
    (case k19 => k_is)
    (case a20 => k_is)
    (case l20 => k_is)
    (case c20 => k_is)
    (case k20 => k_is)
    (case a21 => k_is)
    (case l21 => k_is)
    (case c21 => k_is)
    (case k21 => k_is)
    (case a22 => k_is)
    (case l22 => k_is)
    (case c22 => k_is)
    (case k22 => k_is)
    (case a23 => k_is)
    (case l23 => k_is)
    (case c23 => k_is)
    (case k23 => k_is)
    (case a24 => k_is)
    (case l24 => k_is)
    (case c24 => k_is)
    (case k24 => k_is)
    (case a25 => k_is)
    (case l25 => k_is)
    (case c25 => k_is)
    (case k25 => k_is)
    (case a26 => k_is)
    (case l26 => k_is)
    (case c26 => k_is)
    (case k26 => k_is)
    (case a27 => k_is)
    (case l27 => k_is)
    (case c27 => k_is)
    (case k27 => k_is)
    (case a28 => k_is)
    (case l28 => k_is)
    (case c28 => k_is)
    (case k28 => k_is)
    (case a29 => k_is)
    (case l29 => k_is)
    (case c29 => k_is)
    (case k29 => k_is)
    (case a30 => k_is)
    (case l30 => k_is)
    (case c30 => k_is)
    (case k30 => k_is)
    (case a31 => k_is)
    (case l31 => k_is)
    (case c31 => k_is)
    (case k31 => k_is)
    (case a32 => k_is)
    (case l32 => k_is)
    (case c32 => k_is)
    (case k32 => k_is)
    (case a33 => k_is)
    (case l33 => k_is)
    (case c33 => k_is)
    (case k33 => k_is)
    (case a34 => k_is)
    (case l34 => k_is)
    (case c34 => k_is)
    (case k34 => k_is)
    (case a35 => k_is)
    (case l35 => k_is)
    (case c35 => k_is)
    (case k35 => k_is)
    (case a36 => k_is)
    (case l36 => k_is)
    (case c36 => k_is)
    (case k36 => k_is)
    (case a37 => k_is)
    (case l37 => k_is)
    (case c37 => k_is)
    (case k37 => k_is)
    (case a38 => k_is)
    (case l38 => k_is)
    (case c38 => k_is)
    (case k38 => k_is)
    (case a39 => k_is)
    (case l39 => k_is)
    (case c39 => k_is)
    (case k39 => k_is)
    (case z0 => k_is)
    (case z1 => k_is)
    (case z2 => k_is)
    (case z3 => k_is)
    (case z4 => k_is)
    (case z5 => k_is)
    (case z6 => k_is)
    (case z7 => k_is)
    (case z8 => k_is)
    (case z9 => k_is)
    (case z10 => k_is)
    (case z11 => k_is)
    (case z12 => k_is)
    (case z13 => k_is)
    (case z14 => k_is)
    (case z15 => k_is)
    (case z16 => k_is)
    (case z17 => k_is)
    (case z18 => k_is)
    (case z19 => k_is)
    (case z20 => k_is)
    (case z21 => k_is)
    (case z22 => k_is)
    (case z23 => k_is)
    (case z24 => k_is)
    (case z25 => k_is)
    (case zs => k_is)
    (case op => k_is)
    (case g1 => k_is)
    (case g2 => k_is)
    (case g3 => rfl)
    (case E_0 => (refine' ErrFacts.mk ?y_a1 ?y_a2 ?y_a3 ?y_a4 ?y_a5 ?y_a6 ?y_a7 ?y_a8 ?y_a9 ?y_b1 ?y_b2 ?y_b3 ?y_b4 ?y_b5 ?y_b6 ?y_b7 ?y_b8 ?y_b9 ?y_c1 ?y_c2 ?y_c3 ?y_c4 ?y_c5 ?y_c6; (case y_a1 => k_is); (case y_a2 => k_is); (case y_a3 => rfl); (case y_a4 => k_is); (case y_a5 => k_is); (case y_a6 => k_is); (case y_a7 => k_is); (case y_a8 => k_is); (case y_a9 => k_is); (case y_b1 => first | kernel_rfl | rfl | decide +kernel); (case y_b2 => k_is); (case y_b3 => k_is); (case y_b4 => k_is); (case y_b5 => k_is); (case y_b6 => k_is); (case y_b7 => k_is); (case y_b8 => rfl); (case y_b9 => rfl); (case y_c1 => k_is); (case y_c2 => k_is); (case y_c3 => k_is); (case y_c4 => k_is); (case y_c5 => k_is); (case y_c6 => k_is)))
    (case e0_0 => k_is)
    (case E_1 => (refine' ErrFacts.mk ?y_a1 ?y_a2 ?y_a3 ?y_a4 ?y_a5 ?y_a6 ?y_a7 ?y_a8 ?y_a9 ?y_b1 ?y_b2 ?y_b3 ?y_b4 ?y_b5 ?y_b6 ?y_b7 ?y_b8 ?y_b9 ?y_c1 ?y_c2 ?y_c3 ?y_c4 ?y_c5 ?y_c6; (case y_a1 => k_is); (case y_a2 => k_is); (case y_a3 => rfl); (case y_a4 => k_is); (case y_a5 => k_is); (case y_a6 => k_is); (case y_a7 => k_is); (case y_a8 => k_is); (case y_a9 => k_is); (case y_b1 => first | kernel_rfl | rfl | decide +kernel); (case y_b2 => k_is); (case y_b3 => k_is); (case y_b4 => k_is); (case y_b5 => k_is); (case y_b6 => k_is); (case y_b7 => k_is); (case y_b8 => rfl); (case y_b9 => rfl); (case y_c1 => k_is); (case y_c2 => k_is); (case y_c3 => k_is); (case y_c4 => k_is); (case y_c5 => k_is); (case y_c6 => k_is)))
    (case e1_0 => k_is)
    (case E_2 => (refine' ErrFacts.mk ?y_a1 ?y_a2 ?y_a3 ?y_a4 ?y_a5 ?y_a6 ?y_a7 ?y_a8 ?y_a9 ?y_b1 ?y_b2 ?y_b3 ?y_b4 ?y_b5 ?y_b6 ?y_b7 ?y_b8 ?y_b9 ?y_c1 ?y_c2 ?y_c3 ?y_c4 ?y_c5 ?y_c6; (case y_a1 => k_is); (case y_a2 => k_is); (case y_a3 => rfl); (case y_a4 => k_is); (case y_a5 => k_is); (case y_a6 => k_is); (case y_a7 => k_is); (case y_a8 => k_is); (case y_a9 => k_is); (case y_b1 => first | kernel_rfl | rfl | decide +kernel); (case y_b2 => k_is); (case y_b3 => k_is); (case y_b4 => k_is); (case y_b5 => k_is); (case y_b6 => k_is); (case y_b7 => k_is); (case y_b8 => rfl); (case y_b9 => rfl); (case y_c1 => k_is); (case y_c2 => k_is); (case y_c3 => k_is); (case y_c4 => k_is); (case y_c5 => k_is); (case y_c6 => k_is)))
    (case e2_0 => k_is)
    (case e2_1 => k_is)
    (case E_3 => (refine' ErrFacts.mk ?y_a1 ?y_a2 ?y_a3 ?y_a4 ?y_a5 ?y_a6 ?y_a7 ?y_a8 ?y_a9 ?y_b1 ?y_b2 ?y_b3 ?y_b4 ?y_b5 ?y_b6 ?y_b7 ?y_b8 ?y_b9 ?y_c1 ?y_c2 ?y_c3 ?y_c4 ?y_c5 ?y_c6; (case y_a1 => k_is); (case y_a2 => k_is); (case y_a3 => rfl); (case y_a4 => k_is); (case y_a5 => k_is); (case y_a6 => k_is); (case y_a7 => k_is); (case y_a8 => k_is); (case y_a9 => k_is); (case y_b1 => first | kernel_rfl | rfl | decide +kernel); (case y_b2 => k_is); (case y_b3 => k_is); (case y_b4 => k_is); (case y_b5 => k_is); (case y_b6 => k_is); (case y_b7 => k_is); (case y_b8 => rfl); (case y_b9 => rfl); (case y_c1 => k_is); (case y_c2 => k_is); (case y_c3 => k_is); (case y_c4 => k_is); (case y_c5 => k_is); (case y_c6 => k_is)))
    (case e3_0 => k_is)
    (case E_4 => (refine' ErrFacts.mk ?y_a1 ?y_a2 ?y_a3 ?y_a4 ?y_a5 ?y_a6 ?y_a7 ?y_a8 ?y_a9 ?y_b1 ?y_b2 ?y_b3 ?y_b4 ?y_b5 ?y_b6 ?y_b7 ?y_b8 ?y_b9 ?y_c1 ?y_c2 ?y_c3 ?y_c4 ?y_c5 ?y_c6; (case y_a1 => k_is); (case y_a2 => k_is); (case y_a3 => rfl); (case y_a4 => k_is); (case y_a5 => k_is); (case y_a6 => k_is); (case y_a7 => k_is); (case y_a8 => k_is); (case y_a9 => k_is); (case y_b1 => first | kernel_rfl | rfl | decide +kernel); (case y_b2 => k_is); (case y_b3 => k_is); (case y_b4 => k_is); (case y_b5 => k_is); (case y_b6 => k_is); (case y_b7 => k_is); (case y_b8 => rfl); (case y_b9 => rfl); (case y_c1 => k_is); (case y_c2 => k_is); (case y_c3 => k_is); (case y_c4 => k_is); (case y_c5 => k_is); (case y_c6 => k_is)))
    (case e4_0 => k_is)
    (case e4_1 => k_is)
    (case d0 => k_is)
    (case d1 => k_is)
    (case oa_Lot => k_is)
    (case ob_Lot => k_is)
    (case oc_Lot => k_is)
    (case od_Lot => k_is)
    (case oe_Lot => k_is)
    (case of_Lot => k_is)
    (case og_Lot => k_is)
    (case oh_Lot => k_is)
    (case oi_Lot => k_is)
    (case ma_Lot_init => k_is)
    (case ml_Lot_init => k_is)
    (case mc_Lot_init => k_is)
    (case mk_Lot_init => k_is)
    (case mi_Lot_init => k_is)
    (case ma_Lot_every => k_is)
    (case mb_Lot_every => k_is)
    (case ml_Lot_every => k_is)
    (case mc_Lot_every => k_is)
    (case mk_Lot_every => k_is)
    (case mi_Lot_every => k_is)
    (case ma_Lot_none => k_is)
    (case mb_Lot_none => k_is)
    (case ml_Lot_none => k_is)
    (case mc_Lot_none => k_is)
    (case mk_Lot_none => k_is)
    (case mi_Lot_none => k_is)
    (case ma_Lot_len => k_is)
    (case ml_Lot_len => k_is)
    (case mc_Lot_len => k_is)
    (case mk_Lot_len => k_is)
    (case mi_Lot_len => k_is)
    (case ma_Lot_iter => k_is)
    (case ml_Lot_iter => k_is)
    (case mc_Lot_iter => k_is)
    (case mk_Lot_iter => k_is)
    (case mi_Lot_iter => k_is)
    (case ma_Lot_eq => k_is)
    (case ml_Lot_eq => k_is)
    (case mc_Lot_eq => k_is)
    (case mk_Lot_eq => k_is)
    (case mi_Lot_eq => k_is)
    (case ka_Lot => k_is)
    (case kb_Lot => k_is)
    (case ta_Lot_every => first | k_is | kernel_rfl | rfl | decide +kernel)
    (case tb_Lot_every => first | k_is | kernel_rfl | rfl | decide +kernel)
    (case tc_Lot_every => first | kernel_rfl | rfl | k_is)
    (case ta_Lot_none => first | k_is | kernel_rfl | rfl | decide +kernel)
    (case tb_Lot_none => first | k_is | kernel_rfl | rfl | decide +kernel)
    (case tc_Lot_none => first | kernel_rfl | rfl | k_is)
    (case qa_Lot => k_is)
    (case qb_Lot => k_is)
    (case no_Lot_period => k_is)
    (case no_Lot_runs => k_is)
    (case no_Lot_size => k_is)
    (case no_Lot_own_begins => k_is)
    (case ga_MOST_RUNS_lots => k_is)
    (case r_MOST_RUNS_lots => first | exact rfl | exact ⟨_, rfl⟩)
    (case ma_Lot_around => k_is)
    (case mb_Lot_around => k_is)
    (case ml_Lot_around => k_is)
    (case mc_Lot_around => k_is)
    (case mk_Lot_around => k_is)
    (case mi_Lot_around => k_is)
    (case ta_Lot_around => first | k_is | kernel_rfl | rfl | decide +kernel)
    (case tb_Lot_around => first | k_is | kernel_rfl | rfl | decide +kernel)
    (case tc_Lot_around => first | kernel_rfl | rfl | k_is)
    (case ma_Lot_add => k_is)
    (case ml_Lot_add => k_is)
    (case mc_Lot_add => k_is)
    (case mk_Lot_add => k_is)
    (case mi_Lot_add => k_is)
    (case ma_Lot_at_least => k_is)
    (case ml_Lot_at_least => k_is)
    (case mc_Lot_at_least => k_is)
    (case mk_Lot_at_least => k_is)
    (case mi_Lot_at_least => k_is)
    (case ma_Lot_at_most => k_is)
    (case ml_Lot_at_most => k_is)
    (case mc_Lot_at_most => k_is)
    (case mk_Lot_at_most => k_is)
    (case mi_Lot_at_most => k_is)
    (case ma_Lot_below => k_is)
    (case ml_Lot_below => k_is)
    (case mc_Lot_below => k_is)
    (case mk_Lot_below => k_is)
    (case mi_Lot_below => k_is)
    (case ma_Lot_how_many => k_is)
    (case ml_Lot_how_many => k_is)
    (case mc_Lot_how_many => k_is)
    (case mk_Lot_how_many => k_is)
    (case mi_Lot_how_many => k_is)
    (case xa_Lot_at_least => k_is)
    (case xa_Lot_at_most => k_is)
    (case xa_Lot_below => k_is)
    (case xa_Lot_how_many => k_is)
    (case ua_Lot => first | k_is | kernel_rfl | rfl | decide +kernel)
    (case ub_Lot_add => k_is)
    (case uc_Lot_add_int => k_is)
    (case ud_Lot_add_int => k_is)
    (case ue_Lot_add_int => k_is)
    (case uf_Lot_int => first | k_is | kernel_rfl | rfl | decide +kernel)
    (case oa_Round => k_is)
    (case ob_Round => k_is)
    (case oc_Round => k_is)
    (case od_Round => k_is)
    (case oe_Round => k_is)
    (case of_Round => k_is)
    (case og_Round => k_is)
    (case oh_Round => k_is)
    (case oi_Round => k_is)
    (case ma_Round_init => k_is)
    (case ml_Round_init => k_is)
    (case mc_Round_init => k_is)
    (case mk_Round_init => k_is)
    (case mi_Round_init => k_is)
    (case ma_Round_place => k_is)
    (case ml_Round_place => k_is)
    (case mc_Round_place => k_is)
    (case mk_Round_place => k_is)
    (case mi_Round_place => k_is)
    (case ka_Round => k_is)
    (case kb_Round => k_is)
    (case xa_Round_place => k_is)
    (case no_Round_step => k_is)
    (case no_Round_own => k_is)
    (case no_Round_part => k_is)
    (case no_Round_total => k_is)
    (case no_Round_inverse => k_is)
    (case oa_Ranked => k_is)
    (case ob_Ranked => k_is)
    (case oc_Ranked => k_is)
    (case od_Ranked => k_is)
    (case oe_Ranked => k_is)
    (case of_Ranked => k_is)
    (case og_Ranked => k_is)
    (case oh_Ranked => k_is)
    (case oi_Ranked => k_is)
    (case ma_Ranked_init => k_is)
    (case ml_Ranked_init => k_is)
    (case mc_Ranked_init => k_is)
    (case mk_Ranked_init => k_is)
    (case mi_Ranked_init => k_is)
    (case ma_Ranked_hit => k_is)
    (case ml_Ranked_hit => k_is)
    (case mc_Ranked_hit => k_is)
    (case mk_Ranked_hit => k_is)
    (case mi_Ranked_hit => k_is)
    (case ka_Ranked => k_is)
    (case kb_Ranked => k_is)
    (case xa_Ranked_hit => k_is)
    (case no_Ranked_step => k_is)
    (case no_Ranked_rows => k_is)
    (case no_Ranked_firsts => k_is)
    (case oa_Paper => k_is)
    (case ob_Paper => k_is)
    (case oc_Paper => k_is)
    (case od_Paper => k_is)
    (case oe_Paper => k_is)
    (case of_Paper => k_is)
    (case og_Paper => k_is)
    (case oh_Paper => k_is)
    (case oi_Paper => k_is)
    (case oa_Join => k_is)
    (case ob_Join => k_is)
    (case oc_Join => k_is)
    (case od_Join => k_is)
    (case oe_Join => k_is)
    (case of_Join => k_is)
    (case og_Join => k_is)
    (case oh_Join => k_is)
    (case oi_Join => k_is)
    (case ma_Paper_init => k_is)
    (case ml_Paper_init => k_is)
    (case mc_Paper_init => k_is)
    (case mk_Paper_init => k_is)
    (case mi_Paper_init => k_is)
    (case ma_Join_init => k_is)
    (case ml_Join_init => k_is)
    (case mc_Join_init => k_is)
    (case mk_Join_init => k_is)
    (case mi_Join_init => k_is)
    (case mx_Join_init => k_is)
    (case my_Join_init => k_is)
    (case mz_Join_init => rfl)
    (case mf_Join_init => rfl)
    (case mg_Join_init => k_is)
    (case ka_Join => k_is)
    (case kb_Join => k_is)
    (case sa_Join_Join_init => first | kernel_rfl | rfl | decide +kernel)
    (case sb_Join_Join_init => k_is)
    (case sc_Join_Join_init => k_is)
    (case sd_Join_Join_init => k_is)
    (case se_Join_Join_init => k_is)
    (case no_Join_own_parts => k_is)
    (case no_Join_tables => k_is)
    (case zy_EVERY_TABLE => k_is)
    (case zle_EVERY_TABLE => k_is)
    (case zce_EVERY_TABLE => rfl)
    (case zte_EVERY_TABLE => rfl)
    (case zlr_EVERY_TABLE => k_is)
    (case zcr_EVERY_TABLE => rfl)
    (case ztr_EVERY_TABLE => rfl)
    (case zlp_EVERY_TABLE => k_is)
    (case zcp_EVERY_TABLE => rfl)
    (case ztp_EVERY_TABLE => rfl)
    (case ga_MOST_RUNS_joins => k_is)
    (case r_MOST_RUNS_joins => first | exact rfl | exact ⟨_, rfl⟩)
    (case x1 => first | kts_exm | kit_is | k_is | decide +kernel)
    (case x2 => first | kts_exm | kit_is | k_is | decide +kernel)
    (case x3 => first | kts_exm | kit_is | k_is | decide +kernel)
    (case x4 => first | kts_exm | kit_is | k_is | decide +kernel)
    (case x6 => first | kts_exm | kit_is | k_is | decide +kernel)
