import PyProof.Rows.All
import Wide.All
import OpenK.AllK
import Wide.FinOn
import HandS.ForMost
import HandS.ForExc
import HandS.Wide
import HandS.Star
import HandS.IsInst
import HandS.Style
import HandS.Flow
import HandS.Lambda
import HandS.EndTab
import HandS.Nested
import HandS.Comp
import HandS.ExcInit
import HandS.ExcField
import HandS.ExcOwn
import HandS.ExcIs
import KE.KExcSuper
import HandS.Walk
import HandS.Zip
import HandS.Rev
import HandS.Iter
import HandS.RaiseMore
import PyProof.Rows.NestShow
import HandS.CallLocal
import PyProof.ReprLen
import PyProof.Rows.ReprItems
import PyProof.Rows.RegStrFacts
import HandS.MakeKw
import HandS.MakeKwOnly
import HandS.Property
import KE.KSuper
import PyProof.InstEq
import HandS.SortInts
import KE.GoesMore
import KE.DataMinMax
import HandS.SlotsOwn
import HandS.ClsMeth
import HandS.FStr
import HandS.SetFor
import KE.KCallOwn
import HandS.ExcValue
import HandS.SortRule
import HandS.New0
import HandS.IterVal
import OpenK.KMeth
import KE.KOwnIter
import HandS.DictSub
import KE.KOpsOwn
import KE.KStar
import KE.GoesZip
import KE.GoesEnum
import PyProof.LongRange
import PyProof.NoPylong
import HandS.OwnEq
import KE.OsRunLaw
import OpenK.KOps
import HandS.ListEq
import HandS.Conv
import HandS.TupAny
import HandS.TryOnly
import HandS.Text
import HandS.Steps
import HandS.Dict
import KE.KDictWalk
import HandS.OwnIter
import HandS.ListItems
import HandS.Defaults
import PyProof.DictDisplay
import HandS.Keys
import HandS.ExcInitHot
import HandS.SuiteRaise
import HandS.RaiseFrom
import HandS.Finally
import HandS.NestedHot
import HandS.IterNext
import HandS.HotCalls
import HandS.List
import HandS.DictComp
import KE.KDictZip
import HandS.TupMul
import PySem.Challenge.RW_wheelreach_k88_misread_entries_and_perio
set_option Elab.async false
set_option linter.all false
set_option maxRecDepth 100000
set_option maxHeartbeats 4000000
namespace T
set_option maxHeartbeats 0
section
open PySem PySem.W PySem.Calls PyProof.Rows HeadRun
theorem splitRun {α β γ : Type} {o : Option α} {f : α → β} {g : α → γ} {a : β} {b : γ} (h1 : o.map f = some a) (h2 : o.map g = some b) : o.map (fun s => (f s, g s)) = some (a, b) := by
  cases o with
  | none => cases h1
  | some s =>
    have e1 : f s = a := Option.some.inj h1
    have e2 : g s = b := Option.some.inj h2
    rw [← e1, ← e2]
    rfl
theorem joinRun {α β γ : Type} {o : Option α} {f : α → β × γ} {a : β} {b : γ} (h1 : o.map (fun s => (f s).1) = some a) (h2 : o.map (fun s => (f s).2) = some b) : o.map f = some (a, b) := by
  cases o with
  | none => cases h1
  | some s =>
    have e1 : (f s).1 = a := Option.some.inj h1
    have e2 : (f s).2 = b := Option.some.inj h2
    rw [← e1, ← e2]
    rfl
theorem viaRun {α β : Type} {o : Option α} {f g : α → β} {a c : β} (h : o.map f = some a) (e1 : f = g) (e2 : a = c) : o.map g = some c := e1 ▸ e2 ▸ h
def keepAt : List Nat → List Stmt → List Stmt
  | [], _ => []
  | i :: is, l => match l.drop i with | s :: _ => s :: keepAt is l | [] => []
def qv : Program := { (PySem.Challenge.rw_wheelreach_k88_misread_entries_and_perio).row.prog with main := { (Program.main (PySem.Challenge.rw_wheelreach_k88_misread_entries_and_perio).row.prog) with body := keepAt [0, 2, 3, 4, 5, 6, 7, 8, 9, 10, 11, 12, 13, 15, 16, 17, 18, 19, 20, 21, 23, 24, 25, 26, 27, 28, 29, 30, 31, 32, 33, 34, 35, 36, 37, 38, 40, 41, 42, 43, 44, 45, 46, 48, 49, 50, 51, 52, 53, 54, 55, 57, 58, 59, 61, 62, 63, 64, 65, 66, 67, 68, 70, 71, 72, 73, 74, 75, 76, 78, 79, 80, 81, 83, 85, 86, 87, 88, 89, 90, 91, 92, 93, 94, 95, 96, 97, 98, 99, 100, 101, 102, 103, 104, 106, 107, 108, 109, 110, 111, 112, 113, 114, 115, 116, 117, 118] (Module.body (Program.main (PySem.Challenge.rw_wheelreach_k88_misread_entries_and_perio).row.prog)) } }
theorem fstRun {α β γ : Type} {o : Option α} {f : α → β} {g : α → γ} {a : β} {b : γ} (h : o.map (fun s => (f s, g s)) = some (a, b)) : o.map f = some a := by
  cases o with
  | none => cases h
  | some s => exact congrArg some (Prod.mk.inj (Option.some.inj h)).1
theorem sndRun {α β γ : Type} {o : Option α} {f : α → β} {g : α → γ} {a : β} {b : γ} (h : o.map (fun s => (f s, g s)) = some (a, b)) : o.map g = some b := by
  cases o with
  | none => cases h
  | some s => exact congrArg some (Prod.mk.inj (Option.some.inj h)).2
noncomputable def tkL {α : Type} (n : Nat) : List α → List α := Nat.rec (fun _ => []) (fun _ ih l => List.rec [] (fun a t _ => a :: ih t) l) n
noncomputable def tkR {α : Type} (n : Nat) : List α → List α := Nat.rec (fun _ => []) (fun _ ih l => List.rec [] (fun a t _ => a :: ih t) l) n
noncomputable def drL {α : Type} (n : Nat) : List α → List α := Nat.rec (fun l => l) (fun _ ih l => List.rec [] (fun _ t _ => ih t) l) n
noncomputable def drR {α : Type} (n : Nat) : List α → List α := Nat.rec (fun l => l) (fun _ ih l => List.rec [] (fun _ t _ => ih t) l) n
theorem tk_dr {α : Type} : (n : Nat) → (l m : List α) → tkR n l = tkR n m → drR n l = drR n m → l = m
  | 0, _, _, _, h => h
  | _ + 1, [], [], _, _ => rfl
  | _ + 1, [], _ :: _, h, _ => (by cases h)
  | _ + 1, _ :: _, [], h, _ => (by cases h)
  | n + 1, a :: l, b :: m, h, k => by
    have e : a = b ∧ tkR n l = tkR n m := List.cons.inj h
    rw [e.1, tk_dr n l m e.2 k]
theorem cutRun {α β : Type} {o : Option α} {f : α → List β} {l : List β} (n : Nat) (h1 : o.map (fun s => tkL n (f s)) = some (tkR n l)) (h2 : o.map (fun s => drL n (f s)) = some (drR n l)) : o.map f = some l := by
  cases o with
  | none => cases h1
  | some s => exact congrArg some (tk_dr n _ _ (Option.some.inj h1) (Option.some.inj h2))
theorem andRun {α : Type} {o : Option α} {f g : α → Bool} (h1 : o.map f = some true) (h2 : o.map g = some true) : o.map (fun s => f s && g s) = some true := by
  cases o with
  | none => cases h1
  | some s =>
    have e1 : f s = true := Option.some.inj h1
    have e2 : g s = true := Option.some.inj h2
    show some (f s && g s) = some true
    rw [e1, e2]
    rfl
noncomputable def mR {α β : Type} (f : α → β) (l : List α) : List β := List.rec [] (fun a _ ih => f a :: ih) l
theorem allCut {α : Type} (p : α → Bool) : (n : Nat) → (l : List α) → R.allR (tkL n l) p = true → R.allR (drL n l) p = true → R.allR l p = true
  | 0, _, _, h => h
  | _ + 1, [], _, _ => rfl
  | n + 1, a :: l, h, k => by
    have h : (Bool.rec false (R.allR (tkL n l) p) (p a) : Bool) = true := h
    show (Bool.rec false (R.allR l p) (p a) : Bool) = true
    cases e : p a with
    | false => rw [e] at h; cases h
    | true => rw [e] at h; exact allCut p n l h k
theorem allRunS {α β : Type} {o : Option α} {l : α → List β} {p : α → β → Bool} (n : Nat) (h1 : o.map (fun s => R.allR (tkL n (l s)) (p s)) = some true) (h2 : o.map (fun s => R.allR (drL n (l s)) (p s)) = some true) : o.map (fun s => R.allR (l s) (p s)) = some true := by
  cases o with
  | none => cases h1
  | some s => exact congrArg some (allCut (p s) n (l s) (Option.some.inj h1) (Option.some.inj h2))
theorem allRunE {α β : Type} {o : Option α} {f g1 g2 : α → Bool} (l : α → List β) (p : α → β → Bool) (n : Nat) (h1 : o.map g1 = some true) (h2 : o.map g2 = some true) (e1 : g1 = fun s => R.allR (tkL n (l s)) (p s)) (e2 : g2 = fun s => R.allR (drL n (l s)) (p s)) (e : (fun s => R.allR (l s) (p s)) = f) : o.map f = some true := by
  subst e1 e2 e
  exact allRunS n h1 h2
theorem allRun {α β : Type} {o : Option α} {l : List β} {p : α → β → Bool} (n : Nat) (h1 : o.map (fun s => R.allR (tkL n l) (p s)) = some true) (h2 : o.map (fun s => R.allR (drL n l) (p s)) = some true) : o.map (fun s => R.allR l (p s)) = some true := by
  cases o with
  | none => cases h1
  | some s => exact congrArg some (allCut (p s) n l (Option.some.inj h1) (Option.some.inj h2))
noncomputable def fL {α β : Type} (x : α × β) : α := Prod.rec (fun a _ => a) x
noncomputable def fR {α β : Type} (x : α × β) : α := Prod.rec (fun a _ => a) x
noncomputable def gL {α β : Type} (x : α × β) : β := Prod.rec (fun _ b => b) x
noncomputable def gR {α β : Type} (x : α × β) : β := Prod.rec (fun _ b => b) x
theorem pairRun {α β γ : Type} {o : Option α} {f : α → β × γ} {a : β × γ} (h1 : o.map (fun s => fL (f s)) = some (fR a)) (h2 : o.map (fun s => gL (f s)) = some (gR a)) : o.map f = some a := by
  cases o with
  | none => cases h1
  | some s =>
    have e1 : (f s).1 = a.1 := Option.some.inj h1
    have e2 : (f s).2 = a.2 := Option.some.inj h2
    exact congrArg some (Prod.ext e1 e2)
theorem seenRun {α : Type} {o : Option α} {f : α → PyProof.Rows.Seen} {a : PyProof.Rows.Seen} {r : Bool × List (Option Value × Option Value) × Bool × Bool × Bool × Nat} (h1 : o.map (fun s => (f s).defs) = some a.defs) (h2 : o.map (fun s => ((f s).ownsOk, (f s).names, (f s).globalsOk, (f s).builtinsOk, (f s).noLimit, (f s).gens)) = some r)
    (h3 : r = (a.ownsOk, a.names, a.globalsOk, a.builtinsOk, a.noLimit, a.gens)) : o.map f = some a := by
  cases o with
  | none => cases h1
  | some s =>
    obtain ⟨a1, a2, a3, a4, a5, a6, a7⟩ := a
    have e1 : (f s).defs = a1 := Option.some.inj h1
    have e2 := (Option.some.inj h2).trans h3
    simp only [Prod.mk.injEq] at e2
    obtain ⟨e2, e3, e4, e5, e6, e7⟩ := e2
    show some (f s) = _
    rw [← e1, ← e2, ← e3, ← e4, ← e5, ← e6, ← e7]
theorem run_3_0b (w : World) (os : OsState) : (endF (stepQ (denQ tabQ) (PySem.Challenge.rw_wheelreach_k88_misread_entries_and_perio).row.prog w) 21464 (PySem.Challenge.rw_wheelreach_k88_misread_entries_and_perio).row.prog w os).map (fun s => (R.allR (drL 50 (PySem.W.Fast.tw3399658132070893891 qv)) fun d => PySem.W.Fast.tw5930804224584009831 s.abs.heap d.name)) = some (true) := by kernel_rfl
theorem run_5v_0 (w : World) (os : OsState) : (endF (stepQ (denQ tabQ) (PySem.Challenge.rw_wheelreach_k88_misread_entries_and_perio).row.prog w) 21464 (PySem.Challenge.rw_wheelreach_k88_misread_entries_and_perio).row.prog w os).map (fun s => tkL 14 (((seenQ qv [Str.ofString "MOST_PERIOD", Str.ofString "MOST_TIMES", Str.ofString "need_few_lots", Str.ofString "Lot", Str.ofString "need_word_lots", Str.ofString "need_word_words", Str.ofString "MOST", Str.ofString "Wheel", Str.ofString "Grid", Str.ofString "Meter", Str.ofString "Paper", Str.ofString "MOST_VALUE", Str.ofString "Stretch", Str.ofString "need_few_logs"] (importedModules (Module.body (Program.main (PySem.Challenge.rw_wheelreach_k88_misread_entries_and_perio).row.prog))) (fun s => xlAt qv [(Str.ofString "MOST_PERIOD", WData.int 10000000000000000000000000000000000000000000000000000000000000000000000000000000000000000000000000000), (Str.ofString "MOST_TIMES", WData.int 1000000000000000000000000000000), (Str.ofString "MOST", WData.int 1000000000000), (Str.ofString "MOST_VALUE", WData.int 1000000000000000000000000000000)] s && recOk [] s) s.abs).2.2.2.2.2.1))) = some (tkR 14 (mR (fun c : PySem.ClsRec => some c.withCmp.plainShape) (PySem.W.Fast.tw210736558901404530 qv (PySem.W.Fast.tw821141287760084731 qv [Str.ofString "MOST_PERIOD", Str.ofString "MOST_TIMES", Str.ofString "need_few_lots", Str.ofString "Lot", Str.ofString "need_word_lots", Str.ofString "need_word_words", Str.ofString "MOST", Str.ofString "Wheel", Str.ofString "Grid", Str.ofString "Meter", Str.ofString "Paper", Str.ofString "MOST_VALUE", Str.ofString "Stretch", Str.ofString "need_few_logs"])))) := by kernel_rfl
theorem run_5v_1 (w : World) (os : OsState) : (endF (stepQ (denQ tabQ) (PySem.Challenge.rw_wheelreach_k88_misread_entries_and_perio).row.prog w) 21464 (PySem.Challenge.rw_wheelreach_k88_misread_entries_and_perio).row.prog w os).map (fun s => (drL 14 (((seenQ qv [Str.ofString "MOST_PERIOD", Str.ofString "MOST_TIMES", Str.ofString "need_few_lots", Str.ofString "Lot", Str.ofString "need_word_lots", Str.ofString "need_word_words", Str.ofString "MOST", Str.ofString "Wheel", Str.ofString "Grid", Str.ofString "Meter", Str.ofString "Paper", Str.ofString "MOST_VALUE", Str.ofString "Stretch", Str.ofString "need_few_logs"] (importedModules (Module.body (Program.main (PySem.Challenge.rw_wheelreach_k88_misread_entries_and_perio).row.prog))) (fun s => xlAt qv [(Str.ofString "MOST_PERIOD", WData.int 10000000000000000000000000000000000000000000000000000000000000000000000000000000000000000000000000000), (Str.ofString "MOST_TIMES", WData.int 1000000000000000000000000000000), (Str.ofString "MOST", WData.int 1000000000000), (Str.ofString "MOST_VALUE", WData.int 1000000000000000000000000000000)] s && recOk [] s) s.abs).2.2.2.2.2.1)))) = some ((drR 14 (mR (fun c : PySem.ClsRec => some c.withCmp.plainShape) (PySem.W.Fast.tw210736558901404530 qv (PySem.W.Fast.tw821141287760084731 qv [Str.ofString "MOST_PERIOD", Str.ofString "MOST_TIMES", Str.ofString "need_few_lots", Str.ofString "Lot", Str.ofString "need_word_lots", Str.ofString "need_word_words", Str.ofString "MOST", Str.ofString "Wheel", Str.ofString "Grid", Str.ofString "Meter", Str.ofString "Paper", Str.ofString "MOST_VALUE", Str.ofString "Stretch", Str.ofString "need_few_logs"]))))) := by kernel_rfl
theorem runG3 (w : World) (os : OsState) : (endF (stepQ (denQ tabQ) (PySem.Challenge.rw_wheelreach_k88_misread_entries_and_perio).row.prog w) 21464 (PySem.Challenge.rw_wheelreach_k88_misread_entries_and_perio).row.prog w os).map (fun s => (tkL 12 (drL 24 (drL 24 (PyProof.Rows.Seen.defs ((seenQ qv [Str.ofString "MOST_PERIOD", Str.ofString "MOST_TIMES", Str.ofString "need_few_lots", Str.ofString "Lot", Str.ofString "need_word_lots", Str.ofString "need_word_words", Str.ofString "MOST", Str.ofString "Wheel", Str.ofString "Grid", Str.ofString "Meter", Str.ofString "Paper", Str.ofString "MOST_VALUE", Str.ofString "Stretch", Str.ofString "need_few_logs"] (importedModules (Module.body (Program.main (PySem.Challenge.rw_wheelreach_k88_misread_entries_and_perio).row.prog))) (fun s => xlAt qv [(Str.ofString "MOST_PERIOD", WData.int 10000000000000000000000000000000000000000000000000000000000000000000000000000000000000000000000000000), (Str.ofString "MOST_TIMES", WData.int 1000000000000000000000000000000), (Str.ofString "MOST", WData.int 1000000000000), (Str.ofString "MOST_VALUE", WData.int 1000000000000000000000000000000)] s && recOk [] s) s.abs).1)))), PySem.W.Fast.tw10994771534591457954 qv s.abs.heap, (xlAt qv [(Str.ofString "MOST_PERIOD", WData.int 10000000000000000000000000000000000000000000000000000000000000000000000000000000000000000000000000000), (Str.ofString "MOST_TIMES", WData.int 1000000000000000000000000000000), (Str.ofString "MOST", WData.int 1000000000000), (Str.ofString "MOST_VALUE", WData.int 1000000000000000000000000000000)] s.abs && recOk [] s.abs))) = some (tkR 12 (drR 24 (drR 24 (PyProof.Rows.Seen.defs (expectedOf qv)))), true, true) := by kernel_rfl
theorem run_0d_2 (w : World) (os : OsState) : (endF (stepQ (denQ tabQ) (PySem.Challenge.rw_wheelreach_k88_misread_entries_and_perio).row.prog w) 21464 (PySem.Challenge.rw_wheelreach_k88_misread_entries_and_perio).row.prog w os).map (fun s => tkL 12 (drL 24 (drL 24 (PyProof.Rows.Seen.defs ((seenQ qv [Str.ofString "MOST_PERIOD", Str.ofString "MOST_TIMES", Str.ofString "need_few_lots", Str.ofString "Lot", Str.ofString "need_word_lots", Str.ofString "need_word_words", Str.ofString "MOST", Str.ofString "Wheel", Str.ofString "Grid", Str.ofString "Meter", Str.ofString "Paper", Str.ofString "MOST_VALUE", Str.ofString "Stretch", Str.ofString "need_few_logs"] (importedModules (Module.body (Program.main (PySem.Challenge.rw_wheelreach_k88_misread_entries_and_perio).row.prog))) (fun s => xlAt qv [(Str.ofString "MOST_PERIOD", WData.int 10000000000000000000000000000000000000000000000000000000000000000000000000000000000000000000000000000), (Str.ofString "MOST_TIMES", WData.int 1000000000000000000000000000000), (Str.ofString "MOST", WData.int 1000000000000), (Str.ofString "MOST_VALUE", WData.int 1000000000000000000000000000000)] s && recOk [] s) s.abs).1))))) = some (tkR 12 (drR 24 (drR 24 (PyProof.Rows.Seen.defs (expectedOf qv))))) := (fstRun (runG3 w os))
theorem run_2_4 (w : World) (os : OsState) : (endF (stepQ (denQ tabQ) (PySem.Challenge.rw_wheelreach_k88_misread_entries_and_perio).row.prog w) 21464 (PySem.Challenge.rw_wheelreach_k88_misread_entries_and_perio).row.prog w os).map (fun s => PySem.W.Fast.tw10994771534591457954 qv s.abs.heap) = some (true) := (fstRun (sndRun (runG3 w os)))
theorem run_2_5 (w : World) (os : OsState) : (endF (stepQ (denQ tabQ) (PySem.Challenge.rw_wheelreach_k88_misread_entries_and_perio).row.prog w) 21464 (PySem.Challenge.rw_wheelreach_k88_misread_entries_and_perio).row.prog w os).map (fun s => (xlAt qv [(Str.ofString "MOST_PERIOD", WData.int 10000000000000000000000000000000000000000000000000000000000000000000000000000000000000000000000000000), (Str.ofString "MOST_TIMES", WData.int 1000000000000000000000000000000), (Str.ofString "MOST", WData.int 1000000000000), (Str.ofString "MOST_VALUE", WData.int 1000000000000000000000000000000)] s.abs && recOk [] s.abs)) = some (true) := (sndRun (sndRun (runG3 w os)))
theorem runG4 (w : World) (os : OsState) : (endF (stepQ (denQ tabQ) (PySem.Challenge.rw_wheelreach_k88_misread_entries_and_perio).row.prog w) 21464 (PySem.Challenge.rw_wheelreach_k88_misread_entries_and_perio).row.prog w os).map (fun s => (tkL 24 (PyProof.Rows.Seen.defs ((seenQ qv [Str.ofString "MOST_PERIOD", Str.ofString "MOST_TIMES", Str.ofString "need_few_lots", Str.ofString "Lot", Str.ofString "need_word_lots", Str.ofString "need_word_words", Str.ofString "MOST", Str.ofString "Wheel", Str.ofString "Grid", Str.ofString "Meter", Str.ofString "Paper", Str.ofString "MOST_VALUE", Str.ofString "Stretch", Str.ofString "need_few_logs"] (importedModules (Module.body (Program.main (PySem.Challenge.rw_wheelreach_k88_misread_entries_and_perio).row.prog))) (fun s => xlAt qv [(Str.ofString "MOST_PERIOD", WData.int 10000000000000000000000000000000000000000000000000000000000000000000000000000000000000000000000000000), (Str.ofString "MOST_TIMES", WData.int 1000000000000000000000000000000), (Str.ofString "MOST", WData.int 1000000000000), (Str.ofString "MOST_VALUE", WData.int 1000000000000000000000000000000)] s && recOk [] s) s.abs).1)), ((PyProof.Rows.Seen.ownsOk ((seenQ qv [Str.ofString "MOST_PERIOD", Str.ofString "MOST_TIMES", Str.ofString "need_few_lots", Str.ofString "Lot", Str.ofString "need_word_lots", Str.ofString "need_word_words", Str.ofString "MOST", Str.ofString "Wheel", Str.ofString "Grid", Str.ofString "Meter", Str.ofString "Paper", Str.ofString "MOST_VALUE", Str.ofString "Stretch", Str.ofString "need_few_logs"] (importedModules (Module.body (Program.main (PySem.Challenge.rw_wheelreach_k88_misread_entries_and_perio).row.prog))) (fun s => xlAt qv [(Str.ofString "MOST_PERIOD", WData.int 10000000000000000000000000000000000000000000000000000000000000000000000000000000000000000000000000000), (Str.ofString "MOST_TIMES", WData.int 1000000000000000000000000000000), (Str.ofString "MOST", WData.int 1000000000000), (Str.ofString "MOST_VALUE", WData.int 1000000000000000000000000000000)] s && recOk [] s) s.abs).1), PyProof.Rows.Seen.names ((seenQ qv [Str.ofString "MOST_PERIOD", Str.ofString "MOST_TIMES", Str.ofString "need_few_lots", Str.ofString "Lot", Str.ofString "need_word_lots", Str.ofString "need_word_words", Str.ofString "MOST", Str.ofString "Wheel", Str.ofString "Grid", Str.ofString "Meter", Str.ofString "Paper", Str.ofString "MOST_VALUE", Str.ofString "Stretch", Str.ofString "need_few_logs"] (importedModules (Module.body (Program.main (PySem.Challenge.rw_wheelreach_k88_misread_entries_and_perio).row.prog))) (fun s => xlAt qv [(Str.ofString "MOST_PERIOD", WData.int 10000000000000000000000000000000000000000000000000000000000000000000000000000000000000000000000000000), (Str.ofString "MOST_TIMES", WData.int 1000000000000000000000000000000), (Str.ofString "MOST", WData.int 1000000000000), (Str.ofString "MOST_VALUE", WData.int 1000000000000000000000000000000)] s && recOk [] s) s.abs).1), PyProof.Rows.Seen.globalsOk ((seenQ qv [Str.ofString "MOST_PERIOD", Str.ofString "MOST_TIMES", Str.ofString "need_few_lots", Str.ofString "Lot", Str.ofString "need_word_lots", Str.ofString "need_word_words", Str.ofString "MOST", Str.ofString "Wheel", Str.ofString "Grid", Str.ofString "Meter", Str.ofString "Paper", Str.ofString "MOST_VALUE", Str.ofString "Stretch", Str.ofString "need_few_logs"] (importedModules (Module.body (Program.main (PySem.Challenge.rw_wheelreach_k88_misread_entries_and_perio).row.prog))) (fun s => xlAt qv [(Str.ofString "MOST_PERIOD", WData.int 10000000000000000000000000000000000000000000000000000000000000000000000000000000000000000000000000000), (Str.ofString "MOST_TIMES", WData.int 1000000000000000000000000000000), (Str.ofString "MOST", WData.int 1000000000000), (Str.ofString "MOST_VALUE", WData.int 1000000000000000000000000000000)] s && recOk [] s) s.abs).1), PyProof.Rows.Seen.builtinsOk ((seenQ qv [Str.ofString "MOST_PERIOD", Str.ofString "MOST_TIMES", Str.ofString "need_few_lots", Str.ofString "Lot", Str.ofString "need_word_lots", Str.ofString "need_word_words", Str.ofString "MOST", Str.ofString "Wheel", Str.ofString "Grid", Str.ofString "Meter", Str.ofString "Paper", Str.ofString "MOST_VALUE", Str.ofString "Stretch", Str.ofString "need_few_logs"] (importedModules (Module.body (Program.main (PySem.Challenge.rw_wheelreach_k88_misread_entries_and_perio).row.prog))) (fun s => xlAt qv [(Str.ofString "MOST_PERIOD", WData.int 10000000000000000000000000000000000000000000000000000000000000000000000000000000000000000000000000000), (Str.ofString "MOST_TIMES", WData.int 1000000000000000000000000000000), (Str.ofString "MOST", WData.int 1000000000000), (Str.ofString "MOST_VALUE", WData.int 1000000000000000000000000000000)] s && recOk [] s) s.abs).1), PyProof.Rows.Seen.noLimit ((seenQ qv [Str.ofString "MOST_PERIOD", Str.ofString "MOST_TIMES", Str.ofString "need_few_lots", Str.ofString "Lot", Str.ofString "need_word_lots", Str.ofString "need_word_words", Str.ofString "MOST", Str.ofString "Wheel", Str.ofString "Grid", Str.ofString "Meter", Str.ofString "Paper", Str.ofString "MOST_VALUE", Str.ofString "Stretch", Str.ofString "need_few_logs"] (importedModules (Module.body (Program.main (PySem.Challenge.rw_wheelreach_k88_misread_entries_and_perio).row.prog))) (fun s => xlAt qv [(Str.ofString "MOST_PERIOD", WData.int 10000000000000000000000000000000000000000000000000000000000000000000000000000000000000000000000000000), (Str.ofString "MOST_TIMES", WData.int 1000000000000000000000000000000), (Str.ofString "MOST", WData.int 1000000000000), (Str.ofString "MOST_VALUE", WData.int 1000000000000000000000000000000)] s && recOk [] s) s.abs).1), PyProof.Rows.Seen.gens ((seenQ qv [Str.ofString "MOST_PERIOD", Str.ofString "MOST_TIMES", Str.ofString "need_few_lots", Str.ofString "Lot", Str.ofString "need_word_lots", Str.ofString "need_word_words", Str.ofString "MOST", Str.ofString "Wheel", Str.ofString "Grid", Str.ofString "Meter", Str.ofString "Paper", Str.ofString "MOST_VALUE", Str.ofString "Stretch", Str.ofString "need_few_logs"] (importedModules (Module.body (Program.main (PySem.Challenge.rw_wheelreach_k88_misread_entries_and_perio).row.prog))) (fun s => xlAt qv [(Str.ofString "MOST_PERIOD", WData.int 10000000000000000000000000000000000000000000000000000000000000000000000000000000000000000000000000000), (Str.ofString "MOST_TIMES", WData.int 1000000000000000000000000000000), (Str.ofString "MOST", WData.int 1000000000000), (Str.ofString "MOST_VALUE", WData.int 1000000000000000000000000000000)] s && recOk [] s) s.abs).1))))) = some (tkR 24 (PyProof.Rows.Seen.defs (expectedOf qv)), (true, [], true, true, true, 0)) := by kernel_rfl
theorem run_0d_0 (w : World) (os : OsState) : (endF (stepQ (denQ tabQ) (PySem.Challenge.rw_wheelreach_k88_misread_entries_and_perio).row.prog w) 21464 (PySem.Challenge.rw_wheelreach_k88_misread_entries_and_perio).row.prog w os).map (fun s => tkL 24 (PyProof.Rows.Seen.defs ((seenQ qv [Str.ofString "MOST_PERIOD", Str.ofString "MOST_TIMES", Str.ofString "need_few_lots", Str.ofString "Lot", Str.ofString "need_word_lots", Str.ofString "need_word_words", Str.ofString "MOST", Str.ofString "Wheel", Str.ofString "Grid", Str.ofString "Meter", Str.ofString "Paper", Str.ofString "MOST_VALUE", Str.ofString "Stretch", Str.ofString "need_few_logs"] (importedModules (Module.body (Program.main (PySem.Challenge.rw_wheelreach_k88_misread_entries_and_perio).row.prog))) (fun s => xlAt qv [(Str.ofString "MOST_PERIOD", WData.int 10000000000000000000000000000000000000000000000000000000000000000000000000000000000000000000000000000), (Str.ofString "MOST_TIMES", WData.int 1000000000000000000000000000000), (Str.ofString "MOST", WData.int 1000000000000), (Str.ofString "MOST_VALUE", WData.int 1000000000000000000000000000000)] s && recOk [] s) s.abs).1))) = some (tkR 24 (PyProof.Rows.Seen.defs (expectedOf qv))) := (fstRun (runG4 w os))
theorem run_0r (w : World) (os : OsState) : (endF (stepQ (denQ tabQ) (PySem.Challenge.rw_wheelreach_k88_misread_entries_and_perio).row.prog w) 21464 (PySem.Challenge.rw_wheelreach_k88_misread_entries_and_perio).row.prog w os).map (fun s => ((PyProof.Rows.Seen.ownsOk ((seenQ qv [Str.ofString "MOST_PERIOD", Str.ofString "MOST_TIMES", Str.ofString "need_few_lots", Str.ofString "Lot", Str.ofString "need_word_lots", Str.ofString "need_word_words", Str.ofString "MOST", Str.ofString "Wheel", Str.ofString "Grid", Str.ofString "Meter", Str.ofString "Paper", Str.ofString "MOST_VALUE", Str.ofString "Stretch", Str.ofString "need_few_logs"] (importedModules (Module.body (Program.main (PySem.Challenge.rw_wheelreach_k88_misread_entries_and_perio).row.prog))) (fun s => xlAt qv [(Str.ofString "MOST_PERIOD", WData.int 10000000000000000000000000000000000000000000000000000000000000000000000000000000000000000000000000000), (Str.ofString "MOST_TIMES", WData.int 1000000000000000000000000000000), (Str.ofString "MOST", WData.int 1000000000000), (Str.ofString "MOST_VALUE", WData.int 1000000000000000000000000000000)] s && recOk [] s) s.abs).1), PyProof.Rows.Seen.names ((seenQ qv [Str.ofString "MOST_PERIOD", Str.ofString "MOST_TIMES", Str.ofString "need_few_lots", Str.ofString "Lot", Str.ofString "need_word_lots", Str.ofString "need_word_words", Str.ofString "MOST", Str.ofString "Wheel", Str.ofString "Grid", Str.ofString "Meter", Str.ofString "Paper", Str.ofString "MOST_VALUE", Str.ofString "Stretch", Str.ofString "need_few_logs"] (importedModules (Module.body (Program.main (PySem.Challenge.rw_wheelreach_k88_misread_entries_and_perio).row.prog))) (fun s => xlAt qv [(Str.ofString "MOST_PERIOD", WData.int 10000000000000000000000000000000000000000000000000000000000000000000000000000000000000000000000000000), (Str.ofString "MOST_TIMES", WData.int 1000000000000000000000000000000), (Str.ofString "MOST", WData.int 1000000000000), (Str.ofString "MOST_VALUE", WData.int 1000000000000000000000000000000)] s && recOk [] s) s.abs).1), PyProof.Rows.Seen.globalsOk ((seenQ qv [Str.ofString "MOST_PERIOD", Str.ofString "MOST_TIMES", Str.ofString "need_few_lots", Str.ofString "Lot", Str.ofString "need_word_lots", Str.ofString "need_word_words", Str.ofString "MOST", Str.ofString "Wheel", Str.ofString "Grid", Str.ofString "Meter", Str.ofString "Paper", Str.ofString "MOST_VALUE", Str.ofString "Stretch", Str.ofString "need_few_logs"] (importedModules (Module.body (Program.main (PySem.Challenge.rw_wheelreach_k88_misread_entries_and_perio).row.prog))) (fun s => xlAt qv [(Str.ofString "MOST_PERIOD", WData.int 10000000000000000000000000000000000000000000000000000000000000000000000000000000000000000000000000000), (Str.ofString "MOST_TIMES", WData.int 1000000000000000000000000000000), (Str.ofString "MOST", WData.int 1000000000000), (Str.ofString "MOST_VALUE", WData.int 1000000000000000000000000000000)] s && recOk [] s) s.abs).1), PyProof.Rows.Seen.builtinsOk ((seenQ qv [Str.ofString "MOST_PERIOD", Str.ofString "MOST_TIMES", Str.ofString "need_few_lots", Str.ofString "Lot", Str.ofString "need_word_lots", Str.ofString "need_word_words", Str.ofString "MOST", Str.ofString "Wheel", Str.ofString "Grid", Str.ofString "Meter", Str.ofString "Paper", Str.ofString "MOST_VALUE", Str.ofString "Stretch", Str.ofString "need_few_logs"] (importedModules (Module.body (Program.main (PySem.Challenge.rw_wheelreach_k88_misread_entries_and_perio).row.prog))) (fun s => xlAt qv [(Str.ofString "MOST_PERIOD", WData.int 10000000000000000000000000000000000000000000000000000000000000000000000000000000000000000000000000000), (Str.ofString "MOST_TIMES", WData.int 1000000000000000000000000000000), (Str.ofString "MOST", WData.int 1000000000000), (Str.ofString "MOST_VALUE", WData.int 1000000000000000000000000000000)] s && recOk [] s) s.abs).1), PyProof.Rows.Seen.noLimit ((seenQ qv [Str.ofString "MOST_PERIOD", Str.ofString "MOST_TIMES", Str.ofString "need_few_lots", Str.ofString "Lot", Str.ofString "need_word_lots", Str.ofString "need_word_words", Str.ofString "MOST", Str.ofString "Wheel", Str.ofString "Grid", Str.ofString "Meter", Str.ofString "Paper", Str.ofString "MOST_VALUE", Str.ofString "Stretch", Str.ofString "need_few_logs"] (importedModules (Module.body (Program.main (PySem.Challenge.rw_wheelreach_k88_misread_entries_and_perio).row.prog))) (fun s => xlAt qv [(Str.ofString "MOST_PERIOD", WData.int 10000000000000000000000000000000000000000000000000000000000000000000000000000000000000000000000000000), (Str.ofString "MOST_TIMES", WData.int 1000000000000000000000000000000), (Str.ofString "MOST", WData.int 1000000000000), (Str.ofString "MOST_VALUE", WData.int 1000000000000000000000000000000)] s && recOk [] s) s.abs).1), PyProof.Rows.Seen.gens ((seenQ qv [Str.ofString "MOST_PERIOD", Str.ofString "MOST_TIMES", Str.ofString "need_few_lots", Str.ofString "Lot", Str.ofString "need_word_lots", Str.ofString "need_word_words", Str.ofString "MOST", Str.ofString "Wheel", Str.ofString "Grid", Str.ofString "Meter", Str.ofString "Paper", Str.ofString "MOST_VALUE", Str.ofString "Stretch", Str.ofString "need_few_logs"] (importedModules (Module.body (Program.main (PySem.Challenge.rw_wheelreach_k88_misread_entries_and_perio).row.prog))) (fun s => xlAt qv [(Str.ofString "MOST_PERIOD", WData.int 10000000000000000000000000000000000000000000000000000000000000000000000000000000000000000000000000000), (Str.ofString "MOST_TIMES", WData.int 1000000000000000000000000000000), (Str.ofString "MOST", WData.int 1000000000000), (Str.ofString "MOST_VALUE", WData.int 1000000000000000000000000000000)] s && recOk [] s) s.abs).1)))) = some ((true, [], true, true, true, 0)) := (sndRun (runG4 w os))
theorem run_0d_1 (w : World) (os : OsState) : (endF (stepQ (denQ tabQ) (PySem.Challenge.rw_wheelreach_k88_misread_entries_and_perio).row.prog w) 21464 (PySem.Challenge.rw_wheelreach_k88_misread_entries_and_perio).row.prog w os).map (fun s => tkL 24 (drL 24 (PyProof.Rows.Seen.defs ((seenQ qv [Str.ofString "MOST_PERIOD", Str.ofString "MOST_TIMES", Str.ofString "need_few_lots", Str.ofString "Lot", Str.ofString "need_word_lots", Str.ofString "need_word_words", Str.ofString "MOST", Str.ofString "Wheel", Str.ofString "Grid", Str.ofString "Meter", Str.ofString "Paper", Str.ofString "MOST_VALUE", Str.ofString "Stretch", Str.ofString "need_few_logs"] (importedModules (Module.body (Program.main (PySem.Challenge.rw_wheelreach_k88_misread_entries_and_perio).row.prog))) (fun s => xlAt qv [(Str.ofString "MOST_PERIOD", WData.int 10000000000000000000000000000000000000000000000000000000000000000000000000000000000000000000000000000), (Str.ofString "MOST_TIMES", WData.int 1000000000000000000000000000000), (Str.ofString "MOST", WData.int 1000000000000), (Str.ofString "MOST_VALUE", WData.int 1000000000000000000000000000000)] s && recOk [] s) s.abs).1)))) = some (tkR 24 (drR 24 (PyProof.Rows.Seen.defs (expectedOf qv)))) := by kernel_rfl
theorem runG6 (w : World) (os : OsState) : (endF (stepQ (denQ tabQ) (PySem.Challenge.rw_wheelreach_k88_misread_entries_and_perio).row.prog w) 21464 (PySem.Challenge.rw_wheelreach_k88_misread_entries_and_perio).row.prog w os).map (fun s => ((drL 12 (drL 24 (drL 24 (PyProof.Rows.Seen.defs ((seenQ qv [Str.ofString "MOST_PERIOD", Str.ofString "MOST_TIMES", Str.ofString "need_few_lots", Str.ofString "Lot", Str.ofString "need_word_lots", Str.ofString "need_word_words", Str.ofString "MOST", Str.ofString "Wheel", Str.ofString "Grid", Str.ofString "Meter", Str.ofString "Paper", Str.ofString "MOST_VALUE", Str.ofString "Stretch", Str.ofString "need_few_logs"] (importedModules (Module.body (Program.main (PySem.Challenge.rw_wheelreach_k88_misread_entries_and_perio).row.prog))) (fun s => xlAt qv [(Str.ofString "MOST_PERIOD", WData.int 10000000000000000000000000000000000000000000000000000000000000000000000000000000000000000000000000000), (Str.ofString "MOST_TIMES", WData.int 1000000000000000000000000000000), (Str.ofString "MOST", WData.int 1000000000000), (Str.ofString "MOST_VALUE", WData.int 1000000000000000000000000000000)] s && recOk [] s) s.abs).1))))), ((seenQ qv [Str.ofString "MOST_PERIOD", Str.ofString "MOST_TIMES", Str.ofString "need_few_lots", Str.ofString "Lot", Str.ofString "need_word_lots", Str.ofString "need_word_words", Str.ofString "MOST", Str.ofString "Wheel", Str.ofString "Grid", Str.ofString "Meter", Str.ofString "Paper", Str.ofString "MOST_VALUE", Str.ofString "Stretch", Str.ofString "need_few_logs"] (importedModules (Module.body (Program.main (PySem.Challenge.rw_wheelreach_k88_misread_entries_and_perio).row.prog))) (fun s => xlAt qv [(Str.ofString "MOST_PERIOD", WData.int 10000000000000000000000000000000000000000000000000000000000000000000000000000000000000000000000000000), (Str.ofString "MOST_TIMES", WData.int 1000000000000000000000000000000), (Str.ofString "MOST", WData.int 1000000000000), (Str.ofString "MOST_VALUE", WData.int 1000000000000000000000000000000)] s && recOk [] s) s.abs).2.1))) = some ((drR 12 (drR 24 (drR 24 (PyProof.Rows.Seen.defs (expectedOf qv))))), bltViewBooted) := by kernel_rfl
theorem run_0d_3 (w : World) (os : OsState) : (endF (stepQ (denQ tabQ) (PySem.Challenge.rw_wheelreach_k88_misread_entries_and_perio).row.prog w) 21464 (PySem.Challenge.rw_wheelreach_k88_misread_entries_and_perio).row.prog w os).map (fun s => (drL 12 (drL 24 (drL 24 (PyProof.Rows.Seen.defs ((seenQ qv [Str.ofString "MOST_PERIOD", Str.ofString "MOST_TIMES", Str.ofString "need_few_lots", Str.ofString "Lot", Str.ofString "need_word_lots", Str.ofString "need_word_words", Str.ofString "MOST", Str.ofString "Wheel", Str.ofString "Grid", Str.ofString "Meter", Str.ofString "Paper", Str.ofString "MOST_VALUE", Str.ofString "Stretch", Str.ofString "need_few_logs"] (importedModules (Module.body (Program.main (PySem.Challenge.rw_wheelreach_k88_misread_entries_and_perio).row.prog))) (fun s => xlAt qv [(Str.ofString "MOST_PERIOD", WData.int 10000000000000000000000000000000000000000000000000000000000000000000000000000000000000000000000000000), (Str.ofString "MOST_TIMES", WData.int 1000000000000000000000000000000), (Str.ofString "MOST", WData.int 1000000000000), (Str.ofString "MOST_VALUE", WData.int 1000000000000000000000000000000)] s && recOk [] s) s.abs).1)))))) = some ((drR 12 (drR 24 (drR 24 (PyProof.Rows.Seen.defs (expectedOf qv)))))) := (fstRun (runG6 w os))
theorem runP1 (w : World) (os : OsState) : (endF (stepQ (denQ tabQ) (PySem.Challenge.rw_wheelreach_k88_misread_entries_and_perio).row.prog w) 21464 (PySem.Challenge.rw_wheelreach_k88_misread_entries_and_perio).row.prog w os).map (fun s => ((seenQ qv [Str.ofString "MOST_PERIOD", Str.ofString "MOST_TIMES", Str.ofString "need_few_lots", Str.ofString "Lot", Str.ofString "need_word_lots", Str.ofString "need_word_words", Str.ofString "MOST", Str.ofString "Wheel", Str.ofString "Grid", Str.ofString "Meter", Str.ofString "Paper", Str.ofString "MOST_VALUE", Str.ofString "Stretch", Str.ofString "need_few_logs"] (importedModules (Module.body (Program.main (PySem.Challenge.rw_wheelreach_k88_misread_entries_and_perio).row.prog))) (fun s => xlAt qv [(Str.ofString "MOST_PERIOD", WData.int 10000000000000000000000000000000000000000000000000000000000000000000000000000000000000000000000000000), (Str.ofString "MOST_TIMES", WData.int 1000000000000000000000000000000), (Str.ofString "MOST", WData.int 1000000000000), (Str.ofString "MOST_VALUE", WData.int 1000000000000000000000000000000)] s && recOk [] s) s.abs).2.1)) = some (bltViewBooted) := (sndRun (runG6 w os))
theorem runG7 (w : World) (os : OsState) : (endF (stepQ (denQ tabQ) (PySem.Challenge.rw_wheelreach_k88_misread_entries_and_perio).row.prog w) 21464 (PySem.Challenge.rw_wheelreach_k88_misread_entries_and_perio).row.prog w os).map (fun s => ((R.allR (tkL 50 (PySem.W.Fast.tw3399658132070893891 qv)) fun d => PySem.W.Fast.tw5930804224584009831 s.abs.heap d.name), PySem.W.Fast.tw5244371056499926238 s.abs.heap, PySem.W.Fast.tw2578726214315757710 qv s.abs.heap, (!PySem.W.Fast.tw2458874890965802552 qv || PySem.W.Fast.tw9649274521512697073 s.abs.heap))) = some (true, true, true, true) := by kernel_rfl
theorem run_3_0a (w : World) (os : OsState) : (endF (stepQ (denQ tabQ) (PySem.Challenge.rw_wheelreach_k88_misread_entries_and_perio).row.prog w) 21464 (PySem.Challenge.rw_wheelreach_k88_misread_entries_and_perio).row.prog w os).map (fun s => (R.allR (tkL 50 (PySem.W.Fast.tw3399658132070893891 qv)) fun d => PySem.W.Fast.tw5930804224584009831 s.abs.heap d.name)) = some (true) := (fstRun (runG7 w os))
theorem run_3_1 (w : World) (os : OsState) : (endF (stepQ (denQ tabQ) (PySem.Challenge.rw_wheelreach_k88_misread_entries_and_perio).row.prog w) 21464 (PySem.Challenge.rw_wheelreach_k88_misread_entries_and_perio).row.prog w os).map (fun s => PySem.W.Fast.tw5244371056499926238 s.abs.heap) = some (true) := (fstRun (sndRun (runG7 w os)))
theorem run_3_2 (w : World) (os : OsState) : (endF (stepQ (denQ tabQ) (PySem.Challenge.rw_wheelreach_k88_misread_entries_and_perio).row.prog w) 21464 (PySem.Challenge.rw_wheelreach_k88_misread_entries_and_perio).row.prog w os).map (fun s => PySem.W.Fast.tw2578726214315757710 qv s.abs.heap) = some (true) := (fstRun (sndRun (sndRun (runG7 w os))))
theorem run_3_3 (w : World) (os : OsState) : (endF (stepQ (denQ tabQ) (PySem.Challenge.rw_wheelreach_k88_misread_entries_and_perio).row.prog w) 21464 (PySem.Challenge.rw_wheelreach_k88_misread_entries_and_perio).row.prog w os).map (fun s => (!PySem.W.Fast.tw2458874890965802552 qv || PySem.W.Fast.tw9649274521512697073 s.abs.heap)) = some (true) := (sndRun (sndRun (sndRun (runG7 w os))))
theorem run_2_0a (w : World) (os : OsState) : (endF (stepQ (denQ tabQ) (PySem.Challenge.rw_wheelreach_k88_misread_entries_and_perio).row.prog w) 21464 (PySem.Challenge.rw_wheelreach_k88_misread_entries_and_perio).row.prog w os).map (fun s => (R.allR (tkL 65 (s.abs.heap.nsKeys mainGlobals)) fun k => (@PySem.W.Fast.tw3471404346716756564 PySem.Str (@instBEqOfDecidableEq PySem.Str PySem.W.Fast.sDec) PySem.W.Fast.tw12749700546528644094 k) || (@PySem.W.Fast.tw3471404346716756564 PySem.Str (@instBEqOfDecidableEq PySem.Str PySem.W.Fast.sDec) (PySem.W.Fast.tw821141287760084731 qv [Str.ofString "MOST_PERIOD", Str.ofString "MOST_TIMES", Str.ofString "need_few_lots", Str.ofString "Lot", Str.ofString "need_word_lots", Str.ofString "need_word_words", Str.ofString "MOST", Str.ofString "Wheel", Str.ofString "Grid", Str.ofString "Meter", Str.ofString "Paper", Str.ofString "MOST_VALUE", Str.ofString "Stretch", Str.ofString "need_few_logs"]) k) || (@PySem.W.Fast.tw3471404346716756564 PySem.Str (@instBEqOfDecidableEq PySem.Str PySem.W.Fast.sDec) (R.mapR (fun x => x.name) (PySem.W.Fast.tw3399658132070893891 qv)) k) || (@PySem.W.Fast.tw3471404346716756564 PySem.Str (@instBEqOfDecidableEq PySem.Str PySem.W.Fast.sDec) (R.mapR (fun x => x.fst) (PySem.W.Fast.tw7409074990110511671 qv)) k) || (@PySem.W.Fast.tw3471404346716756564 PySem.Str (@instBEqOfDecidableEq PySem.Str PySem.W.Fast.sDec) (R.mapR (fun x => x.name) (PySem.W.Fast.tw13664370479719496447 qv (PySem.W.Fast.tw821141287760084731 qv [Str.ofString "MOST_PERIOD", Str.ofString "MOST_TIMES", Str.ofString "need_few_lots", Str.ofString "Lot", Str.ofString "need_word_lots", Str.ofString "need_word_words", Str.ofString "MOST", Str.ofString "Wheel", Str.ofString "Grid", Str.ofString "Meter", Str.ofString "Paper", Str.ofString "MOST_VALUE", Str.ofString "Stretch", Str.ofString "need_few_logs"]))) k))) = some (true) := by kernel_rfl
theorem run_2_0b (w : World) (os : OsState) : (endF (stepQ (denQ tabQ) (PySem.Challenge.rw_wheelreach_k88_misread_entries_and_perio).row.prog w) 21464 (PySem.Challenge.rw_wheelreach_k88_misread_entries_and_perio).row.prog w os).map (fun s => (R.allR (drL 65 (s.abs.heap.nsKeys mainGlobals)) fun k => (@PySem.W.Fast.tw3471404346716756564 PySem.Str (@instBEqOfDecidableEq PySem.Str PySem.W.Fast.sDec) PySem.W.Fast.tw12749700546528644094 k) || (@PySem.W.Fast.tw3471404346716756564 PySem.Str (@instBEqOfDecidableEq PySem.Str PySem.W.Fast.sDec) (PySem.W.Fast.tw821141287760084731 qv [Str.ofString "MOST_PERIOD", Str.ofString "MOST_TIMES", Str.ofString "need_few_lots", Str.ofString "Lot", Str.ofString "need_word_lots", Str.ofString "need_word_words", Str.ofString "MOST", Str.ofString "Wheel", Str.ofString "Grid", Str.ofString "Meter", Str.ofString "Paper", Str.ofString "MOST_VALUE", Str.ofString "Stretch", Str.ofString "need_few_logs"]) k) || (@PySem.W.Fast.tw3471404346716756564 PySem.Str (@instBEqOfDecidableEq PySem.Str PySem.W.Fast.sDec) (R.mapR (fun x => x.name) (PySem.W.Fast.tw3399658132070893891 qv)) k) || (@PySem.W.Fast.tw3471404346716756564 PySem.Str (@instBEqOfDecidableEq PySem.Str PySem.W.Fast.sDec) (R.mapR (fun x => x.fst) (PySem.W.Fast.tw7409074990110511671 qv)) k) || (@PySem.W.Fast.tw3471404346716756564 PySem.Str (@instBEqOfDecidableEq PySem.Str PySem.W.Fast.sDec) (R.mapR (fun x => x.name) (PySem.W.Fast.tw13664370479719496447 qv (PySem.W.Fast.tw821141287760084731 qv [Str.ofString "MOST_PERIOD", Str.ofString "MOST_TIMES", Str.ofString "need_few_lots", Str.ofString "Lot", Str.ofString "need_word_lots", Str.ofString "need_word_words", Str.ofString "MOST", Str.ofString "Wheel", Str.ofString "Grid", Str.ofString "Meter", Str.ofString "Paper", Str.ofString "MOST_VALUE", Str.ofString "Stretch", Str.ofString "need_few_logs"]))) k))) = some (true) := by kernel_rfl
theorem run_7b (w : World) (os : OsState) : (endF (stepQ (denQ tabQ) (PySem.Challenge.rw_wheelreach_k88_misread_entries_and_perio).row.prog w) 21464 (PySem.Challenge.rw_wheelreach_k88_misread_entries_and_perio).row.prog w os).map (fun s => gL ((seenQ qv [Str.ofString "MOST_PERIOD", Str.ofString "MOST_TIMES", Str.ofString "need_few_lots", Str.ofString "Lot", Str.ofString "need_word_lots", Str.ofString "need_word_words", Str.ofString "MOST", Str.ofString "Wheel", Str.ofString "Grid", Str.ofString "Meter", Str.ofString "Paper", Str.ofString "MOST_VALUE", Str.ofString "Stretch", Str.ofString "need_few_logs"] (importedModules (Module.body (Program.main (PySem.Challenge.rw_wheelreach_k88_misread_entries_and_perio).row.prog))) (fun s => xlAt qv [(Str.ofString "MOST_PERIOD", WData.int 10000000000000000000000000000000000000000000000000000000000000000000000000000000000000000000000000000), (Str.ofString "MOST_TIMES", WData.int 1000000000000000000000000000000), (Str.ofString "MOST", WData.int 1000000000000), (Str.ofString "MOST_VALUE", WData.int 1000000000000000000000000000000)] s && recOk [] s) s.abs).2.2.2.2.2.2.2.1)) = some (gR (wideGood qv)) := by kernel_rfl
theorem runG11 (w : World) (os : OsState) : (endF (stepQ (denQ tabQ) (PySem.Challenge.rw_wheelreach_k88_misread_entries_and_perio).row.prog w) 21464 (PySem.Challenge.rw_wheelreach_k88_misread_entries_and_perio).row.prog w os).map (fun s => (fL ((seenQ qv [Str.ofString "MOST_PERIOD", Str.ofString "MOST_TIMES", Str.ofString "need_few_lots", Str.ofString "Lot", Str.ofString "need_word_lots", Str.ofString "need_word_words", Str.ofString "MOST", Str.ofString "Wheel", Str.ofString "Grid", Str.ofString "Meter", Str.ofString "Paper", Str.ofString "MOST_VALUE", Str.ofString "Stretch", Str.ofString "need_few_logs"] (importedModules (Module.body (Program.main (PySem.Challenge.rw_wheelreach_k88_misread_entries_and_perio).row.prog))) (fun s => xlAt qv [(Str.ofString "MOST_PERIOD", WData.int 10000000000000000000000000000000000000000000000000000000000000000000000000000000000000000000000000000), (Str.ofString "MOST_TIMES", WData.int 1000000000000000000000000000000), (Str.ofString "MOST", WData.int 1000000000000), (Str.ofString "MOST_VALUE", WData.int 1000000000000000000000000000000)] s && recOk [] s) s.abs).2.2.2.2.2.2.2.1), PySem.W.Fast.tw14722251495701143533 s.abs.heap (importedModules (Module.body (Program.main (PySem.Challenge.rw_wheelreach_k88_misread_entries_and_perio).row.prog))), s.abs.heap.isNs mainGlobals, s.abs.heap.isNs builtinsNs, (if true = true then s.abs.gens.size == 0 else !leftWithCleanup s.abs.gens))) = some (fR (wideGood qv), true, true, true, true) := by kernel_rfl
theorem run_7a (w : World) (os : OsState) : (endF (stepQ (denQ tabQ) (PySem.Challenge.rw_wheelreach_k88_misread_entries_and_perio).row.prog w) 21464 (PySem.Challenge.rw_wheelreach_k88_misread_entries_and_perio).row.prog w os).map (fun s => fL ((seenQ qv [Str.ofString "MOST_PERIOD", Str.ofString "MOST_TIMES", Str.ofString "need_few_lots", Str.ofString "Lot", Str.ofString "need_word_lots", Str.ofString "need_word_words", Str.ofString "MOST", Str.ofString "Wheel", Str.ofString "Grid", Str.ofString "Meter", Str.ofString "Paper", Str.ofString "MOST_VALUE", Str.ofString "Stretch", Str.ofString "need_few_logs"] (importedModules (Module.body (Program.main (PySem.Challenge.rw_wheelreach_k88_misread_entries_and_perio).row.prog))) (fun s => xlAt qv [(Str.ofString "MOST_PERIOD", WData.int 10000000000000000000000000000000000000000000000000000000000000000000000000000000000000000000000000000), (Str.ofString "MOST_TIMES", WData.int 1000000000000000000000000000000), (Str.ofString "MOST", WData.int 1000000000000), (Str.ofString "MOST_VALUE", WData.int 1000000000000000000000000000000)] s && recOk [] s) s.abs).2.2.2.2.2.2.2.1)) = some (fR (wideGood qv)) := (fstRun (runG11 w os))
theorem run_2_1 (w : World) (os : OsState) : (endF (stepQ (denQ tabQ) (PySem.Challenge.rw_wheelreach_k88_misread_entries_and_perio).row.prog w) 21464 (PySem.Challenge.rw_wheelreach_k88_misread_entries_and_perio).row.prog w os).map (fun s => PySem.W.Fast.tw14722251495701143533 s.abs.heap (importedModules (Module.body (Program.main (PySem.Challenge.rw_wheelreach_k88_misread_entries_and_perio).row.prog)))) = some (true) := (fstRun (sndRun (runG11 w os)))
theorem run_2_2 (w : World) (os : OsState) : (endF (stepQ (denQ tabQ) (PySem.Challenge.rw_wheelreach_k88_misread_entries_and_perio).row.prog w) 21464 (PySem.Challenge.rw_wheelreach_k88_misread_entries_and_perio).row.prog w os).map (fun s => s.abs.heap.isNs mainGlobals) = some (true) := (fstRun (sndRun (sndRun (runG11 w os))))
theorem run_2_3 (w : World) (os : OsState) : (endF (stepQ (denQ tabQ) (PySem.Challenge.rw_wheelreach_k88_misread_entries_and_perio).row.prog w) 21464 (PySem.Challenge.rw_wheelreach_k88_misread_entries_and_perio).row.prog w os).map (fun s => s.abs.heap.isNs builtinsNs) = some (true) := (fstRun (sndRun (sndRun (sndRun (runG11 w os)))))
theorem run_2_6 (w : World) (os : OsState) : (endF (stepQ (denQ tabQ) (PySem.Challenge.rw_wheelreach_k88_misread_entries_and_perio).row.prog w) 21464 (PySem.Challenge.rw_wheelreach_k88_misread_entries_and_perio).row.prog w os).map (fun s => (if true = true then s.abs.gens.size == 0 else !leftWithCleanup s.abs.gens)) = some (true) := (sndRun (sndRun (sndRun (sndRun (runG11 w os)))))
theorem runP4 (w : World) (os : OsState) : (endF (stepQ (denQ tabQ) (PySem.Challenge.rw_wheelreach_k88_misread_entries_and_perio).row.prog w) 21464 (PySem.Challenge.rw_wheelreach_k88_misread_entries_and_perio).row.prog w os).map (fun s => ((seenQ qv [Str.ofString "MOST_PERIOD", Str.ofString "MOST_TIMES", Str.ofString "need_few_lots", Str.ofString "Lot", Str.ofString "need_word_lots", Str.ofString "need_word_words", Str.ofString "MOST", Str.ofString "Wheel", Str.ofString "Grid", Str.ofString "Meter", Str.ofString "Paper", Str.ofString "MOST_VALUE", Str.ofString "Stretch", Str.ofString "need_few_logs"] (importedModules (Module.body (Program.main (PySem.Challenge.rw_wheelreach_k88_misread_entries_and_perio).row.prog))) (fun s => xlAt qv [(Str.ofString "MOST_PERIOD", WData.int 10000000000000000000000000000000000000000000000000000000000000000000000000000000000000000000000000000), (Str.ofString "MOST_TIMES", WData.int 1000000000000000000000000000000), (Str.ofString "MOST", WData.int 1000000000000), (Str.ofString "MOST_VALUE", WData.int 1000000000000000000000000000000)] s && recOk [] s) s.abs).2.2.2.2.1)) = some ((pinGoodD (drecsOf qv))) := by kernel_rfl
theorem runG13 (w : World) (os : OsState) : (endF (stepQ (denQ tabQ) (PySem.Challenge.rw_wheelreach_k88_misread_entries_and_perio).row.prog w) 21464 (PySem.Challenge.rw_wheelreach_k88_misread_entries_and_perio).row.prog w os).map (fun s => (looksF (PySem.Challenge.rw_wheelreach_k88_misread_entries_and_perio).row.prog (boot_heap w.params) s.abs, ((seenQ qv [Str.ofString "MOST_PERIOD", Str.ofString "MOST_TIMES", Str.ofString "need_few_lots", Str.ofString "Lot", Str.ofString "need_word_lots", Str.ofString "need_word_words", Str.ofString "MOST", Str.ofString "Wheel", Str.ofString "Grid", Str.ofString "Meter", Str.ofString "Paper", Str.ofString "MOST_VALUE", Str.ofString "Stretch", Str.ofString "need_few_logs"] (importedModules (Module.body (Program.main (PySem.Challenge.rw_wheelreach_k88_misread_entries_and_perio).row.prog))) (fun s => xlAt qv [(Str.ofString "MOST_PERIOD", WData.int 10000000000000000000000000000000000000000000000000000000000000000000000000000000000000000000000000000), (Str.ofString "MOST_TIMES", WData.int 1000000000000000000000000000000), (Str.ofString "MOST", WData.int 1000000000000), (Str.ofString "MOST_VALUE", WData.int 1000000000000000000000000000000)] s && recOk [] s) s.abs).2.2.2.2.2.2.1), ((seenQ qv [Str.ofString "MOST_PERIOD", Str.ofString "MOST_TIMES", Str.ofString "need_few_lots", Str.ofString "Lot", Str.ofString "need_word_lots", Str.ofString "need_word_words", Str.ofString "MOST", Str.ofString "Wheel", Str.ofString "Grid", Str.ofString "Meter", Str.ofString "Paper", Str.ofString "MOST_VALUE", Str.ofString "Stretch", Str.ofString "need_few_logs"] (importedModules (Module.body (Program.main (PySem.Challenge.rw_wheelreach_k88_misread_entries_and_perio).row.prog))) (fun s => xlAt qv [(Str.ofString "MOST_PERIOD", WData.int 10000000000000000000000000000000000000000000000000000000000000000000000000000000000000000000000000000), (Str.ofString "MOST_TIMES", WData.int 1000000000000000000000000000000), (Str.ofString "MOST", WData.int 1000000000000), (Str.ofString "MOST_VALUE", WData.int 1000000000000000000000000000000)] s && recOk [] s) s.abs).2.2.2.2.2.2.2.2))) = some (true, (plainGoodD qv [Str.ofString "MOST_PERIOD", Str.ofString "MOST_TIMES", Str.ofString "need_few_lots", Str.ofString "Lot", Str.ofString "need_word_lots", Str.ofString "need_word_words", Str.ofString "MOST", Str.ofString "Wheel", Str.ofString "Grid", Str.ofString "Meter", Str.ofString "Paper", Str.ofString "MOST_VALUE", Str.ofString "Stretch", Str.ofString "need_few_logs"]), (clsGoodW qv [Str.ofString "MOST_PERIOD", Str.ofString "MOST_TIMES", Str.ofString "need_few_lots", Str.ofString "Lot", Str.ofString "need_word_lots", Str.ofString "need_word_words", Str.ofString "MOST", Str.ofString "Wheel", Str.ofString "Grid", Str.ofString "Meter", Str.ofString "Paper", Str.ofString "MOST_VALUE", Str.ofString "Stretch", Str.ofString "need_few_logs"])) := by kernel_rfl
theorem runA (w : World) (os : OsState) : (endF (stepQ (denQ tabQ) (PySem.Challenge.rw_wheelreach_k88_misread_entries_and_perio).row.prog w) 21464 (PySem.Challenge.rw_wheelreach_k88_misread_entries_and_perio).row.prog w os).map (fun s => looksF (PySem.Challenge.rw_wheelreach_k88_misread_entries_and_perio).row.prog (boot_heap w.params) s.abs) = some (true) := (fstRun (runG13 w os))
theorem runP6 (w : World) (os : OsState) : (endF (stepQ (denQ tabQ) (PySem.Challenge.rw_wheelreach_k88_misread_entries_and_perio).row.prog w) 21464 (PySem.Challenge.rw_wheelreach_k88_misread_entries_and_perio).row.prog w os).map (fun s => ((seenQ qv [Str.ofString "MOST_PERIOD", Str.ofString "MOST_TIMES", Str.ofString "need_few_lots", Str.ofString "Lot", Str.ofString "need_word_lots", Str.ofString "need_word_words", Str.ofString "MOST", Str.ofString "Wheel", Str.ofString "Grid", Str.ofString "Meter", Str.ofString "Paper", Str.ofString "MOST_VALUE", Str.ofString "Stretch", Str.ofString "need_few_logs"] (importedModules (Module.body (Program.main (PySem.Challenge.rw_wheelreach_k88_misread_entries_and_perio).row.prog))) (fun s => xlAt qv [(Str.ofString "MOST_PERIOD", WData.int 10000000000000000000000000000000000000000000000000000000000000000000000000000000000000000000000000000), (Str.ofString "MOST_TIMES", WData.int 1000000000000000000000000000000), (Str.ofString "MOST", WData.int 1000000000000), (Str.ofString "MOST_VALUE", WData.int 1000000000000000000000000000000)] s && recOk [] s) s.abs).2.2.2.2.2.2.1)) = some ((plainGoodD qv [Str.ofString "MOST_PERIOD", Str.ofString "MOST_TIMES", Str.ofString "need_few_lots", Str.ofString "Lot", Str.ofString "need_word_lots", Str.ofString "need_word_words", Str.ofString "MOST", Str.ofString "Wheel", Str.ofString "Grid", Str.ofString "Meter", Str.ofString "Paper", Str.ofString "MOST_VALUE", Str.ofString "Stretch", Str.ofString "need_few_logs"])) := (fstRun (sndRun (runG13 w os)))
theorem runP8 (w : World) (os : OsState) : (endF (stepQ (denQ tabQ) (PySem.Challenge.rw_wheelreach_k88_misread_entries_and_perio).row.prog w) 21464 (PySem.Challenge.rw_wheelreach_k88_misread_entries_and_perio).row.prog w os).map (fun s => ((seenQ qv [Str.ofString "MOST_PERIOD", Str.ofString "MOST_TIMES", Str.ofString "need_few_lots", Str.ofString "Lot", Str.ofString "need_word_lots", Str.ofString "need_word_words", Str.ofString "MOST", Str.ofString "Wheel", Str.ofString "Grid", Str.ofString "Meter", Str.ofString "Paper", Str.ofString "MOST_VALUE", Str.ofString "Stretch", Str.ofString "need_few_logs"] (importedModules (Module.body (Program.main (PySem.Challenge.rw_wheelreach_k88_misread_entries_and_perio).row.prog))) (fun s => xlAt qv [(Str.ofString "MOST_PERIOD", WData.int 10000000000000000000000000000000000000000000000000000000000000000000000000000000000000000000000000000), (Str.ofString "MOST_TIMES", WData.int 1000000000000000000000000000000), (Str.ofString "MOST", WData.int 1000000000000), (Str.ofString "MOST_VALUE", WData.int 1000000000000000000000000000000)] s && recOk [] s) s.abs).2.2.2.2.2.2.2.2)) = some ((clsGoodW qv [Str.ofString "MOST_PERIOD", Str.ofString "MOST_TIMES", Str.ofString "need_few_lots", Str.ofString "Lot", Str.ofString "need_word_lots", Str.ofString "need_word_words", Str.ofString "MOST", Str.ofString "Wheel", Str.ofString "Grid", Str.ofString "Meter", Str.ofString "Paper", Str.ofString "MOST_VALUE", Str.ofString "Stretch", Str.ofString "need_few_logs"])) := (sndRun (sndRun (runG13 w os)))
theorem run_2_0 (w : World) (os : OsState) : (endF (stepQ (denQ tabQ) (PySem.Challenge.rw_wheelreach_k88_misread_entries_and_perio).row.prog w) 21464 (PySem.Challenge.rw_wheelreach_k88_misread_entries_and_perio).row.prog w os).map (fun s => PySem.W.Fast.tw10880121769531294198 s.abs.heap (PySem.W.Fast.tw821141287760084731 qv [Str.ofString "MOST_PERIOD", Str.ofString "MOST_TIMES", Str.ofString "need_few_lots", Str.ofString "Lot", Str.ofString "need_word_lots", Str.ofString "need_word_words", Str.ofString "MOST", Str.ofString "Wheel", Str.ofString "Grid", Str.ofString "Meter", Str.ofString "Paper", Str.ofString "MOST_VALUE", Str.ofString "Stretch", Str.ofString "need_few_logs"]) (R.mapR (fun x => x.name) (PySem.W.Fast.tw3399658132070893891 qv)) (R.mapR (fun x => x.fst) (PySem.W.Fast.tw7409074990110511671 qv)) (R.mapR (fun x => x.name) (PySem.W.Fast.tw13664370479719496447 qv (PySem.W.Fast.tw821141287760084731 qv [Str.ofString "MOST_PERIOD", Str.ofString "MOST_TIMES", Str.ofString "need_few_lots", Str.ofString "Lot", Str.ofString "need_word_lots", Str.ofString "need_word_words", Str.ofString "MOST", Str.ofString "Wheel", Str.ofString "Grid", Str.ofString "Meter", Str.ofString "Paper", Str.ofString "MOST_VALUE", Str.ofString "Stretch", Str.ofString "need_few_logs"])))) = some (true) := (allRunE (fun s => (s.abs.heap.nsKeys mainGlobals)) (fun s => fun k => (@PySem.W.Fast.tw3471404346716756564 PySem.Str (@instBEqOfDecidableEq PySem.Str PySem.W.Fast.sDec) PySem.W.Fast.tw12749700546528644094 k) || (@PySem.W.Fast.tw3471404346716756564 PySem.Str (@instBEqOfDecidableEq PySem.Str PySem.W.Fast.sDec) (PySem.W.Fast.tw821141287760084731 qv [Str.ofString "MOST_PERIOD", Str.ofString "MOST_TIMES", Str.ofString "need_few_lots", Str.ofString "Lot", Str.ofString "need_word_lots", Str.ofString "need_word_words", Str.ofString "MOST", Str.ofString "Wheel", Str.ofString "Grid", Str.ofString "Meter", Str.ofString "Paper", Str.ofString "MOST_VALUE", Str.ofString "Stretch", Str.ofString "need_few_logs"]) k) || (@PySem.W.Fast.tw3471404346716756564 PySem.Str (@instBEqOfDecidableEq PySem.Str PySem.W.Fast.sDec) (R.mapR (fun x => x.name) (PySem.W.Fast.tw3399658132070893891 qv)) k) || (@PySem.W.Fast.tw3471404346716756564 PySem.Str (@instBEqOfDecidableEq PySem.Str PySem.W.Fast.sDec) (R.mapR (fun x => x.fst) (PySem.W.Fast.tw7409074990110511671 qv)) k) || (@PySem.W.Fast.tw3471404346716756564 PySem.Str (@instBEqOfDecidableEq PySem.Str PySem.W.Fast.sDec) (R.mapR (fun x => x.name) (PySem.W.Fast.tw13664370479719496447 qv (PySem.W.Fast.tw821141287760084731 qv [Str.ofString "MOST_PERIOD", Str.ofString "MOST_TIMES", Str.ofString "need_few_lots", Str.ofString "Lot", Str.ofString "need_word_lots", Str.ofString "need_word_words", Str.ofString "MOST", Str.ofString "Wheel", Str.ofString "Grid", Str.ofString "Meter", Str.ofString "Paper", Str.ofString "MOST_VALUE", Str.ofString "Stretch", Str.ofString "need_few_logs"]))) k)) 65 (run_2_0a w os) (run_2_0b w os) (by kernel_rfl) (by kernel_rfl) (by kernel_rfl))
theorem run_3_0 (w : World) (os : OsState) : (endF (stepQ (denQ tabQ) (PySem.Challenge.rw_wheelreach_k88_misread_entries_and_perio).row.prog w) 21464 (PySem.Challenge.rw_wheelreach_k88_misread_entries_and_perio).row.prog w os).map (fun s => (R.allR (PySem.W.Fast.tw3399658132070893891 qv) fun d => PySem.W.Fast.tw5930804224584009831 s.abs.heap d.name)) = some (true) := (allRun 50 (run_3_0a w os) (run_3_0b w os))
theorem run_0d (w : World) (os : OsState) : (endF (stepQ (denQ tabQ) (PySem.Challenge.rw_wheelreach_k88_misread_entries_and_perio).row.prog w) 21464 (PySem.Challenge.rw_wheelreach_k88_misread_entries_and_perio).row.prog w os).map (fun s => (PyProof.Rows.Seen.defs ((seenQ qv [Str.ofString "MOST_PERIOD", Str.ofString "MOST_TIMES", Str.ofString "need_few_lots", Str.ofString "Lot", Str.ofString "need_word_lots", Str.ofString "need_word_words", Str.ofString "MOST", Str.ofString "Wheel", Str.ofString "Grid", Str.ofString "Meter", Str.ofString "Paper", Str.ofString "MOST_VALUE", Str.ofString "Stretch", Str.ofString "need_few_logs"] (importedModules (Module.body (Program.main (PySem.Challenge.rw_wheelreach_k88_misread_entries_and_perio).row.prog))) (fun s => xlAt qv [(Str.ofString "MOST_PERIOD", WData.int 10000000000000000000000000000000000000000000000000000000000000000000000000000000000000000000000000000), (Str.ofString "MOST_TIMES", WData.int 1000000000000000000000000000000), (Str.ofString "MOST", WData.int 1000000000000), (Str.ofString "MOST_VALUE", WData.int 1000000000000000000000000000000)] s && recOk [] s) s.abs).1))) = some ((PyProof.Rows.Seen.defs (expectedOf qv))) := (cutRun 24 (run_0d_0 w os) (cutRun 24 (run_0d_1 w os) (cutRun 12 (run_0d_2 w os) (run_0d_3 w os))))
theorem runP0 (w : World) (os : OsState) : (endF (stepQ (denQ tabQ) (PySem.Challenge.rw_wheelreach_k88_misread_entries_and_perio).row.prog w) 21464 (PySem.Challenge.rw_wheelreach_k88_misread_entries_and_perio).row.prog w os).map (fun s => ((seenQ qv [Str.ofString "MOST_PERIOD", Str.ofString "MOST_TIMES", Str.ofString "need_few_lots", Str.ofString "Lot", Str.ofString "need_word_lots", Str.ofString "need_word_words", Str.ofString "MOST", Str.ofString "Wheel", Str.ofString "Grid", Str.ofString "Meter", Str.ofString "Paper", Str.ofString "MOST_VALUE", Str.ofString "Stretch", Str.ofString "need_few_logs"] (importedModules (Module.body (Program.main (PySem.Challenge.rw_wheelreach_k88_misread_entries_and_perio).row.prog))) (fun s => xlAt qv [(Str.ofString "MOST_PERIOD", WData.int 10000000000000000000000000000000000000000000000000000000000000000000000000000000000000000000000000000), (Str.ofString "MOST_TIMES", WData.int 1000000000000000000000000000000), (Str.ofString "MOST", WData.int 1000000000000), (Str.ofString "MOST_VALUE", WData.int 1000000000000000000000000000000)] s && recOk [] s) s.abs).1)) = some ((expectedOf qv)) := (seenRun (run_0d w os) (run_0r w os) rfl)
theorem run_5v (w : World) (os : OsState) : (endF (stepQ (denQ tabQ) (PySem.Challenge.rw_wheelreach_k88_misread_entries_and_perio).row.prog w) 21464 (PySem.Challenge.rw_wheelreach_k88_misread_entries_and_perio).row.prog w os).map (fun s => (((seenQ qv [Str.ofString "MOST_PERIOD", Str.ofString "MOST_TIMES", Str.ofString "need_few_lots", Str.ofString "Lot", Str.ofString "need_word_lots", Str.ofString "need_word_words", Str.ofString "MOST", Str.ofString "Wheel", Str.ofString "Grid", Str.ofString "Meter", Str.ofString "Paper", Str.ofString "MOST_VALUE", Str.ofString "Stretch", Str.ofString "need_few_logs"] (importedModules (Module.body (Program.main (PySem.Challenge.rw_wheelreach_k88_misread_entries_and_perio).row.prog))) (fun s => xlAt qv [(Str.ofString "MOST_PERIOD", WData.int 10000000000000000000000000000000000000000000000000000000000000000000000000000000000000000000000000000), (Str.ofString "MOST_TIMES", WData.int 1000000000000000000000000000000), (Str.ofString "MOST", WData.int 1000000000000), (Str.ofString "MOST_VALUE", WData.int 1000000000000000000000000000000)] s && recOk [] s) s.abs).2.2.2.2.2.1))) = some ((mR (fun c : PySem.ClsRec => some c.withCmp.plainShape) (PySem.W.Fast.tw210736558901404530 qv (PySem.W.Fast.tw821141287760084731 qv [Str.ofString "MOST_PERIOD", Str.ofString "MOST_TIMES", Str.ofString "need_few_lots", Str.ofString "Lot", Str.ofString "need_word_lots", Str.ofString "need_word_words", Str.ofString "MOST", Str.ofString "Wheel", Str.ofString "Grid", Str.ofString "Meter", Str.ofString "Paper", Str.ofString "MOST_VALUE", Str.ofString "Stretch", Str.ofString "need_few_logs"])))) := (cutRun 14 (run_5v_0 w os) (run_5v_1 w os))
theorem runP5 (w : World) (os : OsState) : (endF (stepQ (denQ tabQ) (PySem.Challenge.rw_wheelreach_k88_misread_entries_and_perio).row.prog w) 21464 (PySem.Challenge.rw_wheelreach_k88_misread_entries_and_perio).row.prog w os).map (fun s => ((seenQ qv [Str.ofString "MOST_PERIOD", Str.ofString "MOST_TIMES", Str.ofString "need_few_lots", Str.ofString "Lot", Str.ofString "need_word_lots", Str.ofString "need_word_words", Str.ofString "MOST", Str.ofString "Wheel", Str.ofString "Grid", Str.ofString "Meter", Str.ofString "Paper", Str.ofString "MOST_VALUE", Str.ofString "Stretch", Str.ofString "need_few_logs"] (importedModules (Module.body (Program.main (PySem.Challenge.rw_wheelreach_k88_misread_entries_and_perio).row.prog))) (fun s => xlAt qv [(Str.ofString "MOST_PERIOD", WData.int 10000000000000000000000000000000000000000000000000000000000000000000000000000000000000000000000000000), (Str.ofString "MOST_TIMES", WData.int 1000000000000000000000000000000), (Str.ofString "MOST", WData.int 1000000000000), (Str.ofString "MOST_VALUE", WData.int 1000000000000000000000000000000)] s && recOk [] s) s.abs).2.2.2.2.2.1)) = some ((plainGoodE qv (looseW qv [Str.ofString "MOST_PERIOD", Str.ofString "MOST_TIMES", Str.ofString "need_few_lots", Str.ofString "Lot", Str.ofString "need_word_lots", Str.ofString "need_word_words", Str.ofString "MOST", Str.ofString "Wheel", Str.ofString "Grid", Str.ofString "Meter", Str.ofString "Paper", Str.ofString "MOST_VALUE", Str.ofString "Stretch", Str.ofString "need_few_logs"]))) := (viaRun (run_5v w os) rfl (by kernel_rfl))
theorem runP2 (w : World) (os : OsState) : (endF (stepQ (denQ tabQ) (PySem.Challenge.rw_wheelreach_k88_misread_entries_and_perio).row.prog w) 21464 (PySem.Challenge.rw_wheelreach_k88_misread_entries_and_perio).row.prog w os).map (fun s => ((seenQ qv [Str.ofString "MOST_PERIOD", Str.ofString "MOST_TIMES", Str.ofString "need_few_lots", Str.ofString "Lot", Str.ofString "need_word_lots", Str.ofString "need_word_words", Str.ofString "MOST", Str.ofString "Wheel", Str.ofString "Grid", Str.ofString "Meter", Str.ofString "Paper", Str.ofString "MOST_VALUE", Str.ofString "Stretch", Str.ofString "need_few_logs"] (importedModules (Module.body (Program.main (PySem.Challenge.rw_wheelreach_k88_misread_entries_and_perio).row.prog))) (fun s => xlAt qv [(Str.ofString "MOST_PERIOD", WData.int 10000000000000000000000000000000000000000000000000000000000000000000000000000000000000000000000000000), (Str.ofString "MOST_TIMES", WData.int 1000000000000000000000000000000), (Str.ofString "MOST", WData.int 1000000000000), (Str.ofString "MOST_VALUE", WData.int 1000000000000000000000000000000)] s && recOk [] s) s.abs).2.2.1)) = some (true) := (viaRun (andRun (andRun (andRun (andRun (andRun (andRun (run_2_0 w os) (run_2_1 w os)) (run_2_2 w os)) (run_2_3 w os)) (run_2_4 w os)) (run_2_5 w os)) (run_2_6 w os)) (by kernel_rfl) rfl)
theorem runP3 (w : World) (os : OsState) : (endF (stepQ (denQ tabQ) (PySem.Challenge.rw_wheelreach_k88_misread_entries_and_perio).row.prog w) 21464 (PySem.Challenge.rw_wheelreach_k88_misread_entries_and_perio).row.prog w os).map (fun s => ((seenQ qv [Str.ofString "MOST_PERIOD", Str.ofString "MOST_TIMES", Str.ofString "need_few_lots", Str.ofString "Lot", Str.ofString "need_word_lots", Str.ofString "need_word_words", Str.ofString "MOST", Str.ofString "Wheel", Str.ofString "Grid", Str.ofString "Meter", Str.ofString "Paper", Str.ofString "MOST_VALUE", Str.ofString "Stretch", Str.ofString "need_few_logs"] (importedModules (Module.body (Program.main (PySem.Challenge.rw_wheelreach_k88_misread_entries_and_perio).row.prog))) (fun s => xlAt qv [(Str.ofString "MOST_PERIOD", WData.int 10000000000000000000000000000000000000000000000000000000000000000000000000000000000000000000000000000), (Str.ofString "MOST_TIMES", WData.int 1000000000000000000000000000000), (Str.ofString "MOST", WData.int 1000000000000), (Str.ofString "MOST_VALUE", WData.int 1000000000000000000000000000000)] s && recOk [] s) s.abs).2.2.2.1)) = some (true) := (viaRun (andRun (andRun (andRun (run_3_0 w os) (run_3_1 w os)) (run_3_2 w os)) (run_3_3 w os)) (by kernel_rfl) rfl)
theorem runP7 (w : World) (os : OsState) : (endF (stepQ (denQ tabQ) (PySem.Challenge.rw_wheelreach_k88_misread_entries_and_perio).row.prog w) 21464 (PySem.Challenge.rw_wheelreach_k88_misread_entries_and_perio).row.prog w os).map (fun s => ((seenQ qv [Str.ofString "MOST_PERIOD", Str.ofString "MOST_TIMES", Str.ofString "need_few_lots", Str.ofString "Lot", Str.ofString "need_word_lots", Str.ofString "need_word_words", Str.ofString "MOST", Str.ofString "Wheel", Str.ofString "Grid", Str.ofString "Meter", Str.ofString "Paper", Str.ofString "MOST_VALUE", Str.ofString "Stretch", Str.ofString "need_few_logs"] (importedModules (Module.body (Program.main (PySem.Challenge.rw_wheelreach_k88_misread_entries_and_perio).row.prog))) (fun s => xlAt qv [(Str.ofString "MOST_PERIOD", WData.int 10000000000000000000000000000000000000000000000000000000000000000000000000000000000000000000000000000), (Str.ofString "MOST_TIMES", WData.int 1000000000000000000000000000000), (Str.ofString "MOST", WData.int 1000000000000), (Str.ofString "MOST_VALUE", WData.int 1000000000000000000000000000000)] s && recOk [] s) s.abs).2.2.2.2.2.2.2.1)) = some ((wideGood qv)) := (pairRun (run_7a w os) (run_7b w os))
theorem runS (w : World) (os : OsState) : (endF (stepQ (denQ tabQ) (PySem.Challenge.rw_wheelreach_k88_misread_entries_and_perio).row.prog w) 21464 (PySem.Challenge.rw_wheelreach_k88_misread_entries_and_perio).row.prog w os).map (fun s => (seenQ qv [Str.ofString "MOST_PERIOD", Str.ofString "MOST_TIMES", Str.ofString "need_few_lots", Str.ofString "Lot", Str.ofString "need_word_lots", Str.ofString "need_word_words", Str.ofString "MOST", Str.ofString "Wheel", Str.ofString "Grid", Str.ofString "Meter", Str.ofString "Paper", Str.ofString "MOST_VALUE", Str.ofString "Stretch", Str.ofString "need_few_logs"] (importedModules (Module.body (Program.main (PySem.Challenge.rw_wheelreach_k88_misread_entries_and_perio).row.prog))) (fun s => xlAt qv [(Str.ofString "MOST_PERIOD", WData.int 10000000000000000000000000000000000000000000000000000000000000000000000000000000000000000000000000000), (Str.ofString "MOST_TIMES", WData.int 1000000000000000000000000000000), (Str.ofString "MOST", WData.int 1000000000000), (Str.ofString "MOST_VALUE", WData.int 1000000000000000000000000000000)] s && recOk [] s) s.abs)) = some ((expectedOf qv), bltViewBooted, true, true, (pinGoodD (drecsOf qv)), (plainGoodE qv (looseW qv [Str.ofString "MOST_PERIOD", Str.ofString "MOST_TIMES", Str.ofString "need_few_lots", Str.ofString "Lot", Str.ofString "need_word_lots", Str.ofString "need_word_words", Str.ofString "MOST", Str.ofString "Wheel", Str.ofString "Grid", Str.ofString "Meter", Str.ofString "Paper", Str.ofString "MOST_VALUE", Str.ofString "Stretch", Str.ofString "need_few_logs"])), (plainGoodD qv [Str.ofString "MOST_PERIOD", Str.ofString "MOST_TIMES", Str.ofString "need_few_lots", Str.ofString "Lot", Str.ofString "need_word_lots", Str.ofString "need_word_words", Str.ofString "MOST", Str.ofString "Wheel", Str.ofString "Grid", Str.ofString "Meter", Str.ofString "Paper", Str.ofString "MOST_VALUE", Str.ofString "Stretch", Str.ofString "need_few_logs"]), (wideGood qv), (clsGoodW qv [Str.ofString "MOST_PERIOD", Str.ofString "MOST_TIMES", Str.ofString "need_few_lots", Str.ofString "Lot", Str.ofString "need_word_lots", Str.ofString "need_word_words", Str.ofString "MOST", Str.ofString "Wheel", Str.ofString "Grid", Str.ofString "Meter", Str.ofString "Paper", Str.ofString "MOST_VALUE", Str.ofString "Stretch", Str.ofString "need_few_logs"])) := (joinRun (runP0 w os) (joinRun (runP1 w os) (joinRun (runP2 w os) (joinRun (runP3 w os) (joinRun (runP4 w os) (joinRun (runP5 w os) (joinRun (runP6 w os) (joinRun (runP7 w os) (runP8 w os)))))))))
end
section
local macro_rules | `(tactic| k_head) => `(tactic| k_headL)
local macro_rules | `(tactic| kernel_rfl) => `(tactic| ((with_reducible refine T.splitRun (T.runA _ _) ?_); (with_reducible refine T.splitRun ?_ ?_); (with_reducible refine T.viaRun (T.runS _ _) ?_ ?_); kernel_rfl; kernel_rfl; kernel_rfl))
open PySem PySem.W PyProof.Rows
open_top headT for PySem.Challenge.rw_wheelreach_k88_misread_entries_and_perio
end
end T
set_option Elab.async false
set_option linter.all false
set_option maxRecDepth 100000
set_option maxHeartbeats 4000000
namespace G
open PySem PySem.Spec PyProof.Rows L2
abbrev En := List (Str × Option V)
abbrev Lg := List (Addr × HO)
def names (η : En) : List Str := η.map (·.1)
def vals (η : En) : L2.St := η.map (·.2)
/-- the mark of a code object's table in a ledger: what stands in it are code objects named q -/
def tabM (q : Str) : HO := .tbl #[.str q 0]
/-- what an entry says -/
def holds (H : Hp) (a : Addr) : HO → Prop
  | .tbl m => ∃ q, HO.tbl m = tabM q ∧ LamX.TabS H a q
  | o => H a = some o
/-- neither a table nor a thing told by a predicate -/
def plain : HO → Bool
  | .tbl _ => false
  | .ext _ => false
  | _ => true
def notab : HO → Bool
  | .tbl _ => false
  | _ => true
theorem holds_of {H : Hp} {a : Addr} {o : HO} (n : notab o = true) (h : H a = some o) : holds H a o := by
  cases o <;> first | exact h | cases n
theorem holds_get {H : Hp} {a : Addr} {o : HO} (n : notab o = true) (h : holds H a o) : H a = some o := by
  cases o <;> first | exact h | cases n
theorem holds_tab' {H : Hp} {a : Addr} {q : Str} (h : LamX.TabS H a q) : holds H a (tabM q) := ⟨q, rfl, h⟩
theorem plain_notab {o : HO} (h : plain o = true) : notab o = true := by
  cases o <;> first | rfl | cases h
theorem holds_some {H : Hp} {a : Addr} {o : HO} (h : holds H a o) : ∃ u, H a = some u := by
  cases o with
  | tbl m =>
    obtain ⟨q, _, ps, e, _⟩ := h
    exact ⟨_, e⟩
  | _ => exact ⟨_, h⟩
theorem holds_grow {H H' : Hp} {a : Addr} {o : HO} (g : ∀ b u, H b = some u → H' b = some u) (h : holds H a o) : holds H' a o := by
  cases o with
  | tbl m =>
    obtain ⟨q, e, t⟩ := h
    exact ⟨q, e, t.ext g⟩
  | _ => exact g _ _ h
theorem holds_upd {H : Hp} {a p : Addr} {o u v : HO} (e : H p = some u) (n : plain u = true) (ne : a ≠ p) (h : holds H a o) : holds (upd H p v) a o := by
  cases o with
  | tbl m =>
    obtain ⟨q, em, ps, e1, t2, t3⟩ := h
    refine ⟨q, em, ps, by rw [upd_ne ne]; exact e1, t2, fun pos cv hc => ?_⟩
    obtain ⟨c, e2, e3⟩ := t3 pos cv hc
    refine ⟨c, e2, ?_⟩
    rw [upd_ne fun z => ?_]
    · exact e3
    · rw [z, e] at e3
      rw [Option.some.inj e3] at n
      cases n
  | _ => exact (upd_ne ne).trans h
def Has (H : Hp) (L : Lg) : Prop := (L.map (·.1)).Nodup ∧ ∀ e ∈ L, holds H e.1 e.2
inductive At (x : Str) (v : V) : En → Prop
  | here {η : En} : At x v ((x, some v) :: η)
  | there {e : Str × Option V} {η : En} : At x v η → At x v (e :: η)
inductive Put (x : Str) (v : V) : En → En → Prop
  | here {o : Option V} {η : En} : Put x v ((x, o) :: η) ((x, some v) :: η)
  | there {e : Str × Option V} {η θ : En} : Put x v η θ → Put x v (e :: η) (e :: θ)
theorem At.idx {x : Str} {v : V} {η : En} (h : At x v η) : ∃ i : Nat, (names η)[i]? = some x ∧ (vals η)[i]? = some (some v) := by
  induction h with
  | here => exact ⟨0, rfl, rfl⟩
  | there _ ih =>
    obtain ⟨i, a, b⟩ := ih
    exact ⟨i + 1, a, b⟩
theorem Put.idx {x : Str} {v : V} {η θ : En} (h : Put x v η θ) : ∃ i : Nat, (names η)[i]? = some x ∧ vals θ = (vals η).set i (some v) ∧ names θ = names η := by
  induction h with
  | here => exact ⟨0, rfl, rfl, rfl⟩
  | there _ ih =>
    obtain ⟨i, a, b, c⟩ := ih
    refine ⟨i + 1, a, ?_, ?_⟩
    · show _ :: vals _ = _ :: (vals _).set i (some v)
      rw [b] <;> rfl
    · show _ :: names _ = _ :: names _
      rw [c] <;> rfl
/-- the environment with x set, as a function of what is put -/
inductive PutF (x : Str) : En → (V → En) → Prop
  | here {o : Option V} {η : En} : PutF x ((x, o) :: η) (fun v => (x, some v) :: η)
  | there {e : Str × Option V} {η : En} {f : V → En} : PutF x η f → PutF x (e :: η) (fun v => e :: f v)
theorem PutF.idx {x : Str} {η : En} {f : V → En} (h : PutF x η f) : ∃ i : Nat, (names η)[i]? = some x ∧ ∀ v, vals (f v) = (vals η).set i (some v) ∧ names (f v) = names η := by
  induction h with
  | here => exact ⟨0, rfl, fun _ => ⟨rfl, rfl⟩⟩
  | there _ ih =>
    obtain ⟨i, a, b⟩ := ih
    refine ⟨i + 1, a, fun v => ⟨?_, ?_⟩⟩
    · show _ :: vals _ = _ :: (vals _).set i (some v)
      rw [(b v).1] <;> rfl
    · show _ :: names _ = _ :: names _
      rw [(b v).2] <;> rfl
theorem Has.nil {H : Hp} : Has H [] := ⟨List.nodup_nil, fun _ h => absurd h (by simp)⟩
theorem Has.get {H : Hp} {L : Lg} {a : Addr} {o : HO} (h : Has H L) (m : (a, o) ∈ L) (n : notab o = true := by rfl) : H a = some o := holds_get n (h.2 (a, o) m)
theorem Has.grow {H H' : Hp} {L : Lg} (g : ∀ b u, H b = some u → H' b = some u) (h : Has H L) : Has H' L := ⟨h.1, fun e m => holds_grow g (h.2 e m)⟩
theorem Has.out {H : Hp} {L : Lg} {p : Addr} (h : Has H L) (n : H p = none) : p ∉ L.map (·.1) := fun m => by
  obtain ⟨e, he, rfl⟩ := List.mem_map.mp m
  obtain ⟨u, z⟩ := holds_some (h.2 e he)
  rw [z] at n
  cases n
theorem Has.newB {H H' : Hp} {L : Lg} {p : Addr} {o : HO} (h : Has H L) (n : H p = none) (g : ∀ b u, H b = some u → H' b = some u) (x : holds H' p o) : Has H' ((p, o) :: L) := by
  refine ⟨List.nodup_cons.mpr ⟨h.out n, h.1⟩, fun e m => ?_⟩
  rcases List.mem_cons.mp m with rfl | m
  · exact x
  · exact holds_grow g (h.2 e m)
theorem updGrow {H : Hp} {p : Addr} {o : HO} (n : H p = none) : ∀ b u, H b = some u → upd H p o b = some u := fun b u e => (upd_ne (ne_of_none e n)).trans e
theorem Has.new {H : Hp} {L : Lg} {p : Addr} {o : HO} (h : Has H L) (n : H p = none) (t : notab o = true := by rfl) : Has (upd H p o) ((p, o) :: L) := h.newB n (updGrow n) (holds_of t upd_same)
/-- one entry replaced by another of its address -/
inductive Swap (p : Addr) (o : HO) : Lg → Lg → Prop
  | here {u : HO} {L : Lg} (pl : plain u = true := by rfl) : Swap p o ((p, u) :: L) ((p, o) :: L)
  | there {e : Addr × HO} {L M : Lg} : Swap p o L M → Swap p o (e :: L) (e :: M)
theorem Swap.was {p : Addr} {o : HO} {L M : Lg} (s : Swap p o L M) : ∃ u, plain u = true ∧ (p, u) ∈ L := by
  induction s with
  | here pl => exact ⟨_, pl, List.mem_cons_self⟩
  | there _ ih =>
    obtain ⟨u, a, b⟩ := ih
    exact ⟨u, a, List.mem_cons_of_mem _ b⟩
theorem Swap.fst {p : Addr} {o : HO} {L M : Lg} (s : Swap p o L M) : M.map (·.1) = L.map (·.1) ∧ p ∈ L.map (·.1) := by
  induction s with
  | here => exact ⟨rfl, List.mem_cons_self⟩
  | there _ ih => exact ⟨by rw [List.map_cons, List.map_cons, ih.1], List.mem_cons_of_mem _ ih.2⟩
theorem Swap.mem {p : Addr} {o : HO} {L M : Lg} (s : Swap p o L M) (nd : (L.map (·.1)).Nodup) : ∀ e ∈ M, e = (p, o) ∨ (e ∈ L ∧ e.1 ≠ p) := by
  induction s with
  | here =>
    intro e m
    rcases List.mem_cons.mp m with rfl | m
    · exact .inl rfl
    · have n := (List.nodup_cons.mp nd).1
      exact .inr ⟨List.mem_cons_of_mem _ m, fun z => n (List.mem_map.mpr ⟨e, m, z⟩)⟩
  | there s ih =>
    intro e m
    have n := List.nodup_cons.mp nd
    rcases List.mem_cons.mp m with rfl | m
    · exact .inr ⟨List.mem_cons_self, fun z => n.1 (by have q := s.fst.2; rw [← z] at q; exact q)⟩
    · rcases ih n.2 e m with q | ⟨q, r⟩
      · exact .inl q
      · exact .inr ⟨List.mem_cons_of_mem _ q, r⟩
theorem Has.swap {H : Hp} {L M : Lg} {p : Addr} {o : HO} (h : Has H L) (s : Swap p o L M) (t : notab o = true := by rfl) : Has (upd H p o) M := by
  obtain ⟨u, pl, mu⟩ := s.was
  refine ⟨by rw [s.fst.1]; exact h.1, fun e m => ?_⟩
  rcases s.mem h.1 e m with rfl | ⟨q, r⟩
  · exact holds_of t upd_same
  · exact holds_upd (h.get mu (plain_notab pl)) pl r (h.2 e q)
/-- M is told by L -/
structure Sub (M L : Lg) : Prop where
  to : (L.map (·.1)).Nodup → (M.map (·.1)).Nodup ∧ ∀ e ∈ M, e ∈ L
theorem Sub.has {M L : Lg} (s : Sub M L) (H : Hp) (h : Has H L) : Has H M := ⟨(s.to h.1).1, fun e m => h.2 e ((s.to h.1).2 e m)⟩
instance {M L : Lg} : CoeFun (Sub M L) (fun _ => ∀ H, Has H L → Has H M) := ⟨Sub.has⟩
theorem Sub.refl {L : Lg} : Sub L L := ⟨fun h => ⟨h, fun _ h => h⟩⟩
theorem Sub.trans {L M N : Lg} (a : Sub N M) (b : Sub M L) : Sub N L := ⟨fun h => ⟨(a.to (b.to h).1).1, fun e m => (b.to h).2 e ((a.to (b.to h).1).2 e m)⟩⟩
theorem Sub.drop {L : Lg} {e : Addr × HO} : Sub L (e :: L) := ⟨fun h => ⟨(List.nodup_cons.mp h).2, fun _ m => List.mem_cons_of_mem _ m⟩⟩
theorem Sub.cons {L M : Lg} {e : Addr × HO} (s : Sub M L) : Sub (e :: M) (e :: L) := by
  refine ⟨fun h => ?_⟩
  obtain ⟨n, h⟩ := List.nodup_cons.mp h
  obtain ⟨a, b⟩ := s.to h
  refine ⟨List.nodup_cons.mpr ⟨fun m => ?_, a⟩, fun u m => ?_⟩
  · obtain ⟨u, hu, eu⟩ := List.mem_map.mp m
    exact n (List.mem_map.mpr ⟨u, b u hu, eu⟩)
  · rcases List.mem_cons.mp m with rfl | m
    · exact List.mem_cons_self
    · exact List.mem_cons_of_mem _ (b u m)
theorem Sub.append {L M : Lg} (s : Sub M L) : ∀ {E : Lg}, Sub (E ++ M) (E ++ L)
  | [] => s
  | _ :: E => Sub.cons (Sub.append s (E := E))
theorem Sub.dropE {L : Lg} : ∀ {E : Lg}, Sub L (E ++ L)
  | [] => Sub.refl
  | _ :: E => (Sub.dropE (E := E)).trans Sub.drop
theorem Sub.perm {L M : Lg} (p : M.Perm L) : Sub M L := ⟨fun h => ⟨(p.map _).nodup_iff.mpr h, fun e m => p.mem_iff.mp m⟩⟩
theorem Sub.sublist {L M : Lg} (p : M.Sublist L) : Sub M L := ⟨fun h => ⟨(p.map _).nodup h, fun e m => p.subset m⟩⟩
theorem Swap.ex {p : Addr} {o u : HO} (pl : plain u = true) : ∀ {L : Lg}, (p, u) ∈ L → ∃ M, Swap p o L M
  | e :: L, m => by
    rcases List.mem_cons.mp m with z | m
    · subst z
      exact ⟨_, .here pl⟩
    · obtain ⟨M, s⟩ := Swap.ex (o := o) pl m
      exact ⟨_, .there s⟩
theorem Swap.keep {p : Addr} {o : HO} {L M : Lg} (s : Swap p o L M) {e : Addr × HO} (h : e ∈ L) (n : e.1 ≠ p) : e ∈ M := by
  induction s with
  | here _ =>
    rcases List.mem_cons.mp h with z | h
    · subst z
      exact absurd rfl n
    · exact List.mem_cons_of_mem _ h
  | there _ ih =>
    rcases List.mem_cons.mp h with z | h
    · subst z
      exact List.mem_cons_self
    · exact List.mem_cons_of_mem _ (ih h)
theorem Swap.got {p : Addr} {o : HO} {L M : Lg} (s : Swap p o L M) : (p, o) ∈ M := by
  induction s with
  | here _ => exact List.mem_cons_self
  | there _ ih => exact List.mem_cons_of_mem _ ih
/-- one entry changed below what is known -/
theorem Sub.swap {p : Addr} {o u : HO} {L M N : Lg} (s : Sub ((p, u) :: L) M) (w : Swap p o M N) : Sub ((p, o) :: L) N := by
  refine ⟨fun h => ?_⟩
  rw [w.fst.1] at h
  obtain ⟨a, b⟩ := s.to h
  refine ⟨a, fun e m => ?_⟩
  rcases List.mem_cons.mp m with rfl | m
  · exact w.got
  · refine w.keep (b e (List.mem_cons_of_mem _ m)) fun z => (List.nodup_cons.mp a).1 ?_
    exact List.mem_map.mpr ⟨e, m, z⟩
abbrev QV := V → Lg → Prop
def up (Q : QV) : VK := fun v H => ∃ L, Has H L ∧ Q v L
def upB (Q : Bool → Lg → Prop) : Bool → Hp → Prop := fun b H => ∃ L, Has H L ∧ Q b L
def upA (Q : List V → Lg → Prop) : List V → Hp → Prop := fun vs H => ∃ L, Has H L ∧ Q vs L
def WE (X : Cx) (e : Expr) : TE := fun σ H Q => ∀ pins s, Inv X pins σ H s → wpAny (model X.prog X.w) X.A (eval e X.env) (EP X pins σ Q) X.xe s
def WT (X : Cx) (e : Expr) : TT := fun σ H Q => ∀ pins s, Inv X pins σ H s → wpAny (model X.prog X.w) X.A (isTrue e X.env (eval e X.env)) (TP X pins σ Q) X.xe s
def WW (X : Cx) (e : Expr) : TT := fun σ H Q => ∀ whole pins s, Inv X pins σ H s → wpAny (model X.prog X.w) X.A (isTrue e X.env whole) (TP X pins σ Q) X.xe s
def WA (X : Cx) (es : List Expr) : TA := fun σ H Q => ∀ pos pins s, Inv X pins σ H s → wpAny (model X.prog X.w) X.A (spliced (backTo pos (starEach es X.env))) (AP X pins σ Q) X.xe s
def WS (X : Cx) (st : Stmt) : TS := fun D σ H => ∀ pins s, Inv X pins σ H s → wpAny (model X.prog X.w) X.A (exec st X.env) (SP X pins D) X.xe s
def WSs (X : Cx) (st : List Stmt) : TS := fun D σ H => ∀ pins s, Inv X pins σ H s → wpAny (model X.prog X.w) X.A (execs st X.env) (SP X pins D) X.xe s
def WG (X : Cx) (tg : Expr) : TG := fun v σ H Q => ∀ pins s u, Inv X pins σ H s → RelV v u → wpAny (model X.prog X.w) X.A (assign tg X.env u) (fun _ s' => ∃ σ' H', Inv X pins σ' H' s' ∧ Q σ' H') X.xe s
def WGs (X : Cx) (ts : List Expr) : TGs := fun vs σ H Q => ∀ pins s us, Inv X pins σ H s → Vals vs us → wpAny (model X.prog X.w) X.A (assignInOrder ((assignEach ts X.env).map (·.2)) us) (fun _ s' => ∃ σ' H', Inv X pins σ' H' s' ∧ Q σ' H') X.xe s
section
variable {X : Cx} {e : Expr} {σ : L2.St} {H : Hp}
theorem pe_W : PE X e (WE X e) := ⟨fun pins s _ _ _ I h => h pins s I⟩
theorem pt_W : PT X e (WT X e) := ⟨fun pins s _ _ _ I h => h pins s I⟩
theorem pw_W : PW X e (WW X e) := ⟨fun u pins s _ _ _ I h => h u pins s I⟩
theorem pa_W {es : List Expr} : PA X es (WA X es) := ⟨fun pos pins s _ _ _ I h => h pos pins s I⟩
theorem ps_W {st : Stmt} : PS X st (WS X st) := ⟨fun pins s _ _ _ I h => h pins s I⟩
theorem pss_W {st : List Stmt} : PSs X st (WSs X st) := ⟨fun pins s _ _ _ I h => h pins s I⟩
theorem pg_W : PG X e (WG X e) := ⟨fun pins s _ _ _ u _ I r h => h pins s u I r⟩
theorem pgs_W {es : List Expr} : PGs X es (WGs X es) := ⟨fun pins s _ _ _ us _ I r h => h pins s us I r⟩
theorem WE.of {t : TE} {Q : VK} (h : PE X e t) (q : t σ H Q) : WE X e σ H Q := fun pins s I => h.run pins s σ H Q I q
theorem WT.of {t : TT} {Q : Bool → Hp → Prop} (h : PT X e t) (q : t σ H Q) : WT X e σ H Q := fun pins s I => h.run pins s σ H Q I q
theorem WW.of {t : TT} {Q : Bool → Hp → Prop} (h : PW X e t) (q : t σ H Q) : WW X e σ H Q := fun u pins s I => h.run u pins s σ H Q I q
theorem WA.of {es : List Expr} {t : TA} {Q : List V → Hp → Prop} (h : PA X es t) (q : t σ H Q) : WA X es σ H Q := fun pos pins s I => h.run pos pins s σ H Q I q
theorem WS.of {st : Stmt} {t : TS} {D : Ends} (h : PS X st t) (q : t D σ H) : WS X st D σ H := fun pins s I => h.run pins s σ H D I q
theorem WSs.of {st : List Stmt} {t : TS} {D : Ends} (h : PSs X st t) (q : t D σ H) : WSs X st D σ H := fun pins s I => h.run pins s σ H D I q
theorem WG.of {t : TG} {v : V} {Q : L2.St → Hp → Prop} (h : PG X e t) (q : t v σ H Q) : WG X e v σ H Q := fun pins s u I r => h.run pins s σ H v u Q I r q
theorem WGs.of {es : List Expr} {t : TGs} {vs : List V} {Q : L2.St → Hp → Prop} (h : PGs X es t) (q : t vs σ H Q) : WGs X es vs σ H Q := fun pins s us I r => h.run pins s σ H vs us Q I r q
theorem WE.mono {Q Q' : VK} (h : WE X e σ H Q) (m : ∀ v H', Q v H' → Q' v H') : WE X e σ H Q' := fun pins s I =>
  thn (h pins s I) fun _ _ ⟨v, H', J, r, q⟩ => ⟨v, H', J, r, m v H' q⟩
theorem WT.mono {Q Q' : Bool → Hp → Prop} (h : WT X e σ H Q) (m : ∀ v H', Q v H' → Q' v H') : WT X e σ H Q' := fun pins s I =>
  thn (h pins s I) fun _ _ ⟨H', J, q⟩ => ⟨H', J, m _ H' q⟩
theorem WW.mono {Q Q' : Bool → Hp → Prop} (h : WW X e σ H Q) (m : ∀ v H', Q v H' → Q' v H') : WW X e σ H Q' := fun u pins s I =>
  thn (h u pins s I) fun _ _ ⟨H', J, q⟩ => ⟨H', J, m _ H' q⟩
theorem WA.mono {es : List Expr} {Q Q' : List V → Hp → Prop} (h : WA X es σ H Q) (m : ∀ v H', Q v H' → Q' v H') : WA X es σ H Q' := fun pos pins s I =>
  thn (h pos pins s I) fun _ _ ⟨v, H', J, r, q⟩ => ⟨v, H', J, r, m v H' q⟩
theorem WG.mono {v : V} {Q Q' : L2.St → Hp → Prop} (h : WG X e v σ H Q) (m : ∀ v H', Q v H' → Q' v H') : WG X e v σ H Q' := fun pins s u I r =>
  thn (h pins s u I r) fun _ _ ⟨v, H', J, q⟩ => ⟨v, H', J, m v H' q⟩
theorem WGs.mono {es : List Expr} {vs : List V} {Q Q' : L2.St → Hp → Prop} (h : WGs X es vs σ H Q) (m : ∀ v H', Q v H' → Q' v H') : WGs X es vs σ H Q' := fun pins s u I r =>
  thn (h pins s u I r) fun _ _ ⟨v, H', J, q⟩ => ⟨v, H', J, m v H' q⟩
end
def GE (X : Cx) (e : Expr) (η : En) (L : Lg) (Q : QV) : Prop := X.N = names η → ∀ H, Has H L → WE X e (vals η) H (up Q)
def GT (X : Cx) (e : Expr) (η : En) (L : Lg) (Q : Bool → Lg → Prop) : Prop := X.N = names η → ∀ H, Has H L → WT X e (vals η) H (upB Q)
def GW (X : Cx) (e : Expr) (η : En) (L : Lg) (Q : Bool → Lg → Prop) : Prop := X.N = names η → ∀ H, Has H L → WW X e (vals η) H (upB Q)
def GA (X : Cx) (es : List Expr) (η : En) (L : Lg) (Q : List V → Lg → Prop) : Prop := X.N = names η → ∀ H, Has H L → WA X es (vals η) H (upA Q)
/-- what is wanted behind a statement -/
structure GD where
  nx : En → Lg → Prop
  rt : QV
  bk : En → Lg → Prop
  ct : En → Lg → Prop
def upS (X : Cx) (Q : En → Lg → Prop) : L2.St → Hp → Prop := fun σ H => ∃ η L, X.N = names η ∧ σ = vals η ∧ Has H L ∧ Q η L
def GD.ends (X : Cx) (D : GD) : Ends := { nx := upS X D.nx, rt := up D.rt, bk := upS X D.bk, ct := upS X D.ct }
def GS (X : Cx) (st : Stmt) (D : GD) (η : En) (L : Lg) : Prop := X.N = names η → ∀ H, Has H L → WS X st (D.ends X) (vals η) H
def GSs (X : Cx) (st : List Stmt) (D : GD) (η : En) (L : Lg) : Prop := X.N = names η → ∀ H, Has H L → WSs X st (D.ends X) (vals η) H
def GG (X : Cx) (tg : Expr) (v : V) (η : En) (L : Lg) (Q : En → Lg → Prop) : Prop := X.N = names η → ∀ H, Has H L → WG X tg v (vals η) H (upS X Q)
def GGs (X : Cx) (ts : List Expr) (vs : List V) (η : En) (L : Lg) (Q : En → Lg → Prop) : Prop := X.N = names η → ∀ H, Has H L → WGs X ts vs (vals η) H (upS X Q)
/-- an operator, a call, a subscript by values -/
def GOp (X : Cx) (f : Value → Value → Sem Value) (x y : V) (L : Lg) (Q : QV) : Prop := ∀ pins s σ H v u, Has H L → Inv X pins σ H s → RelV x v → RelV y u → wpAny (model X.prog X.w) X.A (f v u) (EP X pins σ (up Q)) X.xe s
def GUn (X : Cx) (f : Value → Sem Value) (x : V) (L : Lg) (Q : QV) : Prop := ∀ pins s σ H v, Has H L → Inv X pins σ H s → RelV x v → wpAny (model X.prog X.w) X.A (f v) (EP X pins σ (up Q)) X.xe s
def GC (X : Cx) (f : Value) (xs : List V) (L : Lg) (Q : QV) : Prop := ∀ pins s σ H us, Has H L → Inv X pins σ H s → Vals xs us → wpAny (model X.prog X.w) X.A (call f us) (EP X pins σ (up Q)) X.xe s
section
variable {X : Cx} {L : Lg} {Q : QV} {x y : V}
theorem GOp.of {f : Value → Value → Sem Value} {r : R2} (h : OpR X f r) (q : ∀ H, Has H L → r x y H (up Q)) : GOp X f x y L Q := fun pins s σ H v u hH I rv ru => h pins s σ H x y v u _ I rv ru (q H hH)
theorem GUn.of {f : Value → Sem Value} {r : V → Hp → VK → Prop} (h : UnR X f r) (q : ∀ H, Has H L → r x H (up Q)) : GUn X f x L Q := fun pins s σ H v hH I rv => h pins s σ H x v _ I rv (q H hH)
theorem GC.of {f : Value} {xs : List V} {r : List V → Hp → VK → Prop} (h : CallR X f r) (q : ∀ H, Has H L → r xs H (up Q)) : GC X f xs L Q := fun pins s σ H us hH I rv => h pins s σ H xs us _ I rv (q H hH)
end
section
variable {X : Cx} {η : En} {L : Lg} {Q : QV} {a b c e : Expr} {pos : Pos}
theorem ge_var {x : Str} {v : V} (h : At x v η) (q : Q v L) (hv : Vis X.env.scope x := by first | exact Or.inl rfl | exact Or.inr (Or.inl rfl) | exact Or.inr (Or.inr rfl))
    (hd : (x == ("__debug__" : Str)) = false := by decide) (hcd : (x == ("__classdict__" : Str)) = false := by decide) : GE X (.Name x pos) η L Q := fun hN H hH => by
  obtain ⟨i, h1, h2⟩ := h.idx
  exact WE.of (pe_var (i := i) (by rw [hN]; exact h1) hv hd hcd) ⟨v, h2, L, hH, q⟩
theorem ge_con {v : V} (p : PE X e (tC v)) (q : Q v L) : GE X e η L Q := fun _ H hH => WE.of p ⟨L, hH, q⟩
theorem ge_int {i : Int} {j} (q : Q (.int i) L) : GE X (.Constant (.int i) j pos) η L Q := ge_con pe_int q
theorem ge_bl {i : Bool} {j} (q : Q (.bl i) L) : GE X (.Constant (.bool i) j pos) η L Q := ge_con pe_bl q
theorem ge_non {j} (q : Q .non L) : GE X (.Constant .none j pos) η L Q := ge_con pe_non q
theorem ge_str {x : Str} {j} (q : Q (.str x) L) : GE X (.Constant (.str x) j pos) η L Q := ge_con pe_str q
/-- what is known may be cut -/
theorem GE.nd (h : GE X e η L fun v L1 => (L1.map (·.1)).Nodup → Q v L1) : GE X e η L Q := fun hN H hH => (h hN H hH).mono fun v _ ⟨L', h', q⟩ => ⟨L', h', q h'.1⟩
theorem GE.sub {M : Lg} (s : Sub M L) (h : GE X e η M Q) : GE X e η L Q := fun hN H hH => h hN H (s H hH)
theorem GT.sub {M : Lg} {Q : Bool → Lg → Prop} (s : Sub M L) (h : GT X e η M Q) : GT X e η L Q := fun hN H hH => h hN H (s H hH)
theorem GE.imp {Q' : QV} (h : GE X e η L Q) (m : ∀ v L', Q v L' → Q' v L') : GE X e η L Q' := fun hN H hH => (h hN H hH).mono fun v _ ⟨L', h', q⟩ => ⟨L', h', m v L' q⟩
theorem GA.imp {es : List Expr} {Q Q' : List V → Lg → Prop} (h : GA X es η L Q) (m : ∀ v L', Q v L' → Q' v L') : GA X es η L Q' := fun hN H hH => (h hN H hH).mono fun v _ ⟨L', h', q⟩ => ⟨L', h', m v L' q⟩
theorem GT.imp {Q Q' : Bool → Lg → Prop} (h : GT X e η L Q) (m : ∀ v L', Q v L' → Q' v L') : GT X e η L Q' := fun hN H hH => (h hN H hH).mono fun v _ ⟨L', h', q⟩ => ⟨L', h', m v L' q⟩
/-- then -/
theorem GE.then {Q' : VK} (h : GE X a η L Q) (hN : X.N = names η) {H : Hp} (hH : Has H L) (m : ∀ v L1 H1, Has H1 L1 → Q v L1 → Q' v H1) : WE X a (vals η) H Q' := (h hN H hH).mono fun v H1 ⟨L1, h1, q1⟩ => m v L1 H1 h1 q1
theorem GA.then {es : List Expr} {Q : List V → Lg → Prop} {Q' : List V → Hp → Prop} (h : GA X es η L Q) (hN : X.N = names η) {H : Hp} (hH : Has H L) (m : ∀ v L1 H1, Has H1 L1 → Q v L1 → Q' v H1) : WA X es (vals η) H Q' := (h hN H hH).mono fun v H1 ⟨L1, h1, q1⟩ => m v L1 H1 h1 q1
theorem GT.then {Q : Bool → Lg → Prop} {Q' : Bool → Hp → Prop} (h : GT X a η L Q) (hN : X.N = names η) {H : Hp} (hH : Has H L) (m : ∀ v L1 H1, Has H1 L1 → Q v L1 → Q' v H1) : WT X a (vals η) H Q' := (h hN H hH).mono fun v H1 ⟨L1, h1, q1⟩ => m v L1 H1 h1 q1
theorem GW.then {Q : Bool → Lg → Prop} {Q' : Bool → Hp → Prop} (h : GW X a η L Q) (hN : X.N = names η) {H : Hp} (hH : Has H L) (m : ∀ v L1 H1, Has H1 L1 → Q v L1 → Q' v H1) : WW X a (vals η) H Q' := (h hN H hH).mono fun v H1 ⟨L1, h1, q1⟩ => m v L1 H1 h1 q1
theorem ge_bin {op : Operator} (h : GE X a η L fun x L1 => GE X b η L1 fun y L2 => GOp X (binaryOp op) x y L2 Q) : GE X (.BinOp a op b pos) η L Q := fun hN H hH =>
  WE.of (pe_op (r := fun x y H' Q' => ∀ pins s σ v u, Inv X pins σ H' s → RelV x v → RelV y u → wpAny (model X.prog X.w) X.A (binaryOp op v u) (EP X pins σ Q') X.xe s)
    (fun pins s σ H' x y v u Q' I r1 r2 q => q pins s σ v u I r1 r2) pe_W pe_W)
    (h.then hN hH fun _ _ _ h1 q1 => q1.then hN h1 fun _ _ _ h2 q2 => fun pins s σ v u I r1 r2 => q2 pins s σ _ v u h2 I r1 r2)
theorem ge_un {op : UnaryOp} (h : GE X a η L fun x L1 => GUn X (unaryOp op) x L1 Q) : GE X (.UnaryOp op a pos) η L Q := fun hN H hH =>
  WE.of (pe_un (r := fun x H' Q' => ∀ pins s σ v, Inv X pins σ H' s → RelV x v → wpAny (model X.prog X.w) X.A (unaryOp op v) (EP X pins σ Q') X.xe s)
    (fun pins s σ H' x v Q' I r1 q => q pins s σ v I r1) pe_W)
    (h.then hN hH fun _ _ _ h1 q1 => fun pins s σ v I r1 => q1 pins s σ _ v h1 I r1)
theorem ge_cmp {op : CmpOp} (h : GE X a η L fun x L1 => GE X b η L1 fun y L2 => GOp X (compareOp op) x y L2 Q) (hm : behindInMarks op b = false := by rfl) : GE X (.Compare a [op] [b] pos) η L Q := fun hN H hH =>
  WE.of (pe_cmpR (r := fun x y H' Q' => ∀ pins s σ v u, Inv X pins σ H' s → RelV x v → RelV y u → wpAny (model X.prog X.w) X.A (compareOp op v u) (EP X pins σ Q') X.xe s)
    (fun pins s σ H' x y v u Q' I r1 r2 q => q pins s σ v u I r1 r2) pe_W pe_W hm)
    (h.then hN hH fun _ _ _ h1 q1 => q1.then hN h1 fun _ _ _ h2 q2 => fun pins s σ v u I r1 r2 => q2 pins s σ _ v u h2 I r1 r2)
theorem ge_one {op : BoolOp} (h : GE X a η L Q) : GE X (.BoolOp op [a] pos) η L Q := fun hN H hH => WE.of (pe_one pe_W) (h hN H hH)
theorem ge_and {rest : List Expr} (h : GE X a η L fun x L1 => ∃ k, x = .bl k ∧ if k = true then GE X (.BoolOp .And (b :: rest) pos) η L1 Q else Q (.bl false) L1) : GE X (.BoolOp .And (a :: b :: rest) pos) η L Q := fun hN H hH =>
  WE.of (pe_and pe_W pe_W) (h.then hN hH fun x L1 H1 h1 ⟨k, e1, q1⟩ => ⟨k, e1, by
    cases k with
    | true => exact q1 hN H1 h1
    | false => exact ⟨L1, h1, q1⟩⟩)
theorem ge_or {rest : List Expr} (h : GE X a η L fun x L1 => ∃ k, x = .bl k ∧ if k = true then Q (.bl true) L1 else GE X (.BoolOp .Or (b :: rest) pos) η L1 Q) : GE X (.BoolOp .Or (a :: b :: rest) pos) η L Q := fun hN H hH =>
  WE.of (pe_or pe_W pe_W) (h.then hN hH fun x L1 H1 h1 ⟨k, e1, q1⟩ => ⟨k, e1, by
    cases k with
    | true => exact ⟨L1, h1, q1⟩
    | false => exact q1 hN H1 h1⟩)
theorem ge_not (h : GE X a η L fun x L1 => ∃ k, x = .bl k ∧ Q (.bl (!k)) L1) : GE X (.UnaryOp .Not a pos) η L Q := fun hN H hH =>
  WE.of (pe_not pe_W) (h.then hN hH fun x L1 H1 h1 ⟨k, e1, q1⟩ => ⟨k, e1, L1, h1, q1⟩)
theorem ge_if (h : GT X c η L fun k L1 => if k = true then GE X a η L1 Q else GE X b η L1 Q) : GE X (.IfExp c a b pos) η L Q := fun hN H hH =>
  WE.of (pe_ifExp pt_W pe_W pe_W) (h.then hN hH fun k L1 H1 h1 q1 => by
    cases k with
    | true => exact q1 hN H1 h1
    | false => exact q1 hN H1 h1)
theorem ga_nil {Q : List V → Lg → Prop} (q : Q [] L) : GA X [] η L Q := fun _ H hH => WA.of pa_nil ⟨L, hH, q⟩
theorem ga_cons {es : List Expr} {Q : List V → Lg → Prop} (h : GE X e η L fun x L1 => GA X es η L1 fun xs L2 => Q (x :: xs) L2) (hs : starEach (e :: es) X.env = (false, eval e X.env) :: starEach es X.env := by rfl) : GA X (e :: es) η L Q := fun hN H hH =>
  WA.of (pa_cons pe_W pa_W hs) (h.then hN hH fun _ _ _ h1 q1 => q1.then hN h1 fun _ L2 _ h2 q2 => ⟨L2, h2, q2⟩)
theorem ge_tup {es : List Expr} {x1} (h : GA X es η L fun xs L1 => xs.length ≤ sizeLine ∧ ∀ p, Q (.ref p) ((p, .tup xs) :: L1)) : GE X (.Tuple es x1 pos) η L Q := fun hN H hH =>
  WE.of (pe_tup pa_W) (h.then hN hH fun xs L1 H1 h1 ⟨z, q1⟩ => ⟨z, fun p hp => ⟨_, h1.new hp, q1 p⟩⟩)
theorem ge_lst {es : List Expr} (h : GA X es η L fun xs L1 => xs.length ≤ sizeLine ∧ ∀ p, Q (.ref p) ((p, .lst xs) :: L1)) : GE X (.List es pos) η L Q := fun hN H hH =>
  WE.of (pe_lst pa_W) (h.then hN hH fun xs L1 H1 h1 ⟨z, q1⟩ => ⟨z, fun p hp => ⟨_, h1.new hp, q1 p⟩⟩)
/-- a subscript by values -/
def GIx (X : Cx) (x y : V) (L : Lg) (Q : QV) : Prop := ∀ (value slice : Expr) pins s σ H v u, Has H L → Inv X pins σ H s → RelV x v → RelV y u → subscripted slice false v u = operate [v, u] (getItem v u) → wpAny (model X.prog X.w) X.A (subscriptTail value slice v u) (EP X pins σ (up Q)) X.xe s
theorem GIx.of {x y : V} {r : R2} (h : IxR X r) (q : ∀ H, Has H L → r x y H (up Q)) : GIx X x y L Q := fun value slice pins s σ H v u hH I rv ru hs => h value slice pins s σ H x y v u _ I rv ru (q H hH) hs
theorem ge_ix (h : GE X a η L fun x L1 => GE X b η L1 fun y L2 => GIx X x y L2 Q) (hs : PlainIx b := by exact fun _ _ => rfl) : GE X (.Subscript a b pos) η L Q := fun hN H hH =>
  WE.of (pe_ix (r := fun x y H' Q' => ∀ (value slice : Expr) pins s σ v u, Inv X pins σ H' s → RelV x v → RelV y u → subscripted slice false v u = operate [v, u] (getItem v u) → wpAny (model X.prog X.w) X.A (subscriptTail value slice v u) (EP X pins σ Q') X.xe s)
    (fun value slice pins s σ H' x y v u Q' I r1 r2 q z => q value slice pins s σ v u I r1 r2 z) pe_W pe_W hs)
    (h.then hN hH fun _ _ _ h1 q1 => q1.then hN h1 fun _ _ _ h2 q2 => fun value slice pins s σ v u I r1 r2 z => q2 value slice pins s σ _ v u h2 I r1 r2 z)
end
section
variable {X : Cx} {η : En} {L : Lg} {Q : Bool → Lg → Prop} {a b c e : Expr} {pos : Pos}
theorem gt_cmp {op : CmpOp} (h : GE X a η L fun x L1 => GE X b η L1 fun y L2 => GOp X (compareOp op) x y L2 fun z L3 => ∃ k, z = .bl k ∧ Q k L3) (hm : behindInMarks op b = false := by rfl) : GT X (.Compare a [op] [b] pos) η L Q := fun hN H hH =>
  WT.of (pt_cmpR (r := fun x y H' Q' => ∀ pins s σ v u, Inv X pins σ H' s → RelV x v → RelV y u → wpAny (model X.prog X.w) X.A (compareOp op v u) (EP X pins σ Q') X.xe s)
    (fun pins s σ H' x y v u Q' I r1 r2 q => q pins s σ v u I r1 r2) pe_W pe_W hm)
    (h.then hN hH fun _ _ _ h1 q1 => q1.then hN h1 fun _ _ _ h2 q2 => fun pins s σ v u I r1 r2 =>
      thn (q2 pins s σ _ v u h2 I r1 r2) fun _ _ ⟨z, H3, J, r3, L3, h3, k, ek, q3⟩ => ⟨z, H3, J, r3, k, ek, L3, h3, q3⟩)
theorem gt_val (h : GE X a η L fun x L1 => ∃ k, x = .bl k ∧ Q k L1) (he : ∀ whole, isTrue a X.env whole = (do let v ← whole; standAt a.pos; holding [v] (truthy v)) := by intro _; rfl) : GT X a η L Q := fun hN H hH =>
  WT.of (pt_val pe_W he) (h.then hN hH fun _ L1 _ h1 ⟨k, e1, q1⟩ => ⟨k, e1, L1, h1, q1⟩)
theorem gt_w {op : BoolOp} {es : List Expr} (h : GW X (.BoolOp op es pos) η L Q) : GT X (.BoolOp op es pos) η L Q := fun hN H hH => WT.of pw_W.pt (h hN H hH)
theorem gw_and1 (h : GT X a η L Q) : GW X (.BoolOp .And [a] pos) η L Q := fun hN H hH => WW.of (pw_and1 pt_W) (h hN H hH)
theorem gw_or1 (h : GT X a η L Q) : GW X (.BoolOp .Or [a] pos) η L Q := fun hN H hH => WW.of (pw_or1 pt_W) (h hN H hH)
theorem gw_and {rest : List Expr} (h : GT X a η L fun k L1 => if k = true then GW X (.BoolOp .And (b :: rest) pos) η L1 Q else Q false L1) : GW X (.BoolOp .And (a :: b :: rest) pos) η L Q := fun hN H hH =>
  WW.of (pw_and pt_W pw_W) (h.then hN hH fun k L1 H1 h1 q1 => by
    cases k with
    | true => exact q1 hN H1 h1
    | false => exact ⟨L1, h1, q1⟩)
theorem gw_or {rest : List Expr} (h : GT X a η L fun k L1 => if k = true then Q true L1 else GW X (.BoolOp .Or (b :: rest) pos) η L1 Q) : GW X (.BoolOp .Or (a :: b :: rest) pos) η L Q := fun hN H hH =>
  WW.of (pw_or pt_W pw_W) (h.then hN hH fun k L1 H1 h1 q1 => by
    cases k with
    | true => exact ⟨L1, h1, q1⟩
    | false => exact q1 hN H1 h1)
theorem gt_not (h : GT X a η L fun k L1 => Q (!k) L1) : GT X (.UnaryOp .Not a pos) η L Q := fun hN H hH =>
  WT.of (pt_not pt_W) (h.then hN hH fun k L1 H1 h1 q1 => ⟨L1, h1, q1⟩)
end
theorem mem0 {α : Type} {a : α} {l : List α} : a ∈ a :: l := List.mem_cons_self
theorem memS {α : Type} {a b : α} {l : List α} (h : a ∈ l) : a ∈ b :: l := List.mem_cons_of_mem _ h
theorem sql {K : PySem.W.Frag} {H : Hp} {L : Lg} {p : Addr} {xs : List V} (h : Has H L) (m : (p, HO.lst xs) ∈ L) : SqL K H p xs := SqL.of (h.get m)
theorem sqt {K : PySem.W.Frag} {H : Hp} {L : Lg} {p : Addr} {xs : List V} (h : Has H L) (m : (p, HO.tup xs) ∈ L) : SqT K H p xs := SqT.of (h.get m)
section
variable {X : Cx} {L : Lg} {Q : QV} {x y : V} {i j : Int} {p q : Addr} {xs ys : List V} {v : V}
theorem go_add (h : Q (.int (i + j)) L) : GOp X (binaryOp .Add) (.int i) (.int j) L Q := GOp.of op_add fun H hH => ⟨i, j, rfl, rfl, L, hH, h⟩
theorem go_sub (h : Q (.int (i - j)) L) : GOp X (binaryOp .Sub) (.int i) (.int j) L Q := GOp.of op_sub fun H hH => ⟨i, j, rfl, rfl, L, hH, h⟩
theorem go_mulS (c : (-(2 ^ 64) < i ∧ i < 2 ^ 64) ∨ (-(2 ^ 64) < j ∧ j < 2 ^ 64)) (h : Q (.int (i * j)) L) : GOp X (binaryOp .Mult) (.int i) (.int j) L Q := GOp.of op_mul fun H hH => ⟨i, j, rfl, rfl, c, L, hH, h⟩
theorem go_mod (c : 0 < j) (h : Q (.int (i % j)) L) : GOp X (binaryOp .Mod) (.int i) (.int j) L Q := GOp.of op_modN fun H hH => ⟨i, j, rfl, rfl, by omega, L, hH, by
  show Q (.int (i.fmod j)) L
  rw [Int.fmod_eq_emod_of_nonneg i (by omega)]
  exact h⟩
theorem go_div (c : 0 < j) (d : j.natAbs < 2 ^ 9000) (h : Q (.int (i / j)) L) : GOp X (binaryOp .FloorDiv) (.int i) (.int j) L Q := GOp.of op_fdivW fun H hH => ⟨i, j, rfl, rfl, wide_div c d (by decide) (by decide), L, hH, h⟩
theorem go_pow (c : CPow i j) (h : Q (.int (i ^ j.toNat)) L) : GOp X (binaryOp .Pow) (.int i) (.int j) L Q := GOp.of op_pow fun H hH => ⟨i, j, rfl, rfl, c, L, hH, h⟩
theorem go_lt (h : Q (.bl (decide (i < j))) L) : GOp X (compareOp .Lt) (.int i) (.int j) L Q := GOp.of op_lt fun H hH => ⟨i, j, rfl, rfl, L, hH, h⟩
theorem go_le (h : Q (.bl (decide (i ≤ j))) L) : GOp X (compareOp .LtE) (.int i) (.int j) L Q := GOp.of op_le fun H hH => ⟨i, j, rfl, rfl, L, hH, h⟩
theorem go_gt (h : Q (.bl (decide (j < i))) L) : GOp X (compareOp .Gt) (.int i) (.int j) L Q := GOp.of op_gt fun H hH => ⟨i, j, rfl, rfl, L, hH, h⟩
theorem go_ge (h : Q (.bl (decide (j ≤ i))) L) : GOp X (compareOp .GtE) (.int i) (.int j) L Q := GOp.of op_ge fun H hH => ⟨i, j, rfl, rfl, L, hH, h⟩
theorem dec_int : decide (V.int i = V.int j) = decide (i = j) := by
  by_cases e : i = j
  · rw [e, decide_eq_true rfl, decide_eq_true rfl]
  · rw [decide_eq_false e, decide_eq_false fun z => e (V.int.inj z)]
theorem go_eq (h : Q (.bl (decide (i = j))) L) : GOp X (compareOp .Eq) (.int i) (.int j) L Q := GOp.of op_eq fun H hH => ⟨rfl, L, hH, by rw [dec_int]; exact h⟩
theorem go_ne (h : Q (.bl (!decide (i = j))) L) : GOp X (compareOp .NotEq) (.int i) (.int j) L Q := GOp.of op_ne fun H hH => ⟨rfl, L, hH, by rw [dec_int]; exact h⟩
theorem go_isN (h : Q (.bl (decide (x = .non))) L) : GOp X (compareOp .Is) x .non L Q := GOp.of op_isN fun H hH => ⟨rfl, L, hH, h⟩
theorem go_notN (h : Q (.bl (!decide (x = .non))) L) : GOp X (compareOp .IsNot) x .non L Q := GOp.of op_notN fun H hH => ⟨rfl, L, hH, h⟩
/-- data, told by the ledger -/
def Dl (L : Lg) (v : V) (d : PyData) : Prop := ∀ K H, Has H L → Dp K H v d
def Dls (L : Lg) (vs : List V) (ds : List PyData) : Prop := ∀ K H, Has H L → DpAll K H vs ds
theorem dl_int : Dl L (.int i) (.int i) := fun _ _ _ => .int i
theorem dl_lst {ds : List PyData} (m : (p, HO.lst xs) ∈ L) (h : Dls L xs ds) : Dl L (.ref p) (.list ds) := fun K H hH => .lst (sql hH m) (h K H hH)
theorem dl_tup {ds : List PyData} (m : (p, HO.tup xs) ∈ L) (h : Dls L xs ds) : Dl L (.ref p) (.tuple ds) := fun K H hH => .tup (sqt hH m) (h K H hH)
theorem dls_nil : Dls L [] [] := fun _ _ _ => .nil
theorem dls_cons {d : PyData} {ds : List PyData} (a : Dl L v d) (h : Dls L xs ds) : Dls L (v :: xs) (d :: ds) := fun K H hH => .cons (a K H hH) (h K H hH)
theorem dls_ints : ∀ {ns : List Int}, Dls L (ns.map V.int) (ns.map PyData.int)
  | [] => dls_nil
  | _ :: _ => dls_cons dl_int dls_ints
theorem go_eqD {k : Nat} {d e : PyData} (hr : Room k X.A) (a : Dl L x d) (b : Dl L y e) (s1 : SeqAt.shaped d = true) (s2 : SeqAt.shaped e = true) (h : Q (.bl (PyData.eqv d e)) L) : GOp X (compareOp .Eq) x y L Q := GOp.of (op_eqD hr.units) fun H hH => ⟨d, e, a _ H hH, b _ H hH, s1, s2, L, hH, h⟩
theorem go_neD {k : Nat} {d e : PyData} (hr : Room k X.A) (a : Dl L x d) (b : Dl L y e) (s1 : SeqAt.shaped d = true) (s2 : SeqAt.shaped e = true) (h : Q (.bl (!PyData.eqv d e)) L) : GOp X (compareOp .NotEq) x y L Q := GOp.of (op_neD hr.units) fun H hH => ⟨d, e, a _ H hH, b _ H hH, s1, s2, L, hH, h⟩
theorem gi_lst (m : (p, HO.lst xs) ∈ L) (e : atI xs i = some v) (h : Q v L) : GIx X (.ref p) (.int i) L Q := GIx.of ix_list fun H hH => ⟨p, xs, i, v, rfl, rfl, sql hH m, e, L, hH, h⟩
theorem gi_tup (m : (p, HO.tup xs) ∈ L) (e : atI xs i = some v) (h : Q v L) : GIx X (.ref p) (.int i) L Q := GIx.of ix_tup fun H hH => ⟨p, xs, i, v, rfl, rfl, sqt hH m, e, L, hH, h⟩
theorem gc_lenL (m : (p, HO.lst xs) ∈ L) (h : Q (.int (xs.length : Int)) L) : GC X (.builtin "len") [.ref p] L Q := GC.of call_len_seq fun H hH => ⟨p, xs, rfl, .inl (sql hH m), L, hH, h⟩
theorem gc_lenT (m : (p, HO.tup xs) ∈ L) (h : Q (.int (xs.length : Int)) L) : GC X (.builtin "len") [.ref p] L Q := GC.of call_len_seq fun H hH => ⟨p, xs, rfl, .inr (sqt hH m), L, hH, h⟩
theorem gc_int (h : Q (.int i) L) : GC X (.type "int") [.int i] L Q := GC.of call_int1 fun H hH => .inl ⟨i, rfl, L, hH, h⟩
theorem gc_intB {k : Bool} (h : Q (.int (if k then 1 else 0)) L) : GC X (.type "int") [.bl k] L Q := GC.of call_int1 fun H hH => .inr ⟨k, rfl, L, hH, h⟩
theorem gc_abs (h : Q (.int (i.natAbs : Int)) L) : GC X (.builtin "abs") [.int i] L Q := GC.of call_abs fun H hH => ⟨i, rfl, L, hH, by
  have e : (if i < 0 then -i else i) = (i.natAbs : Int) := by split <;> omega
  rw [e]
  exact h⟩
theorem gc_min2 (hc : X.calm = true) (h : Q (.int (if j < i then j else i)) L) : GC X (.builtin "min") [.int i, .int j] L Q := GC.of (call_min2 hc) fun H hH => ⟨i, j, rfl, L, hH, h⟩
theorem gc_list (m : (p, HO.lst xs) ∈ L) (h : ∀ q, Q (.ref q) ((q, .lst xs) :: L)) : GC X (.type "list") [.ref p] L Q := GC.of call_list_of fun H hH => ⟨p, xs, rfl, .inl (sql hH m), fun l hl => ⟨_, hH.new hl, h l⟩⟩
theorem gc_listT (m : (p, HO.tup xs) ∈ L) (h : ∀ q, Q (.ref q) ((q, .lst xs) :: L)) : GC X (.type "list") [.ref p] L Q := GC.of call_list_of fun H hH => ⟨p, xs, rfl, .inr (sqt hH m), fun l hl => ⟨_, hH.new hl, h l⟩⟩
/-- isinstance against a built-in class -/
theorem gc_isi {T c : String} {b : Bool} (ty : ∀ H, Has H L → TyX X.K H x (.type T)) (k : kitB T c = some b) (h : Q (.bl b) L) : GC X (.builtin "isinstance") [x, .ty c] L Q :=
  GC.of call_isi fun H hH => ⟨x, .ty c, .type T, .type c, b, rfl, .ty c, ty H hH, kit_ty k, L, hH, h⟩
end
section
variable {X : Cx} {η : En} {L : Lg} {Q : QV} {e : Expr} {es : List Expr} {pos p : Pos} {x : Str}
theorem ge_B {id : String} (hm : X.mg x = none) (hv : bootBuiltins x = some (.builtin id)) (h : GA X (e :: es) η L fun xs L1 => GC X (.builtin id) xs L1 Q) (hg : Gl X x := by rfl) (hn : x ≠ "__name__" := by decide) (hdb : (x == ("__debug__" : Str)) = false := by decide)
    (he : starEach (e :: es) X.env = (false, eval e X.env) :: starEach es X.env := by rfl) (hpl : (backTo pos (starEach es X.env)).any (·.1) = false := by rfl) : GE X (.Call (.Name x p) (e :: es) [] pos) η L Q := fun hN H hH =>
  WE.of (pe_callB (r := fun xs H' Q' => ∀ pins s σ us, Inv X pins σ H' s → Vals xs us → wpAny (model X.prog X.w) X.A (call (.builtin id) us) (EP X pins σ Q') X.xe s)
    (fun pins s σ H' xs us Q' I r q => q pins s σ us I r) hg hm hv pa_W hn hdb he hpl)
    (h.then hN hH fun _ _ _ h1 q1 => fun pins s σ us I r => q1 pins s σ _ us h1 I r)
theorem ge_Y {T : String} (hm : X.mg x = none) (hv : bootBuiltins x = some (.type T)) (h : GA X (e :: es) η L fun xs L1 => GC X (.type T) xs L1 Q) (hg : Gl X x := by rfl) (hn : x ≠ "__name__" := by decide) (hdb : (x == ("__debug__" : Str)) = false := by decide)
    (he : starEach (e :: es) X.env = (false, eval e X.env) :: starEach es X.env := by rfl) (hpl : (backTo pos (starEach es X.env)).any (·.1) = false := by rfl) : GE X (.Call (.Name x p) (e :: es) [] pos) η L Q := fun hN H hH =>
  WE.of (pe_callTy (r := fun xs H' Q' => ∀ pins s σ us, Inv X pins σ H' s → Vals xs us → wpAny (model X.prog X.w) X.A (call (.type T) us) (EP X pins σ Q') X.xe s)
    (fun pins s σ H' xs us Q' I r q => q pins s σ us I r) hg hm hv pa_W hn hdb he hpl)
    (h.then hN hH fun _ _ _ h1 q1 => fun pins s σ us I r => q1 pins s σ _ us h1 I r)
/-- the name of a built-in class as a value -/
theorem ge_tyName {T : String} (hm : X.mg x = none) (hv : bootBuiltins x = some (.type T)) (q : Q (.ty T) L) (hg : Gl X x := by rfl) (hn : x ≠ "__name__" := by decide) (hdb : (x == ("__debug__" : Str)) = false := by decide) : GE X (.Name x pos) η L Q :=
  ge_con (pe_bltn (v := .ty T) hg hm hv rfl hn hdb) q
/-- the built-ins are no names of the module -/
structure Bi (mg : Str → Option Value) : Prop where
  len : mg "len" = none
  int : mg "int" = none
  abs : mg "abs" = none
  min : mg "min" = none
  max : mg "max" = none
  range : mg "range" = none
  isinstance : mg "isinstance" = none
  list : mg "list" = none
  tuple : mg "tuple" = none
  bool : mg "bool" = none
  str : mg "str" = none
  repr : mg "repr" = none
  sum : mg "sum" = none
  sorted : mg "sorted" = none
  any : mg "any" = none
  all : mg "all" = none
  enumerate : mg "enumerate" = none
  zip : mg "zip" = none
  ValueError : mg "ValueError" = none
  LookupError : mg "LookupError" = none
  reversed : mg "reversed" = none
  b_set : mg "set" = none
  dict : mg "dict" = none
  iter : mg "iter" = none
  next : mg "next" = none
  b_type : mg "type" = none
theorem bt_len : bootBuiltins "len" = some (.builtin "len") := by decide +kernel
theorem bt_abs : bootBuiltins "abs" = some (.builtin "abs") := by decide +kernel
theorem bt_min : bootBuiltins "min" = some (.builtin "min") := by decide +kernel
theorem bt_isinstance : bootBuiltins "isinstance" = some (.builtin "isinstance") := by decide +kernel
theorem bt_int : bootBuiltins "int" = some (.type "int") := by decide +kernel
theorem bt_bool : bootBuiltins "bool" = some (.type "bool") := by decide +kernel
theorem bt_list : bootBuiltins "list" = some (.type "list") := by decide +kernel
theorem bt_tuple : bootBuiltins "tuple" = some (.type "tuple") := by decide +kernel
theorem bt_ValueError : bootBuiltins "ValueError" = some (.type "ValueError") := by decide +kernel
theorem bt_LookupError : bootBuiltins "LookupError" = some (.type "LookupError") := by decide +kernel
theorem bt_str : bootBuiltins "str" = some (.type "str") := by decide +kernel
end
section
variable {X : Cx} {η : En} {L : Lg} {e a b c tg : Expr} {pos : Pos} {st : Stmt} {rest body : List Stmt} {D : GD} {v : V}
theorem GG.then {Q : En → Lg → Prop} {Q' : L2.St → Hp → Prop} (h : GG X tg v η L Q) (hN : X.N = names η) {H : Hp} (hH : Has H L) (m : ∀ θ L1 H1, X.N = names θ → Has H1 L1 → Q θ L1 → Q' (vals θ) H1) : WG X tg v (vals η) H Q' := (h hN H hH).mono fun σ' H1 ⟨θ, L1, n1, es, h1, q1⟩ => by
  rw [es]
  exact m θ L1 H1 n1 h1 q1
theorem GGs.then {ts : List Expr} {vs : List V} {Q : En → Lg → Prop} {Q' : L2.St → Hp → Prop} (h : GGs X ts vs η L Q) (hN : X.N = names η) {H : Hp} (hH : Has H L) (m : ∀ θ L1 H1, X.N = names θ → Has H1 L1 → Q θ L1 → Q' (vals θ) H1) : WGs X ts vs (vals η) H Q' := (h hN H hH).mono fun σ' H1 ⟨θ, L1, n1, es, h1, q1⟩ => by
  rw [es]
  exact m θ L1 H1 n1 h1 q1
theorem gg_name {x : Str} {θ : En} {Q : En → Lg → Prop} (p : Put x v η θ) (q : Q θ L) (hn : X.N.Nodup := by assumption) (hx : Loc X.env.scope x := by first | exact Or.inl rfl | exact Or.inr rfl) (hf : X.fn x = true ∨ X.env.scope.names.lookup x = some .local := by first | exact .inl rfl | exact .inr rfl) : GG X (.Name x pos) v η L Q := fun hN H hH => by
  obtain ⟨i, h1, h2, h3⟩ := p.idx
  refine WG.of (pg_name (i := i) hn (by rw [hN]; exact h1) hx hf) ?_
  show upS X Q ((vals η).set i (some v)) H
  exact ⟨θ, L, by rw [h3]; exact hN, h2.symm, hH, q⟩
theorem ggs_nil {Q : En → Lg → Prop} (q : Q η L) : GGs X [] [] η L Q := fun hN H hH => WGs.of pgs_nil ⟨rfl, η, L, hN, rfl, hH, q⟩
theorem ggs_cons {ts : List Expr} {vs : List V} {Q : En → Lg → Prop} (h : GG X e v η L fun θ L1 => GGs X ts vs θ L1 Q)
    (hs : (assignEach (e :: ts) X.env).map (·.2) = assign e X.env :: (assignEach ts X.env).map (·.2) := by rfl) : GGs X (e :: ts) (v :: vs) η L Q := fun hN H hH =>
  WGs.of (pgs_cons pg_W pgs_W hs) ⟨v, vs, rfl, h.then hN hH fun θ L1 H1 n1 h1 q1 => q1 n1 H1 h1⟩
theorem gg_tup {es : List Expr} {k : Nat} {p : Addr} {xs : List V} {Q : En → Lg → Prop} (m : (p, HO.tup xs) ∈ L) (h : GGs X es xs η L Q) (hl : xs.length = es.length := by rfl) (hc : X.calm = true := by rfl)
    (hn : (assignEach es X.env).length = es.length := by rfl) (hst : (assignEach es X.env).findIdx? (·.1) = none := by rfl) : GG X (.Tuple es k pos) (.ref p) η L Q := fun hN H hH =>
  WG.of (pg_tup hc pgs_W hn hst) ⟨p, xs, rfl, sqt hH m, hl, h hN H hH⟩
/-- o[i] = v, by values -/
def GSt (X : Cx) (o i v : V) (L : Lg) (Q : Lg → Prop) : Prop := ∀ pins s σ H ov iv u, Has H L → Inv X pins σ H s → RelV o ov → RelV i iv → RelV v u →
  wpAny (model X.prog X.w) X.A (setItem ov iv u) (fun _ s' => ∃ H', Inv X pins σ H' s' ∧ ∃ L', Has H' L' ∧ Q L') X.xe s
theorem gst_lst {p : Addr} {xs : List V} {k : Int} {j : Nat} {M : Lg} {Q : Lg → Prop} (m : (p, HO.lst xs) ∈ L) (hi : ixN xs.length k = some j) (sw : Swap p (.lst (xs.set j v)) L M) (q : Q M) : GSt X (.ref p) (.int k) v L Q :=
  fun pins s σ H ov iv u hH I r1 r2 r3 => (show PSet X rSetL from set_list) pins s σ H (.ref p) (.int k) v ov iv u _ I r1 r2 r3 ⟨p, xs, k, j, rfl, rfl, hH.get m, hi, M, hH.swap sw, q⟩
theorem gst_30 {p : Addr} {a b c : V} {M : Lg} {Q : Lg → Prop} (m : (p, HO.lst [a, b, c]) ∈ L) (sw : Swap p (.lst [v, b, c]) L M) (q : Q M) : GSt X (.ref p) (.int 0) v L Q := gst_lst (j := 0) m rfl sw q
theorem gst_31 {p : Addr} {a b c : V} {M : Lg} {Q : Lg → Prop} (m : (p, HO.lst [a, b, c]) ∈ L) (sw : Swap p (.lst [a, v, c]) L M) (q : Q M) : GSt X (.ref p) (.int 1) v L Q := gst_lst (j := 1) m rfl sw q
theorem gst_32 {p : Addr} {a b c : V} {M : Lg} {Q : Lg → Prop} (m : (p, HO.lst [a, b, c]) ∈ L) (sw : Swap p (.lst [a, b, v]) L M) (q : Q M) : GSt X (.ref p) (.int 2) v L Q := gst_lst (j := 2) m rfl sw q
theorem gg_sub {o i : Expr} {Q : En → Lg → Prop} (h : GE X o η L fun x L1 => GE X i η L1 fun y L2 => GSt X x y v L2 fun L3 => Q η L3)
    (ha : ∀ v, assign (.Subscript o i pos) X.env v = (do
      let ov ← holding [v] (eval o X.env)
      let iv ← holding [v, ov] (eval i X.env)
      standAt pos
      holding [v, ov, iv] (setItem ov iv v)
      release [v, ov, iv] []) := by intro _; rfl) : GG X (.Subscript o i pos) v η L Q := fun hN H hH =>
  WG.of (pg_sub (t := fun x y z H' Q' => ∀ pins s σ ov iv u, Inv X pins σ H' s → RelV x ov → RelV y iv → RelV z u → wpAny (model X.prog X.w) X.A (setItem ov iv u) (fun _ s' => ∃ H'', Inv X pins σ H'' s' ∧ Q' H'') X.xe s)
    pe_W pe_W (fun pins s σ H' x y z ov iv u Q' I r1 r2 r3 q => q pins s σ ov iv u I r1 r2 r3) ha)
    (h.then hN hH fun _ _ _ h1 q1 => q1.then hN h1 fun _ _ _ h2 q2 => fun pins s σ ov iv u I r1 r2 r3 =>
      thn (q2 pins s σ _ ov iv u h2 I r1 r2 r3) fun _ _ ⟨H3, J, L3, h3, q3⟩ => ⟨H3, J, η, L3, hN, rfl, h3, q3⟩)
theorem GS.run {σ : L2.St} {H : Hp} (h : GS X st D η L) (hN : X.N = names η) (hH : Has H L) : WS X st (D.ends X) (vals η) H := h hN H hH
theorem SPm {pins : List (Addr × Obj)} {D D' : Ends} {f : Flow} {s : Shared} (h : SP X pins D f s) (nx : ∀ σ H, D.nx σ H → D'.nx σ H) (rt : ∀ v H, D.rt v H → D'.rt v H) (bk : ∀ σ H, D.bk σ H → D'.bk σ H) (ct : ∀ σ H, D.ct σ H → D'.ct σ H) : SP X pins D' f s := by
  cases f with
  | next => obtain ⟨σ', H', I, q⟩ := h; exact ⟨σ', H', I, nx _ _ q⟩
  | brk => obtain ⟨σ', H', I, q⟩ := h; exact ⟨σ', H', I, bk _ _ q⟩
  | cont => obtain ⟨σ', H', I, q⟩ := h; exact ⟨σ', H', I, ct _ _ q⟩
  | ret u => obtain ⟨v, σ', H', I, r, q⟩ := h; exact ⟨v, σ', H', I, r, rt _ _ q⟩
theorem WS.mono {σ : L2.St} {H : Hp} {D D' : Ends} (h : WS X st D σ H) (nx : ∀ σ H, D.nx σ H → D'.nx σ H) (rt : ∀ v H, D.rt v H → D'.rt v H) (bk : ∀ σ H, D.bk σ H → D'.bk σ H) (ct : ∀ σ H, D.ct σ H → D'.ct σ H) : WS X st D' σ H :=
  fun pins s I => thn (h pins s I) fun _ _ z => SPm z nx rt bk ct
theorem WSs.mono {σ : L2.St} {H : Hp} {D D' : Ends} {sts : List Stmt} (h : WSs X sts D σ H) (nx : ∀ σ H, D.nx σ H → D'.nx σ H) (rt : ∀ v H, D.rt v H → D'.rt v H) (bk : ∀ σ H, D.bk σ H → D'.bk σ H) (ct : ∀ σ H, D.ct σ H → D'.ct σ H) : WSs X sts D' σ H :=
  fun pins s I => thn (h pins s I) fun _ _ z => SPm z nx rt bk ct
theorem gss_nil (q : D.nx η L) : GSs X [] D η L := fun hN H hH => WSs.of pss_nil ⟨η, L, hN, rfl, hH, q⟩
theorem gss_cons (h : GS X st { D with nx := fun θ L1 => GSs X rest D θ L1 } η L) : GSs X (st :: rest) D η L := fun hN H hH =>
  WSs.of (pss_cons ps_W pss_W) ((h hN H hH).mono (fun σ1 H1 ⟨θ, L1, n1, es, h1, q1⟩ => by
    rw [es]
    exact q1 n1 H1 h1) (fun _ _ z => z) (fun _ _ z => z) fun _ _ z => z)
theorem GS.cut (M : En → Lg → Prop) {Q : En → Lg → Prop} (h : GS X st { D with nx := M } η L) (k : ∀ θ L1, M θ L1 → Q θ L1) (e : D.nx = Q := by rfl) : GS X st D η L := fun hN H hH =>
  (h hN H hH).mono (fun σ1 H1 ⟨θ, L1, n1, es, h1, q1⟩ => ⟨θ, L1, n1, es, h1, by rw [e]; exact k θ L1 q1⟩) (fun _ _ z => z) (fun _ _ z => z) fun _ _ z => z
theorem GSs.sub {M : Lg} {sts : List Stmt} (s : Sub M L) (h : GSs X sts D η M) : GSs X sts D η L := fun hN H hH => h hN H (s H hH)
theorem GS.sub {M : Lg} (s : Sub M L) (h : GS X st D η M) : GS X st D η L := fun hN H hH => h hN H (s H hH)
theorem gs_pass (q : D.nx η L) : GS X (.Pass pos) D η L := fun hN H hH => WS.of ps_pass ⟨η, L, hN, rfl, hH, q⟩
theorem gs_break (q : D.bk η L) : GS X (.Break pos) D η L := fun hN H hH => WS.of ps_break ⟨η, L, hN, rfl, hH, q⟩
theorem gs_continue (q : D.ct η L) : GS X (.Continue pos) D η L := fun hN H hH => WS.of ps_continue ⟨η, L, hN, rfl, hH, q⟩
theorem gs_expr (h : GE X e η L fun _ L1 => D.nx η L1) (hs : swapsWith e none pos.line X.env = pure false := by rfl) : GS X (.Expr e pos) D η L := fun hN H hH =>
  WS.of (ps_expr pe_W hs) (h.then hN hH fun _ L1 H1 h1 q1 => ⟨η, L1, hN, rfl, h1, q1⟩)
theorem gs_ret (h : GE X e η L D.rt) : GS X (.Return (some e) pos) D η L := fun hN H hH => WS.of (ps_ret pe_W) (h hN H hH)
theorem gs_retN (q : D.rt .non L) : GS X (.Return none pos) D η L := fun hN H hH => WS.of ps_retN ⟨L, hH, q⟩
theorem gs_if {p q : List Stmt} (h : GT X c η L fun k L1 => if k = true then GSs X p D η L1 else GSs X q D η L1) : GS X (.If c p q pos) D η L := fun hN H hH =>
  WS.of (ps_if pt_W pss_W pss_W) (h.then hN hH fun k L1 H1 h1 q1 => by
    cases k with
    | true => exact q1 hN H1 h1
    | false => exact q1 hN H1 h1)
/-- x = e, x a name of the def's own -/
theorem gs_set {x : Str} {f : V → En} {pos' : Pos} (p : PutF x η f) (h : GE X e η L fun v L1 => D.nx (f v) L1) (hn : X.N.Nodup := by assumption) (hx : Loc X.env.scope x := by first | exact Or.inl rfl | exact Or.inr rfl)
    (hs : swapsWith e (some (.Name x pos')) pos.line X.env = pure false := by rfl) (hf : X.fn x = true ∨ X.env.scope.names.lookup x = some .local := by first | exact .inl rfl | exact .inr rfl) : GS X (.Assign [.Name x pos'] e pos) D η L := fun hN H hH => by
  obtain ⟨i, h1, h2⟩ := p.idx
  refine WS.of (ps_set (i := i) hn (by rw [hN]; exact h1) hx pe_W hs hf) (h.then hN hH fun v L1 H1 g1 q1 => ?_)
  show upS X D.nx ((vals η).set i (some v)) H1
  exact ⟨f v, L1, by rw [(h2 v).2]; exact hN, (h2 v).1.symm, g1, q1⟩
/-- x op= y, by values -/
def GIp (X : Cx) (op : Operator) (x y : V) (L : Lg) (Q : QV) : Prop := ∀ pins s σ H v u, Has H L → Inv X pins σ H s → RelV x v → RelV y u → wpAny (model X.prog X.w) X.A (inplaceOp op v u) (EP X pins σ (up Q)) X.xe s
theorem gp_add {i j : Int} {Q : QV} (h : Q (.int (i + j)) L) : GIp X .Add (.int i) (.int j) L Q := fun pins s σ H v u hH I r1 r2 => (show PIp X .Add (ipI fun i j => i + j) from ip_add) pins s σ H _ _ v u _ I r1 r2 ⟨i, j, rfl, rfl, L, hH, h⟩
theorem gp_sub {i j : Int} {Q : QV} (h : Q (.int (i - j)) L) : GIp X .Sub (.int i) (.int j) L Q := fun pins s σ H v u hH I r1 r2 => (show PIp X .Sub (ipI fun i j => i - j) from ip_sub) pins s σ H _ _ v u _ I r1 r2 ⟨i, j, rfl, rfl, L, hH, h⟩
/-- x op= e -/
theorem gs_aug {x : Str} {y : V} {f : V → En} {pos' : Pos} {op : Operator} (r : At x y η) (p : PutF x η f)
    (h : GE X e η L fun z L1 => GIp X op y z L1 fun w L2 => D.nx (f w) L2)
    (hn : X.N.Nodup := by assumption) (hx : Loc X.env.scope x := by first | exact Or.inl rfl | exact Or.inr rfl) (hf : X.fn x = true ∨ X.env.scope.names.lookup x = some .local := by first | exact .inl rfl | exact .inr rfl) : GS X (.AugAssign (.Name x pos') op e pos) D η L := fun hN H hH => by
  obtain ⟨i, h1, h2⟩ := p.idx
  obtain ⟨j, g1, g2⟩ := r.idx
  have ij : i = j := by
    have h1' : X.N[i]? = some x := by rw [hN]; exact h1
    have g1' : X.N[j]? = some x := by rw [hN]; exact g1
    obtain ⟨a1, a2⟩ := List.getElem?_eq_some_iff.mp h1'
    obtain ⟨b1, b2⟩ := List.getElem?_eq_some_iff.mp g1'
    exact (List.getElem_inj hn).mp (a2.trans b2.symm)
  subst ij
  refine WS.of (ps_aug (i := i) (ti := fun a b H' Q' => ∀ pins s σ v u, Inv X pins σ H' s → RelV a v → RelV b u → wpAny (model X.prog X.w) X.A (inplaceOp op v u) (EP X pins σ Q') X.xe s) hn (by rw [hN]; exact h1) hx pe_W
    (fun pins s σ H' a b v u Q' I r1 r2 q => q pins s σ v u I r1 r2) hf) ⟨y, g2, ?_⟩
  refine h.then hN hH fun z L1 H1 k1 q1 => fun pins s σ v u I r1 r2 => ?_
  refine thn (q1 pins s σ H1 v u k1 I r1 r2) fun w _ ⟨x', H2, J, r3, L2, k2, q2⟩ => ⟨x', H2, J, r3, ?_⟩
  show upS X D.nx ((vals η).set i (some x')) H2
  exact ⟨f x', L2, by rw [(h2 x').2]; exact hN, (h2 x').1.symm, k2, q2⟩
/-- a, b = x, y (both written) -/
theorem gs_par {x y : Str} {f : V → En} {g : V → V → En} {px py pt pos : Pos} {kt k2 pt2} (p : PutF x η f) (q : ∀ v, PutF y (f v) (g v)) (h : GA X [a, b] η L fun vs L1 => ∃ v w, vs = [v, w] ∧ D.nx (g v w) L1)
    (hw : swappedStores [.Tuple [.Name x px, .Name y py] kt pt] (.Tuple [a, b] k2 pt2) X.env = pure (some [x, y]) := by rfl) (hxy : x ≠ y := by decide +kernel) (hn : X.N.Nodup := by assumption) (hc : X.calm = true := by rfl)
    (hx : X.env.scope.names.lookup x = some .local := by rfl) (hy : X.env.scope.names.lookup y = some .local := by rfl)
    (hs : swapsWithSole [.Tuple [.Name x px, .Name y py] kt pt] (.Tuple [a, b] k2 pt2) pos.line X.env = pure false := by rfl) :
    GS X (.Assign [.Tuple [.Name x px, .Name y py] kt pt] (.Tuple [a, b] k2 pt2) pos) D η L := fun hN H hH => by
  obtain ⟨i, h1, h2⟩ := p.idx
  obtain ⟨j, g1⟩ : ∃ j : Nat, ∀ v, (names (f v))[j]? = some y ∧ ∀ w, vals (g v w) = (vals (f v)).set j (some w) ∧ names (g v w) = names (f v) := by
    obtain ⟨j, k1, k2⟩ := (q .non).idx
    refine ⟨j, fun v => ?_⟩
    obtain ⟨j', m1, m2⟩ := (q v).idx
    have e : j = j' := by
      rw [(h2 .non).2] at k1
      rw [(h2 v).2] at m1
      have k1' : X.N[j]? = some y := by rw [hN]; exact k1
      have m1' : X.N[j']? = some y := by rw [hN]; exact m1
      obtain ⟨a1, a2⟩ := List.getElem?_eq_some_iff.mp k1'
      obtain ⟨b1, b2⟩ := List.getElem?_eq_some_iff.mp m1'
      exact (List.getElem_inj hn).mp (a2.trans b2.symm)
    subst e
    exact ⟨m1, m2⟩
  have hi : X.N[i]? = some x := by rw [hN]; exact h1
  have hj : X.N[j]? = some y := by
    have z := (g1 .non).1
    rw [(h2 .non).2] at z
    rw [hN]
    exact z
  have hij : i ≠ j := fun e => hxy (by rw [e, hj] at hi; exact (Option.some.inj hi).symm)
  refine WS.of (ps_par (i := i) (j := j) hc hn hi hj hij hx hy pa_W hw hs) (h.then hN hH fun vs L1 H1 k1 ⟨v, w, e1, q1⟩ => ⟨v, w, e1, ?_⟩)
  show upS X D.nx (((vals η).set i (some v)).set j (some w)) H1
  refine ⟨g v w, L1, ?_, ?_, k1, q1⟩
  · rw [((g1 v).2 w).2, (h2 v).2]
    exact hN
  · rw [((g1 v).2 w).1, (h2 v).1]
end
section
variable {X : Cx} {η : En} {L : Lg} {e a b c tg iter : Expr} {pos : Pos} {body : List Stmt} {D : GD}
theorem gs_asg (h : GE X e η L fun v L1 => GG X tg v η L1 D.nx) (hs : swapsWithSole [tg] e pos.line X.env = pure false := by rfl) (hw : swappedStores [tg] e X.env = pure none := by rfl)
    (h1 : (assignEach [tg] X.env).map (·.2) = [assign tg X.env] := by rfl) : GS X (.Assign [tg] e pos) D η L := fun hN H hH =>
  WS.of (ps_asg pe_W pg_W hs hw h1) (h.then hN hH fun v L1 H1 k1 q1 => q1 hN H1 k1)
/-- a loop's invariant: Pv by the turn -/
structure LoopBy (X : Cx) (tg : Expr) (body : List Stmt) (D : GD) (item : Nat → V → Prop) (n : Nat) (η : En) (L : Lg) (Pv : Nat → En → Lg → Prop) : Prop where
  h0 : Pv 0 η L
  hs : ∀ i x θ M, i < n → item i x → Pv i θ M → GG X tg x θ M fun θ' M' => GSs X body { nx := Pv (i + 1), rt := D.rt, bk := D.nx, ct := Pv (i + 1) } θ' M'
  hd : ∀ θ M, Pv n θ M → D.nx θ M
/-- one turn, as the library's loops ask it -/
theorem turn {item : Nat → V → Prop} {n : Nat} {Pv : Nat → En → Lg → Prop} (l : LoopBy X tg body D item n η L Pv) {i : Nat} {x : V} {σ : L2.St} {H : Hp} (hi : i < n) (hx : item i x) (p : upS X (Pv i) σ H) :
    WG X tg x σ H fun σ2 H2 => WSs X body { D.ends X with nx := upS X (Pv (i + 1)), ct := upS X (Pv (i + 1)), bk := (D.ends X).nx } σ2 H2 := by
  obtain ⟨θ, M, n1, es, h1, q1⟩ := p
  rw [es]
  exact (l.hs i x θ M hi hx q1).then n1 h1 fun θ' M' H2 n2 h2 q2 => q2 n2 H2 h2
end
abbrev XL := Value → Option Addr → Lg → Prop
abbrev SpL := List V → Lg → QV → XL → Prop
/-- a promise over ledgers, as the library's -/
def toSp (sp : SpL) : Sp := fun vs H Q E => ∃ L Ql El, Has H L ∧ sp vs L Ql El ∧ (∀ v L' H', Has H' L' → Ql v L' → Q v H') ∧ ∀ c d L' H', Has H' L' → El c d L' → E c d H'
section
variable {P : Program} {w : World} {K : PySem.W.Frag} {mg : Str → Option Value} {base : Heap}
/-- the def x of the text as it stands behind the top -/
def Df (K : PySem.W.Frag) (mg : Str → Option Value) (x : Str) (st : Stmt) : Prop := ∃ f fd, mg x = some (.ref f) ∧ Fun K x x st f fd
/-- room for calls, and no repr that is under way -/
structure RoomG (k : Nat) (A : Around) : Prop extends Room k A where
  gd : A.guards = some []
theorem RoomG.mono {j k : Nat} {A : Around} (r : RoomG k A) (h : j ≤ k) : RoomG j A := ⟨r.toRoom.mono h, r.gd⟩
/-- what is at f keeps its promise; args: how the call's values are handed over -/
def RunG (P : Program) (w : World) (K : PySem.W.Frag) (mg : Str → Option Value) (base : Heap) (CX : CXT) (k : Nat) (f : Addr) (args : List Value → Args) (sp : Sp) : Prop :=
  ∀ (A : Around) (outer : List Env) (s : Shared) (H : Hp) (us : List Value) (vs : List V) (Q : VK) (E : XK), RoomG k A → Env0 P w K mg base A outer s H → Vals vs us → sp vs H Q E → codeAny (model P w) A (.call (.ref f) (args us)) (CR CX outer P w H s Q E) s
abbrev argsP : List Value → Args := fun us => ⟨us, []⟩
abbrev argsK (n : Nat) (ks : List Str) : List Value → Args := fun us => ⟨us.take n, ks.zip (us.drop n)⟩
theorem RunG.imp {CX : CXT} {k : Nat} {f : Addr} {args : List Value → Args} {sp sp' : Sp} (F : RunG P w K mg base CX k f args sp) (h : ∀ vs H Q E, sp' vs H Q E → sp vs H Q E) : RunG P w K mg base CX k f args sp' := fun A outer s H us vs Q E hr e0 r hs => F A outer s H us vs Q E hr e0 r (h _ _ _ _ hs)
theorem RunG.mono {CX : CXT} {j k : Nat} {f : Addr} {args : List Value → Args} {sp : Sp} (F : RunG P w K mg base CX j f args sp) (h : j ≤ k) : RunG P w K mg base CX k f args sp := fun A outer s H us vs Q E hr => F A outer s H us vs Q E (hr.mono h)
/-- the def x keeps its promise -/
def FnA (P : Program) (w : World) (K : PySem.W.Frag) (mg : Str → Option Value) (base : Heap) (CX : CXT) (x : Str) (k : Nat) (args : List Value → Args) (sp : SpL) : Prop := ∃ f, mg x = some (.ref f) ∧ PySem.W.keepIn K (.ref f) = true ∧ RunG P w K mg base CX k f args (toSp sp)
abbrev Fn (P : Program) (w : World) (K : PySem.W.Frag) (mg : Str → Option Value) (base : Heap) (CX : CXT) (x : Str) (k : Nat) (sp : SpL) : Prop := FnA P w K mg base CX x k argsP sp
/-- what is left over may be dropped -/
def drp (Q : QV) : QV := fun v L => ∃ M, Sub M L ∧ Q v M
def bodyD (Q : QV) : GD := { nx := fun _ L => drp Q .non L, rt := drp Q, bk := fun _ _ => False, ct := fun _ _ => False }
def begun (N : List Str) (vs : List V) : En := N.zip (L2.start N vs)
theorem names_begun {N : List Str} {vs : List V} (h : vs.length ≤ N.length) : names (begun N vs) = N ∧ vals (begun N vs) = L2.start N vs := by
  have l : (L2.start N vs).length = N.length := by
    unfold L2.start
    rw [List.length_append, List.length_map, List.length_replicate]
    omega
  unfold names vals begun
  exact ⟨List.map_fst_zip (Nat.le_of_eq l.symm), List.map_snd_zip (Nat.le_of_eq l)⟩
/-- where the body of such a def stands -/
def cx0 (P : Program) (w : World) (K : PySem.W.Frag) (mg : Str → Option Value) (base : Heap) (N : List Str) (x : Str) (sc : Scope) (f : Addr) (cdv : Value) (A : Around) (outer : List Env) (s : Shared) (H : Hp) (E0 : XK) : Cx := (cxOf CX0 P w K mg base N x sc f cdv A outer s H E0).nox
/-- what a body shows, as the library wants it -/
theorem body_end {X : Cx} {st : List Stmt} {vs : List V} {H : Hp} {Q : VK} {Ql : QV} (hl : vs.length ≤ X.N.length) (hq : ∀ v L' H', Has H' L' → Ql v L' → Q v H') {L : Lg} (hH : Has H L) (h : GSs X st (bodyD Ql) (begun X.N vs) L) :
    WSs X st { nx := fun _ H' => Q .non H', rt := Q } (L2.start X.N vs) H := by
  have z := h (by rw [(names_begun hl).1] <;> rfl) H hH
  rw [(names_begun hl).2] at z
  refine z.mono (fun σ H' hh => ?_) (fun v H' hh => ?_) (fun _ _ hh => ?_) (fun _ _ hh => ?_)
  · obtain ⟨θ, M, _, _, h', M', sb, q⟩ := hh
    exact hq _ M' H' (sb _ h') q
  · obtain ⟨M, h', M', sb, q⟩ := hh
    exact hq _ M' H' (sb _ h') q
  · obtain ⟨_, _, _, _, _, q⟩ := hh
    exact q.elim
  · obtain ⟨_, _, _, _, _, q⟩ := hh
    exact q.elim
theorem guard_deeper {A : Around} {e : Env} (h : A.guards = some []) : (A.deeper e).guards = some [] := h
/-- what a promise's body is shown of -/
abbrev BodyOf (P : Program) (w : World) (K : PySem.W.Frag) (mg : Str → Option Value) (base : Heap) (N : List Str) (q : Str) (st : Stmt) (k : Nat) (sp : SpL) : Prop :=
  ∀ (X : Cx) (f : Addr) (cdv : Value) (A : Around) (outer : List Env) (s : Shared) (H : Hp) (E0 : XK) (L : Lg) (vs : List V) (Q : QV) (E : XL), X = cx0 P w K mg base N q (defScope st) f cdv A outer s H E0 → X.N.Nodup → RoomG k X.A → sp vs L Q E → GSs X (defBody st) (bodyD Q) (begun N vs) L
theorem run_plain {x q : Str} {st : Stmt} {f : Addr} {fd : FuncData} {N ps : List Str} {k : Nat} {sp : SpL} (F : Fun K x q st f fd) (S : FnScope N ps (defScope st)) (args : List Value → Args) (pmV : List V → List V) (pmU : List Value → List Value) (hpm : ∀ vs us, Vals vs us → Vals (pmV vs) (pmU us))
    (hb : ∀ (kV doc pm : Value) (an : Option Addr) (cdv ct : Value) (us : List Value), (pmU us).length = ps.length → bindArgs (PySem.W.fnOf x q (defArgs st) (defBody st) (defScope st) .none kV doc pm an cdv ct) (args us) = pure (ps.zip (pmU us)))
    (hl : ps.length ≤ N.length) (len : ∀ vs L Q E, sp vs L Q E → vs.length = ps.length) (body : BodyOf P w K mg base N q st k sp) : RunG P w K mg base CX0 (k + 1) f args (fun vs => toSp sp (pmV vs)) := by
  obtain ⟨oc, od, kV, doc, pm, an, cdv, ct, osl, rfl, lk, hcd⟩ := F.ex
  intro A outer s H us vs Q E hr e0 r hsp
  obtain ⟨L, Ql, El, hH, h, hq, _⟩ := hsp
  have hn : (pmV vs).length = ps.length := len _ L Ql El h
  have r2 := hpm vs us r
  have hlv : (pmV vs).length ≤ N.length := by
    rw [hn]
    exact hl
  exact LamX.run_ofS (CX := CX0) lk hcd S hr.toRoom e0 (.of_eq (hb kV doc pm an cdv ct us (by rw [← r2.length]; exact hn))) r2 hn fun hr2 =>
    ⟨WSs _ (defBody st), PSs.nox pss_W, body_end (X := cx0 P w K mg base N q (defScope st) f cdv A outer s H E) hlv hq hH (body _ f cdv A outer s H E L (pmV vs) Ql El rfl S.nd ⟨hr2, guard_deeper hr.gd⟩ h)⟩
/-- THE RULE for a def that lets no exception out -/
theorem fn_plain {x : Str} {st : Stmt} {N ps : List Str} {k : Nat} {sp : SpL} (F : Df K mg x st) (S : FnScope N ps (defScope st))
    (hb : ∀ (kV doc pm : Value) (an : Option Addr) (cdv ct : Value) (us : List Value), us.length = ps.length → bindArgs (PySem.W.fnOf x x (defArgs st) (defBody st) (defScope st) .none kV doc pm an cdv ct) ⟨us, []⟩ = pure (ps.zip us))
    (hl : ps.length ≤ N.length) (len : ∀ vs L Q E, sp vs L Q E → vs.length = ps.length) (body : BodyOf P w K mg base N x st k sp) : Fn P w K mg base CX0 x (k + 1) sp := by
  obtain ⟨f, fd, hm, F⟩ := F
  exact ⟨f, hm, F.kp, run_plain F S argsP id id (fun _ _ r => r) hb hl len body⟩
/-- the same def, called with keywords -/
theorem fn_plainK {x : Str} {st : Stmt} {N ps : List Str} {k : Nat} {sp : SpL} (n : Nat) (ks : List Str) (pmV : List V → List V) (pmU : List Value → List Value) (hpm : ∀ vs us, Vals vs us → Vals (pmV vs) (pmU us)) (F : Df K mg x st) (S : FnScope N ps (defScope st))
    (hb : ∀ (kV doc pm : Value) (an : Option Addr) (cdv ct : Value) (us : List Value), (pmU us).length = ps.length → bindArgs (PySem.W.fnOf x x (defArgs st) (defBody st) (defScope st) .none kV doc pm an cdv ct) (argsK n ks us) = pure (ps.zip (pmU us)))
    (hl : ps.length ≤ N.length) (len : ∀ vs L Q E, sp vs L Q E → vs.length = ps.length) (body : BodyOf P w K mg base N x st k sp) : FnA P w K mg base CX0 x (k + 1) (argsK n ks) (fun vs => sp (pmV vs)) := by
  obtain ⟨f, fd, hm, F⟩ := F
  exact ⟨f, hm, F.kp, run_plain F S (argsK n ks) pmV pmU hpm hb hl len body⟩
end
def NoX : XL := fun _ _ _ => False
def upX (E : XL) : XK := fun c d H => ∃ L, Has H L ∧ E c d L
section
variable {X : Cx} {η : En} {L : Lg} {Q : QV} {El : XL} {CX : CXT} {x : Str} {j k : Nat} {sp : SpL} {e o : Expr} {es : List Expr} {pos p apos : Pos}
theorem passA {E : XK} : Passes CX0 X E := fun _ _ _ _ _ _ _ h => h.elim
theorem passN : Passes (L2.CX X.prog X.w) X (upX NoX) := fun _ _ _ _ _ _ _ h => by
  obtain ⟨_, _, _, _, _, _, _, _, _, _, _, _, _, _, z⟩ := h
  exact z.elim
theorem up_sp {vs : List V} {H : Hp} (hH : Has H L) (h : sp vs L Q El) : toSp sp vs H (up Q) (upX El) := ⟨L, Q, El, hH, h, fun _ L' _ h' q => ⟨L', h', q⟩, fun _ _ L' _ h' q => ⟨L', h', q⟩⟩
/-- a call that got its values -/
theorem run_G {pins : List (Addr × Obj)} {σ : L2.St} {H : Hp} {s : Shared} {f : Addr} {args : List Value → Args} {us : List Value} {vs : List V} {sp : Sp} {E : XK} {Q : VK} (F : RunG X.prog X.w X.K X.mg X.base CX k f args sp) (hr : RoomG k X.A) (hx : Passes CX X E) (I : Inv X pins σ H s) (r : Vals vs us) (h : sp vs H Q E) :
    wpAny (model X.prog X.w) X.A (call (.ref f) (args us).pos (args us).kw) (EP X pins σ Q) X.xe s := by
  refine wpAny_call (codeAny_mono (F X.A X.stack s H us vs Q E hr I.env0 r h) fun r' s' hq => ?_)
  cases r' with
  | error e => exact hx pins σ H s e s' I hq
  | ok fl =>
    cases fl with
    | ret u => exact I.after hq
    | next => exact hq.elim
    | brk => exact hq.elim
    | cont => exact hq.elim
theorem ge_call (F : Fn X.prog X.w X.K X.mg X.base CX x k sp) (hr : RoomG j X.A) (hx : Passes CX X (upX El)) (h : GA X (e :: es) η L fun vs L1 => sp vs L1 Q El) (hjk : k ≤ j := by decide) (hg : Gl X x := by rfl) (hd : (x == ("__debug__" : Str)) = false := by decide)
    (he : starEach (e :: es) X.env = (false, eval e X.env) :: starEach es X.env := by rfl) (hpl : (backTo pos (starEach es X.env)).any (·.1) = false := by rfl) : GE X (.Call (.Name x p) (e :: es) [] pos) η L Q := fun hN H hH pins s I => by
  obtain ⟨f, hm, hk, F⟩ := F
  refine wpAny_Call_Name_kw (ld_glob I hg hm ?_ hd)
  refine PySem.W.callWith_K (h₀ := X.base) I.ok.mod.kin hk ?_ he hpl
  refine thn (h hN H hH pos pins s I) fun us s1 ⟨vs, H1, J, r, L1, h1, q⟩ => ⟨J.kIn, ?_⟩
  exact run_G (args := argsP) F (hr.mono hjk) hx J r (up_sp h1 q)
/-- xs.append(e) -/
theorem ge_append (h : GE X o η L fun v L1 => ∃ l zs, v = .ref l ∧ (l, HO.lst zs) ∈ L1 ∧ GE X e η L1 fun y L2 => ∃ xs M, (l, HO.lst xs) ∈ L2 ∧ xs.length < sizeLine ∧ Swap l (.lst (xs ++ [y])) L2 M ∧ Q .non M)
    (hbase : attributeBase o "append" X.env (eval o X.env) = eval o X.env := by rfl)
    (hfew : ((backTo pos (starEach [e] X.env)).all (fun x => !x.1) && (backToKw pos (keywordEach [] X.env)).all (fun x => x.1.isSome)
      && decide ([e].length + ([] : List Keyword).length + (if ([] : List Keyword).isEmpty then 0 else 1) < 30)) = true := by rfl)
    (hline : (apos.endLine == pos.line) = true := by rfl) (hs : starEach [e] X.env = (false, eval e X.env) :: starEach [] X.env := by rfl) : GE X (.Call (.Attribute o "append" apos) [e] [] pos) η L Q := fun hN H hH =>
  WE.of (pe_bm PySem.F.plainAttrs_list PySem.F.slot_list_append PySem.F.type_list_append mt_append pe_W (pa_cons pe_W pa_nil hs) hbase hfew hline hs rfl) (h.then hN hH fun v L1 H1 k1 ⟨l, zs, ev, m, q⟩ => by
    subst ev
    exact ⟨.inl ⟨rfl, zs, sql k1 m⟩, q.then hN k1 fun y L2 H2 k2 ⟨xs, M, m2, z, sw, q2⟩ => ⟨l, xs, y, rfl, rfl, k2.get m2, z, M, k2.swap sw, q2⟩⟩)
/-- a slice with both ends left out, or written -/
def GPart (X : Cx) (o : Option Expr) (η : En) (L : Lg) (Q : Option Int → Lg → Prop) : Prop := match o with
  | none => Q none L
  | some e => GE X e η L fun v L1 => ∃ i, v = .int i ∧ Q (some i) L1
def WPart (X : Cx) (o : Option Expr) : TO := match o with
  | none => tNoPart
  | some e => tPart (WE X e)
theorem po_W {o : Option Expr} : PO X o (WPart X o) := by
  cases o with
  | none => exact po_none
  | some e => exact po_some pe_W
theorem GPart.then {o : Option Expr} {Q : Option Int → Lg → Prop} {Q' : Option Int → Hp → Prop} (h : GPart X o η L Q) (hN : X.N = names η) {H : Hp} (hH : Has H L) (m : ∀ v L1 H1, Has H1 L1 → Q v L1 → Q' v H1) : WPart X o (vals η) H Q' := by
  cases o with
  | none => exact m none L H hH h
  | some e => exact GE.then h hN hH fun v L1 H1 h1 ⟨i, ei, q⟩ => ⟨i, ei, m _ L1 H1 h1 q⟩
def InL (K : PySem.W.Frag) (L : Lg) (p : Addr) (xs : List V) : Prop := ∀ H, Has H L → SqL K H p xs
theorem ge_sliceL {lo hi : Option Expr} {p2 : Pos} (h : GE X e η L fun v L1 => ∃ p xs, v = .ref p ∧ GPart X lo η L1 fun i L2 => GPart X hi η L2 fun j L3 => InL X.K L3 p xs ∧ ∀ q, Q (.ref q) ((q, .lst (cutV xs i j)) :: L3)) : GE X (.Subscript e (.Slice lo hi none p2) pos) η L Q := fun hN H hH =>
  WE.of (pe_slice sl_list pe_W po_W po_W) (h.then hN hH fun v L1 H1 k1 ⟨p, xs, ev, q⟩ => q.then hN k1 fun i L2 H2 k2 q2 => q2.then hN k2 fun j L3 H3 k3 ⟨m, q3⟩ => ⟨p, xs, ev, m H3 k3, fun r hr => ⟨_, k3.new hr, q3 r⟩⟩)
end
section
variable {P : Program} {w : World} {K : PySem.W.Frag} {mg : Str → Option Value} {base : Heap}
/-- values, then a tuple of the rest -/
theorem run_starred {x q pv : Str} {st : Stmt} {f : Addr} {fd : FuncData} {N ps : List Str} {k : Nat} {sp : SpL} (F : Fun K x q st f fd) (S : FnScope N (ps ++ [pv]) (defScope st))
    (hb : ∀ (kV doc pm : Value) (an : Option Addr) (cdv ct : Value) (us rest : List Value), us.length = ps.length → bindArgs (PySem.W.fnOf x q (defArgs st) (defBody st) (defScope st) .none kV doc pm an cdv ct) ⟨us ++ rest, []⟩ = (newTuple rest >>= fun t => pure (ps.zip us ++ [(pv, t)])))
    (hl : ps.length + 1 ≤ N.length) (body : BodyOf P w K mg base N q st k sp) (len : ∀ vs L Q E, sp vs L Q E → vs.length = ps.length + 1) : RunG P w K mg base CX0 (k + 1) f argsP (toSp fun vs L Q E => ∃ ws rest, vs = ws ++ rest ∧ ws.length = ps.length ∧ rest.length ≤ sizeLine ∧ ∀ p, sp (ws ++ [.ref p]) ((p, .tup rest) :: L) Q E) := by
  obtain ⟨oc, od, kV, doc, pm, an, cdv, ct, osl, rfl, lk, hcd⟩ := F.ex
  intro A outer s H us vs Q E hr e0 r hsp
  obtain ⟨L, Ql, El, hH, ⟨ws, rest, ev, hlw, hz, hs⟩, hq, _⟩ := hsp
  subst ev
  obtain ⟨u1, u2, eu, r1, r2⟩ := StX.vals_split r
  subst eu
  have hn : H s.heap.objs.size = none := e0.hok.fresh (Nat.le_refl _)
  have hl1 : u1.length = ps.length := by
    rw [← r1.length]
    exact hlw
  have hl2 : u2.length ≤ sizeLine := by
    rw [← r2.length]
    exact hz
  refine StX.run_bnd (CX := CX0) lk hcd S hr.toRoom e0 (G := fun xs H2 => ∃ p, H p = none ∧ xs = ws ++ [V.ref p] ∧ H2 = upd H p (.tup rest)) (fun A' Ex Q' h => ?_) fun s2 H2 xs ⟨p, hp, ex, eH⟩ hr' => ?_
  · rw [show bindArgs _ (argsP (u1 ++ u2)) = _ from hb kV doc pm an cdv ct u1 u2 hl1]
    refine wpAny_bind (wpAny_newTuple (wpAny_pure ?_) hl2)
    have new : ObjOk P w (upd H s.heap.objs.size (.tup rest)) (s.heap.push ({ cls := .type "tuple", data := .seq u2.toArray } : Obj)) s.heap.objs.size (.tup rest) := ⟨hz, u2, r2, ⟨_, Heap.get?_push_size _ rfl, rfl, _, rfl⟩⟩
    have un := StX.un_laid (fs := frs outer) (s := s) (o := ({ cls := .type "tuple", data := .seq u2.toArray } : Obj)) (u := .tup rest) hn
    have z := h _ _ (ws ++ [V.ref s.heap.objs.size]) (u1 ++ [Value.ref s.heap.objs.size]) (StX.env0_laid e0 new) un rfl (fun _ _ z => z.elim) (r1.append (.cons rfl .nil)) (by rw [List.length_append, List.length_append, hlw] <;> rfl) ⟨_, hn, rfl, rfl⟩
    rw [List.zip_append hl1.symm] at z
    exact z
  · subst ex eH
    have hlv : (ws ++ [V.ref p]).length ≤ N.length := by
      rw [List.length_append, hlw]
      exact hl
    exact ⟨WSs _ (defBody st), PSs.nox pss_W, body_end (X := cx0 P w K mg base N q (defScope st) f cdv A outer s2 (upd H p (.tup rest)) E) hlv hq (hH.new hp) (body _ f cdv A outer s2 _ E _ _ Ql El rfl S.nd ⟨hr', guard_deeper hr.gd⟩ (hs p))⟩
end
inductive Knd (L : Lg) : V → String → Prop
  | non : Knd L .non "NoneType"
  | bl {b : Bool} : Knd L (.bl b) "bool"
  | int {i : Int} : Knd L (.int i) "int"
  | str {x : Str} : Knd L (.str x) "str"
  | lst {p : Addr} {xs : List V} (m : (p, HO.lst xs) ∈ L) : Knd L (.ref p) "list"
  | tup {p : Addr} {xs : List V} (m : (p, HO.tup xs) ∈ L) : Knd L (.ref p) "tuple"
  | dct {p : Addr} {kvs : List (Key × V)} (m : (p, HO.dK kvs) ∈ L) : Knd L (.ref p) "dict"
theorem Knd.ty {K : PySem.W.Frag} {L : Lg} {x : V} {T : String} (k : Knd L x T) (H : Hp) (hH : Has H L) : TyX K H x (.type T) := by
  cases k with
  | non => exact .base .non
  | bl => exact .base (.bl _)
  | int => exact .base (.int _)
  | str => exact .base (.str _)
  | lst m => exact .base (.lst (hH.get m))
  | tup m => exact .base (.tup (hH.get m))
  | dct m => exact .base (.dK (hH.get m))
theorem Knd.sub {L M : Lg} {x : V} {T : String} (k : Knd L x T) (s : ∀ e ∈ L, e ∈ M) : Knd M x T := by
  cases k with
  | non => exact .non
  | bl => exact .bl
  | int => exact .int
  | str => exact .str
  | lst m => exact .lst (s _ m)
  | tup m => exact .tup (s _ m)
  | dct m => exact .dct (s _ m)
theorem kb_int_int : kitB "int" "int" = some true := by decide +kernel
theorem kb_int_bool : kitB "int" "bool" = some false := by decide +kernel
theorem kb_bool_int : kitB "bool" "int" = some true := by decide +kernel
theorem kb_bool_bool : kitB "bool" "bool" = some true := by decide +kernel
theorem kb_non_int : kitB "NoneType" "int" = some false := by decide +kernel
theorem kb_str_int : kitB "str" "int" = some false := by decide +kernel
theorem kb_list_int : kitB "list" "int" = some false := by decide +kernel
theorem kb_tuple_int : kitB "tuple" "int" = some false := by decide +kernel
theorem kb_dict_int : kitB "dict" "int" = some false := by decide +kernel
section
variable {X : Cx} {L : Lg} {Q : QV} {x : V} {T c : String} {b : Bool}
theorem gc_isK (k : Knd L x T) (e : kitB T c = some b) (h : Q (.bl b) L) : GC X (.builtin "isinstance") [x, .ty c] L Q := gc_isi (fun H hH => k.ty H hH) e h
end
theorem sz1 : 1 ≤ sizeLine := by decide +kernel
theorem sz2 : 2 ≤ sizeLine := by decide +kernel
theorem sz3 : 3 ≤ sizeLine := by decide +kernel
theorem sz_le {n : Nat} (h : n ≤ 1000) : n ≤ sizeLine := Nat.le_trans h (by decide +kernel)
theorem sz_lt {n : Nat} (h : n < 1000) : n < sizeLine := Nat.lt_of_lt_of_le h (by decide +kernel)
theorem Sub.keep {L M : Lg} {e : Addr × HO} (s : M.Sublist L) : Sub (e :: M) (e :: L) := Sub.sublist (s.cons_cons e)
section
variable {a b c d e f g h i : Addr × HO} {R : Lg}
theorem br0 : Sub (a :: b :: R) (a :: b :: R) := Sub.refl
theorem br1 : Sub (a :: b :: c :: R) (c :: a :: b :: R) := Sub.perm (List.perm_middle (l₁ := [a, b])).symm.symm
theorem br2 : Sub (a :: b :: c :: d :: R) (c :: d :: a :: b :: R) := Sub.perm (by
  have z := List.perm_append_comm (l₁ := [a, b]) (l₂ := [c, d])
  exact z.append_right R)
theorem br3 : Sub (a :: b :: c :: d :: e :: R) (c :: d :: e :: a :: b :: R) := Sub.perm (by
  have z := List.perm_append_comm (l₁ := [a, b]) (l₂ := [c, d, e])
  exact z.append_right R)
theorem br4 : Sub (a :: b :: c :: d :: e :: f :: R) (c :: d :: e :: f :: a :: b :: R) := Sub.perm (by
  have z := List.perm_append_comm (l₁ := [a, b]) (l₂ := [c, d, e, f])
  exact z.append_right R)
theorem br5 : Sub (a :: b :: c :: d :: e :: f :: g :: R) (c :: d :: e :: f :: g :: a :: b :: R) := Sub.perm (by
  have z := List.perm_append_comm (l₁ := [a, b]) (l₂ := [c, d, e, f, g])
  exact z.append_right R)
theorem br6 : Sub (a :: b :: c :: d :: e :: f :: g :: h :: R) (c :: d :: e :: f :: g :: h :: a :: b :: R) := Sub.perm (by
  have z := List.perm_append_comm (l₁ := [a, b]) (l₂ := [c, d, e, f, g, h])
  exact z.append_right R)
end
section
variable {X : Cx} {η : En} {L : Lg} {Q : QV} {e : Expr} {es : List Expr} {pos p : Pos}
theorem gb_len (B : Bi X.mg) (h : GA X (e :: es) η L fun xs L1 => GC X (.builtin "len") xs L1 Q) (hg : Gl X "len" := by rfl) (he : starEach (e :: es) X.env = (false, eval e X.env) :: starEach es X.env := by rfl) (hpl : (backTo pos (starEach es X.env)).any (·.1) = false := by rfl) :
    GE X (.Call (.Name "len" p) (e :: es) [] pos) η L Q := ge_B B.len bt_len h hg (by decide) (by decide) he hpl
theorem gb_abs (B : Bi X.mg) (h : GA X (e :: es) η L fun xs L1 => GC X (.builtin "abs") xs L1 Q) (hg : Gl X "abs" := by rfl) (he : starEach (e :: es) X.env = (false, eval e X.env) :: starEach es X.env := by rfl) (hpl : (backTo pos (starEach es X.env)).any (·.1) = false := by rfl) :
    GE X (.Call (.Name "abs" p) (e :: es) [] pos) η L Q := ge_B B.abs bt_abs h hg (by decide) (by decide) he hpl
theorem gb_min (B : Bi X.mg) (h : GA X (e :: es) η L fun xs L1 => GC X (.builtin "min") xs L1 Q) (hg : Gl X "min" := by rfl) (he : starEach (e :: es) X.env = (false, eval e X.env) :: starEach es X.env := by rfl) (hpl : (backTo pos (starEach es X.env)).any (·.1) = false := by rfl) :
    GE X (.Call (.Name "min" p) (e :: es) [] pos) η L Q := ge_B B.min bt_min h hg (by decide) (by decide) he hpl
theorem gb_isinstance (B : Bi X.mg) (h : GA X (e :: es) η L fun xs L1 => GC X (.builtin "isinstance") xs L1 Q) (hg : Gl X "isinstance" := by rfl) (he : starEach (e :: es) X.env = (false, eval e X.env) :: starEach es X.env := by rfl) (hpl : (backTo pos (starEach es X.env)).any (·.1) = false := by rfl) :
    GE X (.Call (.Name "isinstance" p) (e :: es) [] pos) η L Q := ge_B B.isinstance bt_isinstance h hg (by decide) (by decide) he hpl
theorem gb_int (B : Bi X.mg) (h : GA X (e :: es) η L fun xs L1 => GC X (.type "int") xs L1 Q) (hg : Gl X "int" := by rfl) (he : starEach (e :: es) X.env = (false, eval e X.env) :: starEach es X.env := by rfl) (hpl : (backTo pos (starEach es X.env)).any (·.1) = false := by rfl) :
    GE X (.Call (.Name "int" p) (e :: es) [] pos) η L Q := ge_Y B.int bt_int h hg (by decide) (by decide) he hpl
theorem gb_list (B : Bi X.mg) (h : GA X (e :: es) η L fun xs L1 => GC X (.type "list") xs L1 Q) (hg : Gl X "list" := by rfl) (he : starEach (e :: es) X.env = (false, eval e X.env) :: starEach es X.env := by rfl) (hpl : (backTo pos (starEach es X.env)).any (·.1) = false := by rfl) :
    GE X (.Call (.Name "list" p) (e :: es) [] pos) η L Q := ge_Y B.list bt_list h hg (by decide) (by decide) he hpl
theorem gb_tuple (B : Bi X.mg) (h : GA X (e :: es) η L fun xs L1 => GC X (.type "tuple") xs L1 Q) (hg : Gl X "tuple" := by rfl) (he : starEach (e :: es) X.env = (false, eval e X.env) :: starEach es X.env := by rfl) (hpl : (backTo pos (starEach es X.env)).any (·.1) = false := by rfl) :
    GE X (.Call (.Name "tuple" p) (e :: es) [] pos) η L Q := ge_Y B.tuple bt_tuple h hg (by decide) (by decide) he hpl
theorem gb_bool (B : Bi X.mg) (h : GA X (e :: es) η L fun xs L1 => GC X (.type "bool") xs L1 Q) (hg : Gl X "bool" := by rfl) (he : starEach (e :: es) X.env = (false, eval e X.env) :: starEach es X.env := by rfl) (hpl : (backTo pos (starEach es X.env)).any (·.1) = false := by rfl) :
    GE X (.Call (.Name "bool" p) (e :: es) [] pos) η L Q := ge_Y B.bool bt_bool h hg (by decide) (by decide) he hpl
theorem gb_str (B : Bi X.mg) (h : GA X (e :: es) η L fun xs L1 => GC X (.type "str") xs L1 Q) (hg : Gl X "str" := by rfl) (he : starEach (e :: es) X.env = (false, eval e X.env) :: starEach es X.env := by rfl) (hpl : (backTo pos (starEach es X.env)).any (·.1) = false := by rfl) :
    GE X (.Call (.Name "str" p) (e :: es) [] pos) η L Q := ge_Y B.str bt_str h hg (by decide) (by decide) he hpl
theorem gv_int (B : Bi X.mg) (q : Q (.ty "int") L) (hg : Gl X "int" := by rfl) : GE X (.Name "int" pos) η L Q := ge_tyName B.int bt_int q hg (by decide) (by decide)
theorem gv_bool (B : Bi X.mg) (q : Q (.ty "bool") L) (hg : Gl X "bool" := by rfl) : GE X (.Name "bool" pos) η L Q := ge_tyName B.bool bt_bool q hg (by decide) (by decide)
theorem gv_tuple (B : Bi X.mg) (q : Q (.ty "tuple") L) (hg : Gl X "tuple" := by rfl) : GE X (.Name "tuple" pos) η L Q := ge_tyName B.tuple bt_tuple q hg (by decide) (by decide)
theorem gv_list (B : Bi X.mg) (q : Q (.ty "list") L) (hg : Gl X "list" := by rfl) : GE X (.Name "list" pos) η L Q := ge_tyName B.list bt_list q hg (by decide) (by decide)
theorem gv_str (B : Bi X.mg) (q : Q (.ty "str") L) (hg : Gl X "str" := by rfl) : GE X (.Name "str" pos) η L Q := ge_tyName B.str bt_str q hg (by decide) (by decide)
end
theorem ite_t {A B : Prop} (h : A) : if true = true then A else B := by rw [if_pos rfl]; exact h
theorem ite_f {A B : Prop} (h : B) : if false = true then A else B := by rw [if_neg Bool.false_ne_true]; exact h
theorem ite_d {c A B : Prop} [Decidable c] (h : c → A) (k : ¬ c → B) : if decide c = true then A else B := by
  by_cases z : c
  · rw [if_pos (decide_eq_true z)]; exact h z
  · rw [decide_eq_false z, if_neg Bool.false_ne_true]; exact k z
theorem ite_n {c A B : Prop} [Decidable c] (h : ¬ c → A) (k : c → B) : if (!decide c) = true then A else B := by
  by_cases z : c
  · rw [decide_eq_true z]; exact ite_f (k z)
  · rw [decide_eq_false z]; exact ite_t (h z)
theorem ite_b {b : Bool} {A B : Prop} (h : b = true → A) (k : b = false → B) : if b = true then A else B := by
  cases b with
  | true => exact ite_t (h rfl)
  | false => exact ite_f (k rfl)
section
variable {X : Cx} {L : Lg} {Q : QV} {i j r : Int}
theorem go_modR (c : 0 < j) (h : ∀ r, 0 ≤ r → r < j → Q (.int r) L) : GOp X (binaryOp .Mod) (.int i) (.int j) L Q := go_mod c (h _ (Int.emod_nonneg _ (by omega)) (Int.emod_lt_of_pos _ c))
theorem go_powL (c : CPow i j) (e : i ^ j.toNat = r) (h : Q (.int r) L) : GOp X (binaryOp .Pow) (.int i) (.int j) L Q := go_pow c (by rw [e]; exact h)
theorem go_powR (c : CPow i j) (h : ∀ r, Q (.int r) L) : GOp X (binaryOp .Pow) (.int i) (.int j) L Q := go_pow c (h _)
end
theorem bnd {s t A B : Int} (s0 : 0 ≤ s) (s1 : s ≤ A) (t0 : 0 ≤ t) (t1 : t ≤ B) : 0 ≤ s * t ∧ s * t ≤ A * B := ⟨Int.mul_nonneg s0 t0, Int.mul_le_mul s1 t1 t0 (Int.le_trans s0 s1)⟩
theorem depthInts : ∀ ns : List Int, PyData.depthAll (ns.map PyData.int) = 0
  | [] => by simp [PyData.depthAll]
  | n :: r => by
    have e := depthInts r
    simp [PyData.depthAll, PyData.depth, e]
theorem layInts : ∀ ns : List Int, PyData.canLayAll0 (ns.map PyData.int) = true
  | [] => by simp [PyData.canLayAll0]
  | n :: r => by
    have e := layInts r
    simp [PyData.canLayAll0, PyData.canLay0, e]
theorem shapedL (ns : List Int) : SeqAt.shaped (.list (ns.map PyData.int)) = true := by
  have a := depthInts ns
  have b := layInts ns
  simp [SeqAt.shaped, PyData.canLay0, PyData.depth, a, b]
theorem shapedT (ns : List Int) : SeqAt.shaped (.tuple (ns.map PyData.int)) = true := by
  have a := depthInts ns
  have b := layInts ns
  simp [SeqAt.shaped, PyData.canLay0, PyData.depth, a, b]
theorem eqvInts : ∀ ns ms : List Int, PyData.eqvAll (ns.map PyData.int) (ms.map PyData.int) = decide (ns = ms)
  | [], [] => by simp [PyData.eqvAll]
  | [], m :: r => by simp [PyData.eqvAll]
  | n :: r, [] => by simp [PyData.eqvAll]
  | n :: r, m :: q => by
    have e := eqvInts r q
    simp [PyData.eqvAll, PyData.eqv, e]
    by_cases h : n = m <;> by_cases k : r = q <;> simp [h, k]
theorem eqvL (ns ms : List Int) : PyData.eqv (.list (ns.map PyData.int)) (.list (ms.map PyData.int)) = decide (ns = ms) := by
  rw [← eqvInts]
  simp [PyData.eqv]
section
variable {X : Cx} {L : Lg} {Q : QV} {i j r : Int}
theorem go_divS (c : 0 < j) (d : j < 2 ^ 64) (h : Q (.int (i / j)) L) : GOp X (binaryOp .FloorDiv) (.int i) (.int j) L Q := go_div c (Nat.lt_of_lt_of_le (by omega : j.natAbs < 2 ^ 64) (Nat.pow_le_pow_right (by decide) (by decide))) h
end
theorem idxU {N : List Str} (hn : N.Nodup) {i j : Nat} {x : Str} (h : N[i]? = some x) (k : N[j]? = some x) : i = j := by
  obtain ⟨a1, a2⟩ := List.getElem?_eq_some_iff.mp h
  obtain ⟨b1, b2⟩ := List.getElem?_eq_some_iff.mp k
  exact (List.getElem_inj hn).mp (a2.trans b2.symm)
section
variable {X : Cx} {η : En} {L : Lg} {a b c : Expr} {D : GD}
theorem PutF.at {x : Str} {N : List Str} {i : Nat} {θ : En} {f : V → En} (p : PutF x θ f) (hn : N.Nodup) (hN : N = names θ) (h : N[i]? = some x) (v : V) : vals (f v) = (vals θ).set i (some v) ∧ names (f v) = names θ := by
  obtain ⟨j, h1, h2⟩ := p.idx
  have e : i = j := idxU hn h (by rw [hN]; exact h1)
  subst e
  exact h2 v
theorem gs_par3 {x y z : Str} {f : V → En} {g : V → V → En} {k : V → V → V → En} {px py pz pt pos : Pos} {kt k2 pt2} (p : PutF x η f) (q : ∀ v, PutF y (f v) (g v)) (r : ∀ v w, PutF z (g v w) (k v w))
    (h : GA X [a, b, c] η L fun vs L1 => ∃ u v w, vs = [u, v, w] ∧ D.nx (k u v w) L1)
    (hw : swappedStores [.Tuple [.Name x px, .Name y py, .Name z pz] kt pt] (.Tuple [a, b, c] k2 pt2) X.env = pure (some [x, y, z]) := by rfl) (hxy : x ≠ y := by decide +kernel) (hxz : x ≠ z := by decide +kernel) (hyz : y ≠ z := by decide +kernel) (hn : X.N.Nodup := by assumption) (hc : X.calm = true := by rfl)
    (hx : X.env.scope.names.lookup x = some .local := by rfl) (hy : X.env.scope.names.lookup y = some .local := by rfl) (hz : X.env.scope.names.lookup z = some .local := by rfl)
    (hs : swapsWithSole [.Tuple [.Name x px, .Name y py, .Name z pz] kt pt] (.Tuple [a, b, c] k2 pt2) pos.line X.env = pure false := by rfl) :
    GS X (.Assign [.Tuple [.Name x px, .Name y py, .Name z pz] kt pt] (.Tuple [a, b, c] k2 pt2) pos) D η L := fun hN H hH => by
  obtain ⟨i, h1, h2⟩ := p.idx
  have nf : ∀ v, names (f v) = X.N := fun v => (h2 v).2.trans hN.symm
  obtain ⟨j, g1, _⟩ := (q .non).idx
  rw [nf] at g1
  have ng : ∀ v w, names (g v w) = X.N := fun v w => ((q v).at hn (nf v).symm g1 w).2.trans (nf v)
  obtain ⟨l, k1, _⟩ := (r .non .non).idx
  rw [ng] at k1
  have i1 : X.N[i]? = some x := by rw [hN]; exact h1
  have ne : ∀ {m n : Nat} {s t : Str}, X.N[m]? = some s → X.N[n]? = some t → s ≠ t → m ≠ n := fun hm hn' d e => d (by rw [e, hn'] at hm; exact (Option.some.inj hm).symm)
  refine WS.of (ps_par3 (i := i) (j := j) (l := l) hc hn i1 g1 k1 (ne i1 g1 hxy) (ne i1 k1 hxz) (ne g1 k1 hyz) hx hy hz pa_W hw hs) (h.then hN hH fun vs L1 H1 m1 ⟨u, v, w, e1, q1⟩ => ⟨u, v, w, e1, ?_⟩)
  show upS X D.nx ((((vals η).set i (some u)).set j (some v)).set l (some w)) H1
  have z := (r u v).at hn (ng u v).symm k1 w
  refine ⟨k u v w, L1, (z.2.trans (ng u v)).symm, ?_, m1, q1⟩
  rw [z.1, ((q u).at hn (nf u).symm g1 v).1, (h2 u).1]
end
section
variable {X : Cx} {L : Lg} {Q : QV} {i : Int} {p : Addr}
theorem isN_int (h : Q (.bl false) L) : GOp X (compareOp .Is) (.int i) .non L Q := go_isN h
theorem isN_ref (h : Q (.bl false) L) : GOp X (compareOp .Is) (.ref p) .non L Q := go_isN h
theorem isN_non (h : Q (.bl true) L) : GOp X (compareOp .Is) .non .non L Q := go_isN h
theorem notN_int (h : Q (.bl true) L) : GOp X (compareOp .IsNot) (.int i) .non L Q := go_notN h
theorem notN_ref (h : Q (.bl true) L) : GOp X (compareOp .IsNot) (.ref p) .non L Q := go_notN h
theorem notN_non (h : Q (.bl false) L) : GOp X (compareOp .IsNot) .non .non L Q := go_notN h
end
theorem gu_neg {X : Cx} {L : Lg} {Q : QV} {i : Int} (h : Q (.int (-i)) L) : GUn X (unaryOp .USub) (.int i) L Q := GUn.of un_neg fun H hH => ⟨i, rfl, L, hH, h⟩
/-- the law's own promise; ts: the tables of code objects -/
def spLaw (K : PySem.W.Frag) (ts : Lg) : SpL := fun vs L Q _ => ∃ (a : Addr) (ns : List Int) (M : Lg), vs = [.ref a] ∧ L = ts ++ M ∧ InL K L a (ns.map V.int) ∧ (∀ z ∈ ns, Builtin.Int.intBits z ≤ 1048576) ∧ ∀ M, Q (.bl true) M
abbrev tabsL (ts : List (Addr × Str)) : Lg := ts.map fun p => (p.1, tabM p.2)
/-- the heap that the law begins with: the script, the tables -/
def lawH (K : PySem.W.Frag) (a : Addr) (ob : Obj) (ns : List Int) (ts : List Addr) : Hp := fun b =>
  if b = a then (match K.lookup a with | none => some (.frz ob (.lst (ns.map V.int))) | some _ => none) else if b ∈ ts then some (.tbl #[]) else none
section
variable {K : PySem.W.Frag} {a b : Addr} {ob : Obj} {ns : List Int} {ts : List Addr}
theorem lawH_a (e : K.lookup a = none) : lawH K a ob ns ts a = some (.frz ob (.lst (ns.map V.int))) := by
  unfold lawH
  rw [if_pos rfl, e]
theorem lawH_k {o : Obj} (e : K.lookup a = some o) : lawH K a ob ns ts a = none := by
  unfold lawH
  rw [if_pos rfl, e]
theorem lawH_t (n : b ≠ a) (m : b ∈ ts) : lawH K a ob ns ts b = some (.tbl #[]) := by
  unfold lawH
  rw [if_neg n, if_pos m]
theorem lawH_n (n : b ≠ a) (m : b ∉ ts) : lawH K a ob ns ts b = none := by
  unfold lawH
  rw [if_neg n, if_neg m]
/-- one of the three -/
theorem lawH_way (b : Addr) : (b = a ∧ K.lookup a = none ∧ lawH K a ob ns ts b = some (.frz ob (.lst (ns.map V.int)))) ∨ (b ≠ a ∧ b ∈ ts ∧ lawH K a ob ns ts b = some (.tbl #[])) ∨ lawH K a ob ns ts b = none := by
  by_cases n : b = a
  · subst n
    cases e : K.lookup b with
    | none => exact .inl ⟨rfl, rfl, lawH_a e⟩
    | some o => exact .inr (.inr (lawH_k e))
  · by_cases m : b ∈ ts
    · exact .inr (.inl ⟨n, m, lawH_t n m⟩)
    · exact .inr (.inr (lawH_n n m))
end
section
variable {P : Program} {w : World} {K : PySem.W.Frag} {mg mb : Str → Option Value}
/-- the law's call, from its promise; cs: the code objects with their tables and the names of what stands in these -/
theorem law_run {k : Nat} {fa a : Addr} {cs : List (Addr × Addr × Str)} {t0 : Shared} {vs : List Value} {ns : List Int}
    (KX : K.In t0.heap) (hns : t0.heap.Ns mainGlobals mg) (hb : t0.heap.Ns builtinsNs mb) (hbb : ∀ x : Str, x ≠ "__name__" → mb x = bootBuiltins x) (hlim : t0.heap.NoLimit) (hg : t0.gens = #[])
    (nd : (cs.map fun p => p.2.1).Nodup) (hT : ∀ p ∈ cs, t0.heap.get? p.2.1 = some { cls := .none, data := .fields #[] }) (nT : ∀ p ∈ cs, K.lookup p.2.1 = none) (C : ∀ p ∈ cs, PySem.W.CodeHd t0.heap p.1 p.2.1)
    (hbm : ∃ (bm : Addr) (ob : Obj), mg "__builtins__" = some (.ref bm) ∧ bm ≠ builtinsNs ∧ t0.heap.get? bm = some ob ∧ ob.cls = .type "module" ∧ ob.dict = some builtinsNs ∧ ob.data = .plain)
    (ha : t0.heap.get? a = some { cls := .type "list", data := .seq vs.toArray }) (hi : IntsAre vs ns) (hl : ns.length ≤ sizeLine) (bits : ∀ z ∈ ns, Builtin.Int.intBits z ≤ 1048576) (hr : Room k callerA)
    (F : ∀ base : Heap, K.In base → base.Ns mainGlobals mg → (∀ p ∈ cs, LamX.TabB base mg p.1 p.2.1) → RunG P w K mg base CX0 k fa argsP (toSp (spLaw K (tabsL (cs.map fun p => p.2))))) :
    codeAny (model P w) callerA (.call (.ref fa) ⟨[.ref a], []⟩) (fun r s' => r = .ok (.ret (.bool true)) ∧ OldK t0.heap s'.heap ∧ s'.os = t0.os ∧ AllBare s'.gens) t0 := by
  let ob : Obj := { cls := .type "list", data := .seq vs.toArray }
  let ts : List Addr := cs.map fun p => p.2.1
  let H : Hp := lawH K a ob ns ts
  have way : ∀ b : Addr, (b = a ∧ K.lookup a = none ∧ H b = some (.frz ob (.lst (ns.map V.int)))) ∨ (b ≠ a ∧ b ∈ ts ∧ H b = some (.tbl #[])) ∨ H b = none := lawH_way
  have tsT : ∀ b ∈ ts, ∃ p ∈ cs, p.2.1 = b := fun b hb => List.mem_map.mp hb
  have isT : ∀ b ∈ ts, t0.heap.get? b = some { cls := .none, data := .fields #[] } := fun b hb => by
    obtain ⟨p, hp, e⟩ := tsT b hb
    exact e ▸ hT p hp
  have memT : ∀ p ∈ cs, p.2.1 ∈ ts := fun p hp => List.mem_map.mpr ⟨p, hp, rfl⟩
  have aT : ∀ b ∈ ts, b ≠ a := fun b hb z => by
    have q := (isT b hb).symm.trans (z ▸ ha)
    have q2 : Data.fields #[] = Data.seq vs.toArray _ := congrArg Obj.data (Option.some.inj q)
    cases q2
  have tabH : ∀ p ∈ cs, H p.2.1 = some (.tbl #[]) := fun p hp => lawH_t (aT _ (memT p hp)) (memT p hp)
  have rv := vals_ints hi
  -- what is neither a list nor a table is hidden from H
  have hid : ∀ {b : Addr} {o : Obj}, t0.heap.get? b = some o → (∀ u n, o.data ≠ .seq u n) → o.data ≠ .fields #[] → H b = none := fun {b o} e n1 n2 => by
    rcases way b with ⟨rfl, _, _⟩ | ⟨_, m, _⟩ | z
    · exact absurd (congrArg Obj.data (Option.some.inj (ha.symm.trans e))).symm (n1 _ _)
    · exact absurd (congrArg Obj.data (Option.some.inj ((isT b m).symm.trans e))).symm n2
    · exact z
  let base : Heap := hidT t0.heap H
  have inB : ∀ {b : Addr} {o : Obj}, t0.heap.get? b = some o → H b = none → base.get? b = some o := fun e n => hidT_get e n
  have nsB : ∀ {b : Addr} {m : Str → Option Value}, t0.heap.Ns b m → base.Ns b m := fun {b m} ⟨o, es, ep, e, d, r⟩ => ⟨o, es, ep, inB e (hid e (fun u n z => by rw [d] at z; cases z) fun z => by rw [d] at z; cases z), d, r⟩
  have KB : K.In base := fun b o e => inB (KX b o e) (by
    rcases way b with ⟨rfl, n, _⟩ | ⟨_, m, _⟩ | z
    · exact absurd (n.symm.trans e) (by simp)
    · obtain ⟨p, hp, ep⟩ := tsT b m
      exact absurd ((nT p hp).symm.trans (ep ▸ e)) (by simp)
    · exact z)
  have hM : L2.Mod K mg base := ⟨KB, nsB hns, ⟨mb, nsB hb, hbb⟩, let ⟨mc, h1, h2⟩ := hlim; ⟨mc, nsB h1, h2⟩⟩
  have TB : ∀ p ∈ cs, LamX.TabB base mg p.1 p.2.1 := fun p hp => by
    have tp := hT p hp
    refine ⟨?_, ?_, fun z => ?_⟩
    · obtain ⟨o, us, file, tf, flags, tg, inF, text, tt, e1, r1, r2, r3, rest⟩ := C p hp
      refine ⟨o, us, file, tf, flags, tg, inF, text, tt, inB e1 (hid e1 (fun u n z => ?_) fun z => ?_), r1, r2, r3, rest⟩
      · rw [r2] at z
        cases z
      · rw [r2] at z
        cases z
        simp at r3
    · obtain ⟨bm, o, b1, b2, b3, b4, b5, b6⟩ := hbm
      refine ⟨bm, o, b1, b2, fun q => ?_, fun q => ?_, inB b3 (hid b3 (fun u n z => ?_) fun z => ?_), b4, b5, b6⟩
      · obtain ⟨o2, es, ep, e, hd, _⟩ := hns
        have z := (congrArg Obj.data (Option.some.inj ((q ▸ b3).symm.trans e))).symm.trans b6
        rw [hd] at z
        cases z
      · have z := b6.symm.trans (congrArg Obj.data (Option.some.inj ((q ▸ b3).symm.trans tp)))
        cases z
      · rw [b6] at z
        cases z
      · rw [b6] at z
        cases z
    · obtain ⟨o, es, ep, e, hd, _⟩ := hns
      have q := hd.symm.trans (congrArg Obj.data (Option.some.inj (e.symm.trans (z ▸ tp))))
      cases q
  have hokH : HOk P w H t0.heap := fun b u e => by
    rcases way b with ⟨rfl, _, z⟩ | ⟨_, m, z⟩ | z
    · cases z.symm.trans e
      exact ⟨ha, by rw [List.length_map]; exact hl, vs, _, rv, ha⟩
    · cases z.symm.trans e
      exact isT b m
    · cases z.symm.trans e
  have sq : SqL K H a (ns.map V.int) := by
    cases hk : K.lookup a with
    | none => exact .inl (.inr ⟨ob, lawH_a hk⟩)
    | some o =>
      cases ha.symm.trans (KX a o hk)
      exact .inr ⟨_, vs.toArray, _, hk, rfl, rfl, rfl, by rw [List.size_toArray, hi.length]; exact hl, by simpa using rv⟩
  have e0 : Env0 P w K mg base callerA [] t0 H := ⟨rfl, hM, fun b o e => of_hidT e, Nat.le_of_eq (hidT_size _ _), trivial, fun b z => (List.not_mem_nil z).elim, hokH, .of_eq hg⟩
  -- the ledger: the tables, and the script where it is no object of the module's
  have hsp : toSp (spLaw K (tabsL (cs.map fun p => p.2))) [.ref a] H (fun v _ => v = .bl true) fun _ _ _ => False := by
    have hasT : Has H (tabsL (cs.map fun p => p.2)) := by
      refine ⟨by simpa [tabsL, List.map_map, Function.comp_def] using nd, fun e m => ?_⟩
      obtain ⟨q, hq, rfl⟩ := List.mem_map.mp m
      obtain ⟨p, hp, rfl⟩ := List.mem_map.mp hq
      exact holds_tab' (.nil (tabH p hp))
    cases hk : K.lookup a with
    | some o =>
      refine ⟨_, fun v _ => v = .bl true, NoX, hasT, ⟨a, ns, [], rfl, by rw [List.append_nil], fun H' _ => ?_, bits, fun _ => rfl⟩, fun _ _ _ _ q => q, fun _ _ _ _ _ q => q⟩
      rcases sq with (z | ⟨o2, z⟩) | z
      · exact absurd ((lawH_k hk).symm.trans z) (by simp)
      · exact absurd ((lawH_k hk).symm.trans z) (by simp)
      · exact .inr z
    | none =>
      have ea : H a = some (.frz ob (.lst (ns.map V.int))) := lawH_a hk
      refine ⟨tabsL (cs.map fun p => p.2) ++ [(a, .frz ob (.lst (ns.map V.int)))], fun v _ => v = .bl true, NoX, ?_, ⟨a, ns, _, rfl, rfl, fun H' h' => ?_, bits, fun _ => rfl⟩, fun _ _ _ _ q => q, fun _ _ _ _ _ q => q⟩
      · refine ⟨?_, fun e m => ?_⟩
        · rw [List.map_append]
          refine List.nodup_append.mpr ⟨hasT.1, by simp, fun x hx y hy => ?_⟩
          have hy' : y = a := by simpa using hy
          obtain ⟨e, he, rfl⟩ := List.mem_map.mp hx
          obtain ⟨q, hq, rfl⟩ := List.mem_map.mp he
          obtain ⟨p, hp, rfl⟩ := List.mem_map.mp hq
          rw [hy']
          exact aT _ (memT p hp)
        · rcases List.mem_append.mp m with m | m
          · exact hasT.2 e m
          · obtain rfl : e = (a, _) := by simpa using m
            exact ea
      · exact .inl (.inr ⟨ob, h'.get (List.mem_append_right _ (List.mem_singleton.mpr rfl))⟩)
  refine codeAny_mono (F base KB (nsB hns) TB callerA [] t0 H [.ref a] [.ref a] _ _ ⟨hr, rfl⟩ e0 (.cons rfl .nil) hsp) fun r s' h => ?_
  cases r with
  | error e => exact False.elim h
  | ok fl =>
    cases fl with
    | ret u =>
      obtain ⟨v, H', os, bare, un, hok', r', q⟩ := h
      have q' : v = .bl true := q
      subst q'
      obtain rfl : u = Value.bool true := r'
      have grown : ∀ b ∈ ts, ∃ more : Array Value, s'.heap.get? b = some { cls := .none, data := .fields more } := fun b hb => by
        obtain ⟨more, z⟩ := un.tbls b #[] (lawH_t (aT b hb) hb)
        exact ⟨_, hok' b _ z⟩
      have same : ∀ b o, b ∉ ts → t0.heap.get? b = some o → s'.heap.get? b = some o := fun b o nb e => by
        rcases way b with ⟨_, _, z⟩ | ⟨_, m, _⟩ | z
        · have e1 := (hokH b _ z).1
          have e2 := (hok' b _ (un.frzs b ob _ z)).1
          exact e2.trans (e1.symm.trans e)
        · exact absurd m nb
        · exact un.keep b o e z (fun q => (List.not_mem_nil q).elim) (List.not_mem_nil)
      refine ⟨rfl, ⟨fun b o e => ?_, fun b o e => ?_⟩, os, bare⟩
      · by_cases hb : b ∈ ts
        · obtain ⟨more, hm⟩ := grown b hb
          obtain ⟨p, hp, rfl⟩ := tsT b hb
          cases (hT p hp).symm.trans e
          exact .inr (.inl ⟨((C p hp).tab (hT p hp)).isCodeTable, rfl, #[], more, rfl, by rw [Array.empty_append]; exact hm⟩)
        · exact .inl (same b o hb e)
      · by_cases hb : b ∈ ts
        · obtain ⟨more, hm⟩ := grown b hb
          exact ⟨_, hm⟩
        · exact ⟨o, same b o hb e⟩
    | next => exact False.elim h
    | brk => exact False.elim h
    | cont => exact False.elim h
end
/-- what the end wants of the law at the head's heap h: cs, the makers of lambdas by name, with their code objects, tables, and what stands in these -/
def LawG (q : Program) (P : Program) (w : World) (K : PySem.W.Frag) (k : Nat) (mg : Str → Option Value) (fa : Addr) : Prop :=
  ∃ cs : List (Str × Addr × Addr × Str), (cs.map fun p => p.2.2.1).Nodup ∧ (∀ p ∈ cs, PySem.W.tabIn K p.1 = some (p.2.1, p.2.2.1) ∧ ((recsOf q).find? fun e => e.name == p.1).isSome = true ∧ K.lookup p.2.2.1 = none) ∧
    ∀ base : Heap, K.In base → base.Ns mainGlobals mg → (∀ p ∈ cs, LamX.TabB base mg p.2.1 p.2.2.1) → RunG P w K mg base CX0 k fa argsP (toSp (spLaw K (tabsL (cs.map fun p => p.2.2))))
theorem walkG {l : PySem.W.OpenLaw} {n k : Nat} {q : Program} {loose : List Str} {XP : (Str → Option Value) → Heap → Prop} {YP : World → Heap → Prop} {d : DefRec} {K : Params → PySem.W.Frag}
    (hn : l.most = some n) (hn2 : n ≤ sizeLine) (hdf : d.params.defaults = []) (hr : Room k callerA) (hY : ∀ (w : World) (h : Heap), YP w h → (K w.params).In h)
    (F : ∀ (w : World) (mg : Str → Option Value) (fa : Addr) (h : Heap), (K w.params).In h → h.Ns mainGlobals mg → mg d.name = some (.ref fa) → LawG q l.prog w (K w.params) k mg fa) : PySem.W.WalkO q loose XP YP l.row.toRowW d [] (fun f vs => PySem.call f vs) := by
  refine Att.attach_callB hn hdf fun w s₀ t0 mg mb fa o pm cd doc a vs ns G Y ho hd hcd hmg hobj hints hlen hbits hg => ?_
  have KX := hY w _ Y
  obtain ⟨cs, nd, hcs, hF⟩ := F w mg fa _ KX G.T.g hmg
  have tb : ∀ p ∈ cs, PySem.W.CodeHd t0.heap p.2.1 p.2.2.1 ∧ t0.heap.get? p.2.2.1 = some { cls := .none, data := .fields #[] } := fun p hp => by
    obtain ⟨e1, e2, _⟩ := hcs p hp
    obtain ⟨dr, e3⟩ := Option.isSome_iff_exists.mp e2
    exact PySem.W.tab_of G.T KX e3 e1
  have up : ∀ {φ : Addr × Addr × Str → Prop}, (∀ p ∈ cs, φ p.2) → ∀ p ∈ cs.map (·.2), φ p := fun {φ} h p hp => by
    obtain ⟨p', h', rfl⟩ := List.mem_map.mp hp
    exact h p' h'
  refine law_run (cs := cs.map (·.2)) KX G.T.g G.T.b G.T.builtins G.T.nolimit hg (by rw [List.map_map]; exact nd) (up fun p hp => (tb p hp).2) (up fun p hp => (hcs p hp).2.2) (up fun p hp => (tb p hp).1) G.T.bmain hobj hints (Nat.le_trans hlen hn2) hbits hr fun base h1 h2 h3 => ?_
  rw [List.map_map]
  exact hF base h1 h2 fun p hp => h3 p.2 (List.mem_map.mpr ⟨p, hp, rfl⟩)
/-- the law's own entry -/
theorem fn_entry {P : Program} {w : World} {K : PySem.W.Frag} {mg : Str → Option Value} {base : Heap} {x : Str} {st : Stmt} {N ps : List Str} {k : Nat} {sp : SpL} {f : Addr} {fd : FuncData} (F : Fun K x x st f fd) (S : FnScope N ps (defScope st))
    (hb : ∀ (kV doc pm : Value) (an : Option Addr) (cdv ct : Value) (us : List Value), us.length = ps.length → bindArgs (PySem.W.fnOf x x (defArgs st) (defBody st) (defScope st) .none kV doc pm an cdv ct) ⟨us, []⟩ = pure (ps.zip us))
    (hl : ps.length ≤ N.length) (len : ∀ vs L Q E, sp vs L Q E → vs.length = ps.length) (body : BodyOf P w K mg base N x st k sp) : RunG P w K mg base CX0 (k + 1) f argsP (toSp sp) := run_plain F S argsP id id (fun _ _ r => r) hb hl len body
end G
set_option Elab.async false
set_option linter.all false
set_option maxRecDepth 100000
set_option maxHeartbeats 4000000
namespace G
open PySem PySem.Spec PyProof.Rows L2 NdefX
def AtSs (X : Cx) (B sts : List Stmt) : TS := fun D σ H => ∀ pins s, Inv X pins σ H s → _root_.PySem.wpAt (model X.prog X.w) X.A (.func B X.env) (execs sts X.env) (SP X pins D) X.xe s
theorem AtSs.any {X : Cx} {B sts : List Stmt} {D : Ends} {σ : L2.St} {H : Hp} (h : WSs X sts D σ H) : AtSs X B sts D σ H := fun pins s I => _root_.PySem.wpAt_of_wpAny (h pins s I)
/-- the words of a method that says super() -/
abbrev nfS (x q : Str) (st : Stmt) (cc c : Addr) : NF := ⟨x, q, defArgs st, defBody st, defScope st, [("__class__", cc)], c⟩
structure SupF (P : Program) (K : PySem.W.Frag) (x q : Str) (st : Stmt) (f c cc D : Addr) (fd : FuncData) : Prop where
  ex : ∃ (oc : Value) (od : Option Addr) (kV doc pm ct : Value) (an : Option Addr) (osl : Array (Option Value)), fd = PySem.W.fnX x q (defArgs st) (defBody st) (defScope st) [("__class__", cc)] .none kV doc pm an (.ref c) ct ∧ K.lookup f = some ⟨oc, od, .func fd, osl⟩
  cd : PySem.W.codeIn K (.ref c) q = true
  cell : ∃ (cl : Value) (cld : Option Addr) (csl : Array (Option Value)), K.lookup cc = some ⟨cl, cld, .cell (some (.ref D)), csl⟩
  file : ∃ (ccl : Value) (cdd : Option Addr) (vs : Array Value) (ccs : Array (Option Value)) (fl : Str) (tf : Tok), K.lookup c = some ⟨ccl, cdd, .fields vs, ccs⟩ ∧ vs[2]? = some (.str fl tf) ∧ (P.main.file == fl) = true
  cls : ∃ cd, PySem.W.clsIn K D = some cd
  top : (P.main.scope.names.lookup ("super" : Str)).isSome = false
section
variable {CX : CXT} {P : Program} {w : World} {K : PySem.W.Frag} {mg : Str → Option Value} {base : Heap} {N ps : List Str} {x q : Str} {st : Stmt} {f c cc D : Addr} {fd : FuncData} {k : Nat} {sp : Sp}
theorem SupF.cells (F : SupF P K x q st f c cc D fd) {A : Around} {outer : List Env} {s : Shared} {H : Hp} (e0 : Env0 P w K mg base A outer s H) : CellsAt [("__class__", cc)] ["__class__"] [none] s.heap H := by
  obtain ⟨cl, cld, csl, hc⟩ := F.cell
  have look : ∀ {y : Str} {a : Addr}, List.lookup y [(("__class__" : Str), cc)] = some a → y = "__class__" ∧ a = cc := fun {y a} e => by
    by_cases hy : y = "__class__"
    · subst hy
      simp [List.lookup] at e
      exact ⟨rfl, e.symm⟩
    · have z : (y == ("__class__" : Str)) = false := by simpa using hy
      simp [List.lookup, z] at e
  have hb := e0.bs cc _ (e0.mod.kin _ _ hc)
  refine ⟨rfl, fun y a e => ?_, fun y z a e1 e2 => (look e1).1.trans (look e2).1.symm, fun i y e => ?_⟩
  · obtain ⟨_, rfl⟩ := look e
    exact ⟨hb.2, _, _, hb.1, rfl⟩
  · cases i with
    | zero =>
      have e' : some ("__class__" : Str) = some y := e
      cases e'
      exact ⟨cc, by simp [List.lookup], fun v z => by cases z⟩
    | succ i => cases e
/-- such a method keeps its promise -/
theorem SupF.ok (F : SupF P K x q st f c cc D fd) (S : NScope N ps ["__class__"] (defScope st)) (len : ∀ vs H Q E, sp vs H Q E → vs.length = ps.length)
    (body : ∀ (A : Around) (outer : List Env) (s : Shared) (H : Hp) (vs : List V) (Q : VK) (E : XK), Room k (A.deeper (envF (nfS x q st cc c) f s.heap.objs.size)) → sp vs H Q E →
      AtSs (ncx CX P w K mg base N (nfS x q st cc c) f A outer s H E) (defBody st) (defBody st) { nx := fun _ H' => Q .non H', rt := Q } (startF N vs [none]) H) : FnOk P w K mg base CX (k + 1) f fd ps sp := by
  refine ⟨len, fun A outer s H args us vs Q E hr e0 hb r hsp => ?_⟩
  obtain ⟨oc, od, kV, doc, pm, ct, an, osl, rfl, lk⟩ := F.ex
  have KX : K.In s.heap := e0.mod.kin.keeps fun b o e => (e0.bs b o e).1
  have lim : s.heap.NoLimit := e0.mod.nolimit.keeps fun b o e => (e0.bs b o e).1
  refine _root_.PySem.ks_codeAny_call_defAt (body := defBody st) hr.depth (KX _ _ lk) rfl lim (PySem.W.codeRec_of KX F.cd) rfl hb S.nocell (fun ⟨n, _⟩ hy => S.par n (List.of_mem_zip hy).1) (fun h₁ hns kp => ?_) S.co S.gen S.kind
  have I : Inv (ncx CX P w K mg base N (nfS x q st cc c) f A outer s H E) [] (startF N vs [none]) H { s with heap := h₁, toks := s.toks + (ps.zip us).length } := inv_startN S hr.hd e0 (len _ _ _ _ hsp) r (F.cells e0) hns kp
  refine _root_.PySem.wpAt_mono (body A outer s H vs Q E (hr.deeper _) hsp [] _ I) (fun fl s' hs => ?_) fun e s' hs => hs
  have fin : ∀ {σ' : L2.St} {H' : Hp} {v : V} {u : Value}, Inv (ncx CX P w K mg base N (nfS x q st cc c) f A outer s H E) [] σ' H' s' → L2.RelV v u → Q v H' → CE outer P w H s Q u s' := fun {σ' H' v u} J rv qq => ⟨v, H', J.os, J.bare, J.base, J.hok, rv, qq⟩
  cases fl with
  | ret u =>
    obtain ⟨v, σ', H', J, rv, qq⟩ := hs
    exact fin J rv qq
  | next =>
    obtain ⟨σ', H', J, qq⟩ := hs
    exact fin (v := V.non) (u := Value.none) J rfl qq
  | brk => exact hs.elim fun _ z => z.elim fun _ z => z.2.elim
  | cont => exact hs.elim fun _ z => z.elim fun _ z => z.2.elim
end
/-- ValueError.__init__ bound to the error at x -/
def mwO (x u : Addr) : HO := .ext fun h => h.get? u = some (PySem.W.kxs_mw "ValueError.__init__" x)
theorem mwO_ok {P : Program} {w : World} {H : Hp} {h : Heap} {x u : Addr} (e : h.get? u = some (PySem.W.kxs_mw "ValueError.__init__" x)) : ObjOk P w H h u (mwO x u) := ⟨e, ⟨_, e⟩, fun _ _ z k => k _ z⟩
theorem mwO_at {P : Program} {w : World} {H : Hp} {h : Heap} {x u : Addr} (hok : HOk P w H h) (e : H u = some (mwO x u)) : h.get? u = some (PySem.W.kxs_mw "ValueError.__init__" x) := by
  obtain ⟨z, _, _⟩ := hok u _ e
  exact z
section
variable {prog : Program} {w : World} {A : Around} {E : Value → Shared → Prop} {h : Heap} {g : Array GenState} {d : Drawn} {t : Nat} {os : OsState}
variable {nm q : Str} {C N : Addr} {bs bm : List Value} {hdct : Bool} {sn : List Str} {sub : List Value} {ab : Bool} {col : Option Bool} {dd : Option Addr} {k0 k1 k2 k3 k5 : Option Value}
theorem call_mw {u e t0 : Addr} {us : List Value} {Q : Value → Shared → Prop} (hC : h.get? C = some (excClassObj nm q C N bs bm hdct sn sub ab col dd k0 k1 k2 k3 k5 "ValueError.__new__")) (he : h.get? e = some (PySem.HandSPX.excO C t0))
    (hu : h.get? u = some (PySem.W.kxs_mw "ValueError.__init__" e)) (hl : us.length ≤ sizeLine) (hq : ∀ h' t1, (∀ b o, b ≠ e → h.get? b = some o → h'.get? b = some o) → h'.get? e = some (PySem.HandSPX.excO C t1) → Q .none ⟨h', g, d, t, os⟩) :
    wpAny (model prog w) A (call (.ref u) us) Q E ⟨h, g, d, t, os⟩ := by
  refine wpAny_call (codeAny_of_tree (show wpAny _ A.in1 (callAny (.ref u) ⟨us, []⟩) _ _ _ from ?_))
  unfold callAny
  refine wpAny_bind (wpAny_load hu ?_)
  show wpAny _ _ (if (Value.type "method-wrapper" == Value.type "method" || Value.type "method-wrapper" == Value.type "builtin_function_or_method" || Value.type "method-wrapper" == Value.type "method-wrapper") = true then _ else _) _ _ _
  rw [if_pos (by decide)]
  refine PySem.W.KFB.if_so (show (Value.type "method-wrapper" != Value.type "method") = true by decide) (wpAny_bind (PySem.W.check_bound_init F.excBase_ValueError.toExcCallFacts hC he rfl (wpAny_bind (wpAny_pure (wpAny_pure ⟨_root_.PySem.plainId_quiet F.excBase_ValueError.init.plain _, codeAny_builtin F.excBase_ValueError.initEntry ?_⟩)))))
  exact PySem.W.exc_init_tree (cls := .ref C) (t0 := t0) (dv := none) (c2 := .none) (c3 := .none) (b4 := .bool false) he hl fun h' k e1 _ => hq h' _ k e1
end
section
variable {X : Cx} {B rest : List Stmt} {D : Ends} {σ : L2.St} {H : Hp} {x q : Str} {st : Stmt} {f c cc D0 C a : Addr} {fd : FuncData} {i : Nat} {ar : Arg} {ta : TA} {e : Expr} {es : List Expr} {p0 p1 p2 p3 p4 : Pos} {pl : Sem Bool}
theorem at_supx (F : SupF X.prog X.K x q st f c cc D0 fd) (hfu : X.env.func = some f) (hco : X.env.code = .ref c) (hcl : X.env.cells.lookup ("__class__" : Str) = some cc) (hp : (fd.params.posonlyargs ++ fd.params.args).head? = some ar)
    (hks : X.env.kindOf "super" = some .globalImplicit) (hkc : X.env.kindOf "__class__" = some .free) (hka : X.env.kindOf ar.arg = some .local) (hm : X.mg "super" = none)
    (T : OexC X.K C) (sm : PySem.W.ks_superIn X.K C D0 "__init__" = some (some (.builtin "ValueError.__init__"))) (sub : PySem.W.mroIn X.K C (.ref D0) = some true) (sV : PySem.W.subIn X.K (.ref C) (.type "ValueError") = some true)
    (op : PySem.W.nsIn X.K cStatics "thirdparty.any" = some none) (hi : X.N[i]? = some ar.arg) (hs : σ[i]? = some (some (.ref a))) (ha : H a = some (exo a C none)) (pa : PA X (e :: es) ta)
    (h : ∀ u, H u = none → ta σ (upd H u (mwO a u)) fun vs H1 => vs.length ≤ 1000 ∧ H1 u = some (mwO a u) ∧ H1 a = some (exo a C none) ∧ AtSs X B rest D σ H1)
    (he : starEach (e :: es) X.env = (false, eval e X.env) :: starEach es X.env := by rfl) (hpl : (backTo p3 (starEach es X.env)).any (·.1) = false := by rfl) (hint : interactive X.env = false := by rfl)
    (hsw : swapsWith (.Call (.Attribute (.Call (.Name "super" p0) [] [] p1) "__init__" p2) (e :: es) [] p3) none p4.line X.env = pure false := by rfl)
    (hev : eval (.Call (.Attribute (.Call (.Name "super" p0) [] [] p1) "__init__" p2) (e :: es) [] p3) X.env = (do
      let ov ← attributeBase (.Call (.Name "super" p0) [] [] p1) "__init__" X.env (eval (.Call (.Name "super" p0) [] [] p1) X.env)
      standAt p2.atName
      let (ff, first) ← holding [ov] (getMethod ov "__init__" pl)
      callWith p3 ff first (backTo p3 (starEach (e :: es) X.env)) []) := by rfl) :
    AtSs X B (.Expr (.Call (.Attribute (.Call (.Name "super" p0) [] [] p1) "__init__" p2) (e :: es) [] p3) p4 :: rest) D σ H := fun pins s I => by
  obtain ⟨oc, od, kV, doc, pm, ct, an, osl, efd, lk⟩ := F.ex
  obtain ⟨ccl, cdd, vs, ccs, fl, tf, lc, hvs, hfile⟩ := F.file
  obtain ⟨cl, cld, csl, hcell⟩ := F.cell
  obtain ⟨cdD, hD⟩ := F.cls
  obtain ⟨mb, hb1, hb2⟩ := I.mod.blt
  obtain ⟨oD, hD1, hD2⟩ : ∃ oD, s.heap.get? D0 = some oD ∧ oD.data = .cls cdD := by
    unfold PySem.W.clsIn at hD
    split at hD
    · rename_i c' d' cd' sl' ho
      cases hD
      exact ⟨_, I.kIn _ _ ho, rfl⟩
    · cases hD
  obtain ⟨nm, qn, NN, bs, bm, sn, sb, ab, col, dd, k0, k1, k2, k3, k5, hC, hbm⟩ := T.cls
  have hcC : PySem.W.clsIn X.K C = some { name := nm, bases := bs, mro := .ref C :: bm, ns := NN, qualname := qn, hasDict := true, slotNames := sn, subclasses := sb, abstract := ab, collection := col, hasDel := false } := by unfold PySem.W.clsIn; rw [hC] <;> rfl
  obtain ⟨t0, hx⟩ := exo_at I.hok ha
  have IA : PySem.W.InstAt s.heap a _ C none := ⟨hx, rfl, rfl, trivial⟩
  have xC : a ≠ C := PySem.W.ks_ne I.kIn IA hcC
  refine _root_.PySem.ks_wpAt_execs_cons (_root_.PySem.ks_wpAt_Expr_any (_root_.PySem.ks_wpAt_MethodCall (pl := pl) (_root_.PySem.ks_wpAt_super_base hks hkc rfl hfu (I.kIn _ _ lk) rfl hp hco (I.kIn _ _ lc) rfl hvs hfile F.top ?_) hev) hint hsw)
  refine PySem.W.ks_loadName_global I.ok.kind hks (Calls.loadGlobal_builtin (by rw [I.ok.glob]; exact I.mod.glob.keeps I.bk) hm (by rw [I.ok.blt]; exact hb1.keeps I.bk) ((hb2 _ (by decide)).trans (by decide +kernel)) ⟨rfl, ?_⟩)
  refine wpAny_loadName_free I.ok.kind hkc hcl ⟨_, I.kIn _ _ hcell, rfl⟩ ?_
  obtain ⟨m, hn, hl⟩ := id I.loc
  obtain ⟨u, r, qq⟩ := hl i _ _ hi hs (.inl hka)
  obtain rfl : u = Value.ref a := r
  rcases qq with ⟨_, em⟩ | ⟨k, _⟩
  · refine wpAny_loadName_local I.ok.kind hka hn em ?_
    obtain ⟨hp', g, d, t, os⟩ := s
    refine _root_.PySem.ks_wpAny_isType_cls hD1 hD2 ⟨rfl, ?_⟩
    refine _root_.PySem.ks_wpAny_call_super hD1 hD2 hx rfl (fun c e => by cases e) (PySem.W.looks_mroIn I.kIn sub) (fun h' eS kS => ?_)
    have J1 : Inv X pins σ H ⟨h', g, d, t, os⟩ := I.kept (t' := t) kS
    have IA1 : PySem.W.InstAt h' a _ C none := ⟨kS _ _ hx, rfl, rfl, trivial⟩
    have sm' := sm
    unfold PySem.W.ks_superIn at sm'
    rw [hcC] at sm'
    refine PySem.W.kxs_getMethod PySem.W.kxs_ValueError eS (PySem.W.looks_opaque J1.kIn op) ((PySem.W.looks_clsIn J1.kIn hcC).andThen .now) rfl J1.kIn sm' (IA1.type.andThen (PySem.W.looks_subIn J1.kIn sV)) xC rfl ?_
    have nu : H h'.objs.size = none := J1.hok.fresh (Nat.le_refl _)
    have J2 : Inv X pins σ (upd H h'.objs.size (mwO a h'.objs.size)) ⟨h'.push (PySem.W.kxs_mw "ValueError.__init__" a), g, d, t + 1, os⟩ :=
      J1.laid (t' := t + 1) (a := h'.objs.size) (fun b o z => Heap.get?_push_of_some _ z) (Nat.le_refl _) (mwO_ok (Heap.get?_push_size _ rfl))
    show wpAny _ _ (callWith p3 (Value.ref h'.objs.size) [] (backTo p3 (starEach (e :: es) X.env)) []) _ _ _
    have hpa := pa.run p3 pins _ σ _ _ J2 (h _ nu)
    rw [he] at hpa ⊢
    refine PySem.W.kxs_callWith (i := "ValueError.__init__") (x := a) (by show (false || (backTo p3 (starEach es X.env)).any (·.1)) = false; rw [hpl]; rfl) (Calls.evalArgs_plain (thn hpa fun us s1 ⟨vs', H1, J3, r1, hlen, e1, e2, qk⟩ => ?_))
    refine ⟨mwO_at J3.hok e1, ?_⟩
    show wpAny _ _ (call (Value.ref h'.objs.size) us) _ _ _
    obtain ⟨t1, hx1⟩ := exo_at J3.hok e2
    have hul : us.length ≤ sizeLine := by
      rw [← Paired.length r1, sizeLine_eq]
      omega
    have hCx := J3.kIn _ _ hC
    have hmw := mwO_at J3.hok e1
    obtain ⟨h1, g1, d1, t1', os1⟩ := s1
    refine call_mw hCx hx1 hmw hul (fun h2 t2 k2 hx2 => ?_)
    have J4 := J3.write (t' := t1') (x := a) (e := a) (o := exo a C none) (by rw [e2]; exact True.intro) (.inl rfl) k2 ⟨_, hx2⟩ (exo_ok hx2)
    have eu : upd H1 a (exo a C none) = H1 := by
      funext b
      by_cases hb : b = a
      · rw [hb, upd_same, e2]
      · rw [upd_ne hb]
    rw [eu] at J4
    exact qk pins _ J4
  · rcases k with k | k
    · have z := k.symm.trans hka
      cases z
    · have z := k.symm.trans hka
      cases z
end
/-- what the written part says of the error class at C, named x, with the fields ns -/
structure ErrK (K : PySem.W.Frag) (mg : Str → Option Value) (x : Str) (C fI : Addr) (ns : List Str) : Prop where
  gC : mg x = some (.ref C)
  T : OexC K C
  iC : PySem.W.findIn K (.ref C) "__init__" = some (some (.ref fI))
  tI : PySem.W.typeIn K (.ref fI) = some (.type "function")
  no : ∀ n ∈ ns, PySem.W.findIn K (.ref C) n = some none
  sm : PySem.W.ks_superIn K C C "__init__" = some (some (.builtin "ValueError.__init__"))
  sub : PySem.W.mroIn K C (.ref C) = some true
  sV : PySem.W.subIn K (.ref C) (.type "ValueError") = some true
  op : PySem.W.nsIn K cStatics "thirdparty.any" = some none
  su : mg "super" = none
/-- __init__ keeps: the fields stand in a new dict -/
def spErr (C : Addr) (ns : List Str) : Sp := fun vs H Q _ => ∃ (a : Addr) (ws : List V), vs = .ref a :: ws ∧ ws.length = ns.length ∧ H a = some (exo a C none) ∧
  ∀ u d, H u = none → d ≠ u → d ≠ a → u ≠ a → H d = none → Q .non (upd (upd (upd H u (mwO a u)) d (exd d (ns.zip ws).reverse)) a (exo a C (some d)))
section
variable {P : Program} {w : World} {K : PySem.W.Frag} {mg : Str → Option Value} {base : Heap} {x q : Str} {st : Stmt} {f c cc C : Addr} {fd : FuncData} {n m : Str} {pa0 : Arg} {p0 p1 p2 p3 p4 p5 p6 q0 q1 q2 q3 r0 r1 r2 r3 : Pos}
theorem clsCell {cc : Addr} : List.lookup ("__class__" : Str) [(("__class__" : Str), cc)] = some cc := by simp [List.lookup]
/-- super().__init__(n); self.n = n -/
theorem err1_ok (F : SupF P K "__init__" q st f c cc C fd) (G : ErrK K mg x C f [n]) (S : NScope ["self", n, "__class__"] ["self", n] ["__class__"] (defScope st))
    (eb : defBody st = [.Expr (.Call (.Attribute (.Call (.Name "super" p0) [] [] p1) "__init__" p2) [.Name n p3] [] p4) p5, .Assign [.Attribute (.Name "self" q0) n q1] (.Name n q2) q3])
    (hp : (fd.params.posonlyargs ++ fd.params.args).head? = some pa0) (h0 : pa0.arg = "self") (hks : (defScope st).names.lookup ("super" : Str) = some .globalImplicit)
    (hint : ∀ L, interactive (envF (nfS "__init__" q st cc c) f L) = false)
    (hsw1 : ∀ L, swapsWith (.Call (.Attribute (.Call (.Name "super" p0) [] [] p1) "__init__" p2) [.Name n p3] [] p4) none p5.line (envF (nfS "__init__" q st cc c) f L) = pure false)
    (hev : ∀ L, ∃ pl : Sem Bool, eval (.Call (.Attribute (.Call (.Name "super" p0) [] [] p1) "__init__" p2) [.Name n p3] [] p4) (envF (nfS "__init__" q st cc c) f L) = (do
      let ov ← attributeBase (.Call (.Name "super" p0) [] [] p1) "__init__" (envF (nfS "__init__" q st cc c) f L) (eval (.Call (.Name "super" p0) [] [] p1) (envF (nfS "__init__" q st cc c) f L))
      standAt p2.atName
      let (ff, first) ← holding [ov] (getMethod ov "__init__" pl)
      callWith p4 ff first (backTo p4 (starEach [.Name n p3] (envF (nfS "__init__" q st cc c) f L))) []))
    (hsw2 : ∀ L, swapsWith (.Name n q2) (some (.Attribute (.Name "self" q0) n q1)) q3.line (envF (nfS "__init__" q st cc c) f L) = pure false) (hdb : (n == ("__debug__" : Str)) = false) (hcd : (n == ("__classdict__" : Str)) = false) : FnOk P w K mg base CX0 1 f fd ["self", n] (spErr C [n]) := by
  refine F.ok S (fun vs H Q E h => ?_) (fun A outer s H vs Q E hr h => ?_)
  · obtain ⟨a, ws, rfl, hl, _⟩ := h
    simpa using hl
  · obtain ⟨a, ws, rfl, hl, ha, hq⟩ := h
    match ws, hl with
    | [v], _ =>
      obtain ⟨pl, hev⟩ := hev s.heap.objs.size
      rw [eb]
      have vn : Vis (defScope st) n := .inl (S.par n (by simp))
      have hself : (defScope st).names.lookup ("self" : Str) = some .local := S.par "self" (by simp)
      have pN : PE (ncx CX0 P w K mg base ["self", n, "__class__"] (nfS "__init__" q st cc c) f A outer s H E) (.Name n p3) (tVar 1) := pe_var rfl vn hdb hcd
      refine at_supx (i := 0) F rfl rfl clsCell hp hks (S.frk "__class__" (by simp)) (by rw [h0]; exact hself) G.su G.T G.sm G.sub G.sV G.op (by rw [h0]; rfl) rfl ha (pa_cons pN pa_nil) (fun u hu => ?_) (hint := hint _) (hsw := hsw1 _) (hev := hev)
      have ua : u ≠ a := fun z => by
        rw [z, ha] at hu
        cases hu
      refine ⟨v, rfl, by show 1 ≤ 1000; decide, upd_same, ?_, .any ?_⟩
      · rw [upd_ne (Ne.symm ua)]
        exact ha
      · refine WSs.of (pss_one (ps_ost (pe_var (i := 0) rfl (.inl hself)) (pe_var (i := 1) rfl vn hdb hcd) (hsw2 _))) ?_
        refine ⟨v, rfl, .ref a, rfl, a, C, rfl, G.T, G.no n (by simp), .inl ⟨?_, fun d hd hda => ?_⟩⟩
        · rw [upd_ne (Ne.symm ua)]
          exact ha
        · have du : d ≠ u := fun z => by
            rw [z, upd_same] at hd
            cases hd
          rw [upd_ne du] at hd
          exact hq u d hu du hda ua hd
/-- super().__init__(n, m); self.n = n; self.m = m -/
theorem err2_ok (F : SupF P K "__init__" q st f c cc C fd) (G : ErrK K mg x C f [n, m]) (S : NScope ["self", n, m, "__class__"] ["self", n, m] ["__class__"] (defScope st))
    (eb : defBody st = [.Expr (.Call (.Attribute (.Call (.Name "super" p0) [] [] p1) "__init__" p2) [.Name n p3, .Name m p6] [] p4) p5, .Assign [.Attribute (.Name "self" q0) n q1] (.Name n q2) q3, .Assign [.Attribute (.Name "self" r0) m r1] (.Name m r2) r3])
    (hp : (fd.params.posonlyargs ++ fd.params.args).head? = some pa0) (h0 : pa0.arg = "self") (hks : (defScope st).names.lookup ("super" : Str) = some .globalImplicit)
    (hint : ∀ L, interactive (envF (nfS "__init__" q st cc c) f L) = false)
    (hsw1 : ∀ L, swapsWith (.Call (.Attribute (.Call (.Name "super" p0) [] [] p1) "__init__" p2) [.Name n p3, .Name m p6] [] p4) none p5.line (envF (nfS "__init__" q st cc c) f L) = pure false)
    (hev : ∀ L, ∃ pl : Sem Bool, eval (.Call (.Attribute (.Call (.Name "super" p0) [] [] p1) "__init__" p2) [.Name n p3, .Name m p6] [] p4) (envF (nfS "__init__" q st cc c) f L) = (do
      let ov ← attributeBase (.Call (.Name "super" p0) [] [] p1) "__init__" (envF (nfS "__init__" q st cc c) f L) (eval (.Call (.Name "super" p0) [] [] p1) (envF (nfS "__init__" q st cc c) f L))
      standAt p2.atName
      let (ff, first) ← holding [ov] (getMethod ov "__init__" pl)
      callWith p4 ff first (backTo p4 (starEach [.Name n p3, .Name m p6] (envF (nfS "__init__" q st cc c) f L))) []))
    (hsw2 : ∀ L, swapsWith (.Name n q2) (some (.Attribute (.Name "self" q0) n q1)) q3.line (envF (nfS "__init__" q st cc c) f L) = pure false) (hsw3 : ∀ L, swapsWith (.Name m r2) (some (.Attribute (.Name "self" r0) m r1)) r3.line (envF (nfS "__init__" q st cc c) f L) = pure false)
    (hdb : (n == ("__debug__" : Str)) = false) (hcd : (n == ("__classdict__" : Str)) = false) (mdb : (m == ("__debug__" : Str)) = false) (mcd : (m == ("__classdict__" : Str)) = false) : FnOk P w K mg base CX0 1 f fd ["self", n, m] (spErr C [n, m]) := by
  refine F.ok S (fun vs H Q E h => ?_) (fun A outer s H vs Q E hr h => ?_)
  · obtain ⟨a, ws, rfl, hl, _⟩ := h
    simpa using hl
  · obtain ⟨a, ws, rfl, hl, ha, hq⟩ := h
    match ws, hl with
    | [v, z], _ =>
      obtain ⟨pl, hev⟩ := hev s.heap.objs.size
      rw [eb]
      have vn : Vis (defScope st) n := .inl (S.par n (by simp))
      have vm : Vis (defScope st) m := .inl (S.par m (by simp))
      have hself : (defScope st).names.lookup ("self" : Str) = some .local := S.par "self" (by simp)
      have pN : PE (ncx CX0 P w K mg base ["self", n, m, "__class__"] (nfS "__init__" q st cc c) f A outer s H E) (.Name n p3) (tVar 1) := pe_var rfl vn hdb hcd
      have pM : PE (ncx CX0 P w K mg base ["self", n, m, "__class__"] (nfS "__init__" q st cc c) f A outer s H E) (.Name m p6) (tVar 2) := pe_var rfl vm mdb mcd
      refine at_supx (i := 0) F rfl rfl clsCell hp hks (S.frk "__class__" (by simp)) (by rw [h0]; exact hself) G.su G.T G.sm G.sub G.sV G.op (by rw [h0]; rfl) rfl ha (pa_cons pN (pa_cons pM pa_nil)) (fun u hu => ?_) (hint := hint _) (hsw := hsw1 _) (hev := hev)
      have ua : u ≠ a := fun y => by
        rw [y, ha] at hu
        cases hu
      refine ⟨v, rfl, z, rfl, by show 2 ≤ 1000; decide, upd_same, ?_, .any ?_⟩
      · rw [upd_ne (Ne.symm ua)]
        exact ha
      · refine WSs.of (pss_cons (ps_ost (pe_var (i := 0) rfl (.inl hself)) (pe_var (i := 1) rfl vn hdb hcd) (hsw2 _)) (pss_one (ps_ost (pe_var (i := 0) rfl (.inl hself)) (pe_var (i := 2) rfl vm mdb mcd) (hsw3 _)))) ?_
        refine ⟨v, rfl, .ref a, rfl, a, C, rfl, G.T, G.no n (by simp), .inl ⟨?_, fun d hd hda => ?_⟩⟩
        · rw [upd_ne (Ne.symm ua)]
          exact ha
        · have du : d ≠ u := fun y => by
            rw [y, upd_same] at hd
            cases hd
          rw [upd_ne du] at hd
          refine ⟨z, rfl, .ref a, rfl, a, C, rfl, G.T, G.no m (by simp), .inr ⟨d, _, upd_same, by rw [upd_ne hda, upd_same], by show 1 ≤ 900; decide, ?_⟩⟩
          have key := hq u d hu du hda ua hd
          have e : upd (upd (upd (upd H u (mwO a u)) d (exd d [(n, v)])) a (exo a C (some d))) d (exd d [(m, z), (n, v)]) = upd (upd (upd H u (mwO a u)) d (exd d [(m, z), (n, v)])) a (exo a C (some d)) := by
            funext b
            by_cases hb : b = d
            · subst hb
              rw [upd_same, upd_ne hda, upd_same]
            · rw [upd_ne hb]
              by_cases h2 : b = a
              · subst h2
                rw [upd_same, upd_same]
              · rw [upd_ne h2, upd_ne hb, upd_ne h2, upd_ne hb]
          show Q .non (upd (upd (upd (upd H u (mwO a u)) d (exd d [(n, v)])) a (exo a C (some d))) d (exd d [(m, z), (n, v)]))
          rw [e]
          exact key
end
abbrev XW := Value → Option Addr → En → Lg → Prop
def upW (X : Cx) (W : XW) : WX := fun cls d σ H => ∃ η L, X.N = names η ∧ σ = vals η ∧ Has H L ∧ W cls d η L
/-- the frame lets out what W tells -/
def Tk (X : Cx) (W : XW) : Prop := Takes X (upW X W)
/-- an error class that can be made -/
structure ErrC (P : Program) (w : World) (K : PySem.W.Frag) (mg : Str → Option Value) (base : Heap) (x : Str) (C : Addr) (ns : List Str) : Prop where
  ex : ∃ fI fd, ErrK K mg x C fI ns ∧ FnOk P w K mg base CX0 1 fI fd ("self" :: ns) (spErr C ns) ∧ L2.Binds K fd ("self" :: ns) []
def GMk (X : Cx) (e : Expr) (η : En) (L : Lg) (Q : XL) : Prop := X.N = names η → ∀ H, Has H L → ∀ pins s, Inv X pins (vals η) H s → wpAny (model X.prog X.w) X.A (eval e X.env) (MkP X pins (vals η) (upX Q)) X.xe s
theorem mkp_imp {X : Cx} {pins : List (Addr × Obj)} {σ : L2.St} {Q Q' : XK} {u : Value} {s : Shared} (h : MkP X pins σ Q u s) (m : ∀ c d H, Q c d H → Q' c d H) : MkP X pins σ Q' u s := by
  obtain ⟨a, oe, vs, sI, H', cls, d, h1, h2, h3, h4, h5, h6, h7, h8, h9, h10, h11, h12, q⟩ := h
  exact ⟨a, oe, vs, sI, H', cls, d, h1, h2, h3, h4, h5, h6, h7, h8, h9, h10, h11, h12, m _ _ _ q⟩
section
variable {X : Cx} {η : En} {L : Lg} {e : Expr} {es : List Expr} {pos p : Pos} {D : GD} {W : XW} {Q : QV} {j k : Nat} {x : Str} {C : Addr} {ns : List Str}
theorem gs_raise (tk : Tk X W) (h : GMk X e η L fun c d L1 => W c d η L1) (hc : X.calm = true := by rfl) : GS X (.Raise (some e) none pos) D η L := fun hN H hH =>
  WS.of (ps_raise (t := fun σ H Q => ∀ pins s, Inv X pins σ H s → wpAny (model X.prog X.w) X.A (eval e X.env) (MkP X pins σ Q) X.xe s) hc tk (fun pins s σ H Q I q => q pins s I))
    (fun pins s I => thn (h hN H hH pins s I) fun u s' z => mkp_imp z fun c d H' ⟨L', h', q⟩ => ⟨η, L', hN, rfl, h', q⟩)
theorem gmk_err {E : XL} (T : ErrC X.prog X.w X.K X.mg X.base x C ns) (hr : RoomG j X.A) (h : GA X (e :: es) η L fun vs L1 => vs.length = ns.length ∧ ∀ d, E (.ref C) (some d) ((d, .xd (ns.zip vs).reverse) :: L1)) (hn : ns.length ≤ 900) (hj : 2 ≤ j := by decide) (hg : Gl X x := by rfl)
    (hdb : (x == ("__debug__" : Str)) = false := by decide) (he : starEach (e :: es) X.env = (false, eval e X.env) :: starEach es X.env := by rfl) (hpl : (backTo pos (starEach es X.env)).any (·.1) = false := by rfl) : GMk X (.Call (.Name x p) (e :: es) [] pos) η L E := fun hN H hH pins s I => by
  obtain ⟨fI, fd, G, F, hb⟩ := T.ex
  refine pmk_oex (dvs := []) (ds := []) G.T G.iC G.tI F (hr.toRoom.mono hj) hb .nil (fun _ _ _ _ _ _ _ z => z.elim) hg G.gC pa_W hdb he hpl pins s (vals η) H _ I ?_
  refine (h hN H hH).mono fun vs H1 ⟨L1, h1, hl, q⟩ => ⟨by omega, fun a ha => ⟨a, vs, by rw [List.append_nil], hl, upd_same, fun u d hu du da ua hd => ⟨rfl, d, _, upd_same, by rw [upd_ne da, upd_same], ?_, ?_⟩⟩⟩
  · rw [upd_ne da] at hd
    exact hd
  · refine ⟨_, ?_, q d⟩
    have hd1 : H1 d = none := by
      rw [upd_ne da] at hd
      exact hd
    have hu1 : H1 u = none := by
      rw [upd_ne ua] at hu
      exact hu
    have old : ∀ b o, H1 b = some o → (upd (del (upd (upd (upd (upd H1 a (exo a C none)) u (mwO a u)) d (exd d (ns.zip vs).reverse)) a (exo a C (some d))) a) d (.xd (ns.zip vs).reverse)) b = some o := fun b o z => by
      have na := ne_of_none z ha
      rw [upd_ne (ne_of_none z hd1), del_ne na, upd_ne na, upd_ne (ne_of_none z hd1), upd_ne (ne_of_none z hu1), upd_ne na]
      exact z
    exact h1.newB hd1 old upd_same
end
section
variable {X : Cx} {η : En} {L : Lg} {e : Expr} {es : List Expr} {pos p : Pos} {W : XW} {Q : QV} {j k : Nat} {x : Str} {sp : SpL}
/-- what a callee of ours lets out, taken -/
theorem run_x {pins : List (Addr × Obj)} {H : Hp} {s : Shared} {f : Addr} {args : List Value → Args} {us : List Value} {vs : List V} (F : RunG X.prog X.w X.K X.mg X.base (L2.CX X.prog X.w) k f args (toSp sp)) (hr : RoomG k X.A) (tk : Tk X W) (hN : X.N = names η) (hH : Has H L) (I : Inv X pins (vals η) H s) (r : Vals vs us)
    (h : sp vs L Q fun c d L' => W c d η L') : wpAny (model X.prog X.w) X.A (call (.ref f) (args us).pos (args us).kw) (EP X pins (vals η) (up Q)) X.xe s := by
  have hsp : toSp sp vs H (up Q) (fun c d H' => upW X W c d (vals η) H') := ⟨L, Q, _, hH, h, fun _ L' _ h' q => ⟨L', h', q⟩, fun _ _ L' _ h' q => ⟨η, L', hN, rfl, h', q⟩⟩
  refine wpAny_call (codeAny_mono (F X.A X.stack s H us vs _ _ hr I.env0 r hsp) fun r' s' hq => ?_)
  cases r' with
  | error e => exact passAt tk (vals η) pins H s e s' I hq
  | ok fl =>
    cases fl with
    | ret u => exact I.after hq
    | next => exact hq.elim
    | brk => exact hq.elim
    | cont => exact hq.elim
theorem ge_callX (F : Fn X.prog X.w X.K X.mg X.base (L2.CX X.prog X.w) x k sp) (hr : RoomG j X.A) (tk : Tk X W) (h : GA X (e :: es) η L fun vs L1 => sp vs L1 Q fun c d L' => W c d η L') (hjk : k ≤ j := by decide) (hg : Gl X x := by rfl) (hd : (x == ("__debug__" : Str)) = false := by decide)
    (he : starEach (e :: es) X.env = (false, eval e X.env) :: starEach es X.env := by rfl) (hpl : (backTo pos (starEach es X.env)).any (·.1) = false := by rfl) : GE X (.Call (.Name x p) (e :: es) [] pos) η L Q := fun hN H hH pins s I => by
  obtain ⟨f, hm, hk, F⟩ := F
  refine wpAny_Call_Name_kw (ld_glob I hg hm (PySem.W.callWith_K (h₀ := X.base) I.ok.mod.kin hk (thn (h hN H hH pos pins s I) fun us s1 ⟨vs, H1, J, r, L1, h1, q⟩ => ⟨J.kIn, ?_⟩) he hpl) hd)
  exact run_x (args := argsP) F (hr.mono hjk) tk hN h1 J r q
end
section
variable {P : Program} {w : World} {K : PySem.W.Frag} {mg : Str → Option Value} {base : Heap}
/-- where the body of a def stands that may let errors out -/
abbrev cxR (P : Program) (w : World) (K : PySem.W.Frag) (mg : Str → Option Value) (base : Heap) (N : List Str) (x : Str) (sc : Scope) (f : Addr) (cdv : Value) (A : Around) (outer : List Env) (s : Shared) (H : Hp) (E0 : XK) : Cx := cxOf (L2.CX P w) P w K mg base N x sc f cdv A outer s H E0
/-- what is left over may be dropped -/
def drpE (E : XL) : XL := fun c d L => ∃ M, Sub M L ∧ E c d M
abbrev BodyX (P : Program) (w : World) (K : PySem.W.Frag) (mg : Str → Option Value) (base : Heap) (N : List Str) (q : Str) (st : Stmt) (k : Nat) (sp : SpL) : Prop :=
  ∀ (X : Cx) (f : Addr) (cdv : Value) (A : Around) (outer : List Env) (s : Shared) (H : Hp) (E0 : XK) (L : Lg) (vs : List V) (Q : QV) (E : XL), X = cxR P w K mg base N q (defScope st) f cdv A outer s H E0 → X.N.Nodup → RoomG k X.A → Tk X (fun c d _ L' => drpE E c d L') → sp vs L Q E → GSs X (defBody st) (bodyD Q) (begun N vs) L
theorem run_raise {x q : Str} {st : Stmt} {f : Addr} {fd : FuncData} {N ps : List Str} {k : Nat} {sp : SpL} (F : Fun K x q st f fd) (S : FnScope N ps (defScope st)) (args : List Value → Args) (pmV : List V → List V) (pmU : List Value → List Value) (hpm : ∀ vs us, Vals vs us → Vals (pmV vs) (pmU us))
    (hb : ∀ (kV doc pm : Value) (an : Option Addr) (cdv ct : Value) (us : List Value), (pmU us).length = ps.length → bindArgs (PySem.W.fnOf x q (defArgs st) (defBody st) (defScope st) .none kV doc pm an cdv ct) (args us) = pure (ps.zip (pmU us)))
    (hl : ps.length ≤ N.length) (len : ∀ vs L Q E, sp vs L Q E → vs.length = ps.length) (body : BodyX P w K mg base N q st k sp) : RunG P w K mg base (L2.CX P w) (k + 1) f args (fun vs => toSp sp (pmV vs)) := by
  obtain ⟨oc, od, kV, doc, pm, an, cdv, ct, osl, rfl, lk, hcd⟩ := F.ex
  intro A outer s H us vs Q E hr e0 r hsp
  obtain ⟨L, Ql, El, hH, h, hq, he⟩ := hsp
  have hn : (pmV vs).length = ps.length := len _ L Ql El h
  have r2 := hpm vs us r
  have hlv : (pmV vs).length ≤ N.length := by
    rw [hn]
    exact hl
  have tk : Tk (cxR P w K mg base N q (defScope st) f cdv A outer s H E) (fun c d _ L' => drpE El c d L') := (takes_of rfl rfl rfl rfl).imp fun c d σ H' ⟨η, L', _, _, h', M, sb, z⟩ => he c d M H' (sb _ h') z
  exact LamX.run_ofS (CX := L2.CX P w) lk hcd S hr.toRoom e0 (.of_eq (hb kV doc pm an cdv ct us (by rw [← r2.length]; exact hn))) r2 hn fun hr2 =>
    ⟨WSs _ (defBody st), pss_W, body_end (X := cxR P w K mg base N q (defScope st) f cdv A outer s H E) hlv hq hH (body _ f cdv A outer s H E L (pmV vs) Ql El rfl S.nd ⟨hr2, guard_deeper hr.gd⟩ tk h)⟩
/-- THE RULE for a def that may let errors out -/
theorem fn_raise {x : Str} {st : Stmt} {N ps : List Str} {k : Nat} {sp : SpL} (F : Df K mg x st) (S : FnScope N ps (defScope st))
    (hb : ∀ (kV doc pm : Value) (an : Option Addr) (cdv ct : Value) (us : List Value), us.length = ps.length → bindArgs (PySem.W.fnOf x x (defArgs st) (defBody st) (defScope st) .none kV doc pm an cdv ct) ⟨us, []⟩ = pure (ps.zip us))
    (hl : ps.length ≤ N.length) (len : ∀ vs L Q E, sp vs L Q E → vs.length = ps.length) (body : BodyX P w K mg base N x st k sp) : Fn P w K mg base (L2.CX P w) x (k + 1) sp := by
  obtain ⟨f, fd, hm, F⟩ := F
  exact ⟨f, hm, F.kp, run_raise F S argsP id id (fun _ _ r => r) hb hl len body⟩
end
/-- the slot of a name is empty again -/
inductive Clr (x : Str) : En → En → Prop
  | here {o : Option V} {η : En} : Clr x ((x, o) :: η) ((x, none) :: η)
  | there {e : Str × Option V} {η θ : En} : Clr x η θ → Clr x (e :: η) (e :: θ)
theorem Clr.idx {x : Str} {η θ : En} (h : Clr x η θ) : ∃ i : Nat, (names η)[i]? = some x ∧ vals θ = (vals η).set i none ∧ names θ = names η := by
  induction h with
  | here => exact ⟨0, rfl, rfl, rfl⟩
  | there _ ih =>
    obtain ⟨i, a, b, c⟩ := ih
    refine ⟨i + 1, a, ?_, ?_⟩
    · show _ :: vals _ = _ :: (vals _).set i none
      rw [b] <;> rfl
    · show _ :: names _ = _ :: names _
      rw [c] <;> rfl
end G
set_option Elab.async false
set_option linter.all false
set_option maxRecDepth 100000
set_option maxHeartbeats 4000000
namespace G
open PySem PySem.Spec PyProof.Rows L2
/-- n turns; keep: what must stand at every turn; item: what comes at turn i, with the entries that come with it -/
structure Src where
  n : Nat
  keep : Lg → Prop
  item : Nat → V → Lg → Prop
structure SrcOk (J : It) (S : Src) : Prop where
  goes : ∀ i H M, i < S.n → Has H M → S.keep M → J.go i H
  stops : ∀ H M, Has H M → S.keep M → J.stop S.n H
  yields : ∀ i H x H' M, i < S.n → Has H M → S.keep M → J.yld i H x H' → ∃ E, S.item i x E ∧ Has H' (E ++ M)
theorem SrcOk.of {J : It} {n : Nat} {G : Hp → Prop} {Y : Nat → Hp → V → Hp → Prop} {keep : Lg → Prop} {item : Nat → V → Lg → Prop} (w : Walk J n G Y) (hg : ∀ H M, Has H M → keep M → G H)
    (hy : ∀ i H x H' M, i < n → Has H M → keep M → Y i H x H' → ∃ E, item i x E ∧ Has H' (E ++ M)) : SrcOk J ⟨n, keep, item⟩ :=
  ⟨fun i H M hi h k => w.goes i H hi (hg H M h k), fun H M h k => w.stops H (hg H M h k), fun i H x H' M hi h k y => hy i H x H' M hi h k (w.yields i H x H' hi (hg H M h k) y)⟩
def WI (X : Cx) (tg iter : Expr) : TI := fun σ H R => ∀ pins s, Inv X pins σ H s → wpAny (model X.prog X.w) X.A (eval iter X.env) (fun v s1 => wpAny (model X.prog X.w) X.A (pyIter v) (PIE X pins σ tg R) X.xe s1) X.xe s
theorem pi_W {X : Cx} {tg iter : Expr} : PI X tg iter (WI X tg iter) := ⟨fun pins s _ _ _ I h => h pins s I⟩
theorem WI.of {X : Cx} {tg iter : Expr} {wi : TI} {σ : L2.St} {H : Hp} {R : It → Hp → Prop} (h : PI X tg iter wi) (q : wi σ H R) : WI X tg iter σ H R := fun pins s I => h.run pins s σ H R I q
def GI (X : Cx) (tg iter : Expr) (η : En) (L : Lg) (Q : Src → Lg → Prop) : Prop := X.N = names η → ∀ H, Has H L → WI X tg iter (vals η) H fun J H1 => ∃ L1 S, Has H1 L1 ∧ SrcOk J S ∧ Q S L1
/-- one item of a list as it stands -/
def itemAt (xs : List V) : Nat → V → Lg → Prop := fun i x E => xs[i]? = some x ∧ E = []
def itemFn (f : Nat → V) : Nat → V → Lg → Prop := fun i x E => x = f i ∧ E = []
def itemPr (f g : Nat → Option V) : Nat → V → Lg → Prop := fun i v E => ∃ t x y, v = .ref t ∧ E = [(t, .tup [x, y])] ∧ f i = some x ∧ g i = some y
theorem y_at {xs : List V} {i : Nat} {H H' : Hp} {x : V} {M : Lg} (h : Has H M) (y : YAt xs i H x H') : ∃ E, itemAt xs i x E ∧ Has H' (E ++ M) := by
  obtain ⟨e, y⟩ := y
  subst e
  exact ⟨[], ⟨y, rfl⟩, h⟩
theorem y_fn {f : Nat → V} {i : Nat} {H H' : Hp} {x : V} {M : Lg} (h : Has H M) (y : YFn f i H x H') : ∃ E, itemFn f i x E ∧ Has H' (E ++ M) := by
  obtain ⟨e, y⟩ := y
  subst e
  exact ⟨[], ⟨y, rfl⟩, h⟩
theorem y_pr {f g : Nat → Option V} {i : Nat} {H H' : Hp} {x : V} {M : Lg} (h : Has H M) (y : YPair f g i H x H') : ∃ E, itemPr f g i x E ∧ Has H' (E ++ M) := by
  obtain ⟨T, u, v, e1, n, e2, e3, e4⟩ := y
  subst e1 e2
  exact ⟨[(T, .tup [u, v])], ⟨T, u, v, rfl, rfl, e3, e4⟩, h.new n⟩
/-- the list of xs at p stands in the ledger -/
def KeepL (p : Addr) (xs : List V) : Lg → Prop := fun M => (p, HO.lst xs) ∈ M
def KeepT (p : Addr) (xs : List V) : Lg → Prop := fun M => (p, HO.tup xs) ∈ M
section
variable {X : Cx} {η : En} {L : Lg} {Q : Src → Lg → Prop} {tg a b c e : Expr} {p pos : Pos}
theorem gi_list (h : GE X e η L fun v L1 => ∃ q xs, v = .ref q ∧ (q, HO.lst xs) ∈ L1 ∧ Q ⟨xs.length, KeepL q xs, itemAt xs⟩ L1) : GI X tg e η L Q := fun hN H hH =>
  WI.of (pi_list pe_W) (h.then hN hH fun v L1 H1 k1 ⟨q, xs, ev, m, z⟩ => ⟨q, ev, ⟨xs, sql k1 m⟩, L1, _, k1, SrcOk.of walk_list (fun H M hM k => sql hM k) (fun i H x H' M _ hM _ y => y_at hM y), z⟩)
theorem gi_tuple (h : GE X e η L fun v L1 => ∃ q xs, v = .ref q ∧ (q, HO.tup xs) ∈ L1 ∧ Q ⟨xs.length, KeepT q xs, itemAt xs⟩ L1) : GI X tg e η L Q := fun hN H hH =>
  WI.of (pi_tup pe_W) (h.then hN hH fun v L1 H1 k1 ⟨q, xs, ev, m, z⟩ => ⟨q, ev, ⟨xs, sqt k1 m⟩, L1, _, k1, SrcOk.of walk_tup (fun H M hM k => sqt hM k) (fun i H x H' M _ hM _ y => y_at hM y), z⟩)
theorem gi_range1 (h : GA X [a] η L fun vs L1 => ∃ j : Int, vs = [.int j] ∧ (-(2 ^ 62) ≤ j ∧ j < 2 ^ 62) ∧ Q ⟨j.toNat, fun _ => True, itemFn fun i => .int (i : Int)⟩ L1) (hm : X.mg "range" = none) (hg : Gl X "range" := by rfl)
    (hs' : starEach [a] X.env = [(false, eval a X.env)] := by rfl) : GI X tg (.Call (.Name "range" p) [a] [] pos) η L Q := fun hN H hH =>
  WI.of (pi_range1 hg hm pa_W hs') (h.then hN hH fun vs L1 H1 k1 ⟨j, e1, bd, q⟩ => ⟨j, e1, bd.1, bd.2, L1, _, k1, SrcOk.of walk_range (fun _ _ _ _ => True.intro) (fun i H x H' M _ hM _ y => by
    obtain ⟨e, y⟩ := y
    subst e
    exact ⟨[], ⟨y.trans (congrArg V.int (Int.zero_add _)), rfl⟩, hM⟩), q⟩)
theorem gi_range2 (h : GA X [a, b] η L fun vs L1 => ∃ j k : Int, vs = [.int j, .int k] ∧ (-(2 ^ 62) ≤ j ∧ j < 2 ^ 62 ∧ -(2 ^ 62) ≤ k ∧ k < 2 ^ 62) ∧ Q ⟨(k - j).toNat, fun _ => True, itemFn fun i => .int (j + (i : Int))⟩ L1) (hm : X.mg "range" = none) (hg : Gl X "range" := by rfl)
    (hs' : starEach [a, b] X.env = [(false, eval a X.env), (false, eval b X.env)] := by rfl) (hs2 : starEach [b] X.env = [(false, eval b X.env)] := by rfl) : GI X tg (.Call (.Name "range" p) [a, b] [] pos) η L Q := fun hN H hH =>
  WI.of (pi_range2 hg hm pa_W hs' hs2) (h.then hN hH fun vs L1 H1 k1 ⟨j, k, e1, bd, q⟩ => ⟨j, k, e1, bd, L1, _, k1, SrcOk.of walk_range (fun _ _ _ _ => True.intro) (fun i H x H' M _ hM _ y => y_fn hM y), q⟩)
theorem gi_enum {elts : List Expr} {kk : Nat} {tpos : Pos} (h : GA X [e] η L fun vs L1 => ∃ q xs, vs = [.ref q] ∧ (q, HO.lst xs) ∈ L1 ∧ Q ⟨xs.length, KeepL q xs, itemPr (fun i => some (.int (i : Nat))) (fun i => xs[i]?)⟩ L1) (hm : X.mg "enumerate" = none) (hg : Gl X "enumerate" := by rfl)
    (hs' : starEach [e] X.env = [(false, eval e X.env)] := by rfl) : GI X (.Tuple elts kk tpos) (.Call (.Name "enumerate" p) [e] [] pos) η L Q := fun hN H hH =>
  WI.of (pi_enum hg hm pa_W hs') (h.then hN hH fun vs L1 H1 k1 ⟨q, xs, e1, m, z⟩ => ⟨q, xs, e1, sql k1 m, L1, _, k1, SrcOk.of walk_enum (fun H M hM k => sql hM k) (fun i H x H' M _ hM _ y => y_pr hM y), z⟩)
end
structure LoopS (X : Cx) (tg : Expr) (body : List Stmt) (D : GD) (S : Src) (η : En) (L : Lg) (Pv : Nat → En → Lg → Prop) : Prop where
  h0 : Pv 0 η L
  kp : ∀ i θ M, i ≤ S.n → (M.map (·.1)).Nodup → Pv i θ M → S.keep M
  hs : ∀ i x E θ M, i < S.n → S.item i x E → Pv i θ M → GG X tg x θ (E ++ M) fun θ' M' => GSs X body { nx := Pv (i + 1), rt := D.rt, bk := D.nx, ct := Pv (i + 1) } θ' M'
  hd : ∀ θ M, Pv S.n θ M → D.nx θ M
section
variable {X : Cx} {η : En} {L : Lg} {tg iter : Expr} {body : List Stmt} {pos : Pos} {D : GD}
theorem gs_for (h : GI X tg iter η L fun S L1 => ∃ Pv, LoopS X tg body D S η L1 Pv) (hp : PassesOwn (model X.prog X.w) X.A X.env X.xe := by first | exact PassesOwn.never | exact passes_of rfl | assumption) (hc : X.calm = true := by rfl)
    (hs : ∀ x, foldedSetIterable iter X.env x = pure x := by intro _; rfl) : GS X (.For tg iter body [] pos) D η L := fun hN H hH =>
  WS.of (ps_for hp hc pi_W pg_W pss_W hs) (by
    intro pins s I
    refine wpAny_mono (h hN H hH pins s I) (fun v s1 z => wpAny_mono z (fun itv s2 z2 => ?_) fun _ _ z => z) fun _ _ z => z
    obtain ⟨it, fp, tn, J, H1, ev, I2, T, t0, f2, L1, S, k1, ok, Pv, l⟩ := z2
    refine ⟨it, fp, tn, J, H1, ev, I2, T, t0, f2, ?_⟩
    refine ⟨fun i m σ H => m = S.n - i ∧ i ≤ S.n ∧ upS X (Pv i) σ H, ⟨S.n, by simp, Nat.zero_le _, η, L1, hN, rfl, k1, l.h0⟩, ?_⟩
    rintro i m σ H ⟨rfl, hi, θ, M, n1, es, h1, q1⟩
    have kk := l.kp i θ M hi h1.1 q1
    by_cases hlt : i < S.n
    · refine .inr ⟨ok.goes i H M hlt h1 kk, upS X (Pv (i + 1)), fun σ' H' p' => ⟨S.n - (i + 1), by omega, rfl, hlt, p'⟩, fun x H' y => ?_⟩
      obtain ⟨E, it', h2⟩ := ok.yields i H x H' M hlt h1 kk y
      rw [es]
      exact (l.hs i x E θ M hlt it' q1).then n1 h2 fun θ' M' H2 n2 h2 q2 => q2 n2 H2 h2
    · have e : i = S.n := by omega
      subst e
      exact .inl ⟨ok.stops H M h1 kk, θ, M, n1, es, h1, l.hd θ M q1⟩)
end
def GTs (X : Cx) (ifs : List Expr) (η : En) (L : Lg) (Q : Bool → Lg → Prop) : Prop := match ifs with
  | [] => Q true L
  | [c] => GT X c η L Q
  | _ => False
def WTs (X : Cx) (ifs : List Expr) : TT := match ifs with
  | [] => tYes
  | [c] => WT X c
  | _ => fun _ _ _ => False
theorem pts_W {X : Cx} {ifs : List Expr} : PTs X ifs (WTs X ifs) := by
  match ifs with
  | [] => exact pts_nil
  | [c] => exact pts_one pt_W
  | _ :: _ :: _ => exact ⟨fun _ _ _ _ _ _ h => h.elim⟩
theorem GTs.then {X : Cx} {ifs : List Expr} {η : En} {L : Lg} {Q : Bool → Lg → Prop} {Q' : Bool → Hp → Prop} (h : GTs X ifs η L Q) (hN : X.N = names η) {H : Hp} (hH : Has H L) (m : ∀ b L1 H1, Has H1 L1 → Q b L1 → Q' b H1) : WTs X ifs (vals η) H Q' := by
  match ifs, h with
  | [], h => exact m true L H hH h
  | [c], h => exact GT.then h hN hH m
/-- the block of a comprehension -/
abbrev blkX (X : Cx) (s : Shared) (H : Hp) (scope : Scope) (C : Addr) (cl : List (Str × Addr)) (fp : List Addr) : Cx := X.blk s H scope (compEnvC scope cl C X.env) fp
/-- one turn of a comprehension: the item stands in θ; B: the block's contexts -/
abbrev AllBlk (X : Cx) (scope : Scope) (φ : Cx → Prop) : Prop := ∀ (s : Shared) (H : Hp) (C : Addr) (cl : List (Str × Addr)) (fp : List Addr), φ (blkX X s H scope C cl fp)
abbrev LocB (X : Cx) (scope : Scope) (x : Str) : Prop := AllBlk X scope fun B => Loc B.env.scope x ∧ (B.fn x = true ∨ B.env.scope.names.lookup x = some .local)
theorem idxEq {N : List Str} (hn : N.Nodup) {i : Nat} {x : Str} (h : N[i]? = some x) : N.idxOf x = i := idxU hn (by
  have m := List.idxOf_lt_length_of_mem (List.mem_of_getElem? h)
  rw [List.getElem?_eq_getElem m, List.getElem_idxOf m]) h
def LcTurn (X : Cx) (scope : Scope) (ifs : List Expr) (elt : Expr) (D : Addr) (Nx : Lg → Prop) (θ : En) (M : Lg) : Prop :=
  AllBlk X scope fun B => GTs B ifs θ M fun b M1 => if b = true then AllBlk X scope fun B => GE B elt θ M1 fun y M2 => ∃ acc M3, (D, HO.lst acc) ∈ M2 ∧ acc.length < sizeLine ∧ Swap D (.lst (acc ++ [y])) M2 M3 ∧ Nx M3 else Nx M1
structure LcS (X : Cx) (scope : Scope) (ifs : List Expr) (elt : Expr) (S : Src) (D : Addr) (L : Lg) (st : V → Lg → (En → Lg → Prop) → Prop) (Pv : Nat → Lg → Prop) (Q : QV) : Prop where
  h0 : Pv 0 ((D, .lst []) :: L)
  kp : ∀ i M, i ≤ S.n → (M.map (·.1)).Nodup → Pv i M → S.keep M
  hs : ∀ i x E M, i < S.n → S.item i x E → ((E ++ M).map (·.1)).Nodup → Pv i M → st x (E ++ M) fun θ M' => LcTurn X scope ifs elt D (Pv (i + 1)) θ M'
  hd : ∀ M, Pv S.n M → Q (.ref D) M
theorem wipe_one {σ : L2.St} {i : Nat} {v : Option V} : wipe (σ.set i v) [i] = wipe σ [i] := by
  show (σ.set i v).set i none = σ.set i none
  rw [List.set_set]
def teB (X : Cx) (scope : Scope) (elt : Expr) : TE := fun σ H q => AllBlk X scope fun B => WE B elt σ H q
def ttB (X : Cx) (scope : Scope) (ifs : List Expr) : TT := fun σ H q => AllBlk X scope fun B => WTs B ifs σ H q
theorem pe_teB {X : Cx} {scope : Scope} {elt : Expr} (s : Shared) (H : Hp) (C : Addr) (cl : List (Str × Addr)) (fp : List Addr) : PE (blkX X s H scope C cl fp) elt (teB X scope elt) := ⟨fun pins s1 σ H1 Q I h => h s H C cl fp pins s1 I⟩
theorem pts_ttB {X : Cx} {scope : Scope} {ifs : List Expr} (s : Shared) (H : Hp) (C : Addr) (cl : List (Str × Addr)) (fp : List Addr) : PTs (blkX X s H scope C cl fp) ifs (ttB X scope ifs) := ⟨fun pins s1 σ H1 Q I h => pts_W.run pins s1 σ H1 Q I (h s H C cl fp)⟩
section
variable {X : Cx} {η : En} {L : Lg} {elt iter tg : Expr} {ifs : List Expr} {scope : Scope} {pos p1 p2 p3 : Pos} {x y : Str} {f : V → En} {Q : QV}
/-- what the library's comprehension asks, from ours -/
theorem lc_core' {g : TG} {vs : List Nat} {st : V → Lg → (En → Lg → Prop) → Prop} (nη : X.N = names η) {H : Hp} (hH : Has H L) {Qh : VK} (hq : ∀ D M H', Has H' M → Q (.ref D) M → Qh (.ref D) H')
    (hst : ∀ v M H' k Qk, Has H' M → st v M k → (∀ θ M' H2, X.N = names θ → Has H2 M' → k θ M' → wipe (vals θ) vs = wipe (vals η) vs → Qk (vals θ) H2) → g v (wipe (vals η) vs) H' Qk)
    (h : GI X tg iter η L fun S L1 => ∀ D, ∃ Pv, LcS X scope ifs elt S D L1 st Pv Q) : tLc (WI X tg iter) g (ttB X scope ifs) (teB X scope elt) vs (vals η) H Qh := by
  intro pins s I
  refine wpAny_mono (h nη H hH pins s I) (fun v s1 z => wpAny_mono z (fun itv s2 z2 => ?_) fun _ _ z => z) fun _ _ z => z
  obtain ⟨it, fp, tn, J, H1, ev, I2, T, t0, f2, L1, S, k1, ok, l⟩ := z2
  refine ⟨it, fp, tn, J, H1, ev, I2, T, t0, f2, fun D nD => ?_⟩
  obtain ⟨Pv, l⟩ := l D
  refine ⟨fun i m H => m = S.n - i ∧ i ≤ S.n ∧ ∃ M, Has H M ∧ Pv i M, ⟨S.n, by simp, Nat.zero_le _, _, k1.new nD, l.h0⟩, ?_⟩
  rintro t m H2 ⟨rfl, hi2, M, h3, q1⟩
  have kk := l.kp t M hi2 h3.1 q1
  by_cases hlt : t < S.n
  · refine .inr ⟨ok.goes t H2 M hlt h3 kk, fun H' => ∃ M, Has H' M ∧ Pv (t + 1) M, fun H' p' => ⟨S.n - (t + 1), by omega, rfl, hlt, p'⟩, fun v H3 y => ?_⟩
    obtain ⟨E, it', h4⟩ := ok.yields t H2 v H3 M hlt h3 kk y
    refine hst v (E ++ M) H3 _ _ h4 (l.hs t v E M hlt it' h4.1 q1) fun θ M' H5 nθ h5 q2 ew => ⟨ew, fun s' H' C cl fp => ?_⟩
    refine (q2 s' H' C cl fp).then nθ h5 fun b M1 H6 h6 q3 => ?_
    cases b with
    | true =>
      rw [if_pos rfl] at q3 ⊢
      refine fun s' H' C cl fp => (q3 s' H' C cl fp).then nθ h6 fun y M2 H7 h7 q4 => ?_
      obtain ⟨acc, M3, m2, z, sw, q5⟩ := q4
      exact ⟨acc, h7.get m2, z, M3, h7.swap sw, q5⟩
    | false =>
      rw [if_neg Bool.false_ne_true] at q3 ⊢
      exact ⟨M1, h6, q3⟩
  · have e : t = S.n := by omega
    subst e
    exact .inl ⟨ok.stops H2 M h3 kk, hq D M H2 h3 (l.hd M q1)⟩
/-- the store of the item: one name -/
theorem st_one {i : Nat} (P : PutF x η f) (hi : X.N[i]? = some x) (hN : X.N.Nodup) (nη : X.N = names η) : ∀ (v : V) (M : Lg) (H' : Hp) (k : En → Lg → Prop) (Qk : L2.St → Hp → Prop), Has H' M → k (f v) M → (∀ θ M' H2, X.N = names θ → Has H2 M' → k θ M' → wipe (vals θ) [i] = wipe (vals η) [i] → Qk (vals θ) H2) → gName i v (wipe (vals η) [i]) H' Qk := fun v M H' k Qk hM q hk => by
  obtain ⟨j, h1, h2⟩ := P.idx
  have ij : i = j := idxU hN hi (by rw [nη]; exact h1)
  subst ij
  have e1 : (wipe (vals η) [i]).set i (some v) = vals (f v) := by
    rw [(h2 v).1]
    show ((vals η).set i none).set i (some v) = _
    rw [List.set_set]
  have z := hk (f v) M H' (by rw [(h2 v).2]; exact nη) hM q (by rw [(h2 v).1]; exact wipe_one)
  show Qk ((wipe (vals η) [i]).set i (some v)) H'
  rw [e1]
  exact z
/-- [elt for x in iter if ..], as a value -/
theorem ge_lc1 (P : PutF x η f) (h : GI X (.Name x p1) iter η L fun S L1 => ∀ D, ∃ Pv, LcS X scope ifs elt S D L1 (fun v M k => k (f v) M) Pv Q) (hb : blkC X.N X.env.scope scope [(x, X.N.idxOf x)] = true) (hlx : LocB X scope x := by exact fun _ _ _ _ _ => ⟨.inl rfl, .inr rfl⟩)
    (hN : X.N.Nodup := by assumption) (hc : X.calm = true := by rfl) (hs : ∀ z, foldedSetIterable iter X.env z = pure z := by intro _; rfl) : GE X (.ListComp elt [⟨.Name x p1, iter, ifs, 0⟩] scope pos) η L Q := fun nη H hH => by
  obtain ⟨i, h1, _⟩ := P.idx
  have hi : X.N[i]? = some x := by rw [nη]; exact h1
  exact WE.of (pe_lc (own := [(x, i)]) hc hN pi_W (blkOk_by (by rw [idxEq hN hi] at hb; exact hb)) (fun s H C cl fp => pg_name (X := blkX X s H scope C cl fp) hN hi (hlx s H C cl fp).1 (hlx s H C cl fp).2) pts_ttB pe_teB hs)
    (lc_core' (Qh := up Q) nη hH (fun D M H' hM q => ⟨M, hM, q⟩) (st_one P hi hN nη) h)
/-- y = [elt for x in iter if ..] -/
theorem gs_lc1 {D : GD} {fy : V → En} {py : Pos} (Py : PutF y η fy) (P : PutF x η f) (h : GI X (.Name x p1) iter η L fun S L1 => ∀ d, ∃ Pv, LcS X scope ifs elt S d L1 (fun v M k => k (f v) M) Pv fun v M => D.nx (fy v) M) (hb : blkC X.N X.env.scope scope [(x, X.N.idxOf x)] = true) (hlx : LocB X scope x := by exact fun _ _ _ _ _ => ⟨.inl rfl, .inr rfl⟩)
    (hyl : X.env.scope.names.lookup y = some .local := by rfl) (hsw : swapsWith (.ListComp elt [⟨.Name x p1, iter, ifs, 0⟩] scope pos) (some (.Name y py)) p3.line X.env = pure true := by rfl)
    (hN : X.N.Nodup := by assumption) (hc : X.calm = true := by rfl) (hs : ∀ z, foldedSetIterable iter X.env z = pure z := by intro _; rfl) : GS X (.Assign [.Name y py] (.ListComp elt [⟨.Name x p1, iter, ifs, 0⟩] scope pos) p3) D η L := fun nη H hH => by
  obtain ⟨i, h1, _⟩ := P.idx
  obtain ⟨j, k1, k2⟩ := Py.idx
  have hi : X.N[i]? = some x := by rw [nη]; exact h1
  have hj : X.N[j]? = some y := by rw [nη]; exact k1
  refine WS.of (ps_setLc (own := [(x, i)]) hc hN hj hyl hsw pi_W (blkOk_by (by rw [idxEq hN hi] at hb; exact hb)) (fun s H C cl fp => pg_name (X := blkX X s H scope C cl fp) hN hi (hlx s H C cl fp).1 (hlx s H C cl fp).2) pts_ttB pe_teB hs) ?_
  refine lc_core' (Qh := fun v H1 => gName j v (vals η) H1 (D.ends X).nx) nη hH (fun d M H' hM q => ?_) (st_one P hi hN nη) h
  show upS X D.nx ((vals η).set j (some (.ref d))) H'
  exact ⟨fy (.ref d), M, by rw [(k2 _).2]; exact nη, (k2 _).1.symm, hM, q⟩
theorem wipe_two {σ : L2.St} {i j : Nat} (ne : i ≠ j) {a b : Option V} : ((wipe σ [i, j]).set i a).set j b = (σ.set i a).set j b ∧ wipe ((σ.set i a).set j b) [i, j] = wipe σ [i, j] := by
  refine ⟨?_, ?_⟩
  · show ((((σ.set j none).set i none).set i a).set j b) = _
    rw [List.set_set, List.set_comm _ _ ne, List.set_set, List.set_comm _ _ (Ne.symm ne)]
  · show ((((σ.set i a).set j b).set j none).set i none) = (σ.set j none).set i none
    rw [List.set_set, List.set_comm _ _ ne, List.set_set, List.set_comm _ _ (Ne.symm ne)]
/-- the store of an item: a pair's two names -/
theorem st_two {K : PySem.W.Frag} {g : V → V → En} {i j : Nat} (P : PutF x η f) (R : ∀ v, PutF y (f v) (g v)) (hi : X.N[i]? = some x) (hj : X.N[j]? = some y) (ne : i ≠ j) (hN : X.N.Nodup) (nη : X.N = names η) :
    ∀ (v : V) (M : Lg) (H' : Hp) (k : En → Lg → Prop) (Qk : L2.St → Hp → Prop), Has H' M → (∃ p a b, v = .ref p ∧ (p, HO.tup [a, b]) ∈ M ∧ k (g a b) M) → (∀ θ M' H2, X.N = names θ → Has H2 M' → k θ M' → wipe (vals θ) [i, j] = wipe (vals η) [i, j] → Qk (vals θ) H2) →
      gTup K 2 (gCons (gName i) (gCons (gName j) gNil)) v (wipe (vals η) [i, j]) H' Qk := fun v M H' k Qk hM ⟨p, a, b, ev, m, q⟩ hk => by
  have nf : ∀ v, X.N = names (f v) := fun v => by
    obtain ⟨_, _, h2⟩ := P.idx
    rw [(h2 v).2]
    exact nη
  have e1 : vals (f a) = (vals η).set i (some a) := (P.at hN nη hi a).1
  have e2 : vals (g a b) = (vals (f a)).set j (some b) := ((R a).at hN (nf a) hj b).1
  have nθ : X.N = names (g a b) := (nf a).trans ((R a).at hN (nf a) hj b).2.symm
  have e3 : vals (g a b) = ((vals η).set i (some a)).set j (some b) := by rw [e2, e1]
  refine ⟨p, [a, b], ev, sqt hM m, rfl, a, [b], rfl, b, [], rfl, rfl, ?_⟩
  have z := hk (g a b) M H' nθ hM q (by rw [e3]; exact (wipe_two ne).2)
  rw [e3] at z
  show Qk (((wipe (vals η) [i, j]).set i (some a)).set j (some b)) H'
  rw [(wipe_two ne).1]
  exact z
theorem pg_pair {i j : Nat} {kt : Nat} {pt : Pos} (hc : X.calm = true) (hN : X.N.Nodup) (hi : X.N[i]? = some x) (hj : X.N[j]? = some y) (hlx : LocB X scope x) (hly : LocB X scope y) :
    ∀ (s : Shared) (H : Hp) (C : Addr) (cl : List (Str × Addr)) (fp : List Addr), PG (blkX X s H scope C cl fp) (.Tuple [.Name x p1, .Name y p2] kt pt) (gTup X.K 2 (gCons (gName i) (gCons (gName j) gNil))) := fun s H C cl fp =>
  pg_tup (X := blkX X s H scope C cl fp) (n := 2) hc (pgs_cons (pg_name hN hi (hlx s H C cl fp).1 (hlx s H C cl fp).2) (pgs_cons (pg_name hN hj (hly s H C cl fp).1 (hly s H C cl fp).2) pgs_nil)) rfl rfl
/-- [elt for x, y in iter if ..], as a value -/
theorem ge_lc2 {g : V → V → En} {kt : Nat} {pt : Pos} (P : PutF x η f) (R : ∀ v, PutF y (f v) (g v)) (h : GI X (.Tuple [.Name x p1, .Name y p2] kt pt) iter η L fun S L1 => ∀ D, ∃ Pv, LcS X scope ifs elt S D L1 (fun v M k => ∃ p a b, v = .ref p ∧ (p, HO.tup [a, b]) ∈ M ∧ k (g a b) M) Pv Q)
    (hxy : x ≠ y) (hb : blkC X.N X.env.scope scope [(x, X.N.idxOf x), (y, X.N.idxOf y)] = true) (hlx : LocB X scope x := by exact fun _ _ _ _ _ => ⟨.inl rfl, .inr rfl⟩) (hly : LocB X scope y := by exact fun _ _ _ _ _ => ⟨.inl rfl, .inr rfl⟩)
    (hN : X.N.Nodup := by assumption) (hc : X.calm = true := by rfl) (hs : ∀ z, foldedSetIterable iter X.env z = pure z := by intro _; rfl) : GE X (.ListComp elt [⟨.Tuple [.Name x p1, .Name y p2] kt pt, iter, ifs, 0⟩] scope pos) η L Q := fun nη H hH => by
  obtain ⟨i, h1, h2⟩ := P.idx
  have hi : X.N[i]? = some x := by rw [nη]; exact h1
  obtain ⟨j, k1, _⟩ := (R .non).idx
  have hj : X.N[j]? = some y := by
    rw [(h2 .non).2] at k1
    rw [nη]
    exact k1
  have ne : i ≠ j := fun z => hxy (by rw [z, hj] at hi; exact (Option.some.inj hi).symm)
  exact WE.of (pe_lc (own := [(x, i), (y, j)]) hc hN pi_W (blkOk_by (by rw [idxEq hN hi, idxEq hN hj] at hb; exact hb)) (pg_pair hc hN hi hj hlx hly) pts_ttB pe_teB hs)
    (lc_core' (Qh := up Q) nη hH (fun D M H' hM q => ⟨M, hM, q⟩) (st_two P R hi hj ne hN nη) h)
theorem gs_lc2 {D : GD} {fy : V → En} {z : Str} {pz : Pos} {g : V → V → En} {kt : Nat} {pt : Pos} (Pz : PutF z η fy) (P : PutF x η f) (R : ∀ v, PutF y (f v) (g v)) (h : GI X (.Tuple [.Name x p1, .Name y p2] kt pt) iter η L fun S L1 => ∀ d, ∃ Pv, LcS X scope ifs elt S d L1 (fun v M k => ∃ p a b, v = .ref p ∧ (p, HO.tup [a, b]) ∈ M ∧ k (g a b) M) Pv fun v M => D.nx (fy v) M)
    (hxy : x ≠ y) (hb : blkC X.N X.env.scope scope [(x, X.N.idxOf x), (y, X.N.idxOf y)] = true) (hlx : LocB X scope x := by exact fun _ _ _ _ _ => ⟨.inl rfl, .inr rfl⟩) (hly : LocB X scope y := by exact fun _ _ _ _ _ => ⟨.inl rfl, .inr rfl⟩)
    (hzl : X.env.scope.names.lookup z = some .local := by rfl) (hsw : swapsWith (.ListComp elt [⟨.Tuple [.Name x p1, .Name y p2] kt pt, iter, ifs, 0⟩] scope pos) (some (.Name z pz)) p3.line X.env = pure true := by rfl)
    (hN : X.N.Nodup := by assumption) (hc : X.calm = true := by rfl) (hs : ∀ z, foldedSetIterable iter X.env z = pure z := by intro _; rfl) : GS X (.Assign [.Name z pz] (.ListComp elt [⟨.Tuple [.Name x p1, .Name y p2] kt pt, iter, ifs, 0⟩] scope pos) p3) D η L := fun nη H hH => by
  obtain ⟨i, h1, h2⟩ := P.idx
  have hi : X.N[i]? = some x := by rw [nη]; exact h1
  obtain ⟨j, k1, _⟩ := (R .non).idx
  have hj : X.N[j]? = some y := by
    rw [(h2 .non).2] at k1
    rw [nη]
    exact k1
  have ne : i ≠ j := fun z => hxy (by rw [z, hj] at hi; exact (Option.some.inj hi).symm)
  obtain ⟨l, l1, l2⟩ := Pz.idx
  have hl : X.N[l]? = some z := by rw [nη]; exact l1
  refine WS.of (ps_setLc (own := [(x, i), (y, j)]) hc hN hl hzl hsw pi_W (blkOk_by (by rw [idxEq hN hi, idxEq hN hj] at hb; exact hb)) (pg_pair hc hN hi hj hlx hly) pts_ttB pe_teB hs) ?_
  refine lc_core' (Qh := fun v H1 => gName l v (vals η) H1 (D.ends X).nx) nη hH (fun d M H' hM q => ?_) (st_two P R hi hj ne hN nη) h
  show upS X D.nx ((vals η).set l (some (.ref d))) H'
  exact ⟨fy (.ref d), M, by rw [(l2 _).2]; exact nη, (l2 _).1.symm, hM, q⟩
end
end G
set_option Elab.async false
set_option linter.all false
set_option maxRecDepth 100000
set_option maxHeartbeats 4000000
namespace G
open PySem PySem.Spec PyProof.Rows L2
open PySem.W in
/-- what an own error class says of its instances -/
structure ErV (K : Frag) (D : Addr) : Prop where
  ga : findIn K (.ref D) "__getattribute__" = some (some (.builtin "BaseException.__getattribute__"))
  gt : findIn K (.ref D) "__getattr__" = some none
  ex : subIn K (.ref D) (.type "BaseException") = some true
  hd : hasDictIn K D = true
  cl : findIn K (.ref D) "__class__" = some (some (.builtin "object.__class__"))
  sp : specialIn K (.builtin "object.__class__") "__get__" = some (some (.builtin "getset_descriptor.__get__"))
  tk : takesIn K (.builtin "object.__class__") = some true
  mo : mroIn K D (.type "object") = some true
section
open PySem.W
variable {prog : Program} {w : World} {A : Around} {E : Value → Shared → Prop} {s : Shared} {K : Frag} {x D : Addr} {ox : Obj} {od : Option Obj}
theorem ErV.find (T : ErV K D) : findObj K D od "__class__" = some (.bind (.builtin "getset_descriptor.__get__") (.builtin "object.__class__")) := by
  obtain ⟨cd, hc, _⟩ := any_some T.hd
  unfold findObj
  rw [hc, Option.bind_some, T.cl, Option.bind_some]
  simp [T.sp, T.tk]
/-- its __class__ -/
theorem ErV.cls (T : ErV K D) {Q : Option Value → Shared → Prop} (X : K.In s.heap) (I : InstAt s.heap x ox D od) (h : Q (some (.ref D)) { s with toks := s.toks + 1 }) : wpAny (model prog w) A (getAttr? (.ref x) "__class__") Q E s := by
  obtain ⟨hh, gg, dd, tt, oo⟩ := s
  have ty := I.type (M := model prog w)
  have lga := looks_findIn (M := model prog w) X T.ga
  have lgt := looks_findIn (M := model prog w) X T.gt
  have lfi := looks_find (M := model prog w) X I T.find
  have isb : Looks (model prog w) hh (isInstance (.ref x) (.type "BaseException")) true := ty.andThen (looks_subIn X T.ex)
  have no : (Value.builtin "BaseException.__getattribute__" == Value.builtin "object.__getattribute__") = false := by decide +kernel
  have no2 : (onTheHeap (Value.ref D) && Value.builtin "BaseException.__getattribute__" == Value.builtin "object.__getattribute__") = false := by
    rw [no]
    rfl
  have no3 : (false && onTheHeap (Value.builtin "BaseException.__getattribute__")) = false := rfl
  unfold getAttr? getAttrBy? getAttrBy
  refine wpAny_bind (wpAny_mkText (wpAny_bind (wpAny_attempt (wpAny_holding (wpAny_bind (ty.at (wpAny_bind (lga.at ?_))))))))
  show wpAny _ _ (if (onTheHeap (Value.ref D) && Value.builtin "BaseException.__getattribute__" == Value.builtin "object.__getattribute__") = true then _ else _) _ _ _
  rw [no2, if_neg Bool.false_ne_true]
  unfold getAttrByItsOwn hookBefore
  refine wpAny_bind ?_
  rw [if_pos (show onTheHeap (Value.ref D) = true from rfl)]
  refine lgt.at (wpAny_bind (wpAny_attempt (wpAny_holding ?_)))
  unfold callGetattribute
  rw [no3, if_neg Bool.false_ne_true]
  unfold boundAndCalled
  rw [PySem.F.excAttr_ValueError.ga.bind (.ref x)]
  refine wpAny_bind (wpAny_pure ?_)
  show wpAny _ _ (call (.builtin "BaseException.__getattribute__") [.ref x, .str "__class__" tt]) _ _ _
  refine wpAny_call (codeAny_call_builtin PySem.F.excAttr_ValueError.ga.plain PySem.F.entry_bexc_ga (@check_slot (model prog w) _ _ ⟨hh, gg, dd, tt + 1, oo⟩ "BaseException.__getattribute__" "BaseException" "__getattribute__" (.ref x) [.str "__class__" tt] [] _ (by decide +kernel) (by decide +kernel) isb (PySem.F.args_bexc_ga (.ref x) (.str "__class__" tt)) ?_))
  unfold Builtin.«object.__getattribute__»
  refine wpAny_bind (wpAny_of_eq (a := ((Value.ref x : Value), [Value.str "__class__" tt])) (by first | rfl | (simp only [slotArgs]; rfl)) (wpAny_bind (wpAny_pure (wpAny_bind (ty.at (wpAny_bind (lfi.at ?_)))))))
  show wpAny _ _ (holding [Value.builtin "object.__class__"] (call (.builtin "getset_descriptor.__get__") [.builtin "object.__class__", .ref x, .ref D]) >>= ret) _ _ _
  refine wpAny_bind (wpAny_holding (wpAny_call (class_get (s := ⟨hh, gg, dd, tt + 1, oo⟩) (ox := ox) (od := od) X I T.mo (wpAny_pure ?_))))
  show wpAny _ _ (handedOut (.ref D)) _ _ _
  rw [handedOut_of (v := .ref D) rfl]
  first
    | exact wpAny_pure (wpAny_pure h)
    | exact wpAny_pure h
    | exact wpAny_pure (wpAny_bind (wpAny_pure (wpAny_pure h)))
end
section
variable {X : Cx} {η : En} {L : Lg} {Q : QV} {a C D : Addr} {d : Option Addr} {c : V} {e : Expr} {pos : Pos} {n : Str}
/-- a field of an error -/
def GAt (X : Cx) (n : Str) (x : V) (L : Lg) (Q : QV) : Prop := ∀ pins s σ H u (ex : Bool), Has H L → Inv X pins σ H s → RelV x u → wpAny (model X.prog X.w) X.A (getAttr u n ex) (EP X pins σ (up Q)) X.xe s
theorem ge_attr (h : GE X e η L fun x L1 => GAt X n x L1 Q) (hb : attributeBase e n X.env (eval e X.env) = eval e X.env := by rfl) : GE X (.Attribute e n pos) η L Q := fun hN H hH pins s I =>
  attr_of hb (thn (h hN H hH pins s I) fun u s1 ⟨x, H1, I1, r1, L1, k1, q1⟩ => q1 pins s1 _ H1 u _ k1 I1 r1)
end
end G
set_option Elab.async false
set_option linter.all false
set_option maxRecDepth 100000
set_option maxHeartbeats 4000000
namespace G
open PySem PySem.Spec PyProof.Rows L2
/-- v is the value d, as repr reads it -/
def Rd (L : Lg) (v : V) (d : PyData) : Prop := ∀ (X : Cx) (pins : List (Addr × Obj)) (σ : L2.St) (H : Hp) (s : Shared) (u : Value), Has H L → Inv X pins σ H s → RelV v u → ∃ as, Reads s.heap u d as ∧ (d.hasDict = true → sysModules ∉ as)
end G
set_option Elab.async false
set_option linter.all false
set_option maxRecDepth 100000
set_option maxHeartbeats 4000000
namespace G
open PySem PySem.Spec PyProof.Rows L2
end G
set_option Elab.async false
set_option linter.all false
set_option maxRecDepth 100000
set_option maxHeartbeats 4000000
namespace G
open PySem PySem.Spec PyProof.Rows L2 NdefX
def clsBody : Stmt → List Stmt
  | .ClassDef _ _ _ b _ _ _ _ _ _ _ => b
  | _ => []
def clsAt (c : Stmt) (j : Nat) : Stmt := (clsBody c).getD j (.Pass ⟨0, 0, 0, 0⟩)
/-- an own error class, as its user wants it -/
structure ErrT (P : Program) (w : World) (K : PySem.W.Frag) (mg : Str → Option Value) (base : Heap) (x : Str) (C : Addr) (ns : List Str) : Prop where
  gC : mg x = some (.ref C)
  ck : ErrC P w K mg base x C ns
  ev : ErV K C
  no : ∀ n ∈ ns, PySem.W.findIn K (.ref C) n = some none
section
variable {P : Program} {w : World} {K : PySem.W.Frag} {mg : Str → Option Value} {base : Heap} {x q : Str} {st : Stmt} {C fI c cc : Addr} {n m : Str}
variable {nm qn : Str} {N : Addr} {bs bm : List Value} {sn : List Str} {sub : List Value} {ab : Bool} {col : Option Bool} {dd : Option Addr} {k0 k1 k2 k3 k5 : Option Value} {oc kV doc pm ct cl ccl : Value} {od an cld cdd : Option Addr} {osl csl ccs : Array (Option Value)} {vs : Array Value} {fl : Str} {tf : Tok} {cd : ClassData}
/-- what the written part says of an own error class with its own __init__ over ValueError's -/
structure ErrFacts (P : Program) (K : PySem.W.Frag) (x q : Str) (st : Stmt) (C fI c cc : Addr) (nm qn : Str) (N : Addr) (bs bm : List Value) (sn : List Str) (sub : List Value) (ab : Bool) (col : Option Bool) (dd : Option Addr) (k0 k1 k2 k3 k5 : Option Value) (oc kV doc pm ct cl ccl : Value) (od an cld cdd : Option Addr) (osl csl ccs : Array (Option Value)) (vs : Array Value) (fl : Str) (tf : Tok) (cd : ClassData) : Prop where
  a1 : PySem.W.nsIn K mainGlobals x = some (some (.ref C))
  a2 : K.lookup C = some (excClassObj nm qn C N bs bm true sn sub ab col dd k0 k1 k2 k3 k5 "ValueError.__new__")
  a3 : PySem.HandSPX.refsVE bm = true
  a4 : PySem.W.findIn K (.ref C) "__setattr__" = some (some (.builtin "object.__setattr__"))
  a5 : PySem.W.subIn K (.ref C) (.type "BaseException") = some true
  a6 : PySem.W.typeIn K (.ref C) = some (.type "type")
  a7 : PySem.W.keepIn K (.ref C) = true
  a8 : PySem.W.findIn K (.ref C) "__init__" = some (some (.ref fI))
  a9 : PySem.W.typeIn K (.ref fI) = some (.type "function")
  b1 : PySem.W.ks_superIn K C C "__init__" = some (some (.builtin "ValueError.__init__"))
  b2 : PySem.W.mroIn K C (.ref C) = some true
  b3 : PySem.W.subIn K (.ref C) (.type "ValueError") = some true
  b4 : K.lookup fI = some ⟨oc, od, .func (PySem.W.fnX "__init__" q (defArgs st) (defBody st) (defScope st) [("__class__", cc)] .none kV doc pm an (.ref c) ct), osl⟩
  b5 : PySem.W.codeIn K (.ref c) q = true
  b6 : K.lookup cc = some ⟨cl, cld, .cell (some (.ref C)), csl⟩
  b7 : K.lookup c = some ⟨ccl, cdd, .fields vs, ccs⟩
  b8 : vs[2]? = some (.str fl tf)
  b9 : (P.main.file == fl) = true
  c1 : PySem.W.clsIn K C = some cd
  c2 : PySem.W.findIn K (.ref C) "__getattribute__" = some (some (.builtin "BaseException.__getattribute__"))
  c3 : PySem.W.findIn K (.ref C) "__getattr__" = some none
  c4 : PySem.W.hasDictIn K C = true
  c5 : PySem.W.findIn K (.ref C) "__class__" = some (some (.builtin "object.__class__"))
  c6 : PySem.W.mroIn K C (.type "object") = some true
section
variable (F : ErrFacts P K x q st C fI c cc nm qn N bs bm sn sub ab col dd k0 k1 k2 k3 k5 oc kV doc pm ct cl ccl od an cld cdd osl csl ccs vs fl tf cd)
include F
theorem ErrFacts.sup (top : (P.main.scope.names.lookup ("super" : Str)).isSome = false) : SupF P K "__init__" q st fI c cc C (PySem.W.fnX "__init__" q (defArgs st) (defBody st) (defScope st) [("__class__", cc)] .none kV doc pm an (.ref c) ct) :=
  ⟨⟨oc, od, kV, doc, pm, ct, an, osl, rfl, F.b4⟩, F.b5, ⟨cl, cld, csl, F.b6⟩, ⟨ccl, cdd, vs, ccs, fl, tf, F.b7, F.b8, F.b9⟩, ⟨cd, F.c1⟩, top⟩
theorem ErrFacts.errK {ns : List Str} {h : Heap} (X : K.In h) (G : h.Ns mainGlobals mg) (op : PySem.W.nsIn K cStatics "thirdparty.any" = some none) (su : mg "super" = none) (no : ∀ n ∈ ns, PySem.W.findIn K (.ref C) n = some none) : ErrK K mg x C fI ns :=
  ⟨PySem.W.mg_of X G F.a1, ⟨⟨_, _, _, _, _, _, _, _, _, _, _, _, _, _, _, F.a2, F.a3⟩, F.a4, F.a5, F.a6, F.a7⟩, F.a8, F.a9, no, F.b1, F.b2, F.b3, op, su⟩
theorem ErrFacts.errV (sp : PySem.W.specialIn K (.builtin "object.__class__") "__get__" = some (some (.builtin "getset_descriptor.__get__"))) (tk : PySem.W.takesIn K (.builtin "object.__class__") = some true) : ErV K C := ⟨F.c2, F.c3, F.a5, F.c4, F.c5, sp, tk, F.c6⟩
end
/-- the top's own words, needed for every error class -/
structure ErrAll (P : Program) (K : PySem.W.Frag) (mg : Str → Option Value) : Prop where
  top : (P.main.scope.names.lookup ("super" : Str)).isSome = false
  op : PySem.W.nsIn K cStatics "thirdparty.any" = some none
  su : mg "super" = none
  sp : PySem.W.specialIn K (.builtin "object.__class__") "__get__" = some (some (.builtin "getset_descriptor.__get__"))
  tk : PySem.W.takesIn K (.builtin "object.__class__") = some true
section
variable {p0 p1 p2 p3 p4 p5 p6 q0 q1 q2 q3 r0 r1 r2 r3 : Pos} {pa0 : Arg}
/-- a class of one field: def __init__(self, n): super().__init__(n); self.n = n -/
theorem err_mk1 {h : Heap} (n : Str) (X : K.In h) (G : h.Ns mainGlobals mg) (A : ErrAll P K mg) (F : ErrFacts P K x q st C fI c cc nm qn N bs bm sn sub ab col dd k0 k1 k2 k3 k5 oc kV doc pm ct cl ccl od an cld cdd osl csl ccs vs fl tf cd) (no : PySem.W.findIn K (.ref C) n = some none)
    (S : NScope ["self", n, "__class__"] ["self", n] ["__class__"] (defScope st))
    (eb : defBody st = [.Expr (.Call (.Attribute (.Call (.Name "super" p0) [] [] p1) "__init__" p2) [.Name n p3] [] p4) p5, .Assign [.Attribute (.Name "self" q0) n q1] (.Name n q2) q3])
    (hp : ((defArgs st).posonlyargs ++ (defArgs st).args).head? = some pa0) (h0 : pa0.arg = "self") (hks : (defScope st).names.lookup ("super" : Str) = some .globalImplicit)
    (hint : ∀ L, interactive (envF (nfS "__init__" q st cc c) fI L) = false)
    (hsw1 : ∀ L, swapsWith (.Call (.Attribute (.Call (.Name "super" p0) [] [] p1) "__init__" p2) [.Name n p3] [] p4) none p5.line (envF (nfS "__init__" q st cc c) fI L) = pure false)
    (hev : ∀ L, ∃ pl : Sem Bool, eval (.Call (.Attribute (.Call (.Name "super" p0) [] [] p1) "__init__" p2) [.Name n p3] [] p4) (envF (nfS "__init__" q st cc c) fI L) = (do
      let ov ← attributeBase (.Call (.Name "super" p0) [] [] p1) "__init__" (envF (nfS "__init__" q st cc c) fI L) (eval (.Call (.Name "super" p0) [] [] p1) (envF (nfS "__init__" q st cc c) fI L))
      standAt p2.atName
      let (ff, first) ← holding [ov] (getMethod ov "__init__" pl)
      callWith p4 ff first (backTo p4 (starEach [.Name n p3] (envF (nfS "__init__" q st cc c) fI L))) []))
    (hsw2 : ∀ L, swapsWith (.Name n q2) (some (.Attribute (.Name "self" q0) n q1)) q3.line (envF (nfS "__init__" q st cc c) fI L) = pure false) (hdb : (n == ("__debug__" : Str)) = false) (hcd : (n == ("__classdict__" : Str)) = false)
    (hb : ∀ us : List Value, us.length = 2 → bindArgs (PySem.W.fnX "__init__" q (defArgs st) (defBody st) (defScope st) [("__class__", cc)] .none kV doc pm an (.ref c) ct) ⟨us, []⟩ = pure ((["self", n] : List Str).zip us)) : ErrT P w K mg base x C [n] := by
  have N1 : ∀ m ∈ [n], PySem.W.findIn K (.ref C) m = some none := fun m hm => by
    rw [List.mem_singleton.mp hm]
    exact no
  have EK := F.errK (ns := [n]) X G A.op A.su N1
  exact ⟨EK.gC, ⟨fI, _, EK, err1_ok (F.sup A.top) EK S eb hp h0 hks hint hsw1 hev hsw2 hdb hcd, .all fun us hl => hb us hl⟩, F.errV A.sp A.tk, N1⟩
/-- a class of two fields -/
theorem err_mk2 {h : Heap} (n m : Str) (X : K.In h) (G : h.Ns mainGlobals mg) (A : ErrAll P K mg) (F : ErrFacts P K x q st C fI c cc nm qn N bs bm sn sub ab col dd k0 k1 k2 k3 k5 oc kV doc pm ct cl ccl od an cld cdd osl csl ccs vs fl tf cd) (no : PySem.W.findIn K (.ref C) n = some none) (no2 : PySem.W.findIn K (.ref C) m = some none)
    (S : NScope ["self", n, m, "__class__"] ["self", n, m] ["__class__"] (defScope st))
    (eb : defBody st = [.Expr (.Call (.Attribute (.Call (.Name "super" p0) [] [] p1) "__init__" p2) [.Name n p3, .Name m p6] [] p4) p5, .Assign [.Attribute (.Name "self" q0) n q1] (.Name n q2) q3, .Assign [.Attribute (.Name "self" r0) m r1] (.Name m r2) r3])
    (hp : ((defArgs st).posonlyargs ++ (defArgs st).args).head? = some pa0) (h0 : pa0.arg = "self") (hks : (defScope st).names.lookup ("super" : Str) = some .globalImplicit)
    (hint : ∀ L, interactive (envF (nfS "__init__" q st cc c) fI L) = false)
    (hsw1 : ∀ L, swapsWith (.Call (.Attribute (.Call (.Name "super" p0) [] [] p1) "__init__" p2) [.Name n p3, .Name m p6] [] p4) none p5.line (envF (nfS "__init__" q st cc c) fI L) = pure false)
    (hev : ∀ L, ∃ pl : Sem Bool, eval (.Call (.Attribute (.Call (.Name "super" p0) [] [] p1) "__init__" p2) [.Name n p3, .Name m p6] [] p4) (envF (nfS "__init__" q st cc c) fI L) = (do
      let ov ← attributeBase (.Call (.Name "super" p0) [] [] p1) "__init__" (envF (nfS "__init__" q st cc c) fI L) (eval (.Call (.Name "super" p0) [] [] p1) (envF (nfS "__init__" q st cc c) fI L))
      standAt p2.atName
      let (ff, first) ← holding [ov] (getMethod ov "__init__" pl)
      callWith p4 ff first (backTo p4 (starEach [.Name n p3, .Name m p6] (envF (nfS "__init__" q st cc c) fI L))) []))
    (hsw2 : ∀ L, swapsWith (.Name n q2) (some (.Attribute (.Name "self" q0) n q1)) q3.line (envF (nfS "__init__" q st cc c) fI L) = pure false) (hsw3 : ∀ L, swapsWith (.Name m r2) (some (.Attribute (.Name "self" r0) m r1)) r3.line (envF (nfS "__init__" q st cc c) fI L) = pure false)
    (hdb : (n == ("__debug__" : Str)) = false) (hcd : (n == ("__classdict__" : Str)) = false) (mdb : (m == ("__debug__" : Str)) = false) (mcd : (m == ("__classdict__" : Str)) = false)
    (hb : ∀ us : List Value, us.length = 3 → bindArgs (PySem.W.fnX "__init__" q (defArgs st) (defBody st) (defScope st) [("__class__", cc)] .none kV doc pm an (.ref c) ct) ⟨us, []⟩ = pure ((["self", n, m] : List Str).zip us)) : ErrT P w K mg base x C [n, m] := by
  have N1 : ∀ y ∈ [n, m], PySem.W.findIn K (.ref C) y = some none := fun y hy => by
    rcases List.mem_cons.mp hy with rfl | hy
    · exact no
    · rw [List.mem_singleton.mp hy]
      exact no2
  have EK := F.errK (ns := [n, m]) X G A.op A.su N1
  exact ⟨EK.gC, ⟨fI, _, EK, err2_ok (F.sup A.top) EK S eb hp h0 hks hint hsw1 hev hsw2 hsw3 hdb hcd mdb mcd, .all fun us hl => hb us hl⟩, F.errV A.sp A.tk, N1⟩
end
end
section
variable {X : Cx} {η : En} {L : Lg} {Q : QV} {El : XL} {CX : CXT} {x : Str} {j k : Nat} {sp : SpL} {e : Expr} {es : List Expr} {kws : List Keyword} {pos p : Pos} {W : XW}
/-- the values of keywords, one behind another -/
def GK (X : Cx) (kws : List Keyword) (η : En) (L : Lg) (Q : List V → Lg → Prop) : Prop := match kws with
  | [] => Q [] L
  | k :: r => GE X k.value η L fun v L1 => GK X r η L1 fun vs L2 => Q (v :: vs) L2
theorem gk_nil {Q : List V → Lg → Prop} (q : Q [] L) : GK X [] η L Q := q
theorem gk_cons {k : Keyword} {Q : List V → Lg → Prop} (h : GE X k.value η L fun v L1 => GK X kws η L1 fun vs L2 => Q (v :: vs) L2) : GK X (k :: kws) η L Q := h
theorem GK.run {Q : List V → Lg → Prop} : ∀ {kws : List Keyword} {L : Lg} {Q : List V → Lg → Prop}, GK X kws η L Q → X.N = names η → ∀ (pos : Pos) (pins : List (Addr × Obj)) (s : Shared) (H : Hp), Has H L → Inv X pins (vals η) H s →
    wpAny (model X.prog X.w) X.A (evalAll ((backToKw pos (keywordEach kws X.env)).map (·.2))) (fun us s' => ∃ vs H', Inv X pins (vals η) H' s' ∧ Vals vs us ∧ ∃ L', Has H' L' ∧ Q vs L') X.xe s
  | [], L, Q, h, hN, pos, pins, s, H, hH, I => wpAny_evalAll_nil ⟨[], H, I, .nil, L, hH, h⟩
  | ⟨nm, e, kp⟩ :: r, L, Q, h, hN, pos, pins, s, H, hH, I => by
    show wpAny _ _ (evalAll ((do let v ← eval e X.env; standAt pos; pure v) :: (backToKw pos (keywordEach r X.env)).map (·.2))) _ _ s
    refine wpAny_evalAll_cons (wpAny_bind (thn (h hN H hH pins s I) fun u s1 ⟨x, H1, I1, r1, L1, h1, q1⟩ => wpAny_bind (wpAny_standAt (wpAny_pure ?_))))
    exact thn (GK.run (Q := Q) q1 hN pos pins s1 H1 h1 I1) fun us s2 ⟨xs, H2, I2, r2, L2, h2, q2⟩ => ⟨x :: xs, H2, I2, .cons r1 r2, L2, h2, q2⟩
/-- what is at f, called with values that keep φ -/
def GF (X : Cx) (η : En) (f : Addr) (args : List Value → Args) (φ : List V → Lg → Prop) (Q : QV) : Prop :=
  ∀ (pins : List (Addr × Obj)) (s : Shared) (H : Hp) (us : List Value) (vs : List V) (L : Lg), Has H L → Inv X pins (vals η) H s → Vals vs us → φ vs L → wpAny (model X.prog X.w) X.A (call (.ref f) (args us).pos (args us).kw) (EP X pins (vals η) (up Q)) X.xe s
theorem gf_of {f : Addr} {args : List Value → Args} (F : RunG X.prog X.w X.K X.mg X.base CX k f args (toSp sp)) (hr : RoomG j X.A) (hx : Passes CX X (upX El)) (hjk : k ≤ j := by decide) : GF X η f args (fun vs L => sp vs L Q El) Q := fun _ _ _ _ _ _ hH I r h => run_G F (hr.mono hjk) hx I r (up_sp hH h)
/-- f(.., k = v, ..) -/
theorem ge_kw {n : Nat} {ks : List Str} {f : Addr} {φ : List V → Lg → Prop} (hm : X.mg x = some (.ref f)) (hk : PySem.W.keepIn X.K (.ref f) = true) (F : X.N = names η → GF X η f (argsK n ks) φ Q) (h : GA X (e :: es) η L fun vs L1 => GK X kws η L1 fun ws L2 => vs.length = n ∧ φ (vs ++ ws) L2)
    (hks : (backToKw pos (keywordEach kws X.env)).filterMap (·.1) = ks := by rfl) (hall : (backToKw pos (keywordEach kws X.env)).all (·.1.isSome) = true := by rfl) (hg : Gl X x := by rfl) (hd : (x == ("__debug__" : Str)) = false := by decide)
    (he : starEach (e :: es) X.env = (false, eval e X.env) :: starEach es X.env := by rfl) (hpl : ((backTo pos (starEach (e :: es) X.env)).any (·.1) || (backToKw pos (keywordEach kws X.env)).any (·.1.isNone)) = false := by rfl) : GE X (.Call (.Name x p) (e :: es) kws pos) η L Q := fun hN H hH pins s I => by
  refine wpAny_Call_Name_kw (ld_glob I hg hm ?_ hd)
  refine PySem.W.callWith_KW (h₀ := X.base) I.ok.mod.kin hk hall (thn (h hN H hH pos pins s I) fun us s1 ⟨vs, H1, I1, r1, L1, h1, q1⟩ => ?_) hpl he
  refine thn (GK.run (Q := fun _ _ => True) q1 hN pos pins s1 H1 h1 I1) fun ws s2 ⟨zs, H2, I2, r2, L2, h2, ln, q2⟩ => ⟨I2.kIn, ?_⟩
  have l1 : us.length = n := r1.length.symm.trans ln
  have z := F hN pins s2 H2 (us ++ ws) (vs ++ zs) L2 h2 I2 (r1.append r2) q2
  have e1 : (us ++ ws).take n = us := by rw [← l1]; exact List.take_left
  have e2 : (us ++ ws).drop n = ws := by rw [← l1]; exact List.drop_left
  rw [hks]
  show wpAny _ _ (call (.ref f) us (ks.zip ws)) _ _ _
  have z' : wpAny (model X.prog X.w) X.A (call (.ref f) ((us ++ ws).take n) (ks.zip ((us ++ ws).drop n))) (EP X pins (vals η) (up Q)) X.xe s2 := z
  rw [e1, e2] at z'
  exact z'
theorem ge_kw0 {ks : List Str} {f : Addr} {φ : List V → Lg → Prop} (hm : X.mg x = some (.ref f)) (hk : PySem.W.keepIn X.K (.ref f) = true) (F : X.N = names η → GF X η f (argsK 0 ks) φ Q) (h : GK X kws η L φ)
    (hks : (backToKw pos (keywordEach kws X.env)).filterMap (·.1) = ks := by rfl) (hall : (backToKw pos (keywordEach kws X.env)).all (·.1.isSome) = true := by rfl) (hg : Gl X x := by rfl) (hd : (x == ("__debug__" : Str)) = false := by decide)
    (hpl : ((backTo pos (starEach [] X.env)).any (·.1) || (backToKw pos (keywordEach kws X.env)).any (·.1.isNone)) = false := by rfl) : GE X (.Call (.Name x p) [] kws pos) η L Q := fun hN H hH pins s I => by
  refine wpAny_Call_Name_kw (ld_glob I hg hm ?_ hd)
  refine PySem.W.callWith_KW0 (h₀ := X.base) I.ok.mod.kin hk hall (thn (GK.run (Q := fun _ _ => True) h hN pos pins s H hH I) fun ws s2 ⟨zs, H2, I2, r2, L2, h2, q2⟩ => ⟨I2.kIn, ?_⟩) hpl
  rw [hks]
  exact F hN pins s2 H2 ws zs L2 h2 I2 r2 q2
/-- a def by its name, as a value -/
theorem gv_def {f : Addr} (hm : X.mg x = some (.ref f)) (q : Q (.ref f) L) (hg : Gl X x := by rfl) (hd : (x == ("__debug__" : Str)) = false := by decide) : GE X (.Name x pos) η L Q := ge_con (pe_glob (v := .ref f) hg hm rfl hd) q
end
section
variable {X : Cx} {η : En} {L : Lg} {Q : QV} {pos : Pos}
theorem gv_ValueError (B : Bi X.mg) (q : Q (.ty "ValueError") L) (hg : Gl X "ValueError" := by rfl) : GE X (.Name "ValueError" pos) η L Q := ge_tyName B.ValueError bt_ValueError q hg (by decide) (by decide)
theorem gv_LookupError (B : Bi X.mg) (q : Q (.ty "LookupError") L) (hg : Gl X "LookupError" := by rfl) : GE X (.Name "LookupError" pos) η L Q := ge_tyName B.LookupError bt_LookupError q hg (by decide) (by decide)
/-- {} -/
theorem ge_dict0 (h : ∀ p, Q (.ref p) ((p, .dK []) :: L)) : GE X (.Dict [] [] pos) η L Q := fun _ H hH => WE.of pe_dnewK fun p hp => ⟨_, hH.new hp, h p⟩
end
end G
set_option Elab.async false
set_option linter.all false
set_option maxRecDepth 100000
set_option maxHeartbeats 4000000
namespace G
open PySem PySem.Spec PyProof.Rows L2
section
variable {X : Cx} {η : En} {L : Lg} {Q : QV} {p q : Addr} {xs ys : List V} {i k : Int}
theorem go_cat (m1 : (p, HO.lst xs) ∈ L) (m2 : (q, HO.lst ys) ∈ L) (z : xs.length + ys.length ≤ sizeLine) (h : ∀ r, Q (.ref r) ((r, .lst (xs ++ ys)) :: L)) : GOp X (binaryOp .Add) (.ref p) (.ref q) L Q := GOp.of op_cat fun H hH => ⟨p, q, xs, ys, rfl, rfl, hH.get m1, hH.get m2, z, fun r hr => ⟨_, hH.new hr, h r⟩⟩
end
section
variable {X : Cx} {η : En} {L : Lg} {Q : QV} {e : Expr} {p pos : Pos} {k n m : Nat}
theorem szL (h : n ≤ 16777216) : n ≤ sizeLine := by
  rw [sizeLine_eq]
  exact h
end
theorem range_more {p : Nat → Bool} {g : Nat → V} {i : Nat} : ((List.range (i + 1)).filter p).map g = ((List.range i).filter p).map g ++ (if p i = true then [g i] else []) := by
  rw [List.range_succ, List.filter_append, List.map_append]
  congr 1
  by_cases h : p i = true
  · rw [if_pos h, List.filter_cons_of_pos h]
    rfl
  · rw [if_neg h, List.filter_cons_of_neg h]
    rfl
theorem GTs.sub {X : Cx} {ifs : List Expr} {η : En} {L M : Lg} {Q : Bool → Lg → Prop} (s : Sub M L) (h : GTs X ifs η M fun b M1 => ∀ M2, Sub M1 M2 → Q b M2) : GTs X ifs η L Q := by
  match ifs, h with
  | [], h => exact h _ s
  | [c], h => exact GT.sub s (h.imp fun b M1 q => q _ .refl)
section
variable {X : Cx} {η : En} {L : Lg} {elt iter tg : Expr} {ifs : List Expr} {scope : Scope} {pos p1 p2 p3 : Pos} {x y : Str} {f : V → En} {Q : QV}
/-- what such a comprehension is shown of; st: how an item is stored -/
structure PureC (X : Cx) (scope : Scope) (ifs : List Expr) (elt : Expr) (S : Src) (L : Lg) (st : V → Lg → (En → Lg → Prop) → Prop) (p : Nat → Bool) (g : Nat → V) : Prop where
  n : S.n ≤ 1000000
  kp : ∀ M, (∀ e ∈ L, e ∈ M) → S.keep M
  tn : ∀ i x E D acc M, i < S.n → S.item i x E → ((E ++ M).map (·.1)).Nodup → Sub ((D, .lst acc) :: L) M → st x (E ++ M) fun θ M' => AllBlk X scope fun B => GTs B ifs θ M' fun b M1 => b = p i ∧ Sub ((D, .lst acc) :: L) M1 ∧ (b = true → AllBlk X scope fun B => GE B elt θ M1 fun z M2 => z = g i ∧ Sub ((D, .lst acc) :: L) M2)
theorem GE.undrp {e : Expr} (h : GE X e η L (drp Q)) : GE X e η L Q := fun hN H hH => (h hN H hH).mono fun v H' ⟨M, hM, N, s, q⟩ => ⟨N, s H' hM, q⟩
theorem GS.undrp {st : Stmt} {D : GD} (h : GS X st { D with nx := fun θ M => ∃ N, Sub N M ∧ D.nx θ N } η L) : GS X st D η L := fun hN H hH =>
  (h hN H hH).mono (fun σ H' ⟨θ, M, n1, es, hM, N, s, q⟩ => ⟨θ, N, n1, es, s H' hM, q⟩) (fun _ _ z => z) (fun _ _ z => z) fun _ _ z => z
theorem filter_le {p : Nat → Bool} {g : Nat → V} {i : Nat} : (((List.range i).filter p).map g).length ≤ i := by
  rw [List.length_map]
  exact Nat.le_trans (List.length_filter_le _ _) (by rw [List.length_range]; exact Nat.le_refl _)
theorem PureC.lc {S : Src} {st : V → Lg → (En → Lg → Prop) → Prop} {p : Nat → Bool} {g : Nat → V} (h : PureC X scope ifs elt S L st p g) (mono : ∀ v M (k k' : En → Lg → Prop), (∀ θ M', k θ M' → k' θ M') → st v M k → st v M k') (D : Addr)
    (q : Q (.ref D) ((D, .lst (((List.range S.n).filter p).map g)) :: L)) : ∃ Pv, LcS X scope ifs elt S D L st Pv (drp Q) := by
  refine ⟨fun i M => Sub ((D, .lst (((List.range i).filter p).map g)) :: L) M, Sub.refl, fun i M _ nd s => h.kp M fun e m => (s.to nd).2 e (List.mem_cons_of_mem _ m), fun i x E M hi it nd s => ?_, fun M s => ⟨_, s, q⟩⟩
  refine mono x (E ++ M) _ _ (fun θ M' k => ?_) (h.tn i x E D _ M hi it nd s)
  intro s1 H1 C1 cl1 fp1
  have k1 := k s1 H1 C1 cl1 fp1
  have more := range_more (p := p) (g := g) (i := i)
  have key : ∀ b M1, (b = p i ∧ Sub ((D, .lst (((List.range i).filter p).map g)) :: L) M1 ∧ (b = true → AllBlk X scope fun B => GE B elt θ M1 fun z M2 => z = g i ∧ Sub ((D, .lst (((List.range i).filter p).map g)) :: L) M2)) →
      if b = true then AllBlk X scope fun B => GE B elt θ M1 fun y M2 => ∃ acc M3, (D, HO.lst acc) ∈ M2 ∧ acc.length < sizeLine ∧ Swap D (.lst (acc ++ [y])) M2 M3 ∧ Sub ((D, .lst (((List.range (i + 1)).filter p).map g)) :: L) M3 else Sub ((D, .lst (((List.range (i + 1)).filter p).map g)) :: L) M1 := fun b M1 ⟨eb, sb, hb⟩ => by
    cases b with
    | true =>
      rw [if_pos rfl]
      intro s2 H2 C2 cl2 fp2
      refine GE.nd ((hb rfl s2 H2 C2 cl2 fp2).imp fun y M2 ⟨ey, s3⟩ nd => ?_)
      have m2 := (s3.to nd).2 _ List.mem_cons_self
      obtain ⟨M3, sw⟩ := Swap.ex (o := .lst (((List.range i).filter p).map g ++ [y])) (u := .lst (((List.range i).filter p).map g)) rfl m2
      refine ⟨_, M3, m2, ?_, sw, ?_⟩
      · have := filter_le (p := p) (g := g) (i := i)
        have := h.n
        rw [sizeLine_eq]
        omega
      · rw [more, if_pos eb.symm, ← ey]
        exact s3.swap sw
    | false =>
      rw [if_neg Bool.false_ne_true, more, if_neg (by rw [← eb]; exact Bool.false_ne_true), List.append_nil]
      exact sb
  match ifs, k1 with
  | [], k1 => exact key _ _ k1
  | [c], k1 => exact k1.imp fun b M1 z => key b M1 z
theorem GI.imp {Q Q' : Src → Lg → Prop} (h : GI X tg iter η L Q) (m : ∀ S L1, Q S L1 → Q' S L1) : GI X tg iter η L Q' := fun hN H hH pins s I =>
  wpAny_mono (h hN H hH pins s I) (fun v s1 z => wpAny_mono z (fun itv s2 ⟨it, fp, tn, J, H1, ev, I2, T, t0, f2, L1, S, k1, ok, q⟩ => ⟨it, fp, tn, J, H1, ev, I2, T, t0, f2, L1, S, k1, ok, m S L1 q⟩) fun _ _ z => z) fun _ _ z => z
/-- what is shown of a pure comprehension: R what holds of the new list -/
def PureL (X : Cx) (scope : Scope) (ifs : List Expr) (elt : Expr) (st : V → Lg → (En → Lg → Prop) → Prop) (R : V → Lg → Prop) (S : Src) (L1 : Lg) : Prop := ∃ p g, PureC X scope ifs elt S L1 st p g ∧ ∀ D, R (.ref D) ((D, .lst (((List.range S.n).filter p).map g)) :: L1)
abbrev stOne (f : V → En) : V → Lg → (En → Lg → Prop) → Prop := fun v M k => k (f v) M
abbrev stTwo (g : V → V → En) : V → Lg → (En → Lg → Prop) → Prop := fun v M k => ∃ p a b, v = .ref p ∧ (p, HO.tup [a, b]) ∈ M ∧ k (g a b) M
theorem monoOne {f : V → En} : ∀ v M (k k' : En → Lg → Prop), (∀ θ M', k θ M' → k' θ M') → stOne f v M k → stOne f v M k' := fun _ _ _ _ m z => m _ _ z
theorem monoTwo {g : V → V → En} : ∀ v M (k k' : En → Lg → Prop), (∀ θ M', k θ M' → k' θ M') → stTwo g v M k → stTwo g v M k' := fun _ _ _ _ m ⟨p, a, b, e, h, z⟩ => ⟨p, a, b, e, h, m _ _ z⟩
/-- [elt for x in iter if ..], all parts pure -/
theorem ge_lcP (P : PutF x η f) (h : GI X (.Name x p1) iter η L (PureL X scope ifs elt (stOne f) Q)) (hb : blkC X.N X.env.scope scope [(x, X.N.idxOf x)] = true) (hlx : LocB X scope x := by exact fun _ _ _ _ _ => ⟨.inl rfl, .inr rfl⟩)
    (hN : X.N.Nodup := by assumption) (hc : X.calm = true := by rfl) (hs : ∀ z, foldedSetIterable iter X.env z = pure z := by intro _; rfl) : GE X (.ListComp elt [⟨.Name x p1, iter, ifs, 0⟩] scope pos) η L Q :=
  GE.undrp (ge_lc1 P (h.imp fun S L1 ⟨p, g, pc, q⟩ D => pc.lc monoOne D (q D)) hb hlx hN hc hs)
theorem ge_lcP2 {g : V → V → En} {kt : Nat} {pt : Pos} (P : PutF x η f) (R : ∀ v, PutF y (f v) (g v)) (h : GI X (.Tuple [.Name x p1, .Name y p2] kt pt) iter η L (PureL X scope ifs elt (stTwo g) Q)) (hxy : x ≠ y) (hb : blkC X.N X.env.scope scope [(x, X.N.idxOf x), (y, X.N.idxOf y)] = true) (hlx : LocB X scope x := by exact fun _ _ _ _ _ => ⟨.inl rfl, .inr rfl⟩) (hly : LocB X scope y := by exact fun _ _ _ _ _ => ⟨.inl rfl, .inr rfl⟩)
    (hN : X.N.Nodup := by assumption) (hc : X.calm = true := by rfl) (hs : ∀ z, foldedSetIterable iter X.env z = pure z := by intro _; rfl) : GE X (.ListComp elt [⟨.Tuple [.Name x p1, .Name y p2] kt pt, iter, ifs, 0⟩] scope pos) η L Q :=
  GE.undrp (ge_lc2 P R (h.imp fun S L1 ⟨p, g, pc, q⟩ D => pc.lc monoTwo D (q D)) hxy hb hlx hly hN hc hs)
theorem gs_lcP {D : GD} {fy : V → En} {py : Pos} (Py : PutF y η fy) (P : PutF x η f) (h : GI X (.Name x p1) iter η L (PureL X scope ifs elt (stOne f) fun v M => D.nx (fy v) M)) (hb : blkC X.N X.env.scope scope [(x, X.N.idxOf x)] = true) (hlx : LocB X scope x := by exact fun _ _ _ _ _ => ⟨.inl rfl, .inr rfl⟩)
    (hyl : X.env.scope.names.lookup y = some .local := by rfl) (hsw : swapsWith (.ListComp elt [⟨.Name x p1, iter, ifs, 0⟩] scope pos) (some (.Name y py)) p3.line X.env = pure true := by rfl)
    (hN : X.N.Nodup := by assumption) (hc : X.calm = true := by rfl) (hs : ∀ z, foldedSetIterable iter X.env z = pure z := by intro _; rfl) : GS X (.Assign [.Name y py] (.ListComp elt [⟨.Name x p1, iter, ifs, 0⟩] scope pos) p3) D η L :=
  GS.undrp (gs_lc1 Py P (h.imp fun S L1 ⟨p, g, pc, q⟩ d => pc.lc (Q := fun v M => D.nx (fy v) M) monoOne d (q d)) hb hlx hyl hsw hN hc hs)
theorem gs_lcP2 {D : GD} {fy : V → En} {z : Str} {pz : Pos} {g : V → V → En} {kt : Nat} {pt : Pos} (Pz : PutF z η fy) (P : PutF x η f) (R : ∀ v, PutF y (f v) (g v)) (h : GI X (.Tuple [.Name x p1, .Name y p2] kt pt) iter η L (PureL X scope ifs elt (stTwo g) fun v M => D.nx (fy v) M)) (hxy : x ≠ y) (hb : blkC X.N X.env.scope scope [(x, X.N.idxOf x), (y, X.N.idxOf y)] = true) (hlx : LocB X scope x := by exact fun _ _ _ _ _ => ⟨.inl rfl, .inr rfl⟩) (hly : LocB X scope y := by exact fun _ _ _ _ _ => ⟨.inl rfl, .inr rfl⟩)
    (hzl : X.env.scope.names.lookup z = some .local := by rfl) (hsw : swapsWith (.ListComp elt [⟨.Tuple [.Name x p1, .Name y p2] kt pt, iter, ifs, 0⟩] scope pos) (some (.Name z pz)) p3.line X.env = pure true := by rfl)
    (hN : X.N.Nodup := by assumption) (hc : X.calm = true := by rfl) (hs : ∀ z, foldedSetIterable iter X.env z = pure z := by intro _; rfl) : GS X (.Assign [.Name z pz] (.ListComp elt [⟨.Tuple [.Name x p1, .Name y p2] kt pt, iter, ifs, 0⟩] scope pos) p3) D η L :=
  GS.undrp (gs_lc2 Pz P R (h.imp fun S L1 ⟨p, g, pc, q⟩ d => pc.lc (Q := fun v M => D.nx (fy v) M) monoTwo d (q d)) hxy hb hlx hly hzl hsw hN hc hs)
end
theorem filter_list {xs : List V} {t : V → Bool} {g : V → V} {p : Nat → Bool} {h : Nat → V} (hp : ∀ i v, xs[i]? = some v → p i = t v ∧ h i = g v) : ((List.range xs.length).filter p).map h = (xs.filter t).map g := by
  have key : ∀ k, k ≤ xs.length → ((List.range k).filter p).map h = ((xs.take k).filter t).map g := fun k => by
    induction k with
    | zero => intro _; rfl
    | succ k ih =>
      intro hk
      have e : xs[k]? = some xs[k] := List.getElem?_eq_getElem (by omega)
      obtain ⟨a, b⟩ := hp k _ e
      rw [range_more, ih (by omega), List.take_succ, e, List.filter_append, List.map_append, a, b]
      congr 1
      by_cases z : t xs[k] = true
      · rw [if_pos z]
        show _ = (List.filter t [xs[k]]).map g
        rw [List.filter_cons_of_pos z]
        rfl
      · rw [if_neg z]
        show _ = (List.filter t [xs[k]]).map g
        rw [List.filter_cons_of_neg z]
        rfl
  have z := key xs.length (Nat.le_refl _)
  rw [List.take_length] at z
  exact z
section
variable {X : Cx} {L : Lg} {elt : Expr} {ifs : List Expr} {scope : Scope} {f : V → En} {R : V → Lg → Prop} {q : Addr} {xs : List V} {t : V → Bool} {g : V → V}
/-- a pure comprehension's turn: the test, then the element -/
abbrev TurnP (X : Cx) (scope : Scope) (ifs : List Expr) (elt : Expr) (L : Lg) (θ : En) (b0 : Bool) (z0 : V) : Prop := ∀ D acc, AllBlk X scope fun B => GTs B ifs θ ((D, .lst acc) :: L) fun b M1 => b = b0 ∧ Sub ((D, .lst acc) :: L) M1 ∧ (b = true → AllBlk X scope fun B => GE B elt θ M1 fun z M2 => z = z0 ∧ Sub ((D, .lst acc) :: L) M2)
theorem turnP_use {st : V → Lg → (En → Lg → Prop) → Prop} {θ : En} {b0 : Bool} {z0 : V} (h : TurnP X scope ifs elt L θ b0 z0) {D : Addr} {acc : List V} {M : Lg} (s : Sub ((D, .lst acc) :: L) M) :
    AllBlk X scope fun B => GTs B ifs θ M fun b M1 => b = b0 ∧ Sub ((D, .lst acc) :: L) M1 ∧ (b = true → AllBlk X scope fun B => GE B elt θ M1 fun z M2 => z = z0 ∧ Sub ((D, .lst acc) :: L) M2) := fun s1 H1 C1 cl1 fp1 => by
  refine GTs.sub s ?_
  have k := h D acc s1 H1 C1 cl1 fp1
  have key : ∀ b M1, (b = b0 ∧ Sub ((D, .lst acc) :: L) M1 ∧ (b = true → AllBlk X scope fun B => GE B elt θ M1 fun z M2 => z = z0 ∧ Sub ((D, .lst acc) :: L) M2)) → ∀ M2, Sub M1 M2 → b = b0 ∧ Sub ((D, .lst acc) :: L) M2 ∧ (b = true → AllBlk X scope fun B => GE B elt θ M2 fun z M2 => z = z0 ∧ Sub ((D, .lst acc) :: L) M2) :=
    fun b M1 ⟨e, s1, k⟩ M2 s2 => ⟨e, s1.trans s2, fun hb s3 H3 C3 cl3 fp3 => GE.sub s2 (k hb s3 H3 C3 cl3 fp3)⟩
  match ifs, k with
  | [], k => exact key _ _ k
  | [c], k => exact k.imp key
/-- over a list -/
theorem pure_list (mq : (q, HO.lst xs) ∈ L) (hl : xs.length ≤ 1000000) (ht : ∀ v ∈ xs, TurnP X scope ifs elt L (f v) (t v) (g v)) (r : ∀ D, R (.ref D) ((D, .lst ((xs.filter t).map g)) :: L)) : PureL X scope ifs elt (stOne f) R ⟨xs.length, KeepL q xs, itemAt xs⟩ L := by
  refine ⟨fun i => t (xs[i]?.getD .non), fun i => g (xs[i]?.getD .non), ⟨hl, fun M h => h _ mq, fun i x E D acc M hi ⟨hx, hE⟩ _ s => ?_⟩, fun D => ?_⟩
  · subst hE
    have e : xs[i]?.getD .non = x := by rw [hx] <;> rfl
    rw [e]
    exact turnP_use (st := stOne f) (ht x (List.mem_of_getElem? hx)) s
  · have z := filter_list (xs := xs) (t := t) (g := g) (p := fun i => t (xs[i]?.getD .non)) (h := fun i => g (xs[i]?.getD .non)) fun i v e => by
      rw [e]
      exact ⟨rfl, rfl⟩
    show R (.ref D) ((D, .lst (((List.range xs.length).filter _).map _)) :: L)
    rw [z]
    exact r D
/-- over the numbers of a range -/
theorem pure_fn {n : Nat} {h : Nat → V} {p : Nat → Bool} {g : Nat → V} (hl : n ≤ 1000000) (ht : ∀ i, i < n → TurnP X scope ifs elt L (f (h i)) (p i) (g i)) (r : ∀ D, R (.ref D) ((D, .lst (((List.range n).filter p).map g)) :: L)) : PureL X scope ifs elt (stOne f) R ⟨n, fun _ => True, itemFn h⟩ L := by
  refine ⟨p, g, ⟨hl, fun _ _ => True.intro, fun i x E D acc M hi ⟨hx, hE⟩ _ s => ?_⟩, r⟩
  subst hE hx
  exact turnP_use (st := stOne f) (ht i hi) s
end
end G
set_option Elab.async false
set_option linter.all false
set_option maxRecDepth 100000
set_option maxHeartbeats 4000000
namespace G
open PySem PySem.Spec PyProof.Rows L2
abbrev penO (c : Addr) (n m : Int) : HO := .lst [.ref c, .int n, .int m]
abbrev celO (ns : List Int) : HO := .lst (ns.map V.int)
def spDraw : SpL := fun vs L Q _ => ∃ (p c : Addr) (ns : List Int) (n m many : Int) (R : Lg), vs = [.ref p, .int many] ∧ Sub ((p, penO c n m) :: (c, celO ns) :: R) L ∧ ns.length ≤ 63 ∧ 0 < many ∧ many < 2 ^ 64 ∧ 0 ≤ n ∧ n ≤ 100000 ∧ 0 ≤ m ∧
  ∀ d n' m', 0 ≤ d → d < many → 0 ≤ n' → n' ≤ n + 1 → 0 ≤ m' → Q (.int d) ((p, penO c n' m') :: (c, celO ns) :: R)
theorem cut63 {ns : List Int} : ∃ ms : List Int, ms.length ≤ 63 ∧ cutV (ns.map V.int) none (some 63) = ms.map V.int := by
  refine ⟨ns.take 63, by rw [List.length_take]; omega, ?_⟩
  unfold cutV
  have e1 : HT.sIx (ns.map V.int).length 0 none = 0 := rfl
  have e2 : HT.sIx (ns.map V.int).length (ns.map V.int).length (some 63) = min 63 (ns.map V.int).length := HT.sIx_nat _ _ 63
  rw [e1, e2, List.drop_zero, Nat.sub_zero, List.map_take, ← List.take_take, List.take_length]
/-- a list, one of which is drawn -/
def spPick : SpL := fun vs L Q _ => ∃ (p c q : Addr) (ns : List Int) (xs : List V) (n m : Int) (R : Lg), vs = [.ref p, .ref q] ∧ Sub ((p, penO c n m) :: (c, celO ns) :: R) L ∧ (q, HO.lst xs) ∈ R ∧ ns.length ≤ 63 ∧ 0 < xs.length ∧ xs.length < 1000 ∧ 0 ≤ n ∧ n ≤ 100000 ∧ 0 ≤ m ∧
  ∀ (k : Nat) (x : V) n' m', xs[k]? = some x → 0 ≤ n' → n' ≤ n + 1 → 0 ≤ m' → Q x ((p, penO c n' m') :: (c, celO ns) :: R)
/-- a part of a law: it draws at most k times and tells True -/
def spRight (k : Int) : SpL := fun vs L Q _ => ∃ (p c : Addr) (ns : List Int) (n m : Int) (R : Lg), vs = [.ref p] ∧ Sub ((p, penO c n m) :: (c, celO ns) :: R) L ∧ ns.length ≤ 63 ∧ 0 ≤ n ∧ n + k ≤ 100000 ∧ 0 ≤ m ∧
  ∀ n' m', 0 ≤ n' → n' ≤ n + k → 0 ≤ m' → Q (.bl true) ((p, penO c n' m') :: (c, celO ns) :: R)
theorem gts_nil {X : Cx} {η : En} {L : Lg} {Q : Bool → Lg → Prop} (q : Q true L) : GTs X [] η L Q := q
theorem tk0 {X : Cx} : Tk X (fun _ _ _ _ => False) := (L2.takes0 (X := X)).imp fun _ _ _ _ ⟨_, _, _, _, _, z⟩ => z.elim
theorem rdSub {L M : Lg} {v : V} {d : PyData} (s : Sub M L) (h : Rd M v d) : Rd L v d := fun X pins σ H s' u hH I r => h X pins σ H s' u (s H hH) I r
section
variable {a b c d e f g h i j : Addr × HO} {R : Lg}
theorem rot3 : Sub (c :: a :: b :: R) (a :: b :: c :: R) := Sub.perm (List.perm_middle (l₁ := [a, b]) (l₂ := R) (a := c)).symm
theorem rot3' : Sub (a :: b :: c :: R) (c :: a :: b :: R) := Sub.perm (List.perm_middle (l₁ := [a, b]) (l₂ := R) (a := c))
end
/-- a list of ints mapped -/
def intF (g : Int → Int) : V → V
  | .int n => .int (g n)
  | v => v
theorem ints_mapV {ns : List Int} {g : Int → Int} : ((ns.map V.int).filter fun _ => true).map (intF g) = (ns.map g).map V.int := by
  rw [List.filter_eq_self.mpr fun _ _ => rfl, List.map_map, List.map_map]
  rfl
end G
set_option Elab.async false
set_option linter.all false
set_option maxRecDepth 100000
set_option maxHeartbeats 4000000
namespace G
open PySem PySem.Spec PyProof.Rows L2
/-- two entries behind others -/
theorem rotL {a b : Addr × HO} {R : Lg} (l : Lg) : Sub (a :: b :: (l ++ R)) (l ++ (a :: b :: R)) := Sub.perm (by
  refine List.Perm.trans (l₂ := a :: (l ++ (b :: R))) (.cons a ?_) ?_
  · exact List.perm_middle.symm
  · exact List.perm_middle.symm)
theorem rot12 {a b c : Addr × HO} {R : Lg} : Sub (a :: b :: c :: R) (c :: a :: b :: R) := rotL [_]
/-- a value that is shown, and of which the kind is known -/
structure Odd (L : Lg) (v : V) (d : PyData) : Prop where
  kd : ∃ T, Knd L v T
  rd : Rd L v d
  s : d.showable = true
  dp : d.depth ≤ 60
  sz : d.shown.length ≤ 100000
  ok : PyData.strOk d.shown = true
theorem Odd.drop {L : Lg} {v : V} {d : PyData} {a : Addr × HO} (h : Odd L v d) : Odd (a :: L) v d := by
  obtain ⟨T, k⟩ := h.kd
  exact ⟨⟨T, k.sub fun e m => memS m⟩, rdSub Sub.drop h.rd, h.s, h.dp, h.sz, h.ok⟩
theorem GG.sub {X : Cx} {tg : Expr} {v : V} {η : En} {L M : Lg} {Q : En → Lg → Prop} (s : Sub M L) (h : GG X tg v η M Q) : GG X tg v η L Q := fun hN H hH => h hN H (s H hH)
end G
set_option Elab.async false
set_option linter.all false
set_option maxRecDepth 100000
set_option maxHeartbeats 4000000
namespace G
open PySem PySem.Spec PyProof.Rows L2
theorem RoomG.make {k : Nat} {A : Around} (r : RoomG (k + 1) A) (C : Addr) (us : List Value) (kw : List (Str × Value)) : RoomG k (A.under (.builtin "type.__call__" ⟨.ref C :: us, kw⟩)) := ⟨r.toRoom.make C us kw, r.gd⟩
section
variable {X : Cx} {CX : CXT} {k : Nat} {C f : Addr} {sp : Sp} {E : XK} {args : List Value → Args}
/-- C(..): a new instance and its dict, then __init__ -/
theorem run_makeG {pins : List (Addr × Obj)} {σ : L2.St} {H : Hp} {s : Shared} {Q : VK} {us : List Value} {vs : List V} {ps : List Value} {kw : List (Str × Value)} (M : Mk X.K C f) (F : RunG X.prog X.w X.K X.mg X.base CX k f args sp) (hr : RoomG (k + 1) X.A) (hx : PassesAt CX X σ E) (I : Inv X pins σ H s) (r : Vals vs us)
    (ha : ∀ y : Value, args (y :: us) = ⟨y :: ps, kw⟩)
    (h : ∀ x dx, H x = none → H dx = none → dx ≠ x → sp (.ref x :: vs) (upd (upd H dx (.own x)) x (.ins C dx [])) (fun v H2 => v = .non ∧ Q (.ref x) H2) E) : wpAny (model X.prog X.w) X.A (call (.ref C) ps kw) (EP X pins σ Q) X.xe s := by
  have hq := h (s.heap.objs.size + 1) s.heap.objs.size (I.hok.fresh (Nat.le_succ _)) (I.hok.fresh (Nat.le_refl _)) (Nat.ne_of_lt (Nat.lt_succ_self _))
  have I2 := Inv.made (C := C) I
  have z := F _ X.stack _ _ (.ref (s.heap.objs.size + 1) :: us) (.ref (s.heap.objs.size + 1) :: vs) _ E (hr.make C ps kw) (I2.env0.make C ps kw) (.cons rfl r) hq
  rw [ha] at z
  refine wpAny_call (make_map (f := f) I.kIn M.makes M.init (beq_iff_eq.mp M.fn) (codeAny_mono z fun r s' hq' => ?_))
  cases r with
  | error e => exact hx pins _ _ e s' I2 hq'
  | ok fl =>
    cases fl with
    | ret u =>
      obtain ⟨v, H', I3, rv, ev, q3⟩ := I2.after hq'
      subst ev
      exact ⟨rv, ⟨V.ref (s.heap.objs.size + 1), H', I3, rfl, q3⟩⟩
    | next => exact False.elim hq'
    | brk => exact False.elim hq'
    | cont => exact False.elim hq'
end
section
variable {X : Cx} {CX : CXT} {j k : Nat} {C f g p : Addr} {sp : SpL} {El : XL} {args argsI : List Value → Args} {η : En} {L : Lg} {Q : QV} {W : XW} {x n m : Str} {e o value : Expr} {es : List Expr} {D : GD} {pos pos' p1 : Pos} {a dx : Addr} {fs : List (Str × V)} {v y : V} {u : Value}
/-- what __init__ is shown at the new instance -/
abbrev InitSp (C : Addr) (sp : SpL) (Q : QV) (El : XL) : List V → Lg → Prop := fun vs L => ∀ x dx, sp (.ref x :: vs) ((x, .ins C dx []) :: (dx, .own x) :: L) (fun v L' => v = .non ∧ Q (.ref x) L') El
theorem init_sp {H : Hp} {vs : List V} {E : XK} (hH : Has H L) (h : InitSp C sp Q El vs L) (he : ∀ c d L' H', Has H' L' → El c d L' → E c d H') : ∀ x dx, H x = none → H dx = none → dx ≠ x → toSp sp (.ref x :: vs) (upd (upd H dx (.own x)) x (.ins C dx [])) (fun v H2 => v = .non ∧ up Q (.ref x) H2) E := fun x dx hx hdx ne =>
  ⟨_, _, El, (hH.new hdx).new (by rw [upd_ne (Ne.symm ne)]; exact hx), h x dx, fun v L' H' h' q => ⟨q.1, L', h', q.2⟩, he⟩
theorem gf_make (M : Mk X.K C f) (F : RunG X.prog X.w X.K X.mg X.base CX k f argsI (toSp sp)) (ha : ∀ y us, argsI (y :: us) = ⟨y :: (args us).pos, (args us).kw⟩) (hr : RoomG j X.A) (hx : Passes CX X (upX El)) (hjk : k + 1 ≤ j := by decide) : GF X η C args (InitSp C sp Q El) Q := fun pins s H us vs L hH I r h =>
  run_makeG M F (hr.mono hjk) (fun pins => hx pins _) I r (fun y => ha y us) (init_sp hH h fun c d L' H' h' q => ⟨L', h', q⟩)
/-- x(..), x a global that holds a thing of which GF tells -/
theorem ge_callF {φ : List V → Lg → Prop} (hm : X.mg x = some (.ref f)) (hk : PySem.W.keepIn X.K (.ref f) = true) (F : X.N = names η → GF X η f argsP φ Q) (h : GA X (e :: es) η L φ) (hg : Gl X x := by rfl) (hd : (x == ("__debug__" : Str)) = false := by decide)
    (he : starEach (e :: es) X.env = (false, eval e X.env) :: starEach es X.env := by rfl) (hpl : (backTo pos (starEach es X.env)).any (·.1) = false := by rfl) : GE X (.Call (.Name x p1) (e :: es) [] pos) η L Q := fun hN H hH pins s I => by
  refine wpAny_Call_Name_kw (ld_glob I hg hm ?_ hd)
  refine PySem.W.callWith_K (h₀ := X.base) I.ok.mod.kin hk ?_ he hpl
  exact thn (h hN H hH pos pins s I) fun us s1 ⟨vs, H1, J, r, L1, h1, q⟩ => ⟨J.kIn, F hN pins s1 H1 us vs L1 h1 J r q⟩
theorem gat_fld (c : Cls X.K C) (no : NoAttr X.K C n) (mm : (a, HO.ins C dx fs) ∈ L) (l : fs.lookup n = some v) (q : Q v L) : GAt X n (.ref a) L Q := fun pins s σ H u ex hH I r => by
  obtain rfl : u = Value.ref a := r
  exact getattr_ok I (hH.get mm) c no l fun u' s' I' ru => ⟨v, H, I', ru, L, hH, q⟩
theorem gat_con (c : Cls X.K C) (k : Con X.K C n v u) (mm : (a, HO.ins C dx fs) ∈ L) (l : fs.lookup n = none) (q : Q v L) : GAt X n (.ref a) L Q := fun pins s σ H u' ex hH I r => by
  obtain rfl : u' = Value.ref a := r
  exact getcon_ok I (hH.get mm) c k l fun s' I' => ⟨v, H, I', k.rel, L, hH, q⟩
theorem gs_fld (h : GE X value η L fun y L1 => GE X o η L1 fun x L2 => ∃ a C dx fs M, x = .ref a ∧ (a, HO.ins C dx fs) ∈ L2 ∧ Cls X.K C ∧ NoAttr X.K C n ∧ fs.length < 1000 ∧ Swap a (.ins C dx (putF n y fs)) L2 M ∧ D.nx η M)
    (hs : swapsWith value (some (.Attribute o n pos')) pos.line X.env = pure false := by rfl) : GS X (.Assign [.Attribute o n pos'] value pos) D η L := fun hN H hH =>
  WS.of (ps_fld pe_W pe_W hs) (h.then hN hH fun y L1 H1 h1 q => q.then hN h1 fun x L2 H2 h2 ⟨a, C, dx, fs, M, ex, mm, c, no, l, sw, q2⟩ => ⟨a, C, dx, fs, ex, h2.get mm, c, no, l, η, M, hN, rfl, h2.swap sw, q2⟩)
/-- o.m(..) -/
theorem ge_meth {pl : Sem Bool} (F : RunG X.prog X.w X.K X.mg X.base CX k g argsP (toSp sp)) (hm : Meth X.K C m g) (c : Cls X.K C) (hr : RoomG j X.A) (hx : Passes CX X (upX El)) (h : GE X o η L fun x L1 => ∃ a dx fs, x = .ref a ∧ (a, HO.ins C dx fs) ∈ L1 ∧ fs.lookup m = none ∧ GA X (e :: es) η L1 fun vs L2 => sp (.ref a :: vs) L2 Q El) (hjk : k ≤ j := by decide)
    (hst : starEach (e :: es) X.env = (false, eval e X.env) :: starEach es X.env := by rfl) (hpl : (backTo pos (starEach es X.env)).any (·.1) = false := by rfl)
    (ht : eval (.Call (.Attribute o m pos') (e :: es) [] pos) X.env = (do
      let ov ← eval o X.env
      standAt pos'.atName
      let (f, first) ← holding [ov] (getMethod ov m pl)
      callWith pos f first (backTo pos (starEach (e :: es) X.env)) (backToKw pos (keywordEach [] X.env))) := by rfl) : GE X (.Call (.Attribute o m pos') (e :: es) [] pos) η L Q := fun hN H hH pins s I => by
  refine PySem.W.methodCall_KW (pl := pl) (thn (h hN H hH pins s I) fun u s1 ⟨x, H1, I1, rx, L1, h1, a, dx, fs, ex, ea, l, q⟩ => ?_) ht
  subst ex
  obtain rfl : u = Value.ref a := rx
  refine getmeth_ok I1 (h1.get ea) c hm l ?_
  refine PySem.W.callWith_K (first := [.ref a]) (h₀ := X.base) I.ok.mod.kin hm.kp (thn (q hN H1 h1 pos pins s1 I1) fun us s2 ⟨vs, H2, I2, r, L2, h2, q2⟩ => ⟨I2.kIn, ?_⟩) hst hpl
  exact run_G (args := argsP) (us := .ref a :: us) (vs := .ref a :: vs) F (hr.mono hjk) hx I2 (.cons rfl r) (up_sp h2 q2)
end
end G
set_option Elab.async false
set_option linter.all false
set_option maxRecDepth 100000
set_option maxHeartbeats 4000000
namespace G
open PySem PySem.Spec PyProof.Rows L2 NdefX
/-- what the written part says of super().n at an instance of C, from the class D -/
structure SupM (K : PySem.W.Frag) (mg : Str → Option Value) (C D : Addr) (n : Str) (g : Addr) : Prop where
  sm : PySem.W.ks_superIn K C D n = some (some (.ref g))
  tg : PySem.W.typeIn K (.ref g) = some (.type "function")
  fi : PySem.W.fnIn K g = true
  cls : ∃ cd, PySem.W.clsIn K C = some cd
  sub : PySem.W.mroIn K C (.ref D) = some true
  op : PySem.W.nsIn K cStatics "thirdparty.any" = some none
  su : mg "super" = none
section
variable {X : Cx} {CX : CXT} {B rest : List Stmt} {D : GD} {η : En} {L : Lg} {H : Hp} {x q n : Str} {st : Stmt} {f c cc D0 C a dx g : Addr} {fd : FuncData} {ar : Arg} {fs : List (Str × V)} {sp : SpL} {El : XL} {j k : Nat} {e : Expr} {es : List Expr} {p0 p1 p2 p3 p4 : Pos} {pl : Sem Bool}
theorem at_supi (F : SupF X.prog X.K x q st f c cc D0 fd) (T : SupM X.K X.mg C D0 n g) (hfu : X.env.func = some f) (hco : X.env.code = .ref c) (hcl : X.env.cells.lookup ("__class__" : Str) = some cc) (hp : (fd.params.posonlyargs ++ fd.params.args).head? = some ar)
    (hks : X.env.kindOf "super" = some .globalImplicit) (hkc : X.env.kindOf "__class__" = some .free) (hka : X.env.kindOf ar.arg = some .local)
    (R : RunG X.prog X.w X.K X.mg X.base CX k g argsP (toSp sp)) (hr : RoomG j X.A) (hx : Passes CX X (upX El)) (hN : X.N = names η) (hH : Has H L) (hat : At ar.arg (.ref a) η) (mm : (a, HO.ins C dx fs) ∈ L)
    (h : ∀ u, GA X (e :: es) η ((u, .met g a) :: L) fun vs L1 => (u, HO.met g a) ∈ L1 ∧ sp (.ref a :: vs) L1 (fun _ L2 => GSs X rest D η L2) El) (hjk : k ≤ j := by decide)
    (hn : (n == ("__class__" : Str)) = false := by decide) (he : starEach (e :: es) X.env = (false, eval e X.env) :: starEach es X.env := by rfl) (hpl : (backTo p3 (starEach es X.env)).any (·.1) = false := by rfl) (hint : interactive X.env = false := by rfl)
    (hsw : swapsWith (.Call (.Attribute (.Call (.Name "super" p0) [] [] p1) n p2) (e :: es) [] p3) none p4.line X.env = pure false := by rfl)
    (hev : eval (.Call (.Attribute (.Call (.Name "super" p0) [] [] p1) n p2) (e :: es) [] p3) X.env = (do
      let ov ← attributeBase (.Call (.Name "super" p0) [] [] p1) n X.env (eval (.Call (.Name "super" p0) [] [] p1) X.env)
      standAt p2.atName
      let (ff, first) ← holding [ov] (getMethod ov n pl)
      callWith p3 ff first (backTo p3 (starEach (e :: es) X.env)) []) := by rfl) :
    AtSs X B (.Expr (.Call (.Attribute (.Call (.Name "super" p0) [] [] p1) n p2) (e :: es) [] p3) p4 :: rest) (D.ends X) (vals η) H := fun pins s I => by
  obtain ⟨oc, od, kV, doc, pm, ct, an, osl, efd, lk⟩ := F.ex
  obtain ⟨ccl, cdd, vs, ccs, fl, tf, lc, hvs, hfile⟩ := F.file
  obtain ⟨cl, cld, csl, hcell⟩ := F.cell
  obtain ⟨cdD, hD⟩ := F.cls
  obtain ⟨mb, hb1, hb2⟩ := I.mod.blt
  obtain ⟨oD, hD1, hD2⟩ : ∃ oD, s.heap.get? D0 = some oD ∧ oD.data = .cls cdD := by
    unfold PySem.W.clsIn at hD
    split at hD
    · rename_i c' d' cd' sl' ho
      cases hD
      exact ⟨_, I.kIn _ _ ho, rfl⟩
    · cases hD
  obtain ⟨cdC, hcC⟩ := T.cls
  obtain ⟨i, hi, hs⟩ := hat.idx
  obtain ⟨mA, O, _, _, _, _⟩ := ins_get I.hok (hH.get mm)
  obtain ⟨oda, IA, _⟩ := O.look
  have xC : a ≠ C := PySem.W.ks_ne I.kIn IA hcC
  refine _root_.PySem.ks_wpAt_execs_cons (_root_.PySem.ks_wpAt_Expr_any (_root_.PySem.ks_wpAt_MethodCall (pl := pl) (_root_.PySem.ks_wpAt_super_base hks hkc hn hfu (I.kIn _ _ lk) rfl hp hco (I.kIn _ _ lc) rfl hvs hfile F.top ?_) hev) hint hsw)
  refine PySem.W.ks_loadName_global I.ok.kind hks (Calls.loadGlobal_builtin (by rw [I.ok.glob]; exact I.mod.glob.keeps I.bk) T.su (by rw [I.ok.blt]; exact hb1.keeps I.bk) ((hb2 _ (by decide)).trans (by decide +kernel)) ⟨rfl, ?_⟩)
  refine wpAny_loadName_free I.ok.kind hkc hcl ⟨_, I.kIn _ _ hcell, rfl⟩ ?_
  obtain ⟨m, hns, hl⟩ := id I.loc
  obtain ⟨u, r, qq⟩ := hl i _ _ (by rw [hN]; exact hi) hs (.inl hka)
  obtain rfl : u = Value.ref a := r
  rcases qq with ⟨_, em⟩ | ⟨kk, _⟩
  · refine wpAny_loadName_local I.ok.kind hka hns em ?_
    obtain ⟨hp', g', d, t, os⟩ := s
    refine _root_.PySem.ks_wpAny_isType_cls hD1 hD2 ⟨rfl, ?_⟩
    refine _root_.PySem.ks_wpAny_call_super hD1 hD2 IA.at_ IA.cls (fun c e => ?_) (PySem.W.looks_mroIn I.kIn T.sub) (fun h' eS kS => ?_)
    · have := IA.no
      unfold PySem.W.notCls at this
      rw [e] at this
      exact Bool.noConfusion this
    have J1 : Inv X pins (vals η) H ⟨h', g', d, t, os⟩ := I.kept (t' := t) kS
    have sm' := T.sm
    unfold PySem.W.ks_superIn at sm'
    rw [hcC] at sm'
    obtain ⟨of, hof, hofc⟩ : ∃ of, h'.get? g = some of ∧ of.cls = .type "function" := by
      have ht' : (X.K.lookup g).map (·.cls) = some (.type "function") := T.tg
      cases z : X.K.lookup g with
      | none => rw [z] at ht'; cases ht'
      | some of => rw [z] at ht'; exact ⟨of, J1.kIn _ _ z, Option.some.inj ht'⟩
    refine _root_.PySem.ks_wpAny_getMethod_super eS (PySem.W.looks_opaque J1.kIn T.op) ((PySem.W.looks_clsIn J1.kIn hcC).andThen .now) rfl J1.kIn sm' hof hofc xC hn ?_
    have nu : H h'.objs.size = none := J1.hok.fresh (Nat.le_refl _)
    have J2 : Inv X pins (vals η) (upd H h'.objs.size (.met g a)) ⟨h'.push { cls := .type "method", data := .fields #[.ref g, .ref a] }, g', d, t + 1, os⟩ :=
      J1.laid (t' := t + 1) (a := h'.objs.size) (fun b o z => Heap.get?_push_of_some _ z) (Nat.le_refl _) (Heap.get?_push_size _ rfl)
    show wpAny _ _ (callWith p3 (Value.ref h'.objs.size) [] (backTo p3 (starEach (e :: es) X.env)) []) _ _ _
    have hpa := h h'.objs.size hN _ (hH.new nu) p3 pins _ J2
    rw [he] at hpa ⊢
    refine callwith_met (X := X) (g := g) (a := a) (by show ((false || (backTo p3 (starEach es X.env)).any (·.1)) || false) = false; rw [hpl]; rfl) T.fi (Calls.evalArgs_plain (thn hpa fun us s1 ⟨vs', H1, J3, r1, L1, h1, e1, qk⟩ => ?_))
    refine ⟨met_P J3 (h1.get e1), ?_⟩
    show wpAny _ _ (call (Value.ref h'.objs.size) us) _ _ _
    refine wpAny_call (call_met J3 (h1.get e1) (codeAny_mono (R _ X.stack s1 H1 (.ref a :: us) (.ref a :: vs') (up fun _ L2 => GSs X rest D η L2) (upX El) (hr.mono hjk) J3.env0 (.cons rfl r1) (up_sp h1 qk)) fun r s' hq => ?_))
    cases r with
    | error e => exact hx pins _ H1 _ e s' J3 hq
    | ok fl =>
      cases fl with
      | ret w =>
        obtain ⟨v, H', J4, rv, L2, h2, qf⟩ := J3.after hq
        exact AtSs.any (qf hN H' h2) pins s' J4
      | next => exact hq.elim
      | brk => exact hq.elim
      | cont => exact hq.elim
  · rcases kk with kk | kk
    · have z := kk.symm.trans hka
      cases z
    · have z := kk.symm.trans hka
      cases z
end
/-- the slots of a method that says super(), when it begins -/
def begunF (N : List Str) (vs : List V) : En := N.zip (startF N vs [none])
abbrev cxS (CX : CXT) (P : Program) (w : World) (K : PySem.W.Frag) (mg : Str → Option Value) (base : Heap) (N : List Str) (x q : Str) (st : Stmt) (cc c f : Addr) (A : Around) (outer : List Env) (s : Shared) (H : Hp) (E0 : XK) : Cx := ncx CX P w K mg base N (nfS x q st cc c) f A outer s H E0
section
variable {CX : CXT} {P : Program} {w : World} {K : PySem.W.Frag} {mg : Str → Option Value} {base : Heap} {N ps : List Str} {x q : Str} {st : Stmt} {f c cc D : Addr} {fd : FuncData} {k : Nat} {sp : SpL}
/-- such a method keeps a promise over ledgers -/
theorem run_sup (F : SupF P K x q st f c cc D fd) (S : NScope N ps ["__class__"] (defScope st)) (args : List Value → Args) (pmV : List V → List V) (pmU : List Value → List Value) (hpm : ∀ vs us, Vals vs us → Vals (pmV vs) (pmU us))
    (hb : ∀ (kV doc pm ct : Value) (an : Option Addr) (us : List Value), (pmU us).length = ps.length → bindArgs (PySem.W.fnX x q (defArgs st) (defBody st) (defScope st) [("__class__", cc)] .none kV doc pm an (.ref c) ct) (args us) = pure (ps.zip (pmU us)))
    (len : ∀ vs L Q E, sp vs L Q E → vs.length = ps.length) (hl : ∀ vs : List V, vs.length = ps.length → (startF N vs [none]).length = N.length)
    (body : ∀ (X : Cx) (A : Around) (outer : List Env) (s : Shared) (H : Hp) (E0 : XK) (L : Lg) (vs : List V) (Q : QV) (E : XL), X = cxS CX P w K mg base N x q st cc c f A outer s H E0 → (∀ c d L' H', Has H' L' → E c d L' → E0 c d H') → X.N.Nodup → RoomG k X.A → sp vs L Q E → Has H L → X.N = names (begunF N vs) → AtSs X (defBody st) (defBody st) ((bodyD Q).ends X) (vals (begunF N vs)) H) :
    RunG P w K mg base CX (k + 1) f args (fun vs => toSp sp (pmV vs)) := by
  intro A outer s H us vs Q E hr e0 r hsp
  obtain ⟨oc, od, kV, doc, pm, ct, an, osl, rfl, lk⟩ := F.ex
  obtain ⟨L, Ql, El, hH, h, hq, he⟩ := hsp
  have hn : (pmV vs).length = ps.length := len _ L Ql El h
  have r2 := hpm vs us r
  have KX : K.In s.heap := e0.mod.kin.keeps fun b o e => (e0.bs b o e).1
  have lim : s.heap.NoLimit := e0.mod.nolimit.keeps fun b o e => (e0.bs b o e).1
  have hbb := hb kV doc pm ct an us (by rw [← r2.length]; exact hn)
  refine _root_.PySem.ks_codeAny_call_defAt (body := defBody st) hr.depth (KX _ _ lk) rfl lim (PySem.W.codeRec_of KX F.cd) rfl (.of_eq hbb) S.nocell (fun ⟨n, _⟩ hy => S.par n (List.of_mem_zip hy).1) (fun h₁ hns kp => ?_) S.co S.gen S.kind
  have I : Inv (ncx CX P w K mg base N (nfS x q st cc c) f A outer s H E) [] (startF N (pmV vs) [none]) H { s with heap := h₁, toks := s.toks + (ps.zip (pmU us)).length } := inv_startN S hr.hd e0 hn r2 (F.cells e0) hns kp
  have ev : vals (begunF N (pmV vs)) = startF N (pmV vs) [none] := List.map_snd_zip (Nat.le_of_eq (hl _ hn))
  have en : N = names (begunF N (pmV vs)) := (List.map_fst_zip (Nat.le_of_eq (hl _ hn).symm)).symm
  have b := body _ A outer s H E L (pmV vs) Ql El rfl he S.nd ⟨hr.toRoom.deeper _, guard_deeper hr.gd⟩ h hH en [] _ (by rw [ev]; exact I)
  refine _root_.PySem.wpAt_mono b (fun fl s' hs => ?_) fun e s' hs => hs
  have fin : ∀ {σ' : L2.St} {H' : Hp} {v : V} {u : Value}, Inv (ncx CX P w K mg base N (nfS x q st cc c) f A outer s H E) [] σ' H' s' → L2.RelV v u → Q v H' → CE outer P w H s Q u s' := fun {σ' H' v u} J rv qq => ⟨v, H', J.os, J.bare, J.base, J.hok, rv, qq⟩
  cases fl with
  | ret u =>
    obtain ⟨v, σ', H', J, rv, M, hM, N', sb, q⟩ := hs
    exact fin J rv (hq _ N' H' (sb _ hM) q)
  | next =>
    obtain ⟨σ', H', J, θ, M, _, _, hM, N', sb, q⟩ := hs
    exact fin (v := V.non) (u := Value.none) J rfl (hq _ N' H' (sb _ hM) q)
  | brk =>
    obtain ⟨σ', H', J, θ, M, _, _, hM, z⟩ := hs
    exact z.elim
  | cont =>
    obtain ⟨σ', H', J, θ, M, _, _, hM, z⟩ := hs
    exact z.elim
end
end G
set_option Elab.async false
set_option linter.all false
set_option maxRecDepth 100000
set_option maxHeartbeats 4000000
namespace PySem.W
open PySem PySem.Calls PyProof.Rows
end PySem.W
namespace G
open PySem PySem.Spec PyProof.Rows L2
/-- a class with its own __eq__ -/
structure OwnEq (K : PySem.W.Frag) (C g : Addr) : Prop where
  at_ : PySem.W.findIn K (.ref C) "__eq__" = some (some (.ref g))
  fn : PySem.W.isFn K (.ref g) = true
  ne : PySem.W.findIn K (.ref C) "__ne__" = some (some (.builtin "object.__ne__"))
  ob : PySem.W.mroIn K C (.type "object") = some true
section
variable {X : Cx} {CX : CXT} {j k : Nat} {C C' g a b dx dy : Addr} {fs gs : List (Str × V)} {sp : SpL} {El : XL} {L : Lg} {Q : QV}
theorem ins_inst {pins : List (Addr × Obj)} {σ : L2.St} {H : Hp} {s : Shared} (I : Inv X pins σ H s) (hH : Has H L) (m : (a, HO.ins C dx fs) ∈ L) : ∃ o od, PySem.W.InstAt s.heap a o C (some od) := by
  obtain ⟨mA, O, _⟩ := ins_get I.hok (hH.get m)
  obtain ⟨od, J, _⟩ := O.look
  exact ⟨_, od, J⟩
theorem RoomG.in1 {k : Nat} {A : Around} (r : RoomG (k + 1) A) : RoomG k A.in1 := ⟨r.toRoom.in1, r.gd⟩
/-- isinstance of an instance -/
structure OwnT (K : PySem.W.Frag) (C : Addr) : Prop where
  g : PySem.W.plainGet K C "__class__" = true
  d : PySem.W.hasDictIn K C = true
  a : PySem.W.findIn K (.ref C) "__class__" = some (some (.builtin "object.__class__"))
  n : PySem.W.specialIn K (.builtin "object.__class__") "__get__" = some (some (.builtin "getset_descriptor.__get__"))
  t : PySem.W.takesIn K (.builtin "object.__class__") = some true
  m : PySem.W.mroIn K C (.type "object") = some true
theorem gc_isI {c : V} {cv : Value} {r : Bool} (T : OwnT X.K C) (ma : (a, HO.ins C dx fs) ∈ L) (kc : ClsV c cv) (k : PySem.W.kitOne X.K (.ref C) cv = some r) (q : Q (.bl r) L) : GC X (.builtin "isinstance") [.ref a, c] L Q := fun pins s σ H us hH I rr => by
  cases rr with
  | cons rx rr =>
    cases rr with
    | cons rt rr =>
      cases rr
      obtain rfl : _ = Value.ref a := rx
      have ec := kc.eq rt
      subst ec
      obtain ⟨oe, od, J⟩ := ins_inst I hH ma
      exact PySem.W.kia_one (PySem.W.kitx_own T.g T.d T.a T.n T.t T.m) I.kIn J k (fun z => nomatch z) fun tk => ⟨.bl r, H, I.kept (t' := tk) fun _ _ z => z, rfl, L, hH, q⟩
end
end G
set_option Elab.async false
set_option linter.all false
set_option maxRecDepth 100000
set_option maxHeartbeats 4000000
namespace G
open PySem PySem.Spec PyProof.Rows L2
section
variable {X : Cx} {η : En} {L : Lg} {Q : QV} {a b c e : Expr} {es : List Expr} {op op' : CmpOp} {pos p p2 : Pos} {x : V} {q : Addr}
theorem ge_chain (h : GE X a η L fun x L1 => GE X b η L1 fun y L2 => GOp X (compareOp op) x y L2 fun z L3 => ∃ k, z = .bl k ∧ if k = true then GE X c η L3 fun w L4 => GOp X (compareOp op') y w L4 Q else Q (.bl false) L3)
    (hm : lastMarks [op, op'] [b, c] = false := by with_unfolding_all rfl) : GE X (.Compare a [op, op'] [b, c] pos) η L Q := fun hN H hH =>
  WE.of (pe_chain (r := fun x y H' Q' => ∀ pins s σ v u, Inv X pins σ H' s → RelV x v → RelV y u → wpAny (model X.prog X.w) X.A (compareOp op v u) (EP X pins σ Q') X.xe s)
    (r' := fun x y H' Q' => ∀ pins s σ v u, Inv X pins σ H' s → RelV x v → RelV y u → wpAny (model X.prog X.w) X.A (compareOp op' v u) (EP X pins σ Q') X.xe s)
    (fun pins s σ H' x y v u Q' I r1 r2 q => q pins s σ v u I r1 r2) (fun pins s σ H' x y v u Q' I r1 r2 q => q pins s σ v u I r1 r2) pe_W pe_W pe_W hm)
    (h.then hN hH fun x _ _ h1 q1 => q1.then hN h1 fun y _ _ h2 q2 => fun pins s σ v u I r1 r2 => by
      refine wpAny_mono (q2 pins s σ _ v u h2 I r1 r2) (fun z s' zz => ?_) fun _ _ z => z
      obtain ⟨zv, H3, I3, r3, L3, h3, k, ek, q3⟩ := zz
      refine ⟨zv, H3, I3, r3, k, ek, ?_⟩
      cases k with
      | true =>
        rw [if_pos rfl] at q3
        rw [if_pos rfl]
        exact q3.then hN h3 fun w L4 H4 h4 q4 => fun pins s σ v u I r1 r2 => q4 pins s σ _ v u h4 I r1 r2
      | false =>
        rw [if_neg Bool.false_ne_true] at q3
        rw [if_neg Bool.false_ne_true]
        exact ⟨L3, h3, q3⟩)
/-- *e among the values -/
theorem ga_star {Q : List V → Lg → Prop} (h : GE X e η L fun x L1 => ∃ p xs, x = .ref p ∧ ((p, HO.tup xs) ∈ L1 ∨ (p, HO.lst xs) ∈ L1) ∧ GA X es η L1 fun ys L2 => Q (xs ++ ys) L2) (hs : starEach (.Starred e p :: es) X.env = (true, eval e X.env) :: starEach es X.env := by rfl) : GA X (.Starred e p :: es) η L Q := fun hN H hH =>
  WA.of (StX.pa_star pe_W pa_W hs) (h.then hN hH fun x L1 H1 h1 ⟨p, xs, ex, m, q⟩ => ⟨p, xs, ex, m.imp (fun z => sqt h1 z) fun z => sql h1 z, q.then hN h1 fun _ L2 _ h2 q2 => ⟨L2, h2, q2⟩⟩)
theorem gc_sorted {ns : List Int} (m : (q, HO.lst (ns.map V.int)) ∈ L) (h : ∀ (ms : List Int) p, ms.Perm ns → ms.Pairwise (· ≤ ·) → Q (.ref p) ((p, .lst (ms.map V.int)) :: L)) : GC X (.builtin "sorted") [.ref q] L Q :=
  GC.of cr_sortedI fun H hH => ⟨q, ns, rfl, sql hH m, fun ms p hp hs hn => ⟨_, hH.new hn, h ms p hp hs⟩⟩
end
theorem bt_sorted : bootBuiltins "sorted" = some (.builtin "sorted") := by decide +kernel
/-- the answer of isinstance against several built-in classes -/
def kitAnyB (T : String) : List String → Option Bool
  | [] => some false
  | c :: r => match kitB T c with
    | some true => some true
    | some false => kitAnyB T r
    | none => none
theorem kitAny_of {K : PySem.W.Frag} {T : String} : ∀ {cs : List String} {b : Bool}, kitAnyB T cs = some b → PySem.W.kitAny K (.type T) (cs.map Value.type) = some b
  | [], b, h => h
  | c :: r, b, h => by
    unfold kitAnyB at h
    cases k : kitB T c with
    | none =>
      rw [k] at h
      cases h
    | some t =>
      rw [k] at h
      cases t with
      | true =>
        cases h
        exact kitAny_cons (kit_ty k) (fun z => nomatch z) fun _ => rfl
      | false => exact kitAny_cons (kit_ty k) (fun _ => kitAny_of h) fun z => nomatch z
section
variable {X : Cx} {η : En} {L : Lg} {Q : QV} {e : Expr} {es : List Expr} {pos p : Pos} {x : V} {q : Addr} {T : String} {cs : List String} {b : Bool} {y : Str} {v : V} {u : Value}
theorem gb_sorted (B : Bi X.mg) (h : GA X (e :: es) η L fun xs L1 => GC X (.builtin "sorted") xs L1 Q) (hg : Gl X "sorted" := by rfl) (he : starEach (e :: es) X.env = (false, eval e X.env) :: starEach es X.env := by rfl) (hpl : (backTo pos (starEach es X.env)).any (·.1) = false := by rfl) :
    GE X (.Call (.Name "sorted" p) (e :: es) [] pos) η L Q := ge_B B.sorted bt_sorted h hg (by decide) (by decide) he hpl
theorem paired_ty : ∀ {cs : List String}, Paired ClsV (cs.map V.ty) (cs.map Value.type)
  | [] => .nil
  | c :: _ => .cons (.ty c) paired_ty
theorem gc_isT (cs : List String) (k : Knd L x T) (m : (q, HO.tup (cs.map V.ty)) ∈ L) (e : kitAnyB T cs = some b) (h : Q (.bl b) L) : GC X (.builtin "isinstance") [x, .ref q] L Q :=
  GC.of call_isiT fun H hH => ⟨x, q, cs.map V.ty, .type T, cs.map Value.type, b, rfl, hH.get m, paired_ty, k.ty H hH, kitAny_of e, L, hH, h⟩
/-- a global that holds a plain value -/
theorem gv_con (hm : X.mg y = some u) (r : RelV v u) (q : Q v L) (hg : Gl X y := by rfl) (hd : (y == ("__debug__" : Str)) = false := by decide) : GE X (.Name y pos) η L Q := ge_con (pe_glob hg hm r hd) q
end
end G
set_option Elab.async false
set_option linter.all false
set_option maxRecDepth 100000
set_option maxHeartbeats 4000000
namespace PySem
open Sem (wp)
open AutoSeq1 (wpAny_loadPart')
theorem g_enum_newT (l : Addr) (items : Array Value) (n : Nat) (dct : Option Addr) (sl : Array (Option Value)) :
    Meets (Builtin.«enumerate.__new__» ⟨[.type "enumerate", .ref l], []⟩) (fun _ R s => s.heap.get? l = some { cls := .type "tuple", dict := dct, data := .seq items n, slots := sl } ∧
      R (.ok (.ret (.ref (s.heap.push { cls := .type "tuple_iterator", data := .fields #[.ref l, .int 0 0] }).objs.size)))
        { s with heap := (s.heap.push { cls := .type "tuple_iterator", data := .fields #[.ref l, .int 0 0] }).push { cls := .type "enumerate", data := .fields #[.none, .bool false, .ref s.heap.objs.size, rawInt 0, .none, .none] } }) :=
  .of_wp fun prog w A R s h => by
    obtain ⟨hp, g, d, tk, os⟩ := s; obtain ⟨hl, h⟩ := h
    have hsub := sub_enumerate
    have hL : Heap.IsTuple (Shared.heap ⟨hp, g, d, tk, os⟩) l items := ⟨_, hl, rfl, n, rfl⟩
    wp_walk using wpAny_loadPart' hl
    refine wpAny_stack_any fun st => wpAny_pure ?_
    split
    · rename_i c _ _ _ _ _
      cases (c == Value.type "enumerate")
      · wp_walk using wpAny_loadPart' hl, wpAny_pyIter_tuple hL
        exact ⟨_, rfl, h⟩
      · wp_walk using wpAny_loadPart' hl, wpAny_pyIter_tuple hL
        exact ⟨_, rfl, h⟩
    · wp_walk using wpAny_loadPart' hl, wpAny_pyIter_tuple hL
      exact ⟨_, rfl, h⟩
theorem g_call_enumT {prog : Program} {w : World} {A : Around} {E : Value → Shared → Prop} {s : Shared} {l : Addr} {items : Array Value} {Q : Value → Shared → Prop} (hL : s.heap.IsTuple l items)
    (h : ∀ h', IsEnum h' (s.heap.objs.size + 1) s.heap.objs.size 0 .none → h'.IsTupleIter s.heap.objs.size l 0 → h'.objs.size = s.heap.objs.size + 2 →
      (∀ b o, s.heap.get? b = some o → h'.get? b = some o) → Q (.ref (s.heap.objs.size + 1)) { s with heap := h' }) :
    wpAny (model prog w) A (call (.type "enumerate") [.ref l]) Q E s := by
  obtain ⟨⟨c, dct, dt, sl⟩, hl, hc, n, hd⟩ := hL
  replace hc : c = .type "tuple" := hc
  replace hd : dt = .seq items n := hd
  subst hc hd
  refine callType_new F.called_enumerate (by decide) (F.typeCall_enumerate_1 _) (F.newCall_enumerate_1 _) (fun obj => F.args_object_init_2 obj _) F.entry_enumerate_new
    (g_enum_newT l items n dct sl) ⟨hl, ?_⟩
  have hz : (s.heap.push { cls := .type "tuple_iterator", data := .fields #[.ref l, .int 0 0] }).objs.size = s.heap.objs.size + 1 := Heap.size_push ..
  show _ ∧ _
  rw [hz]
  have he : IsEnum ((s.heap.push { cls := .type "tuple_iterator", data := .fields #[.ref l, .int 0 0] }).push
      { cls := .type "enumerate", data := .fields #[.none, .bool false, .ref s.heap.objs.size, rawInt 0, .none, .none] }) (s.heap.objs.size + 1) s.heap.objs.size 0 .none := by
    have := Heap.get?_push_size (s.heap.push { cls := .type "tuple_iterator", data := .fields #[.ref l, .int 0 0] })
      (o := { cls := .type "enumerate", data := .fields #[.none, .bool false, .ref s.heap.objs.size, rawInt 0, .none, .none] }) rfl
    rw [hz] at this; exact this
  refine ⟨⟨_, he, rfl⟩, h _ he ⟨_, Heap.get?_push_of_some _ (Heap.get?_push_size _ rfl), rfl, rfl⟩ (by rw [Heap.size_push, hz]) fun b o x => Heap.get?_push_of_some _ (Heap.get?_push_of_some _ x)⟩
theorem g_enum_endT {prog : Program} {w : World} {A : Around} {E : Value → Shared → Prop} {s : Shared} {e it t : Addr} {i : Nat} {k : Int} {items : Array Value} {old : Value} {Q : Option Value → Shared → Prop} (hh : A.handled = none)
    (he : IsEnum s.heap e it k old) (hit : s.heap.IsTupleIter it t i) (ht : s.heap.IsTuple t items) (hx : items[i]? = none) (hQ : ∀ h', Heap.ExtBut it s.heap h' → Q none { s with heap := h' }) : wpAny (model prog w) A (pyNext (.ref e)) Q E s := by
  have hT : s.TypeIs (.ref e) "enumerate" := ⟨_, he, rfl⟩
  unfold pyNext
  refine wpAny_bind (wpAny_attempt (wpAny_callSpecial?_slot (name := Str.ofString "__next__") hT F.slot_enumerate_next
    (wpAny_call_entry F.slot_enumerate_next hT F.entry_enumerate_next ?_ (F.args_enumerate_next_1 _))))
  show wpAny _ _ (field (.ref e) 2 >>= _) _ _ _
  refine wpAny_bind (wpAny_field he rfl (x := .ref it) rfl ?_)
  refine wpAny_bind (wpAny_nextOf_tuple_end (A := A.in1) hh hit ht hx fun h' x he' hx' => ?_)
  obtain ⟨o, ho, hc⟩ := hx'
  refine wpAny_bind (wpAny_isInstance (T := "StopIteration") (b := true) ⟨o, ho, hc⟩ isSubtype_stop ?_)
  exact wpAny_pure (hQ _ he')
end PySem
namespace G
open PySem PySem.Spec PyProof.Rows L2
def IteT (K : PySem.W.Frag) (a : Addr) : It :=
  ⟨fun i H => ∃ (xs : List V) (x : V), SqT K H a xs ∧ xs[i]? = some x, fun i H v H' => ∃ T x, v = .ref T ∧ H T = none ∧ H' = upd H T (.tup [.int (i : Nat), x]) ∧ ∀ xs, SqT K H a xs → xs[i]? = some x, fun i H => ∃ xs : List V, SqT K H a xs ∧ xs.length ≤ i⟩
theorem cls_ne {h : Heap} {a b : Addr} {S T : String} (x : ∃ o, h.get? a = some o ∧ o.cls = .type S) (y : ∃ o, h.get? b = some o ∧ o.cls = .type T) (n : S ≠ T) : a ≠ b := fun e => by
  obtain ⟨o, h1, c1⟩ := x
  obtain ⟨o', h2, c2⟩ := y
  rw [e, h2] at h1
  cases h1
  rw [c1] at c2
  cases c2
  exact n rfl
theorem turn_enumT {P : Program} {w : World} {K : PySem.W.Frag} {elts : List Expr} {kk : Nat} {tpos : Pos} (a e it : Addr) :
    Turn P w K (.Tuple elts kk tpos) (IteT K a) [e, it] e (fun i h => (∃ old, IsEnum h e it ((i : Nat) : Int) old) ∧ h.IsTupleIter it a i ∧ e ≠ it) where
  mem := by simp
  obj := fun i h st b hb => by
    obtain ⟨⟨old, he⟩, ⟨o, ho, hc, hd⟩, _⟩ := st
    have e' : b = e ∨ b = it := by simpa using hb
    rcases e' with z | z
    · rw [z]; exact ⟨_, he, fun v q => nomatch q⟩
    · rw [z]; exact ⟨o, ho, fun v q => by rw [hd] at q; cases q⟩
  keep := fun i h h' st k => let ⟨⟨old, he⟩, hi, hne⟩ := st; ⟨⟨old, k e (by simp) _ he⟩, hi.at fun o q => k it (by simp) o q, hne⟩
  item := by
    intro X hP hw hK hc i pins s σ H E I hf st hg
    subst hP hw hK
    obtain ⟨⟨old, he⟩, hit, hne⟩ := st
    obtain ⟨xs, x, hq, hx⟩ := hg
    obtain ⟨its, rv, p, hz⟩ := I.tuple hq
    obtain ⟨u, hu, ru⟩ := rv.get hx
    have hel : e < s.heap.objs.size := Heap.lt_size he
    have hil : it < s.heap.objs.size := by obtain ⟨_, q, _⟩ := hit; exact Heap.lt_size q
    have pT : ∃ o, s.heap.get? a = some o ∧ o.cls = .type "tuple" := by
      obtain ⟨o, h1, h2, _⟩ := p
      exact ⟨o, h1, h2⟩
    have iT : ∃ o, s.heap.get? it = some o ∧ o.cls = .type "tuple_iterator" := by
      obtain ⟨o, h1, h2, _⟩ := hit
      exact ⟨o, h1, h2⟩
    have ai : a ≠ it := cls_ne pT iT (by decide)
    have ea : e ≠ a := cls_ne ⟨_, he, rfl⟩ pT (by decide)
    have hlt : i < its.toArray.size := by
      have := (List.getElem?_eq_some_iff.mp hu).1
      simpa using this
    refine wpAny_pyNext_enum_itemD (Draws.tuple (A := X.A.in1) (I.ok.hd hc) it a ai its.toArray) he ⟨hit, p⟩ hlt hne (by simp [hne, ea]) fun u' h' tk hu' ho hst hT hsz hk => ?_
    obtain rfl : u' = u := by
      have : its.toArray[i]? = some u := by simpa using hu
      exact Option.some.inj (hu'.symm.trans this)
    refine ⟨_, rfl, wpAny_letOwnedTupleGo_enum (s := { s with heap := h', toks := tk + 1 }) ho fun h'' he' sb => ?_⟩
    have hT2 : h''.get? s.heap.objs.size = some { cls := .type "tuple", data := .seq #[.int i tk, u'] } := (sb.2 _ (Nat.ne_of_gt hel)).trans hT
    have new : ObjOk X.prog X.w (upd H s.heap.objs.size (.tup [.int (i : Nat), x])) h'' s.heap.objs.size (.tup [.int (i : Nat), x]) :=
      ⟨by show 2 ≤ sizeLine; decide, [.int i tk, u'], .cons ⟨_, rfl⟩ (.cons ru .nil), ⟨_, hT2, rfl, _, rfl⟩⟩
    have I1 : Inv X pins σ (upd H s.heap.objs.size (.tup [.int (i : Nat), x])) { s with heap := h'', toks := tk + 1 } :=
      I.turnedNew (ch := [e, it]) (fun b ob hb q => (sb.2 b (fun z => hb (by simp [z]))).trans (hk b ob (fun z => hb (by simp [z])) (fun z => hb (by simp [z])) q)) hf (Nat.le_refl _) new
    refine ⟨.ref s.heap.objs.size, _, I1, rfl, ⟨_, x, rfl, I.hok.fresh (Nat.le_refl _), rfl, fun ys hy => by rw [I.tuple_inj hy hq]; exact hx⟩, ⟨⟨u', ?_⟩, hst.1.at fun o q => (sb.2 it (Ne.symm hne)).trans q, hne⟩, fun b hb => ?_⟩
    · have e1 : ((i + 1 : Nat) : Int) = (i : Int) + 1 := by omega
      rw [e1]; exact he'
    · have hb' : b < s.heap.objs.size := by
        have e' : b = e ∨ b = it := by simpa using hb
        rcases e' with z | z
        · rw [z]; exact hel
        · rw [z]; exact hil
      rw [upd_ne (Nat.ne_of_lt hb')]
      exact (hf b hb).1
  done := by
    intro X hP hw hK hc i pins s σ H E I hf st hg
    subst hP hw hK
    obtain ⟨⟨old, he⟩, hit, hne⟩ := st
    obtain ⟨xs, hq, hx⟩ := hg
    obtain ⟨its, rv, p, hz⟩ := I.tuple hq
    obtain ⟨f0, f1, f2, f3, f4, f5⟩ := hf it (by simp)
    have hl := rv.length
    exact g_enum_endT (I.ok.hd hc) he hit p (by simp; omega) fun h' eb => ⟨rfl, I.turned (t' := s.toks) (fun b o hb q => eb b o hb q) f0 f1 f3 f4 f5⟩
  self := fun A i s Q E st h => let ⟨⟨_, he⟩, _⟩ := st; wpAny_pyIter_enum he h
def iEnumT (K : PySem.W.Frag) (ta : TA) : TI := fun σ H R => ta σ H fun vs H1 => ∃ a xs, vs = [.ref a] ∧ SqT K H1 a xs ∧ R (IteT K a) H1
theorem pi_enumT {X : Cx} {e : Expr} {ta : TA} {p pos tpos : Pos} {elts : List Expr} {kk : Nat} (hg : Gl X "enumerate") (hm : X.mg "enumerate" = none) (ha : PA X [e] ta) (hs : starEach [e] X.env = [(false, eval e X.env)] := by rfl) :
    PI X (.Tuple elts kk tpos) (.Call (.Name "enumerate" p) [e] [] pos) (iEnumT X.K ta) := by
  refine ⟨fun pins s σ H R I h => ?_⟩
  refine Call_ (ld_blt I hg hm boot_enumerate (PyProof.Rows.callWith_type1 (thn (ha.run pos pins s σ H _ I h) fun us s1 ⟨vs, H1, I1, r1, q1⟩ => ?_) hs rfl))
  obtain ⟨a, xs, ex, hq, q⟩ := q1
  subst ex
  cases r1 with
  | cons r rr =>
    cases rr
    cases r
    obtain ⟨its, rv, p', hz⟩ := I1.tuple hq
    refine g_call_enumT p' fun h' he hit hsz hk => wpAny_pyIter_enum he ?_
    have I2 : Inv X pins σ H1 { s1 with heap := h' } := I1.kept (t' := s1.toks) hk
    refine ⟨s1.heap.objs.size + 1, [s1.heap.objs.size + 1, s1.heap.objs.size], _, _, H1, rfl, I2, turn_enumT a (s1.heap.objs.size + 1) s1.heap.objs.size, ⟨⟨.none, he⟩, hit, Nat.succ_ne_self _⟩, fun b hb => ?_, q⟩
    have e' : b = s1.heap.objs.size + 1 ∨ b = s1.heap.objs.size := by simpa using hb
    have hle : s1.heap.objs.size ≤ b := by
      rcases e' with z | z
      · rw [z]; exact Nat.le_add_right _ _
      · rw [z]; exact Nat.le_refl _
    exact I1.fpOk hle (I1.hok.fresh hle)
theorem walk_enumT {K : PySem.W.Frag} {a : Addr} {xs : List V} : Walk (IteT K a) xs.length (fun H => SqT K H a xs) (YPair (fun i => some (.int (i : Nat))) (fun i => xs[i]?)) := by
  refine ⟨fun i _ hi q => ⟨xs, xs[i], q, by simp [hi]⟩, fun _ q => ⟨xs, q, Nat.le_refl _⟩, fun i H v H' _ q y => ?_⟩
  obtain ⟨T, x, h1, h2, h3, h4⟩ := y
  exact ⟨T, .int (i : Nat), x, h1, h2, h3, rfl, h4 xs q⟩
section
variable {X : Cx} {η : En} {L : Lg} {e : Expr} {elts : List Expr} {kk : Nat} {tpos p pos : Pos} {Q : Src → Lg → Prop}
theorem gi_enumT (h : GA X [e] η L fun vs L1 => ∃ q xs, vs = [.ref q] ∧ (q, HO.tup xs) ∈ L1 ∧ Q ⟨xs.length, KeepT q xs, itemPr (fun i => some (.int (i : Nat))) (fun i => xs[i]?)⟩ L1) (hm : X.mg "enumerate" = none) (hg : Gl X "enumerate" := by rfl)
    (hs' : starEach [e] X.env = [(false, eval e X.env)] := by rfl) : GI X (.Tuple elts kk tpos) (.Call (.Name "enumerate" p) [e] [] pos) η L Q := fun hN H hH =>
  WI.of (pi_enumT hg hm pa_W hs') (h.then hN hH fun vs L1 H1 k1 ⟨q, xs, e1, m, z⟩ => ⟨q, xs, e1, sqt k1 m, L1, _, k1, SrcOk.of walk_enumT (fun H M hM k => sqt hM k) (fun i H x H' M _ hM _ y => y_pr hM y), z⟩)
end
end G
set_option Elab.async false
set_option linter.all false
set_option maxRecDepth 100000
set_option maxHeartbeats 4000000
namespace G
open PySem PySem.Spec PyProof.Rows L2
abbrev P2 (p : Int × Int) : PyData := .tuple [.int p.1, .int p.2]
def lt2 (p q : Int × Int) : Bool := decide (p.1 < q.1 ∨ (p.1 = q.1 ∧ p.2 < q.2))
theorem alike2 (p q : Int × Int) : PySem.W.alike (P2 p) (P2 q) = true := by simp [PySem.W.alike, PySem.W.alikeAll]
theorem alikeI (a b : Int) : PySem.W.alike (.int a) (.int b) = true := by simp [PySem.W.alike]
theorem eqvI (a b : Int) : PyData.eqv (.int a) (.int b) = decide (a = b) := by
  by_cases h : a = b
  · simp [PyData.eqv, h]
  · simp [PyData.eqv, h]
theorem dataLt2 (p q : Int × Int) : PySem.W.dataLt (P2 p) (P2 q) = lt2 p q := by
  unfold lt2
  rw [PySem.W.dataLt_tuple]
  by_cases e : p.1 = q.1
  · rw [PySem.W.dataLt_all_yes (alikeI _ _) (by rw [eqvI, decide_eq_true e])]
    by_cases f : p.2 = q.2
    · rw [PySem.W.dataLt_all_yes (alikeI _ _) (by rw [eqvI, decide_eq_true f]), decide_eq_false (by omega)]
      rfl
    · rw [PySem.W.dataLt_all_no (alikeI _ _) (by rw [eqvI, decide_eq_false f]), PySem.W.dataLt_int]
      by_cases g : p.2 < q.2
      · rw [decide_eq_true g, decide_eq_true (by omega)]
      · rw [decide_eq_false g, decide_eq_false (by omega)]
  · rw [PySem.W.dataLt_all_no (alikeI _ _) (by rw [eqvI, decide_eq_false e]), PySem.W.dataLt_int]
    by_cases g : p.1 < q.1
    · rw [decide_eq_true g, decide_eq_true (by omega)]
    · rw [decide_eq_false g, decide_eq_false (by omega)]
def min2 (p : Int × Int) (ps : List (Int × Int)) : Int × Int := ps.foldl (fun a y => if lt2 y a = true then y else a) p
theorem minD2 : ∀ (ps : List (Int × Int)) (p : Int × Int), PySem.W.minD (P2 p) (ps.map P2) = P2 (min2 p ps)
  | [], _ => rfl
  | q :: r, p => by
    show PySem.W.minD (if PySem.W.dataLt (P2 q) (P2 p) = true then P2 q else P2 p) (r.map P2) = P2 (min2 (if lt2 q p = true then q else p) r)
    rw [dataLt2]
    by_cases z : lt2 q p = true
    · rw [if_pos z, if_pos z]
      exact minD2 r q
    · rw [if_neg z, if_neg z]
      exact minD2 r p
/-- not greater, by the first, then by the second -/
def le2 (p q : Int × Int) : Prop := p.1 < q.1 ∨ (p.1 = q.1 ∧ p.2 ≤ q.2)
theorem min2_le : ∀ (ps : List (Int × Int)) (p : Int × Int), le2 (min2 p ps) p ∧ ∀ q ∈ ps, le2 (min2 p ps) q
  | [], p => ⟨.inr ⟨rfl, Int.le_refl _⟩, fun _ z => absurd z (List.not_mem_nil)⟩
  | q :: r, p => by
    show le2 (min2 (if lt2 q p = true then q else p) r) p ∧ ∀ x ∈ q :: r, le2 (min2 (if lt2 q p = true then q else p) r) x
    by_cases z : lt2 q p = true
    · rw [if_pos z]
      obtain ⟨a, b⟩ := min2_le r q
      have z' := of_decide_eq_true z
      refine ⟨?_, fun x hx => ?_⟩
      · unfold le2 at a ⊢
        omega
      · rcases List.mem_cons.mp hx with rfl | hx
        · exact a
        · exact b x hx
    · rw [if_neg z]
      obtain ⟨a, b⟩ := min2_le r p
      have z' : ¬ (q.1 < p.1 ∨ (q.1 = p.1 ∧ q.2 < p.2)) := fun y => z (decide_eq_true y)
      refine ⟨a, fun x hx => ?_⟩
      rcases List.mem_cons.mp hx with rfl | hx
      · unfold le2 at a ⊢
        omega
      · exact b x hx
theorem depth2 : ∀ ps : List (Int × Int), PyData.depthAll (ps.map P2) ≤ 1
  | [] => by simp [PyData.depthAll]
  | p :: r => by
    have e := depth2 r
    simp only [List.map_cons, PyData.depthAll, PyData.depth]
    omega
/-- pairs in the ledger -/
abbrev Pr2 := Addr × Int × Int
section
variable {X : Cx} {L : Lg} {Q : QV} {q : Addr} {j : Nat}
theorem dls_prs : ∀ {ps : List Pr2}, (∀ e ∈ ps, (e.1, HO.tup [.int e.2.1, .int e.2.2]) ∈ L) → Dls L (ps.map fun e => V.ref e.1) ((ps.map fun e => e.2).map P2)
  | [], _ => dls_nil
  | e :: r, h => dls_cons (dl_tup (h e (List.mem_cons_self ..)) (dls_cons dl_int (dls_cons dl_int dls_nil))) (dls_prs fun x hx => h x (List.mem_cons_of_mem _ hx))
theorem gc_minP {ps : List Pr2} (hc : X.calm = true) (hr : RoomG j X.A) (m : (q, HO.lst (ps.map fun e => V.ref e.1)) ∈ L) (ht : ∀ e ∈ ps, (e.1, HO.tup [.int e.2.1, .int e.2.2]) ∈ L) (h0 : ps ≠ [])
    (h : ∀ e ∈ ps, (∀ y ∈ ps, le2 e.2 y.2) → Q (.ref e.1) L) : GC X (.builtin "min") [.ref q] L Q := fun pins s σ H us hH I rr => by
  rw [Vals.ref1 rr]
  obtain ⟨its, rv, hl, _⟩ := I.list (sql hH m)
  obtain ⟨p, r, rfl⟩ : ∃ p r, ps = p :: r := by
    cases ps with
    | nil => exact absurd rfl h0
    | cons p r => exact ⟨p, r, rfl⟩
  obtain ⟨as, ra⟩ := Dp.readsAll I _ _ _ (dls_prs ht X.K H hH) rv
  let rs : List (Int × Int) := r.map fun e => e.2
  have hu : X.A.units + 1 + PyData.depthAll (P2 p.2 :: rs.map P2) < cLine := by
    have a := hr.toRoom.units
    have b := depth2 (p.2 :: rs)
    rw [List.map_cons] at b
    omega
  have ha : PySem.W.AlikeAll (P2 p.2 :: rs.map P2) := by
    have all : ∀ x ∈ P2 p.2 :: rs.map P2, ∃ y, x = P2 y := fun x hx => by
      rcases List.mem_cons.mp hx with rfl | hx
      · exact ⟨_, rfl⟩
      · obtain ⟨y, _, rfl⟩ := List.mem_map.mp hx
        exact ⟨y, rfl⟩
    refine ⟨fun x hx y hy => ?_, fun x hx => ?_⟩
    · obtain ⟨x', rfl⟩ := all x hx
      obtain ⟨y', rfl⟩ := all y hy
      exact alike2 _ _
    · obtain ⟨x', rfl⟩ := all x hx
      exact fun z => nomatch z
  have ra' : ReadsAll s.heap its.toArray.toList (P2 p.2 :: rs.map P2) as := ra
  refine PySem.W.min_list_data (I.ok.hd hc) hl.isList ra' ha hu fun i v h' tk bs hv hR k => ?_
  rw [minD2] at hR
  have hv' : its[i]? = some v := by simpa using hv
  have hi : i < (p :: r).length := by
    have a := (List.getElem?_eq_some_iff.mp hv').1
    have b := rv.length
    rw [List.length_map] at b
    omega
  obtain ⟨e, he⟩ : ∃ e, (p :: r)[i]? = some e := ⟨_, List.getElem?_eq_getElem hi⟩
  have hx : ((p :: r).map fun e => V.ref e.1)[i]? = some (.ref e.1) := by rw [List.getElem?_map, he] <;> rfl
  obtain ⟨u, hu', ru⟩ := rv.get hx
  obtain rfl : u = v := Option.some.inj (hu'.symm.trans hv')
  obtain rfl : u = Value.ref e.1 := ru
  have em := List.mem_of_getElem? he
  obtain ⟨as2, r2⟩ := Dp.reads I _ (.ref e.1) (.ref e.1) (dl_tup (ht e em) (dls_cons dl_int (dls_cons dl_int dls_nil)) X.K H hH) rfl
  have eq := PySem.W.alike_unique _ _ _ _ _ (alike2 (min2 p.2 rs) e.2) hR (Reads.keeps k r2)
  have e2 : min2 p.2 rs = e.2 := by
    have z := PyData.tuple.inj eq
    simp only [List.cons.injEq, PyData.int.injEq, and_true] at z
    exact Prod.ext z.1 z.2
  refine ⟨.ref e.1, H, I.kept (t' := tk) k, rfl, L, hH, h e em fun y hy => ?_⟩
  rw [← e2]
  obtain ⟨a, b⟩ := min2_le rs p.2
  rcases List.mem_cons.mp hy with rfl | hy
  · exact a
  · exact b _ (List.mem_map.mpr ⟨y, hy, rfl⟩)
end
end G
set_option Elab.async false
set_option linter.all false
set_option maxRecDepth 100000
set_option maxHeartbeats 4000000
namespace PySem.W
open PySem PySem.Calls PySem.Spec PyProof.Rows
end PySem.W
namespace G
open PySem PySem.Spec PyProof.Rows L2
section
variable {X : Cx} {CX : CXT} {j k : Nat} {C g a dx p : Addr} {fs : List (Str × V)} {sp : SpL} {El : XL} {L : Lg} {Q : QV} {n : Str}
/-- a property -/
theorem gat_prop (c : Cls X.K C) (hp : PropOf X.K C n p g) (F : RunG X.prog X.w X.K X.mg X.base CX k g argsP (toSp sp)) (hr : RoomG j X.A) (hx : Passes CX X.nox (upX El)) (ma : (a, HO.ins C dx fs) ∈ L) (h : sp [.ref a] L Q El) (hjk : k + 1 ≤ j := by decide) : GAt X n (.ref a) L Q := fun pins s σ H u ex hH I r => by
  obtain rfl : u = Value.ref a := r
  obtain ⟨mA, O, _⟩ := ins_get I.hok (hH.get ma)
  obtain ⟨od, J, _⟩ := O.look
  obtain ⟨rest, hrec⟩ := hp.rec_
  have I1 := I.tok (s.toks + 1)
  have hc : (PySem.W.clsIn X.K C).isSome = true := by
    obtain ⟨cd, hc, _⟩ := PySem.W.any_some c.hd
    rw [hc]
    rfl
  refine PySem.W.get_bind I.kIn J (PySem.W.plainGet_of (c.get n)).1 (PySem.W.findObj_data hc hp.at_ hp.get hp.tak) (PySem.W.plainGet_of (c.get n)).2 (wpAny_call (PySem.W.prop_get (s := { s with toks := s.toks + 1 }) I.kIn hrec ?_))
  refine codeAny_mono (F X.A.in1 X.stack { s with toks := s.toks + 1 } H [.ref a] [.ref a] _ _ (hr.mono hjk).in1 I1.env0.in1 (.cons rfl .nil) (up_sp hH h)) fun r s' hq => ?_
  cases r with
  | error er => exact False.elim (hx pins σ H { s with toks := s.toks + 1 } er s' (I1.wish _) hq)
  | ok fl =>
    cases fl with
    | ret u =>
      obtain ⟨v, H', I3, rv, q3⟩ := I1.after hq
      show wpAny _ _ (handedOut u) _ _ _
      rw [PySem.W.handedOut_of (handed_of rv)]
      exact wpAny_pure ⟨v, H', I3, rv, q3⟩
    | next => exact False.elim hq
    | brk => exact False.elim hq
    | cont => exact False.elim hq
theorem gc_boolB {b : Bool} (h : Q (.bl b) L) : GC X (.type "bool") [.bl b] L Q := GC.of call_bool1 fun H hH => .inr ⟨b, rfl, L, hH, h⟩
end
end G
set_option Elab.async false
set_option linter.all false
set_option maxRecDepth 100000
set_option maxHeartbeats 4000000
namespace G
open PySem PySem.Spec PyProof.Rows L2
def RowO (o : HO) (xs : List V) : Prop := o = .lst xs ∨ o = .tup xs
section
variable {X : Cx} {η : En} {L : Lg} {e tg : Expr} {elts : List Expr} {kk : Nat} {tpos p pos : Pos} {Q : Src → Lg → Prop} {o : HO} {xs : List V}
theorem gi_rowO (ro : RowO o xs) (h : GE X e η L fun v L1 => ∃ q, v = .ref q ∧ (q, o) ∈ L1 ∧ Q ⟨xs.length, fun M => (q, o) ∈ M, itemAt xs⟩ L1) : GI X tg e η L Q := by
  rcases ro with rfl | rfl
  · exact gi_list (h.imp fun v L1 ⟨q, ev, m, z⟩ => ⟨q, xs, ev, m, z⟩)
  · exact gi_tuple (h.imp fun v L1 ⟨q, ev, m, z⟩ => ⟨q, xs, ev, m, z⟩)
theorem gi_enumO (ro : RowO o xs) (h : GA X [e] η L fun vs L1 => ∃ q, vs = [.ref q] ∧ (q, o) ∈ L1 ∧ Q ⟨xs.length, fun M => (q, o) ∈ M, itemPr (fun i => some (.int (i : Nat))) (fun i => xs[i]?)⟩ L1) (hm : X.mg "enumerate" = none) (hg : Gl X "enumerate" := by rfl)
    (hs' : starEach [e] X.env = [(false, eval e X.env)] := by rfl) : GI X (.Tuple elts kk tpos) (.Call (.Name "enumerate" p) [e] [] pos) η L Q := by
  rcases ro with rfl | rfl
  · exact gi_enum (h.imp fun v L1 ⟨q, ev, m, z⟩ => ⟨q, xs, ev, m, z⟩) hm hg hs'
  · exact gi_enumT (h.imp fun v L1 ⟨q, ev, m, z⟩ => ⟨q, xs, ev, m, z⟩) hm hg hs'
end
end G
namespace G
open PySem PySem.Spec PyProof.Rows L2
section
variable {X : Cx} {L : Lg} {elt : Expr} {ifs : List Expr} {scope : Scope} {f : V → En} {h : V → V → En} {R : V → Lg → Prop} {q : Addr} {o : HO} {xs : List V} {t : V → Bool} {g : V → V}
/-- a pure comprehension over a row -/
theorem pure_rowO (mq : (q, o) ∈ L) (hl : xs.length ≤ 1000000) (ht : ∀ v ∈ xs, TurnP X scope ifs elt L (f v) (t v) (g v)) (r : ∀ D, R (.ref D) ((D, .lst ((xs.filter t).map g)) :: L)) : PureL X scope ifs elt (stOne f) R ⟨xs.length, fun M => (q, o) ∈ M, itemAt xs⟩ L := by
  refine ⟨fun i => t (xs[i]?.getD .non), fun i => g (xs[i]?.getD .non), ⟨hl, fun M h => h _ mq, fun i x E D acc M hi ⟨hx, hE⟩ _ s => ?_⟩, fun D => ?_⟩
  · subst hE
    have e : xs[i]?.getD .non = x := by rw [hx] <;> rfl
    rw [e]
    exact turnP_use (st := stOne f) (ht x (List.mem_of_getElem? hx)) s
  · have z := filter_list (xs := xs) (t := t) (g := g) (p := fun i => t (xs[i]?.getD .non)) (h := fun i => g (xs[i]?.getD .non)) fun i v e => by
      rw [e]
      exact ⟨rfl, rfl⟩
    show R (.ref D) ((D, .lst (((List.range xs.length).filter _).map _)) :: L)
    rw [z]
    exact r D
/-- over enumerate of a row -/
theorem pure_enumO {pt : Nat → V → Bool} {pg : Nat → V → V} (mq : (q, o) ∈ L) (hl : xs.length ≤ 1000000) (ht : ∀ i v, xs[i]? = some v → TurnP X scope ifs elt L (h (.int (i : Nat)) v) (pt i v) (pg i v)) (r : ∀ D, R (.ref D) ((D, .lst (((List.range xs.length).filter fun i => pt i (xs[i]?.getD .non)).map fun i => pg i (xs[i]?.getD .non))) :: L)) :
    PureL X scope ifs elt (stTwo h) R ⟨xs.length, fun M => (q, o) ∈ M, itemPr (fun i => some (.int (i : Nat))) (fun i => xs[i]?)⟩ L := by
  refine ⟨fun i => pt i (xs[i]?.getD .non), fun i => pg i (xs[i]?.getD .non), ⟨hl, fun M h => h _ mq, fun i x E D acc M hi it _ s => ?_⟩, r⟩
  obtain ⟨T, a, b, rfl, rfl, ea, eb⟩ := it
  cases ea
  have eb : xs[i]? = some b := eb
  rw [eb]
  exact ⟨T, _, b, rfl, mem0, turnP_use (st := stTwo h) (ht i b eb) (s.trans Sub.drop)⟩
theorem gc_lenO {Q : QV} (ro : RowO o xs) (m : (q, o) ∈ L) (h : Q (.int (xs.length : Int)) L) : GC X (.builtin "len") [.ref q] L Q := by
  rcases ro with rfl | rfl
  · exact gc_lenL m h
  · exact gc_lenT m h
end
end G
set_option Elab.async false
set_option linter.all false
set_option maxRecDepth 100000
set_option maxHeartbeats 4000000
namespace G
open PySem PySem.Spec PyProof.Rows L2
theorem memR {α : Type} {a : α} {l r : List α} (h : a ∈ r) : a ∈ l ++ r := List.mem_append_right _ h
theorem memL {α : Type} {a : α} {l r : List α} (h : a ∈ l) : a ∈ l ++ r := List.mem_append_left _ h
theorem Swap.right {p : Addr} {o : HO} {L M : Lg} (s : Swap p o L M) : ∀ {E : Lg}, Swap p o (E ++ L) (E ++ M)
  | [] => s
  | _ :: E => .there (Swap.right s (E := E))
theorem subl_app {α : Type} {l e r : List α} (h : List.Sublist l r) : List.Sublist l (e ++ r) := h.trans (List.sublist_append_right e r)
section
variable {a b x : Addr × HO} {R L es : Lg}
theorem rotStep (s : Sub (a :: b :: R) L) : Sub (a :: b :: x :: R) (x :: L) := rot12.trans (Sub.cons s)
theorem rotApp (s : Sub (a :: b :: R) L) : Sub (a :: b :: (es ++ R)) (es ++ L) := (rotL es).trans (Sub.append s)
end
/-- the references of entries -/
abbrev refs (es : Lg) : List V := es.map fun e => V.ref e.1
theorem refs_map {α : Type} {l : List α} {f : α → Addr × HO} : refs (l.map f) = l.map fun a => V.ref (f a).1 := by
  show List.map _ (List.map _ _) = _
  rw [List.map_map]
  rfl
section
variable {X : Cx} {η : En} {L : Lg} {elt iter tg : Expr} {ifs : List Expr} {scope : Scope} {pos p1 p2 p3 : Pos} {x y : Str} {f : V → En} {g : V → V → En} {Q : QV}
/-- a turn: the test, then the element, a new object o -/
abbrev TurnF (X : Cx) (scope : Scope) (ifs : List Expr) (elt : Expr) (R : Lg) (θ : En) (b0 : Bool) (o : HO) : Prop := AllBlk X scope fun B => GTs B ifs θ R fun b M1 => b = b0 ∧ Sub R M1 ∧ (b = true → AllBlk X scope fun B => GE B elt θ M1 fun z M2 => ∃ a, z = .ref a ∧ Sub ((a, o) :: R) M2)
theorem turnF_use {θ : En} {b0 : Bool} {o : HO} {R M : Lg} (h : TurnF X scope ifs elt R θ b0 o) (s : Sub R M) :
    AllBlk X scope fun B => GTs B ifs θ M fun b M1 => b = b0 ∧ Sub R M1 ∧ (b = true → AllBlk X scope fun B => GE B elt θ M1 fun z M2 => ∃ a, z = .ref a ∧ Sub ((a, o) :: R) M2) := fun s1 H1 C1 cl1 fp1 => by
  refine GTs.sub s ?_
  have k := h s1 H1 C1 cl1 fp1
  have key : ∀ b M1, (b = b0 ∧ Sub R M1 ∧ (b = true → AllBlk X scope fun B => GE B elt θ M1 fun z M2 => ∃ a, z = .ref a ∧ Sub ((a, o) :: R) M2)) → ∀ M2, Sub M1 M2 → b = b0 ∧ Sub R M2 ∧ (b = true → AllBlk X scope fun B => GE B elt θ M2 fun z M2 => ∃ a, z = .ref a ∧ Sub ((a, o) :: R) M2) :=
    fun b M1 ⟨e, s1, k⟩ M2 s2 => ⟨e, s1.trans s2, fun hb s3 H3 C3 cl3 fp3 => GE.sub s2 (k hb s3 H3 C3 cl3 fp3)⟩
  match ifs, k with
  | [], k => exact key _ _ k
  | [c], k => exact k.imp key
/-- what such a comprehension is shown of -/
structure FreshC (X : Cx) (scope : Scope) (ifs : List Expr) (elt : Expr) (S : Src) (L : Lg) (st : V → Lg → (En → Lg → Prop) → Prop) (p : Nat → Bool) (pl : Nat → HO) : Prop where
  n : S.n ≤ 1000000
  kp : ∀ M, (∀ e ∈ L, e ∈ M) → S.keep M
  tn : ∀ i x E R M, i < S.n → S.item i x E → ((E ++ M).map (·.1)).Nodup → (∀ e ∈ L, e ∈ R) → Sub R M → st x (E ++ M) fun θ M' => AllBlk X scope fun B => GTs B ifs θ M' fun b M1 => b = p i ∧ Sub R M1 ∧ (b = true → AllBlk X scope fun B => GE B elt θ M1 fun z M2 => ∃ a, z = .ref a ∧ Sub ((a, pl i) :: R) M2)
theorem range_moreO {p : Nat → Bool} {g : Nat → HO} {i : Nat} : ((List.range (i + 1)).filter p).map g = ((List.range i).filter p).map g ++ (if p i = true then [g i] else []) := by
  rw [List.range_succ, List.filter_append, List.map_append]
  congr 1
  by_cases h : p i = true
  · rw [if_pos h, List.filter_cons_of_pos h]
    rfl
  · rw [if_neg h, List.filter_cons_of_neg h]
    rfl
theorem rotE {a b : Addr × HO} {es L : Lg} : Sub (b :: ((es ++ [a]) ++ L)) (b :: a :: (es ++ L)) := Sub.perm (by
  refine .cons b ?_
  rw [List.append_assoc]
  exact List.perm_middle)
theorem rotE2 {a b : Addr × HO} {R : Lg} : Sub (b :: a :: R) (a :: b :: R) := Sub.perm (.swap _ _ _)
theorem FreshC.lc {S : Src} {st : V → Lg → (En → Lg → Prop) → Prop} {p : Nat → Bool} {pl : Nat → HO} (h : FreshC X scope ifs elt S L st p pl) (mono : ∀ v M (k k' : En → Lg → Prop), (∀ θ M', k θ M' → k' θ M') → st v M k → st v M k') (D : Addr)
    (q : ∀ es : Lg, es.map (·.2) = ((List.range S.n).filter p).map pl → Q (.ref D) ((D, .lst (refs es)) :: (es ++ L))) : ∃ Pv, LcS X scope ifs elt S D L st Pv (drp Q) := by
  refine ⟨fun i M => ∃ es : Lg, es.map (·.2) = ((List.range i).filter p).map pl ∧ Sub ((D, .lst (refs es)) :: (es ++ L)) M, ⟨[], rfl, Sub.refl⟩, fun i M _ nd ⟨es, _, s⟩ => h.kp M fun e m => (s.to nd).2 e (List.mem_cons_of_mem _ (memR m)), fun i x E M hi it nd ⟨es, e0, s⟩ => ?_, fun M ⟨es, e0, s⟩ => ⟨_, s, q es e0⟩⟩
  refine mono x (E ++ M) _ _ (fun θ M' k => ?_) (h.tn i x E _ M hi it nd (fun e m => List.mem_cons_of_mem _ (memR m)) s)
  intro s1 H1 C1 cl1 fp1
  have k1 := k s1 H1 C1 cl1 fp1
  have more := range_moreO (p := p) (g := pl) (i := i)
  have key : ∀ b M1, (b = p i ∧ Sub ((D, .lst (refs es)) :: (es ++ L)) M1 ∧ (b = true → AllBlk X scope fun B => GE B elt θ M1 fun z M2 => ∃ a, z = .ref a ∧ Sub ((a, pl i) :: (D, .lst (refs es)) :: (es ++ L)) M2)) →
      if b = true then AllBlk X scope fun B => GE B elt θ M1 fun y M2 => ∃ acc M3, (D, HO.lst acc) ∈ M2 ∧ acc.length < sizeLine ∧ Swap D (.lst (acc ++ [y])) M2 M3 ∧ ∃ es : Lg, es.map (·.2) = ((List.range (i + 1)).filter p).map pl ∧ Sub ((D, .lst (refs es)) :: (es ++ L)) M3
      else ∃ es : Lg, es.map (·.2) = ((List.range (i + 1)).filter p).map pl ∧ Sub ((D, .lst (refs es)) :: (es ++ L)) M1 := fun b M1 ⟨eb, sb, hb⟩ => by
    cases b with
    | true =>
      rw [if_pos rfl]
      intro s2 H2 C2 cl2 fp2
      refine GE.nd ((hb rfl s2 H2 C2 cl2 fp2).imp fun y M2 ⟨a, ey, s3⟩ nd => ?_)
      have s4 : Sub ((D, .lst (refs es)) :: (a, pl i) :: (es ++ L)) M2 := rotE2.trans s3
      have m2 := (s4.to nd).2 _ List.mem_cons_self
      obtain ⟨M3, sw⟩ := Swap.ex (o := .lst (refs es ++ [y])) (u := .lst (refs es)) rfl m2
      have len : es.length ≤ i := by
        have e1 := congrArg List.length e0
        rw [List.length_map, List.length_map] at e1
        have := List.length_filter_le p (List.range i)
        rw [List.length_range] at this
        omega
      refine ⟨_, M3, m2, ?_, sw, es ++ [(a, pl i)], ?_, ?_⟩
      · rw [List.length_map, sizeLine_eq]
        have := h.n
        omega
      · rw [more, if_pos eb.symm, List.map_append, e0]
        rfl
      · subst ey
        have z : Sub ((D, .lst (refs es ++ [V.ref a])) :: (a, pl i) :: (es ++ L)) M3 := s4.swap sw
        have e2 : refs (es ++ [(a, pl i)]) = refs es ++ [V.ref a] := by
          show List.map _ _ = _
          rw [List.map_append]
          rfl
        rw [e2]
        exact rotE.trans z
    | false =>
      rw [if_neg Bool.false_ne_true]
      refine ⟨es, ?_, sb⟩
      rw [more, if_neg (by rw [← eb]; exact Bool.false_ne_true), List.append_nil]
      exact e0
  match ifs, k1 with
  | [], k1 => exact key _ _ k1
  | [c], k1 => exact k1.imp fun b M1 z => key b M1 z
def FreshL (X : Cx) (scope : Scope) (ifs : List Expr) (elt : Expr) (st : V → Lg → (En → Lg → Prop) → Prop) (R : V → Lg → Prop) (S : Src) (L1 : Lg) : Prop := ∃ p pl, FreshC X scope ifs elt S L1 st p pl ∧ ∀ D es, es.map (·.2) = ((List.range S.n).filter p).map pl → R (.ref D) ((D, .lst (refs es)) :: (es ++ L1))
theorem ge_lcF2 {kt : Nat} {pt : Pos} (P : PutF x η f) (R : ∀ v, PutF y (f v) (g v)) (h : GI X (.Tuple [.Name x p1, .Name y p2] kt pt) iter η L (FreshL X scope ifs elt (stTwo g) Q)) (hxy : x ≠ y) (hb : blkC X.N X.env.scope scope [(x, X.N.idxOf x), (y, X.N.idxOf y)] = true) (hlx : LocB X scope x := by exact fun _ _ _ _ _ => ⟨.inl rfl, .inr rfl⟩) (hly : LocB X scope y := by exact fun _ _ _ _ _ => ⟨.inl rfl, .inr rfl⟩)
    (hN : X.N.Nodup := by assumption) (hc : X.calm = true := by rfl) (hs : ∀ z, foldedSetIterable iter X.env z = pure z := by intro _; rfl) : GE X (.ListComp elt [⟨.Tuple [.Name x p1, .Name y p2] kt pt, iter, ifs, 0⟩] scope pos) η L Q :=
  GE.undrp (ge_lc2 P R (h.imp fun S L1 ⟨p, g, pc, q⟩ D => pc.lc monoTwo D (q D)) hxy hb hlx hly hN hc hs)
theorem gs_lcF {D : GD} {fy : V → En} {py : Pos} (Py : PutF y η fy) (P : PutF x η f) (h : GI X (.Name x p1) iter η L (FreshL X scope ifs elt (stOne f) fun v M => D.nx (fy v) M)) (hb : blkC X.N X.env.scope scope [(x, X.N.idxOf x)] = true) (hlx : LocB X scope x := by exact fun _ _ _ _ _ => ⟨.inl rfl, .inr rfl⟩)
    (hyl : X.env.scope.names.lookup y = some .local := by rfl) (hsw : swapsWith (.ListComp elt [⟨.Name x p1, iter, ifs, 0⟩] scope pos) (some (.Name y py)) p3.line X.env = pure true := by rfl)
    (hN : X.N.Nodup := by assumption) (hc : X.calm = true := by rfl) (hs : ∀ z, foldedSetIterable iter X.env z = pure z := by intro _; rfl) : GS X (.Assign [.Name y py] (.ListComp elt [⟨.Name x p1, iter, ifs, 0⟩] scope pos) p3) D η L :=
  GS.undrp (gs_lc1 Py P (h.imp fun S L1 ⟨p, g, pc, q⟩ d => pc.lc (Q := fun v M => D.nx (fy v) M) monoOne d (q d)) hb hlx hyl hsw hN hc hs)
theorem gs_lcF2 {D : GD} {fy : V → En} {z : Str} {pz : Pos} {kt : Nat} {pt : Pos} (Pz : PutF z η fy) (P : PutF x η f) (R : ∀ v, PutF y (f v) (g v)) (h : GI X (.Tuple [.Name x p1, .Name y p2] kt pt) iter η L (FreshL X scope ifs elt (stTwo g) fun v M => D.nx (fy v) M)) (hxy : x ≠ y) (hb : blkC X.N X.env.scope scope [(x, X.N.idxOf x), (y, X.N.idxOf y)] = true) (hlx : LocB X scope x := by exact fun _ _ _ _ _ => ⟨.inl rfl, .inr rfl⟩) (hly : LocB X scope y := by exact fun _ _ _ _ _ => ⟨.inl rfl, .inr rfl⟩)
    (hzl : X.env.scope.names.lookup z = some .local := by rfl) (hsw : swapsWith (.ListComp elt [⟨.Tuple [.Name x p1, .Name y p2] kt pt, iter, ifs, 0⟩] scope pos) (some (.Name z pz)) p3.line X.env = pure true := by rfl)
    (hN : X.N.Nodup := by assumption) (hc : X.calm = true := by rfl) (hs : ∀ z, foldedSetIterable iter X.env z = pure z := by intro _; rfl) : GS X (.Assign [.Name z pz] (.ListComp elt [⟨.Tuple [.Name x p1, .Name y p2] kt pt, iter, ifs, 0⟩] scope pos) p3) D η L :=
  GS.undrp (gs_lc2 Pz P R (h.imp fun S L1 ⟨p, g, pc, q⟩ d => pc.lc (Q := fun v M => D.nx (fy v) M) monoTwo d (q d)) hxy hb hlx hly hzl hsw hN hc hs)
variable {R : V → Lg → Prop} {q : Addr} {o : HO} {xs : List V} {p : Nat → Bool} {pl : Nat → HO}
/-- over a range -/
theorem fresh_fn {n : Nat} {h : Nat → V} (hl : n ≤ 1000000) (ht : ∀ i R, i < n → (∀ e ∈ L, e ∈ R) → TurnF X scope ifs elt R (f (h i)) (p i) (pl i)) (r : ∀ D es, es.map (·.2) = ((List.range n).filter p).map pl → R (.ref D) ((D, .lst (refs es)) :: (es ++ L))) : FreshL X scope ifs elt (stOne f) R ⟨n, fun _ => True, itemFn h⟩ L := by
  refine ⟨p, pl, ⟨hl, fun M h => True.intro, fun i x E R M hi ⟨hx, hE⟩ _ hR s => ?_⟩, r⟩
  subst hE hx
  exact turnF_use (ht i R hi hR) s
/-- pairs of a row that stand in the ledger -/
theorem fresh_row2 (mq : (q, o) ∈ L) (hl : xs.length ≤ 1000000) (ht : ∀ i v, xs[i]? = some v → ∃ t a b, v = .ref t ∧ (t, HO.tup [a, b]) ∈ L ∧ ∀ R, (∀ e ∈ L, e ∈ R) → TurnF X scope ifs elt R (g a b) (p i) (pl i)) (r : ∀ D es, es.map (·.2) = ((List.range xs.length).filter p).map pl → R (.ref D) ((D, .lst (refs es)) :: (es ++ L))) : FreshL X scope ifs elt (stTwo g) R ⟨xs.length, fun M => (q, o) ∈ M, itemAt xs⟩ L := by
  refine ⟨p, pl, ⟨hl, fun M h => h _ mq, fun i x E R M hi ⟨hx, hE⟩ nd hR s => ?_⟩, r⟩
  subst hE
  obtain ⟨t, a, b, ev, m, k⟩ := ht i x hx
  exact ⟨t, a, b, ev, (s.to nd).2 _ (hR _ m), turnF_use (k R hR) s⟩
theorem fresh_list2 (mq : (q, HO.lst xs) ∈ L) (hl : xs.length ≤ 1000000) (ht : ∀ i v, xs[i]? = some v → ∃ t a b, v = .ref t ∧ (t, HO.tup [a, b]) ∈ L ∧ ∀ R, (∀ e ∈ L, e ∈ R) → TurnF X scope ifs elt R (g a b) (p i) (pl i)) (r : ∀ D es, es.map (·.2) = ((List.range xs.length).filter p).map pl → R (.ref D) ((D, .lst (refs es)) :: (es ++ L))) : FreshL X scope ifs elt (stTwo g) R ⟨xs.length, KeepL q xs, itemAt xs⟩ L := fresh_row2 mq hl ht r
/-- enumerate of a row -/
theorem fresh_enum (mq : (q, o) ∈ L) (hl : xs.length ≤ 1000000) (ht : ∀ i v R, xs[i]? = some v → (∀ e ∈ L, e ∈ R) → TurnF X scope ifs elt R (g (.int (i : Nat)) v) (p i) (pl i)) (r : ∀ D es, es.map (·.2) = ((List.range xs.length).filter p).map pl → R (.ref D) ((D, .lst (refs es)) :: (es ++ L))) :
    FreshL X scope ifs elt (stTwo g) R ⟨xs.length, fun M => (q, o) ∈ M, itemPr (fun i => some (.int (i : Nat))) (fun i => xs[i]?)⟩ L := by
  refine ⟨p, pl, ⟨hl, fun M h => h _ mq, fun i x E R M hi it nd hR s => ?_⟩, r⟩
  obtain ⟨T, a, b, rfl, rfl, ea, eb⟩ := it
  cases ea
  exact ⟨T, _, b, rfl, mem0, turnF_use (ht i b R eb hR) (s.trans Sub.drop)⟩
/-- a pure comprehension over pairs that stand in the ledger -/
theorem pure_row2 {pg : Nat → V} {pt : Nat → Bool} (mq : (q, o) ∈ L) (hl : xs.length ≤ 1000000) (ht : ∀ i v, xs[i]? = some v → ∃ t a b, v = .ref t ∧ (t, HO.tup [a, b]) ∈ L ∧ TurnP X scope ifs elt L (g a b) (pt i) (pg i)) (r : ∀ D, R (.ref D) ((D, .lst (((List.range xs.length).filter pt).map pg)) :: L)) : PureL X scope ifs elt (stTwo g) R ⟨xs.length, fun M => (q, o) ∈ M, itemAt xs⟩ L := by
  refine ⟨pt, pg, ⟨hl, fun M h => h _ mq, fun i x E D acc M hi ⟨hx, hE⟩ nd s => ?_⟩, r⟩
  subst hE
  obtain ⟨t, a, b, ev, m, k⟩ := ht i x hx
  exact ⟨t, a, b, ev, (s.to nd).2 _ (memS m), turnP_use (st := stTwo g) k s⟩
theorem pure_list2 {pg : Nat → V} {pt : Nat → Bool} (mq : (q, HO.lst xs) ∈ L) (hl : xs.length ≤ 1000000) (ht : ∀ i v, xs[i]? = some v → ∃ t a b, v = .ref t ∧ (t, HO.tup [a, b]) ∈ L ∧ TurnP X scope ifs elt L (g a b) (pt i) (pg i)) (r : ∀ D, R (.ref D) ((D, .lst (((List.range xs.length).filter pt).map pg)) :: L)) : PureL X scope ifs elt (stTwo g) R ⟨xs.length, KeepL q xs, itemAt xs⟩ L := pure_row2 mq hl ht r
end
theorem range_get {α β : Type} {l : List α} {f : Nat → β} {g : α → β} (h : ∀ i a, l[i]? = some a → f i = g a) : ((List.range l.length).filter fun _ => true).map f = l.map g := by
  rw [List.filter_eq_self.mpr fun _ _ => rfl]
  refine List.ext_getElem? fun i => ?_
  rw [List.getElem?_map, List.getElem?_map]
  by_cases z : i < l.length
  · rw [List.getElem?_range z, List.getElem?_eq_getElem z]
    exact congrArg some (h i _ (List.getElem?_eq_getElem z))
  · rw [List.getElem?_eq_none (by rw [List.length_range]; omega), List.getElem?_eq_none (by omega)]
    rfl
theorem at_ints {l : List Int} {i : Nat} (h : i < l.length) : atI (l.map V.int) (i : Int) = some (.int (l.getD i 0)) := atI_nat (by rw [List.getElem?_map, List.getD_eq_getElem?_getD, List.getElem?_eq_getElem h] <;> rfl)
theorem es_pairs : ∀ {es : Lg} {ds : List (Int × Int)}, es.map (·.2) = ds.map (fun d => HO.tup [.int d.1, .int d.2]) → ∃ ps : List Pr2, ps.map (fun e => (e.1, HO.tup [.int e.2.1, .int e.2.2])) = es ∧ ps.map (·.2) = ds
  | [], [], _ => ⟨[], rfl, rfl⟩
  | [], _ :: _, h => by cases h
  | _ :: _, [], h => by cases h
  | e :: es, d :: ds, h => by
    rw [List.map_cons, List.map_cons] at h
    injection h with h1 h2
    obtain ⟨ps, l, e2⟩ := es_pairs h2
    refine ⟨(e.1, d) :: ps, ?_, by rw [List.map_cons, e2]⟩
    rw [List.map_cons, l, ← h1]
section
variable {X : Cx} {η : En} {L : Lg} {a b c : Expr} {op op' : CmpOp} {pos : Pos} {Q : Bool → Lg → Prop}
/-- a < b < c as a test -/
theorem gt_chain (h : GE X a η L fun x L1 => GE X b η L1 fun y L2 => GOp X (compareOp op) x y L2 fun z L3 => ∃ k, z = .bl k ∧ if k = true then GE X c η L3 fun w L4 => GOp X (compareOp op') y w L4 fun z L5 => ∃ k, z = .bl k ∧ Q k L5 else Q false L3)
    (hm : lastMarks [op, op'] [b, c] = false := by with_unfolding_all rfl) : GT X (.Compare a [op, op'] [b, c] pos) η L Q := fun hN H hH =>
  WT.of (pt_chain (r := fun x y H' Q' => ∀ pins s σ v u, Inv X pins σ H' s → RelV x v → RelV y u → wpAny (model X.prog X.w) X.A (compareOp op v u) (EP X pins σ Q') X.xe s)
    (r' := fun x y H' Q' => ∀ pins s σ v u, Inv X pins σ H' s → RelV x v → RelV y u → wpAny (model X.prog X.w) X.A (compareOp op' v u) (EP X pins σ Q') X.xe s)
    (fun pins s σ H' x y v u Q' I r1 r2 q => q pins s σ v u I r1 r2) (fun pins s σ H' x y v u Q' I r1 r2 q => q pins s σ v u I r1 r2) pe_W pe_W pe_W hm)
    (h.then hN hH fun x _ _ h1 q1 => q1.then hN h1 fun y _ _ h2 q2 => fun pins s σ v u I r1 r2 => by
      refine wpAny_mono (q2 pins s σ _ v u h2 I r1 r2) (fun z s' zz => ?_) fun _ _ z => z
      obtain ⟨zv, H3, I3, r3, L3, h3, k, ek, q3⟩ := zz
      refine ⟨zv, H3, I3, r3, k, ek, ?_⟩
      cases k with
      | true =>
        rw [if_pos rfl] at q3
        rw [if_pos rfl]
        exact q3.then hN h3 fun w L4 H4 h4 q4 => fun pins s σ v u I r1 r2 => thn (q4 pins s σ _ v u h4 I r1 r2) fun _ _ ⟨z, H5, J, r5, L5, h5, k5, ek5, q5⟩ => ⟨z, H5, J, r5, k5, ek5, L5, h5, q5⟩
      | false =>
        rw [if_neg Bool.false_ne_true] at q3
        rw [if_neg Bool.false_ne_true]
        exact ⟨false, rfl, L3, h3, q3⟩)
end
section
variable {X : Cx} {L : Lg} {elt : Expr} {scope : Scope} {f : V → En} {h : Nat → V} {N : Nat} {Q : QV} {p c D : Addr} {ns : List Int} {n m k : Int} {R : Lg}
/-- the same; each turn sees what stood there: each turn draws at most k times and gives an int of which P holds -/
theorem lc_drawsM (P : Int → Prop) (hN : N ≤ 100000) (hL : Sub ((p, penO c n m) :: (c, celO ns) :: R) L) (n0 : 0 ≤ n) (m0 : 0 ≤ m) (k0 : 0 ≤ k) (nk : n + k * N ≤ 100000 - k)
    (turn : ∀ i, i < N → ∀ n m R', (∀ e ∈ R, e ∈ R') → 0 ≤ n → n + k ≤ 100000 → 0 ≤ m → AllBlk X scope fun B => GE B elt (f (h i)) ((p, penO c n m) :: (c, celO ns) :: R') fun v M' => ∃ j n' m', v = .int j ∧ P j ∧ 0 ≤ n' ∧ n' ≤ n + k ∧ 0 ≤ m' ∧ Sub ((p, penO c n' m') :: (c, celO ns) :: R') M')
    (q : ∀ (D : Addr) (js : List Int) (n' m' : Int), js.length = N → (∀ j ∈ js, P j) → 0 ≤ n' → n' ≤ n + k * N → 0 ≤ m' → Q (.ref D) ((D, .lst (js.map V.int)) :: (p, penO c n' m') :: (c, celO ns) :: R)) :
    ∃ Pv, LcS X scope [] elt ⟨N, fun _ => True, itemFn h⟩ D L (fun v M k => k (f v) M) Pv (drp Q) := by
  refine ⟨fun i M => ∃ js n' m', Sub ((p, penO c n' m') :: (c, celO ns) :: (D, .lst (js.map V.int)) :: R) M ∧ js.length = i ∧ (∀ j ∈ js, P j) ∧ 0 ≤ n' ∧ n' ≤ n + k * i ∧ 0 ≤ m', ⟨[], n, m, ?_, rfl, fun _ z => absurd z (List.not_mem_nil), n0, by omega, m0⟩, fun _ _ _ _ _ => True.intro, ?_, ?_⟩
  · exact rot3'.trans (Sub.cons hL)
  · rintro i x E M hi ⟨rfl, rfl⟩ _ ⟨js, n1, m1, sb, hl, hP, a0, a1, a2⟩
    dsimp only at hi
    intro s1 H1 C1 cl1 fp1
    refine gts_nil ?_
    dsimp only
    refine ite_t ?_
    intro s2 H2 C2 cl2 fp2
    have ki : k * ((i : Nat) : Int) + k ≤ k * (N : Int) := by
      have := Int.mul_le_mul_of_nonneg_left (show ((i : Nat) : Int) + 1 ≤ (N : Int) by omega) k0
      rw [Int.mul_add, Int.mul_one] at this
      exact this
    refine GE.sub sb (GE.nd ((turn i hi n1 m1 _ (fun e h => List.mem_cons_of_mem _ h) a0 (by omega) a2 s2 H2 C2 cl2 fp2).imp fun v M' ⟨j, n', m', ev, pj, b0, b1, b2, s3⟩ nd => ?_))
    subst ev
    have s4 : Sub ((D, .lst (js.map V.int)) :: (p, penO c n' m') :: (c, celO ns) :: R) M' := rot3.trans s3
    have m2 := (s4.to nd).2 _ List.mem_cons_self
    obtain ⟨M3, sw⟩ := Swap.ex (o := .lst (js.map V.int ++ [V.int j])) (u := .lst (js.map V.int)) rfl m2
    refine ⟨_, M3, m2, ?_, sw, js ++ [j], n', m', ?_, by rw [List.length_append, hl]; rfl, fun y hy => ?_, b0, ?_, b2⟩
    · rw [List.length_map, hl, sizeLine_eq]
      omega
    · have z := rot3'.trans (s4.swap sw)
      rw [List.map_append]
      exact z
    · rcases List.mem_append.mp hy with hy | hy
      · exact hP y hy
      · rw [List.mem_singleton.mp hy]
        exact pj
    · rw [Int.natCast_add, Int.mul_add]
      show n' ≤ n + (k * (i : Int) + k * 1)
      omega
  · rintro M ⟨js, n', m', sb, hl, hP, a0, a1, a2⟩
    exact ⟨_, rot3.trans sb, q D js n' m' hl hP a0 a1 a2⟩
end
theorem gat_fldA {X : Cx} {L : Lg} {Q : QV} {a C dx : Addr} {fs : List (Str × V)} {n : Str} {v : V} (mm : (a, HO.ins C dx fs) ∈ L) (c : L2.Cls X.K C) (no : NoAttr X.K C n) (l : fs.lookup n = some v) (q : Q v L) : GAt X n (.ref a) L Q := gat_fld c no mm l q
section
variable {X : Cx} {L : Lg} {Q : QV} {p : Addr} {xs : List V}
theorem gc_tupL (m : (p, HO.lst xs) ∈ L) (h : ∀ q, Q (.ref q) ((q, .tup xs) :: L)) : GC X (.type "tuple") [.ref p] L Q := GC.of call_tuple_of fun H hH => ⟨p, xs, rfl, .inl ⟨sql hH m, fun l hl => ⟨_, hH.new hl, h l⟩⟩⟩
end
end G
set_option Elab.async false
set_option linter.all false
set_option maxRecDepth 100000
set_option maxHeartbeats 4000000
namespace G
open PySem PySem.Spec PyProof.Rows L2 NdefX ClX
def GAs (X : Cx) (B sts : List Stmt) (D : GD) (η : En) (L : Lg) : Prop := X.N = names η → ∀ H, Has H L → AtSs X B sts (D.ends X) (vals η) H
section
variable {X : Cx} {CX : CXT} {B rest : List Stmt} {D : GD} {W : XW} {η : En} {L : Lg} {x q n : Str} {st : Stmt} {f c cc D0 C a dx g : Addr} {fd : FuncData} {ar : Arg} {fs : List (Str × V)} {sp : SpL} {El : XL} {j k : Nat} {e : Expr} {es : List Expr} {p0 p1 p2 p3 p4 : Pos} {pl : Sem Bool}
/-- the same where the def above may raise -/
theorem gas_supX (F : SupF X.prog X.K x q st f c cc D0 fd) (T : SupM X.K X.mg C D0 n g) (hfu : X.env.func = some f) (hco : X.env.code = .ref c) (hcl : X.env.cells.lookup ("__class__" : Str) = some cc) (hp : (fd.params.posonlyargs ++ fd.params.args).head? = some ar)
    (hks : X.env.kindOf "super" = some .globalImplicit) (hkc : X.env.kindOf "__class__" = some .free) (hka : X.env.kindOf ar.arg = some .local)
    (R : RunG X.prog X.w X.K X.mg X.base (L2.CX X.prog X.w) k g argsP (toSp sp)) (hr : RoomG j X.A) (tk : Tk X W) (hat : At ar.arg (.ref a) η) (mm : (a, HO.ins C dx fs) ∈ L)
    (h : ∀ u, GA X (e :: es) η ((u, .met g a) :: L) fun vs L1 => (u, HO.met g a) ∈ L1 ∧ sp (.ref a :: vs) L1 (fun _ L2 => GSs X rest D η L2) fun c d L' => W c d η L') (hjk : k ≤ j := by decide)
    (hn : (n == ("__class__" : Str)) = false := by decide) (he : starEach (e :: es) X.env = (false, eval e X.env) :: starEach es X.env := by rfl) (hpl : (backTo p3 (starEach es X.env)).any (·.1) = false := by rfl) (hint : interactive X.env = false := by rfl)
    (hsw : swapsWith (.Call (.Attribute (.Call (.Name "super" p0) [] [] p1) n p2) (e :: es) [] p3) none p4.line X.env = pure false := by rfl)
    (hev : eval (.Call (.Attribute (.Call (.Name "super" p0) [] [] p1) n p2) (e :: es) [] p3) X.env = (do
      let ov ← attributeBase (.Call (.Name "super" p0) [] [] p1) n X.env (eval (.Call (.Name "super" p0) [] [] p1) X.env)
      standAt p2.atName
      let (ff, first) ← holding [ov] (getMethod ov n pl)
      callWith p3 ff first (backTo p3 (starEach (e :: es) X.env)) []) := by rfl) :
    GAs X B (.Expr (.Call (.Attribute (.Call (.Name "super" p0) [] [] p1) n p2) (e :: es) [] p3) p4 :: rest) D η L := fun hN H hH pins s I => by
  obtain ⟨oc, od, kV, doc, pm, ct, an, osl, efd, lk⟩ := F.ex
  obtain ⟨ccl, cdd, vs, ccs, fl, tf, lc, hvs, hfile⟩ := F.file
  obtain ⟨cl, cld, csl, hcell⟩ := F.cell
  obtain ⟨cdD, hD⟩ := F.cls
  obtain ⟨mb, hb1, hb2⟩ := I.mod.blt
  obtain ⟨oD, hD1, hD2⟩ : ∃ oD, s.heap.get? D0 = some oD ∧ oD.data = .cls cdD := by
    unfold PySem.W.clsIn at hD
    split at hD
    · rename_i c' d' cd' sl' ho
      cases hD
      exact ⟨_, I.kIn _ _ ho, rfl⟩
    · cases hD
  obtain ⟨cdC, hcC⟩ := T.cls
  obtain ⟨i, hi, hs⟩ := hat.idx
  obtain ⟨mA, O, _, _, _, _⟩ := ins_get I.hok (hH.get mm)
  obtain ⟨oda, IA, _⟩ := O.look
  have xC : a ≠ C := PySem.W.ks_ne I.kIn IA hcC
  refine _root_.PySem.ks_wpAt_execs_cons (_root_.PySem.ks_wpAt_Expr_any (_root_.PySem.ks_wpAt_MethodCall (pl := pl) (_root_.PySem.ks_wpAt_super_base hks hkc hn hfu (I.kIn _ _ lk) rfl hp hco (I.kIn _ _ lc) rfl hvs hfile F.top ?_) hev) hint hsw)
  refine PySem.W.ks_loadName_global I.ok.kind hks (Calls.loadGlobal_builtin (by rw [I.ok.glob]; exact I.mod.glob.keeps I.bk) T.su (by rw [I.ok.blt]; exact hb1.keeps I.bk) ((hb2 _ (by decide)).trans (by decide +kernel)) ⟨rfl, ?_⟩)
  refine wpAny_loadName_free I.ok.kind hkc hcl ⟨_, I.kIn _ _ hcell, rfl⟩ ?_
  obtain ⟨m, hns, hl⟩ := id I.loc
  obtain ⟨u, r, qq⟩ := hl i _ _ (by rw [hN]; exact hi) hs (.inl hka)
  obtain rfl : u = Value.ref a := r
  rcases qq with ⟨_, em⟩ | ⟨kk, _⟩
  · refine wpAny_loadName_local I.ok.kind hka hns em ?_
    obtain ⟨hp', g', d, t, os⟩ := s
    refine _root_.PySem.ks_wpAny_isType_cls hD1 hD2 ⟨rfl, ?_⟩
    refine _root_.PySem.ks_wpAny_call_super hD1 hD2 IA.at_ IA.cls (fun c e => ?_) (PySem.W.looks_mroIn I.kIn T.sub) (fun h' eS kS => ?_)
    · have := IA.no
      unfold PySem.W.notCls at this
      rw [e] at this
      exact Bool.noConfusion this
    have J1 : Inv X pins (vals η) H ⟨h', g', d, t, os⟩ := I.kept (t' := t) kS
    have sm' := T.sm
    unfold PySem.W.ks_superIn at sm'
    rw [hcC] at sm'
    obtain ⟨of, hof, hofc⟩ : ∃ of, h'.get? g = some of ∧ of.cls = .type "function" := by
      have ht' : (X.K.lookup g).map (·.cls) = some (.type "function") := T.tg
      cases z : X.K.lookup g with
      | none => rw [z] at ht'; cases ht'
      | some of => rw [z] at ht'; exact ⟨of, J1.kIn _ _ z, Option.some.inj ht'⟩
    refine _root_.PySem.ks_wpAny_getMethod_super eS (PySem.W.looks_opaque J1.kIn T.op) ((PySem.W.looks_clsIn J1.kIn hcC).andThen .now) rfl J1.kIn sm' hof hofc xC hn ?_
    have nu : H h'.objs.size = none := J1.hok.fresh (Nat.le_refl _)
    have J2 : Inv X pins (vals η) (upd H h'.objs.size (.met g a)) ⟨h'.push { cls := .type "method", data := .fields #[.ref g, .ref a] }, g', d, t + 1, os⟩ :=
      J1.laid (t' := t + 1) (a := h'.objs.size) (fun b o z => Heap.get?_push_of_some _ z) (Nat.le_refl _) (Heap.get?_push_size _ rfl)
    show wpAny _ _ (callWith p3 (Value.ref h'.objs.size) [] (backTo p3 (starEach (e :: es) X.env)) []) _ _ _
    have hpa := h h'.objs.size hN _ (hH.new nu) p3 pins _ J2
    rw [he] at hpa ⊢
    refine callwith_met (X := X) (g := g) (a := a) (by show ((false || (backTo p3 (starEach es X.env)).any (·.1)) || false) = false; rw [hpl]; rfl) T.fi (Calls.evalArgs_plain (thn hpa fun us s1 ⟨vs', H1, J3, r1, L1, h1, e1, qk⟩ => ?_))
    refine ⟨met_P J3 (h1.get e1), ?_⟩
    show wpAny _ _ (call (Value.ref h'.objs.size) us) _ _ _
    have hsp : toSp sp (.ref a :: vs') H1 (up fun _ L2 => GSs X rest D η L2) (fun c d H' => upW X W c d (vals η) H') := ⟨L1, _, _, h1, qk, fun _ L' _ h' q => ⟨L', h', q⟩, fun _ _ L' _ h' q => ⟨η, L', hN, rfl, h', q⟩⟩
    refine wpAny_call (call_met J3 (h1.get e1) (codeAny_mono (R _ X.stack s1 H1 (.ref a :: us) (.ref a :: vs') _ _ (hr.mono hjk) J3.env0 (.cons rfl r1) hsp) fun r s' hq => ?_))
    cases r with
    | error e => exact passAt tk (vals η) pins H1 _ e s' J3 hq
    | ok fl =>
      cases fl with
      | ret w =>
        obtain ⟨v, H', J4, rv, L2, h2, qf⟩ := J3.after hq
        exact AtSs.any (qf hN H' h2) pins s' J4
      | next => exact hq.elim
      | brk => exact hq.elim
      | cont => exact hq.elim
  · rcases kk with kk | kk
    · have z := kk.symm.trans hka
      cases z
    · have z := kk.symm.trans hka
      cases z
end
/-- what such a method lets out is taken -/
theorem tk_sup {P : Program} {w : World} {K : PySem.W.Frag} {mg : Str → Option Value} {base : Heap} {N : List Str} {x q : Str} {st : Stmt} {cc c f : Addr} {A : Around} {outer : List Env} {s : Shared} {H : Hp} {E0 : XK} {E : XL} (he : ∀ c d L' H', Has H' L' → E c d L' → E0 c d H') :
    Tk (cxS (L2.CX P w) P w K mg base N x q st cc c f A outer s H E0) (fun c d _ L' => drpE E c d L') :=
  (takes_of rfl rfl rfl rfl).imp fun c d σ H' ⟨η, L', _, _, h', M, sb, z⟩ => he c d M H' (sb _ h') z
section
variable {X : Cx} {CX : CXT} {j k : Nat} {C g a b dx dy : Addr} {fs gs : List (Str × V)} {sp : SpL} {El : XL} {L : Lg} {Q : QV} {y : V} {T : String} {r : Bool}
theorem gc_isKO (ky : Knd L y T) (e : PySem.W.kitOne X.K (.type T) (.ref C) = some r) (h : Q (.bl r) L) : GC X (.builtin "isinstance") [y, .ref C] L Q := GC.of call_isi fun H hH => ⟨y, .ref C, .type T, .ref C, r, rfl, .own C, ky.ty H hH, e, L, hH, h⟩
end
def GJs (X : Cx) (es : List Expr) (η : En) (acc : Str) (L : Lg) (Q : Str → Lg → Prop) : Prop := match es with
  | [] => Q acc L
  | e :: r => GE X e η L fun x L1 => ∃ y : Str, x = .str y ∧ (acc ++ y).length ≤ sizeLine ∧ GJs X r η (acc ++ y) L1 Q
section
variable {X : Cx} {η : En} {L : Lg} {Q : QV} {e : Expr} {pos : Pos}
theorem GJs.to : ∀ {es : List Expr} {acc : Str} {L : Lg} {Q : Str → Lg → Prop} {Q' : Str → Hp → Prop}, GJs X es η acc L Q → X.N = names η → ∀ {H : Hp}, Has H L → (∀ v L1 H1, Has H1 L1 → Q v L1 → Q' v H1) → tJs (es.map (WE X)) acc (vals η) H Q'
  | [], acc, L, Q, Q', h, hN, H, hH, m => m _ _ _ hH h
  | e :: r, acc, L, Q, Q', h, hN, H, hH, m => GE.then h hN hH fun x L1 H1 h1 ⟨y, ey, z, q⟩ => ⟨y, ey, z, GJs.to q hN h1 m⟩
end
end G
set_option Elab.async false
set_option linter.all false
set_option maxRecDepth 100000
set_option maxHeartbeats 4000000
namespace PySem.W
open PySem PySem.Calls PyProof.Rows
end PySem.W
namespace G
open PySem PySem.Spec PyProof.Rows L2
/-- one entry's place -/
theorem Swap.lens {p : Addr} {o : HO} {L M : Lg} (s : Swap p o L M) : ∃ f : HO → Lg, f o = M ∧ (∀ o', Swap p o' L (f o')) ∧ ∀ o1 o2, plain o1 = true → Swap p o2 (f o1) (f o2) := by
  induction s with
  | @here u L pl => exact ⟨fun o => (p, o) :: L, rfl, fun _ => .here pl, fun _ _ h => .here h⟩
  | @there e L M s ih =>
    obtain ⟨f, a, b, c⟩ := ih
    exact ⟨fun o => e :: f o, congrArg (e :: ·) a, fun o => .there (b o), fun o1 o2 h => .there (c o1 o2 h)⟩
/-- how two own classes stand to each other at == -/
def PairEq (K : PySem.W.Frag) (C C' : Addr) : Prop := PySem.W.notFirst K C (.ref C') = true ∨ (PySem.W.subIn K (.ref C') (.ref C) = some true ∧ C ≠ C')
end G
set_option Elab.async false
set_option linter.all false
set_option maxRecDepth 100000
set_option maxHeartbeats 4000000
namespace PySem.HandSPX
open Builtin Builtin.ObjectAttr
end PySem.HandSPX
set_option Elab.async false
set_option linter.all false
set_option maxRecDepth 100000
set_option maxHeartbeats 4000000
namespace G
open PySem PySem.Spec PyProof.Rows L2 NdefX
section
variable {X : Cx} {η : En} {L : Lg} {Q : QV} {a C D dd : Addr} {fs : List (Str × V)} {c v : V} {cv : Value} {b : Bool} {n : Str}
/-- an error object in the ledger, of one class -/
inductive ErO (C : Addr) (a : Addr) (L : Lg) : Prop
  | own {dd : Addr} {fs : List (Str × V)} (m : (a, exo a C (some dd)) ∈ L) (md : (dd, exd dd fs) ∈ L) : ErO C a L
  | bare (m : (a, ExO (.ref C) a) ∈ L) : ErO C a L
theorem ErO.mono {L M : Lg} (h : ErO C a L) (s : ∀ e ∈ L, e ∈ M) : ErO C a M := by
  cases h with
  | own m md => exact .own (s _ m) (s _ md)
  | bare m => exact .bare (s _ m)
end
/-- two values the other way about -/
def sw2 {α : Type} : List α → List α
  | [a, b] => [b, a]
  | l => l
theorem sw2_vals : ∀ (vs : List V) (us : List Value), Vals vs us → Vals (sw2 vs) (sw2 us)
  | _, _, .nil => .nil
  | _, _, .cons a .nil => .cons a .nil
  | _, _, .cons a (.cons b .nil) => .cons b (.cons a .nil)
  | _, _, .cons a (.cons b (.cons c r)) => .cons a (.cons b (.cons c r))
end G
set_option Elab.async false
set_option linter.all false
set_option maxRecDepth 100000
set_option maxHeartbeats 4000000
namespace G
open PySem PySem.Spec PyProof.Rows L2
/-- v is the value d, read without sys.modules -/
def RdS (L : Lg) (v : V) (d : PyData) : Prop := ∀ (X : Cx) (pins : List (Addr × Obj)) (σ : L2.St) (H : Hp) (s : Shared) (u : Value), Has H L → Inv X pins σ H s → RelV v u → ∃ as, Reads s.heap u d as ∧ sysModules ∉ as
section
variable {L : Lg} {v : V} {d : PyData} {p : Addr} {x : Str} {i : Int} {vs : List V} {ds : List PyData}
theorem RdS.rd (h : RdS L v d) : Rd L v d := fun X pins σ H s u hH I r => by
  obtain ⟨as, q, n⟩ := h X pins σ H s u hH I r
  exact ⟨as, q, fun _ => n⟩
theorem RdS.sub {M : Lg} (s : Sub L M) (h : RdS L v d) : RdS M v d := fun X pins σ H s' u hH I r => h X pins σ H s' u (s H hH) I r
/-- values in a row -/
inductive RdA (L : Lg) : List V → List PyData → Prop
  | nil : RdA L [] []
  | cons {v : V} {d : PyData} {vs : List V} {ds : List PyData} (h : RdS L v d) (r : RdA L vs ds) : RdA L (v :: vs) (d :: ds)
theorem RdA.run {X : Cx} {pins : List (Addr × Obj)} {σ : L2.St} {H : Hp} {s : Shared} (hH : Has H L) (I : Inv X pins σ H s) : ∀ {vs : List V} {ds : List PyData} {us : List Value}, RdA L vs ds → Vals vs us → ∃ as, ReadsAll s.heap us ds as ∧ sysModules ∉ as
  | _, _, _, .nil, .nil => ⟨[], .nil, by simp⟩
  | _, _, _, .cons h r, .cons q t => by
    obtain ⟨as, a1, a2⟩ := h X pins σ H s _ hH I q
    obtain ⟨bs, b1, b2⟩ := r.run hH I t
    exact ⟨as ++ bs, .cons a1 b1, by simp [a2, b2]⟩
end
/-- a value that is shown, alone or in a list -/
structure OddS (L : Lg) (v : V) (d : PyData) : Prop where
  o : Odd L v d
  r : RdS L v d
  dp : d.depth ≤ 10
theorem OddS.drop {L : Lg} {v : V} {d : PyData} {a : Addr × HO} (h : OddS L v d) : OddS (a :: L) v d := ⟨h.o.drop, h.r.sub Sub.drop, h.dp⟩
end G
set_option Elab.async false
set_option linter.all false
set_option maxRecDepth 100000
set_option maxHeartbeats 4000000
namespace G
open PySem PySem.Spec PyProof.Rows L2
section
variable {X : Cx} {L : Lg} {Q : QV} {q : Addr}
theorem gc_anyB {bs : List Bool} (hc : X.calm = true) (m : (q, HO.lst (bs.map V.bl)) ∈ L) (h : Q (.bl (bs.any id)) L) : GC X (.builtin "any") [.ref q] L Q := GC.of (cr_any hc) fun H hH => ⟨q, bs, rfl, sql hH m, L, hH, h⟩
theorem gc_allB {bs : List Bool} (hc : X.calm = true) (m : (q, HO.lst (bs.map V.bl)) ∈ L) (h : Q (.bl (bs.all id)) L) : GC X (.builtin "all") [.ref q] L Q := GC.of (cr_all hc) fun H hH => ⟨q, bs, rfl, sql hH m, L, hH, h⟩
theorem gc_max2 {i j : Int} (hc : X.calm = true) (h : Q (.int (if j > i then j else i)) L) : GC X (.builtin "max") [.int i, .int j] L Q := GC.of (call_max2 hc) fun H hH => ⟨i, j, rfl, L, hH, h⟩
end
theorem bt_any : bootBuiltins "any" = some (.builtin "any") := by decide +kernel
theorem bt_all : bootBuiltins "all" = some (.builtin "all") := by decide +kernel
theorem bt_sum : bootBuiltins "sum" = some (.builtin "sum") := by decide +kernel
theorem bt_max : bootBuiltins "max" = some (.builtin "max") := by decide +kernel
section
variable {X : Cx} {η : En} {L : Lg} {Q : QV} {e : Expr} {es : List Expr} {pos p : Pos}
theorem gb_any (B : Bi X.mg) (h : GA X (e :: es) η L fun xs L1 => GC X (.builtin "any") xs L1 Q) (hg : Gl X "any" := by rfl) (he : starEach (e :: es) X.env = (false, eval e X.env) :: starEach es X.env := by rfl) (hpl : (backTo pos (starEach es X.env)).any (·.1) = false := by rfl) :
    GE X (.Call (.Name "any" p) (e :: es) [] pos) η L Q := ge_B B.any bt_any h hg (by decide) (by decide) he hpl
theorem gb_all (B : Bi X.mg) (h : GA X (e :: es) η L fun xs L1 => GC X (.builtin "all") xs L1 Q) (hg : Gl X "all" := by rfl) (he : starEach (e :: es) X.env = (false, eval e X.env) :: starEach es X.env := by rfl) (hpl : (backTo pos (starEach es X.env)).any (·.1) = false := by rfl) :
    GE X (.Call (.Name "all" p) (e :: es) [] pos) η L Q := ge_B B.all bt_all h hg (by decide) (by decide) he hpl
theorem gb_sum (B : Bi X.mg) (h : GA X (e :: es) η L fun xs L1 => GC X (.builtin "sum") xs L1 Q) (hg : Gl X "sum" := by rfl) (he : starEach (e :: es) X.env = (false, eval e X.env) :: starEach es X.env := by rfl) (hpl : (backTo pos (starEach es X.env)).any (·.1) = false := by rfl) :
    GE X (.Call (.Name "sum" p) (e :: es) [] pos) η L Q := ge_B B.sum bt_sum h hg (by decide) (by decide) he hpl
theorem gb_max (B : Bi X.mg) (h : GA X (e :: es) η L fun xs L1 => GC X (.builtin "max") xs L1 Q) (hg : Gl X "max" := by rfl) (he : starEach (e :: es) X.env = (false, eval e X.env) :: starEach es X.env := by rfl) (hpl : (backTo pos (starEach es X.env)).any (·.1) = false := by rfl) :
    GE X (.Call (.Name "max" p) (e :: es) [] pos) η L Q := ge_B B.max bt_max h hg (by decide) (by decide) he hpl
end
/-- the pairs at addresses -/
abbrev prV (ps : List Pr2) : List V := ps.map fun e => V.ref e.1
def Prs2 (ps : List Pr2) (L : Lg) : Prop := ∀ e ∈ ps, (e.1, HO.tup [.int e.2.1, .int e.2.2]) ∈ L
theorem Prs2.mono {ps : List Pr2} {L M : Lg} (h : Prs2 ps L) (s : ∀ e ∈ L, e ∈ M) : Prs2 ps M := fun e he => s _ (h e he)
theorem Prs2.snoc {ps : List Pr2} {e : Pr2} {L : Lg} (h : Prs2 ps L) (k : (e.1, HO.tup [.int e.2.1, .int e.2.2]) ∈ L) : Prs2 (ps ++ [e]) L := fun x hx => by
  rcases List.mem_append.mp hx with hx | hx
  · exact h x hx
  · rw [List.mem_singleton.mp hx]
    exact k
theorem GG.nd {X : Cx} {tg : Expr} {v : V} {η : En} {L : Lg} {Q : En → Lg → Prop} (h : (L.map (·.1)).Nodup → GG X tg v η L Q) : GG X tg v η L Q := fun hN H hH => h hH.1 hN H hH
theorem filter_listA {α : Type} {xs : List α} {t : α → Bool} {β : Type} {g : α → β} {p : Nat → Bool} {h : Nat → β} (hp : ∀ i v, xs[i]? = some v → p i = t v ∧ h i = g v) : ((List.range xs.length).filter p).map h = (xs.filter t).map g := by
  have key : ∀ k, k ≤ xs.length → ((List.range k).filter p).map h = ((xs.take k).filter t).map g := fun k => by
    induction k with
    | zero => intro _; rfl
    | succ k ih =>
      intro hk
      have e : xs[k]? = some xs[k] := List.getElem?_eq_getElem (by omega)
      obtain ⟨a, b⟩ := hp k _ e
      rw [List.range_succ, List.filter_append, List.map_append, ih (by omega), List.take_succ, e, List.filter_append, List.map_append]
      congr 1
      show (List.filter p [k]).map h = (List.filter t [xs[k]]).map g
      by_cases z : t xs[k] = true
      · rw [List.filter_cons_of_pos (by rw [a]; exact z), List.filter_cons_of_pos z]
        show [h k] = [g xs[k]]
        rw [b]
      · rw [List.filter_cons_of_neg (by rw [a]; exact z), List.filter_cons_of_neg z]
        rfl
  have z := key xs.length (Nat.le_refl _)
  rw [List.take_length] at z
  exact z
theorem prV_at {ps : List Pr2} {i : Nat} {x : V} (h : (prV ps)[i]? = some x) : ∃ e, ps[i]? = some e ∧ V.ref e.1 = x := by
  unfold prV at h
  rw [List.getElem?_map] at h
  exact Option.map_eq_some_iff.mp h
theorem prV_len {ps : List Pr2} : (prV ps).length = ps.length := List.length_map ..
section
variable {X : Cx} {L : Lg} {elt : Expr} {ifs : List Expr} {scope : Scope} {f : V → En} {R : V → Lg → Prop} {q : Addr} {o : HO} {ps : List Pr2} {t : Pr2 → Bool} {g : Pr2 → V} {pl : Pr2 → HO}
def pr0 : Pr2 := (0, 0, 0)
end
end G
set_option Elab.async false
set_option linter.all false
set_option maxRecDepth 100000
set_option maxHeartbeats 4000000
namespace G
open PySem PySem.Spec PyProof.Rows L2 ClX
end G
set_option Elab.async false
set_option linter.all false
set_option maxRecDepth 100000
set_option maxHeartbeats 4000000
namespace PySem.W
open PySem PySem.Calls PySem.Spec PyProof.Rows Builtin
section
variable {prog : Program} {w : World} {M : Model} {A : Around} {E : Value → Shared → Prop} {s : Shared} {K : Frag} {x C f : Addr} {ox : Obj} {odd : Option Obj} {v : Value}
theorem g_iter {Q : Value → Shared → Prop} (X : K.In s.heap) (I : InstAt s.heap x ox C odd) (hs : findIn K (.ref C) "__iter__" = some (some (.ref f))) (hf : isFn K (.ref f) = true)
    (h : wpAny M A (call (.ref f) [.ref x]) (OwitIt M A Q E) E s) : wpAny M A (pyIter (.ref x)) Q E s := by
  have fin : wpAny M A (call (.ref f) [.ref x] >>= fun v => pure (some v)) (fun r s' => ∃ v, r = some v ∧ OwitIt M A Q E v s') E s :=
    wpAny_bind (wpAny_mono h (fun v s' h' => wpAny_pure ⟨v, rfl, h'⟩) fun _ _ z => z)
  have one : ∀ refuse : Sem Value, wpAny M A (callSpecialIfBoundUnlessNone? (.ref x) "__iter__" refuse) (fun r s' => ∃ v, r = some v ∧ OwitIt M A Q E v s') E s := by
    intro refuse
    simp only [callSpecialIfBoundUnlessNone?, bindSpecialIfBound?]
    refine wpAny_holding (wpAny_bind (wpAny_bind (wpAny_bind (I.type.here ((looks_findIn X hs).here ?_)))))
    refine wpAny_bind (wpAny_askSetting (wpAny_ite ?_))
    have fin2 : wpAny M A (if (Value.ref f == Value.none) = true then (refuse >>= fun v => pure (some v)) else (call (.ref f) [.ref x] >>= fun v => pure (some v))) (fun r s' => ∃ v, r = some v ∧ OwitIt M A Q E v s') E s := by
      rw [if_neg (show ¬ ((Value.ref f == Value.none) = true) from Bool.false_ne_true)]
      exact fin
    split
    · exact wpAny_bind ((bind_fn X _ (beq_iff_eq.mp hf)).here (wpAny_pure (by exact fin2)))
    · exact wpAny_tryCatch (wpAny_bind ((bind_fn X _ (beq_iff_eq.mp hf)).here (wpAny_pure (by exact fin2))))
  unfold pyIter
  refine wpAny_bind (wpAny_bind (I.type.here ((looks_findIn X hs).here ?_)))
  show wpAny M A (callSpecialIfBoundUnlessNone? (.ref x) "__iter__" _ >>= _) Q E s
  refine wpAny_bind (wpAny_mono (one _) (fun r s' hr => ?_) fun _ _ z => z)
  obtain ⟨v, rfl, hv⟩ := hr
  refine wpAny_bind (wpAny_mono hv (fun r s₂ hr => ?_) fun _ _ z => z)
  cases r with
  | none => exact hr.elim
  | some g => exact wpAny_pure hr
/-- iter(t), t a tuple -/
theorem g_call_iterT {Q : Value → Shared → Prop} {l : Addr} {items : Array Value} (hl : s.heap.IsTuple l items) (h : Q (.ref s.heap.objs.size) { s with heap := s.heap.push { cls := .type "tuple_iterator", data := .fields #[.ref l, .int 0 0] } }) : wpAny (model prog w) A (call (.builtin "iter") [.ref l]) Q E s := by
  refine Calls.call_function_entry (by decide +kernel) (by decide +kernel) PySem.W.kdk_entry_iter (PySem.W.kdk_args_iter _) ?_
  unfold Builtin.«iter»
  refine wpAny_bind (m := someArgs "iter" 1 2 _) (wpAny_of_eq (a := [Value.ref l]) (by first | rfl | kernel_rfl!) ?_)
  show wpAny _ _ (pyIter (.ref l) >>= _) _ _ _
  refine wpAny_bind (wpAny_pyIter_tuple hl ?_)
  exact wpAny_pure ⟨_, rfl, h⟩
end
end PySem.W
namespace G
open PySem PySem.Spec PyProof.Rows L2 ItX
/-- at it a tuple's iterator that was just made -/
def itT (t it : Addr) : HO := .ext fun h => h.IsTupleIter it t 0
theorem itT_ok {P : Program} {w : World} {H : Hp} {h : Heap} {t it : Addr} (e : h.IsTupleIter it t 0) : ObjOk P w H h it (itT t it) := ⟨e, (by obtain ⟨o, ho, _⟩ := e; exact ⟨o, ho⟩), fun h1 h2 q k => by
  obtain ⟨o, ho, r⟩ := q
  exact ⟨o, k o ho, r⟩⟩
/-- a promise at any state of at least n objects -/
def RunN (n : Nat) (P : Program) (w : World) (K : PySem.W.Frag) (mg : Str → Option Value) (base : Heap) (CX : CXT) (k : Nat) (f : Addr) (args : List Value → Args) (sp : Sp) : Prop :=
  ∀ (A : Around) (outer : List Env) (s : Shared) (H : Hp) (us : List Value) (vs : List V) (Q : VK) (E : XK), n ≤ s.heap.objs.size → RoomG k A → Env0 P w K mg base A outer s H → Vals vs us → sp vs H Q E → codeAny (model P w) A (.call (.ref f) (args us)) (CR CX outer P w H s Q E) s
section
variable {P : Program} {w : World} {K : PySem.W.Frag} {mg : Str → Option Value} {base : Heap}
theorem run_plainN {n : Nat} {x q : Str} {st : Stmt} {f : Addr} {fd : FuncData} {N ps : List Str} {k : Nat} {sp : SpL} (F : Fun K x q st f fd) (S : FnScope N ps (defScope st))
    (hb : ∀ (kV doc pm : Value) (an : Option Addr) (cdv ct : Value) (us : List Value), us.length = ps.length → bindArgs (PySem.W.fnOf x q (defArgs st) (defBody st) (defScope st) .none kV doc pm an cdv ct) (argsP us) = pure (ps.zip us))
    (hl : ps.length ≤ N.length) (len : ∀ vs L Q E, sp vs L Q E → vs.length = ps.length)
    (body : ∀ (X : Cx) (f : Addr) (cdv : Value) (A : Around) (outer : List Env) (s : Shared) (H : Hp) (E0 : XK) (L : Lg) (vs : List V) (Q : QV) (E : XL), X = cx0 P w K mg base N q (defScope st) f cdv A outer s H E0 → n ≤ X.s_0.heap.objs.size → X.N.Nodup → RoomG k X.A → sp vs L Q E → GSs X (defBody st) (bodyD Q) (begun N vs) L) :
    RunN n P w K mg base CX0 (k + 1) f argsP (toSp sp) := by
  obtain ⟨oc, od, kV, doc, pm, an, cdv, ct, osl, rfl, lk, hcd⟩ := F.ex
  intro A outer s H us vs Q E hn0 hr e0 r hsp
  obtain ⟨L, Ql, El, hH, h, hq, _⟩ := hsp
  have hn : vs.length = ps.length := len _ L Ql El h
  have hlv : vs.length ≤ N.length := by
    rw [hn]
    exact hl
  exact LamX.run_ofS (CX := CX0) lk hcd S hr.toRoom e0 (.of_eq (hb kV doc pm an cdv ct us (by rw [← r.length]; exact hn))) r hn fun hr2 =>
    ⟨WSs _ (defBody st), PSs.nox pss_W, body_end (X := cx0 P w K mg base N q (defScope st) f cdv A outer s H E) hlv hq hH (body _ f cdv A outer s H E L vs Ql El rfl hn0 S.nd ⟨hr2, guard_deeper hr.gd⟩ h)⟩
end
section
variable {X : Cx} {η : En} {L : Lg} {Q : QV} {e : Expr} {t : Addr} {xs : List V}
theorem bt_iter : bootBuiltins "iter" = some (.builtin "iter") := by decide +kernel
theorem gc_iterT (m : (t, HO.tup xs) ∈ L) (h : ∀ it, X.s_0.heap.objs.size ≤ it → Q (.ref it) ((it, itT t it) :: L)) : GC X (.builtin "iter") [.ref t] L Q := fun pins s σ H us hH I rr => by
  rw [Vals.ref1 rr]
  obtain ⟨its, rv, p, hz⟩ := I.tuple (sqt hH m)
  refine PySem.W.g_call_iterT (show s.heap.IsTuple t its.toArray from p) ?_
  have hn : H s.heap.objs.size = none := I.hok.fresh (Nat.le_refl _)
  exact ⟨.ref s.heap.objs.size, _, I.laid (t' := s.toks) (fun b u e => Heap.get?_push_of_some _ e) (Nat.le_refl _) (itT_ok ⟨_, Heap.get?_push_size _ rfl, rfl, rfl⟩), rfl, _, hH.newB hn (updGrow hn) (holds_of (by rfl) upd_same), h _ I.sz⟩
end
/-- o.__iter__() gives an iterator over the tuple at t, young -/
def spIterT (n : Nat) (φ : Addr → Addr → List V → Lg → Prop) : SpL := fun vs L Q _ => ∃ (a t : Addr) (xs : List V), vs = [.ref a] ∧ φ a t xs L ∧ (t, HO.tup xs) ∈ L ∧ ∀ it, n ≤ it → Q (.ref it) ((it, itT t it) :: L)
theorem holds_drop {H : Hp} {a p : Addr} {o : HO} (nc : ∀ c q, H c = some (LamX.CodeO c q) → c ≠ p) (ne : a ≠ p) (h : holds H a o) : holds (dropH H p) a o := by
  cases o with
  | tbl m =>
    obtain ⟨q, em, ps, e1, t2, t3⟩ := h
    refine ⟨q, em, ps, by rw [dropH_ne ne]; exact e1, t2, fun pos cv hc => ?_⟩
    obtain ⟨c, e2, e3⟩ := t3 pos cv hc
    exact ⟨c, e2, by rw [dropH_ne (nc c q e3)]; exact e3⟩
  | _ => exact (dropH_ne ne).trans h
section
variable {X : Cx} {η : En} {L : Lg} {Q : Src → Lg → Prop} {tg e : Expr} {g C : Addr} {φ : Addr → Addr → List V → Lg → Prop} {k j : Nat}
theorem gi_own (F : ∀ n, RunN n X.prog X.w X.K X.mg X.base CX0 k g argsP (toSp (spIterT n φ))) (hr : RoomG j X.A) (hs : PySem.W.findIn X.K (.ref C) "__iter__" = some (some (.ref g))) (hf : PySem.W.isFn X.K (.ref g) = true)
    (h : GE X e η L fun v L1 => ∃ (a t dx : Addr) (fs : List (Str × V)) (xs : List V), v = .ref a ∧ (a, HO.ins C dx fs) ∈ L1 ∧ (t, HO.tup xs) ∈ L1 ∧ φ a t xs L1 ∧ Q ⟨xs.length, KeepT t xs, itemAt xs⟩ L1) (hjk : k ≤ j := by decide) : GI X tg e η L Q := fun hN H hH pins s I => by
  refine thn (h hN H hH pins s I) fun v s1 ⟨x, H1, I1, rx, L1, h1, a, t, dx, fs, xs, ex, ma, mt, hφ, q⟩ => ?_
  subst ex
  obtain rfl : v = Value.ref a := rx
  obtain ⟨oe, od, J⟩ := ins_inst I1 h1 ma
  refine PySem.W.g_iter I1.kIn J hs hf (wpAny_call (codeAny_mono (F X.s_0.heap.objs.size X.A X.stack s1 H1 [.ref a] [.ref a] (up fun v L' => ∃ it, v = .ref it ∧ X.s_0.heap.objs.size ≤ it ∧ L' = (it, itT t it) :: L1) (upX NoX) I1.sz (hr.mono hjk) I1.env0 (.cons rfl .nil) (up_sp h1 ⟨a, t, xs, rfl, hφ, mt, fun it hit => ⟨it, rfl, hit, rfl⟩⟩)) fun r s' hq => ?_))
  cases r with
  | error e => exact hq.elim
  | ok fl =>
    cases fl with
    | ret w =>
      obtain ⟨z, H', I', rz, L', h', it, ez, hit, eL⟩ := I1.after hq
      subst ez eL
      obtain rfl : w = Value.ref it := rz
      have ho : H' it = some (itT t it) := h'.2 _ List.mem_cons_self
      have st : s'.heap.IsTupleIter it t 0 := (I'.hok it _ ho).1
      have ha : Has (dropH H' it) L1 := by
        refine ⟨(List.nodup_cons.mp h'.1).2, fun e he => ?_⟩
        have ne : e.1 ≠ it := fun z => (List.nodup_cons.mp h'.1).1 (List.mem_map.mpr ⟨e, he, z⟩)
        refine holds_drop (fun c q' e3 => ?_) ne (h'.2 e (List.mem_cons_of_mem _ he))
        rintro rfl
        obtain ⟨oc, vs, tk, g1, g2, g3⟩ := (show ∃ (oc : Obj) (vs : Array Value) (t : Tok), s'.heap.get? c = some oc ∧ oc.data = .fields vs ∧ vs[1]? = some (.str q' t) from (I'.hok c _ e3).1)
        obtain ⟨o2, g4, g5, g6⟩ := st
        cases g1.symm.trans g4
        cases g2.symm.trans g6
        simp at g3
      have ho' := ho
      unfold itT at ho'
      show PySem.W.OwitIt _ _ _ _ (Value.ref it) s'
      unfold PySem.W.OwitIt
      refine wpAny_specialOf st.typeIs PySem.F.slot_tuple_iterator_next.lookup ?_
      dsimp only
      refine ⟨it, [it], _, _, dropH H' it, rfl, inv_drop I' ho', turn_tuple t it, st, fun b hb => ?_, L1, _, ha, SrcOk.of walk_tup (fun H M hM k => sqt hM k) (fun i H x H' M _ hM _ y => y_at hM y), q⟩
      have e : b = it := by simpa using hb
      rw [e]
      exact inv_fp I' ho hit
    | next => exact hq.elim
    | brk => exact hq.elim
    | cont => exact hq.elim
end
section
variable {X : Cx} {L : Lg} {elt : Expr} {ifs : List Expr} {scope : Scope} {f2 : V → V → En} {R : V → Lg → Prop} {q : Addr} {o : HO} {ps : List Pr2} {t : Pr2 → Bool} {g : Pr2 → V} {pl : Pr2 → HO}
/-- over a row of pairs, both items named -/
theorem pure_rowP2 (mq : (q, o) ∈ L) (hp : Prs2 ps L) (hl : ps.length ≤ 1000000) (ht : ∀ e ∈ ps, TurnP X scope ifs elt L (f2 (.int e.2.1) (.int e.2.2)) (t e) (g e)) (h : ∀ D, R (.ref D) ((D, .lst ((ps.filter t).map g)) :: L)) : PureL X scope ifs elt (stTwo f2) R ⟨(prV ps).length, fun M => (q, o) ∈ M, itemAt (prV ps)⟩ L := by
  refine pure_row2 (pt := fun i => t (ps.getD i pr0)) (pg := fun i => g (ps.getD i pr0)) mq (by rw [prV_len]; exact hl) (fun i v hx => ?_) fun D => ?_
  · obtain ⟨e, he, rfl⟩ := prV_at hx
    have em := List.mem_of_getElem? he
    have e2 : ps.getD i pr0 = e := by rw [List.getD_eq_getElem?_getD, he]; rfl
    rw [e2]
    exact ⟨e.1, _, _, rfl, hp e em, ht e em⟩
  · have z := filter_listA (xs := ps) (t := t) (g := g) (p := fun i => t (ps.getD i pr0)) (h := fun i => g (ps.getD i pr0)) fun i v e => by
      have e2 : ps.getD i pr0 = v := by rw [List.getD_eq_getElem?_getD, e]; rfl
      rw [e2]
      exact ⟨rfl, rfl⟩
    rw [prV_len, z]
    exact h D
end
theorem inV_ints {i : Int} : ∀ {ns : List Int}, inV (.int i) (ns.map V.int) = decide (i ∈ ns)
  | [] => rfl
  | n :: r => by
    have ih := inV_ints (i := i) (ns := r)
    unfold inV at ih ⊢
    rw [List.map_cons, List.any_cons, ih]
    have e : eqV (V.int n) (V.int i) = decide (n = i) := by
      first
        | rfl
        | (simp [eqV])
    rw [e]
    by_cases h : n = i
    · simp [h]
    · have h' : ¬ i = n := fun z => h z.symm
      simp [h, h']
theorem flat_ints : ∀ {ns : List Int}, (ns.map V.int).all flatV = true
  | [] => rfl
  | n :: r => by
    rw [List.map_cons, List.all_cons, flat_ints (ns := r)]
    rfl
end G
namespace G
open PySem PySem.Spec PyProof.Rows L2
end G
set_option Elab.async false
set_option linter.all false
set_option maxRecDepth 100000
set_option maxHeartbeats 4000000
namespace PySem.W
open PySem PySem.Calls PySem.Spec PyProof.Rows Builtin
end PySem.W
namespace G
open PySem PySem.Spec PyProof.Rows L2
end G
set_option Elab.async false
set_option linter.all false
set_option maxRecDepth 100000
set_option maxHeartbeats 4000000
namespace PySem.W
open PySem PySem.Calls PySem.Spec PyProof.Rows Builtin
end PySem.W
namespace G
open PySem PySem.Spec PyProof.Rows L2
end G
set_option Elab.async false
set_option linter.all false
set_option maxRecDepth 100000
set_option maxHeartbeats 4000000
namespace G
open PySem PySem.Spec PyProof.Rows L2
theorem wipe_get {σ : L2.St} {k : Nat} : ∀ {vs : List Nat}, (wipe σ vs)[k]? = if k ∈ vs then (if k < σ.length then some none else none) else σ[k]?
  | [] => by simp [wipe]
  | v :: vs => by
    show ((wipe σ vs).set v none)[k]? = _
    rw [List.getElem?_set, wipe_length]
    by_cases e : v = k
    · subst e
      simp
    · rw [if_neg e, wipe_get (vs := vs)]
      have : (k ∈ v :: vs) = (k ∈ vs) := by
        rw [List.mem_cons]
        exact propext ⟨fun h => h.elim (fun z => absurd z.symm e) id, .inr⟩
      simp only [this]
theorem wipe_mem {σ : L2.St} {i : Nat} {a : Option V} {vs : List Nat} (h : i ∈ vs) : wipe (σ.set i a) vs = wipe σ vs := by
  apply List.ext_getElem?
  intro k
  rw [wipe_get, wipe_get, List.length_set]
  by_cases hk : k ∈ vs
  · rw [if_pos hk, if_pos hk]
  · rw [if_neg hk, if_neg hk, List.getElem?_set_ne]
    intro e
    exact hk (e ▸ h)
theorem GI.nd {X : Cx} {tg iter : Expr} {η : En} {L : Lg} {Q : Src → Lg → Prop} (h : GI X tg iter η L fun S L1 => (L1.map (·.1)).Nodup → Q S L1) : GI X tg iter η L Q := fun hN H hH pins s I =>
  wpAny_mono (h hN H hH pins s I) (fun v s1 z => wpAny_mono z (fun itv s2 ⟨it, fp, tn, J, H1, ev, I2, T, t0, f2, L1, S, k1, ok, q⟩ => ⟨it, fp, tn, J, H1, ev, I2, T, t0, f2, L1, S, k1, ok, q k1.1⟩) fun _ _ z => z) fun _ _ z => z
theorem GI.sub {X : Cx} {tg iter : Expr} {η : En} {L M : Lg} {Q : Src → Lg → Prop} (s : Sub M L) (h : GI X tg iter η M Q) : GI X tg iter η L Q := fun hN H hH => h hN H (s.has H hH)
/-- what a store asks may be asked of less -/
def StLift (st : V → Lg → (En → Lg → Prop) → Prop) : Prop := ∀ v N M (k k' : En → Lg → Prop), (M.map (·.1)).Nodup → Sub N M → (∀ θ, k' θ N → k θ M) → st v N k' → st v M k
theorem lift_one {f : V → En} : StLift (stOne f) := fun _ _ _ _ _ _ _ h z => h _ z
abbrev stThree (g : V → V → V → En) : V → Lg → (En → Lg → Prop) → Prop := fun v M k => ∃ p a b c, v = .ref p ∧ (p, HO.tup [a, b, c]) ∈ M ∧ k (g a b c) M
theorem gts_out {X : Cx} {η : En} {L : Lg} {Q : Bool → Lg → Prop} (h : GTs X [] η L Q) : Q true L := h
theorem ite_out {A B : Prop} (h : if true = true then A else B) : A := h
section
variable {X : Cx} {η : En} {L : Lg} {elt iter tg tg1 iter1 : Expr} {scope : Scope} {pos p1 p2 p3 p4 : Pos} {x y z w : Str} {f : V → En} {Q : QV}
/-- each row's values stand for data -/
inductive Reps {α : Type} (R : V → α → Prop) : List V → List α → Prop
  | nil : Reps R [] []
  | cons {v : V} {a : α} {vs : List V} {as : List α} : R v a → Reps R vs as → Reps R (v :: vs) (a :: as)
theorem Reps.snoc {α : Type} {R : V → α → Prop} : ∀ {vs : List V} {as : List α} {v : V} {a : α}, Reps R vs as → R v a → Reps R (vs ++ [v]) (as ++ [a])
  | _, _, _, _, .nil, h => .cons h .nil
  | _, _, _, _, .cons k t, h => .cons k (t.snoc h)
theorem Reps.imp {α : Type} {R R' : V → α → Prop} (m : ∀ v a, R v a → R' v a) : ∀ {vs : List V} {as : List α}, Reps R vs as → Reps R' vs as
  | _, _, .nil => .nil
  | _, _, .cons k t => .cons (m _ _ k) (t.imp m)
theorem Reps.len {α : Type} {R : V → α → Prop} : ∀ {vs : List V} {as : List α}, Reps R vs as → vs.length = as.length
  | _, _, .nil => rfl
  | _, _, .cons _ t => by rw [List.length_cons, List.length_cons, t.len]
theorem Reps.get {α : Type} {R : V → α → Prop} : ∀ {vs : List V} {as : List α} {i : Nat} {v : V}, Reps R vs as → vs[i]? = some v → ∃ a, as[i]? = some a ∧ R v a
  | _, _, _, _, .nil, e => by simp at e
  | _, _, 0, _, .cons r _, e => by simp at e; subst e; exact ⟨_, rfl, r⟩
  | _, _, i + 1, x, .cons _ t, e => by
    obtain ⟨u, h1, h2⟩ := t.get (i := i) (v := x) (by simpa using e)
    exact ⟨u, by simpa using h1, h2⟩
/-- what a kind of standing for must keep -/
def RepMono {α : Type} (Rep : Lg → V → α → Prop) : Prop := ∀ M N v a, (∀ e ∈ M, e ∈ N) → Rep M v a → Rep N v a
/-- what a turn's element is shown of -/
abbrev EltR {α : Type} (X : Cx) (scope : Scope) (elt : Expr) (Rep : Lg → V → α → Prop) (D : Addr) (zs : List V) (R : Lg) (a : α) (θ : En) (M : Lg) : Prop :=
  AllBlk X scope fun B => GE B elt θ M fun z M2 => ∃ R', Sub ((D, .lst zs) :: R') M2 ∧ (∀ e ∈ R, e ∈ R') ∧ Rep R' z a
theorem elt_turn {α : Type} {Rep : Lg → V → α → Prop} (mono : RepMono Rep) {D : Addr} {zs : List V} {R N M : Lg} {a : α} {as : List α} {θ : En} (hz : zs.length < 10000000) (rp : Reps (Rep R) zs as) (h : EltR X scope elt Rep D zs R a θ N) (s : Sub N M) :
    LcTurn X scope [] elt D (fun M => ∃ zs R', Sub ((D, .lst zs) :: R') M ∧ (∀ e ∈ R, e ∈ R') ∧ Reps (Rep R') zs (as ++ [a])) θ M := by
  intro s1 H1 C1 cl1 fp1
  refine gts_nil (ite_t ?_)
  intro s2 H2 C2 cl2 fp2
  refine GE.sub s (GE.nd ((h s2 H2 C2 cl2 fp2).imp fun y M2 ⟨R', sb, up, rq⟩ => fun nd => ?_))
  have m2 := (sb.to nd).2 _ List.mem_cons_self
  obtain ⟨M3, sw⟩ := Swap.ex (o := .lst (zs ++ [y])) rfl m2
  exact ⟨zs, M3, m2, Nat.lt_of_lt_of_le hz (szL (by decide)), sw, zs ++ [y], R', sb.swap sw, up, (rp.imp fun v b k => mono _ _ _ _ up k).snoc rq⟩
theorem lc_rep {α : Type} {Rep : Lg → V → α → Prop} (mono : RepMono Rep) {S : Src} {ds : Nat → α} {st : V → Lg → (En → Lg → Prop) → Prop} (lift : StLift st) (hn : S.n ≤ 1000000) (kp : ∀ M, (∀ e ∈ L, e ∈ M) → S.keep M) (D : Addr)
    (turn : ∀ i x E zs R, i < S.n → S.item i x E → (∀ e ∈ L, e ∈ R) → ((E ++ ((D, HO.lst zs) :: R)).map (·.1)).Nodup → st x (E ++ ((D, .lst zs) :: R)) fun θ M' => EltR X scope elt Rep D zs R (ds i) θ M')
    (q : ∀ zs R, (∀ e ∈ L, e ∈ R) → Reps (Rep R) zs ((List.range S.n).map ds) → Q (.ref D) ((D, .lst zs) :: R)) : ∃ Pv, LcS X scope [] elt S D L st Pv (drp Q) := by
  refine ⟨fun i M => ∃ zs R, Sub ((D, .lst zs) :: R) M ∧ (∀ e ∈ L, e ∈ R) ∧ Reps (Rep R) zs ((List.range i).map ds), ⟨[], L, Sub.refl, fun _ h => h, .nil⟩, ?_, ?_, ?_⟩
  · rintro i M _ nd ⟨zs, R, sb, up, -⟩
    exact kp M fun e he => (sb.to nd).2 _ (List.mem_cons_of_mem _ (up e he))
  · rintro i x E M hi it nd ⟨zs, R, sb, up, rp⟩
    have sE := Sub.append sb (E := E)
    refine lift _ _ _ _ _ nd sE (fun θ h => ?_) (turn i x E zs R hi it up (sE.to nd).1)
    have hl := rp.len
    rw [List.length_map, List.length_range] at hl
    have z := elt_turn mono (by omega) rp h sE
    have e : (List.range i).map ds ++ [ds i] = (List.range (i + 1)).map ds := by rw [List.range_succ, List.map_append]; rfl
    rw [e] at z
    intro s1 H1 C1 cl1 fp1
    refine gts_nil (ite_t ?_)
    intro s2 H2 C2 cl2 fp2
    exact (ite_out (gts_out (z s1 H1 C1 cl1 fp1)) s2 H2 C2 cl2 fp2).imp fun y M2 ⟨acc, M3, a1, a2, a3, zs', R', b1, b2, b3⟩ => ⟨acc, M3, a1, a2, a3, zs', R', b1, fun e he => b2 _ (up e he), b3⟩
  · rintro M ⟨zs, R, sb, up, rp⟩
    exact ⟨_, sb, q zs R up rp⟩
/-- what such a comprehension is shown of -/
def RepL (X : Cx) (scope : Scope) (elt : Expr) (st : V → Lg → (En → Lg → Prop) → Prop) (Q : V → Lg → Prop) (S : Src) (L1 : Lg) : Prop :=
  ∃ (α : Type) (Rep : Lg → V → α → Prop) (ds : Nat → α), RepMono Rep ∧ S.n ≤ 1000000 ∧ (∀ M, (∀ e ∈ L1, e ∈ M) → S.keep M) ∧
    (∀ D i x E zs R, i < S.n → S.item i x E → (∀ e ∈ L1, e ∈ R) → ((E ++ ((D, HO.lst zs) :: R)).map (·.1)).Nodup → st x (E ++ ((D, .lst zs) :: R)) fun θ M' => EltR X scope elt Rep D zs R (ds i) θ M') ∧
    ∀ D zs R, (∀ e ∈ L1, e ∈ R) → Reps (Rep R) zs ((List.range S.n).map ds) → Q (.ref D) ((D, .lst zs) :: R)
theorem ge_lcR (P : PutF x η f) (h : GI X (.Name x p1) iter η L (RepL X scope elt (stOne f) Q)) (hb : blkC X.N X.env.scope scope [(x, X.N.idxOf x)] = true) (hlx : LocB X scope x := by exact fun _ _ _ _ _ => ⟨.inl rfl, .inr rfl⟩)
    (hN : X.N.Nodup := by assumption) (hc : X.calm = true := by rfl) (hs : ∀ z, foldedSetIterable iter X.env z = pure z := by intro _; rfl) : GE X (.ListComp elt [⟨.Name x p1, iter, [], 0⟩] scope pos) η L Q :=
  GE.undrp (ge_lc1 P (h.imp fun S L1 ⟨α, Rep, ds, mono, hn, kp, tn, q⟩ D => lc_rep mono lift_one hn kp D (tn D) (q D)) hb hlx hN hc hs)
end
end G
set_option Elab.async false
set_option linter.all false
set_option maxRecDepth 100000
set_option maxHeartbeats 4000000
namespace G
open PySem PySem.Spec PyProof.Rows L2
end G
set_option Elab.async false
set_option linter.all false
set_option maxRecDepth 100000
set_option maxHeartbeats 4000000
namespace G
open PySem PySem.Spec PyProof.Rows L2
end G
set_option Elab.async false
set_option linter.all false
set_option maxRecDepth 100000
set_option maxHeartbeats 4000000
namespace L2
open PySem PySem.Spec PyProof.Rows
end L2
namespace G
open PySem PySem.Spec PyProof.Rows L2
end G
set_option Elab.async false
set_option linter.all false
set_option maxRecDepth 100000
set_option maxHeartbeats 4000000
namespace G
open PySem PySem.Spec PyProof.Rows L2
section
variable {X : Cx} {η : En} {L : Lg} {elt iter : Expr} {ifs : List Expr} {scope : Scope} {pos p1 p2 p3 p4 : Pos} {x y z : Str} {f : V → En}
theorem monoThree {g : V → V → V → En} : ∀ v M (k k' : En → Lg → Prop), (∀ θ M', k θ M' → k' θ M') → stThree g v M k → stThree g v M k' := fun _ _ _ _ m ⟨p, a, b, c, e, h, z⟩ => ⟨p, a, b, c, e, h, m _ _ z⟩
variable {R : V → Lg → Prop} {q : Addr} {o : HO} {xs : List V} {p : Nat → Bool} {pl : Nat → HO}
/-- triples of a row that stand in the ledger -/
theorem fresh_row3 {g : V → V → V → En} (mq : (q, o) ∈ L) (hl : xs.length ≤ 1000000) (ht : ∀ i v, xs[i]? = some v → ∃ t a b c, v = .ref t ∧ (t, HO.tup [a, b, c]) ∈ L ∧ ∀ R, (∀ e ∈ L, e ∈ R) → TurnF X scope ifs elt R (g a b c) (p i) (pl i)) (r : ∀ D es, es.map (·.2) = ((List.range xs.length).filter p).map pl → R (.ref D) ((D, .lst (refs es)) :: (es ++ L))) : FreshL X scope ifs elt (stThree g) R ⟨xs.length, fun M => (q, o) ∈ M, itemAt xs⟩ L := by
  refine ⟨p, pl, ⟨hl, fun M h => h _ mq, fun i x E R M hi ⟨hx, hE⟩ nd hR s => ?_⟩, r⟩
  subst hE
  obtain ⟨t, a, b, c, ev, m, k⟩ := ht i x hx
  exact ⟨t, a, b, c, ev, (s.to nd).2 _ (hR _ m), turnF_use (k R hR) s⟩
end
end G
set_option Elab.async false
set_option linter.all false
set_option maxRecDepth 100000
set_option maxHeartbeats 4000000
namespace L2
open PySem PySem.Spec PyProof.Rows
/-- n items, the step above 0 -/
def RgB (i j c : Int) (n : Nat) : Prop := 0 < c ∧ c.natAbs.log2 < 9000 ∧ Builtin.Range.rangeSize i j c = n
end L2
namespace G
open PySem PySem.Spec PyProof.Rows L2
/-- how many are from i on and below j, by a step -/
def stepsN (i j c : Int) : Nat := if i < j then ((j - i - 1) / c).toNat + 1 else 0
theorem RgB.of {i j c : Int} (c0 : 0 < c) (cb : c.natAbs.log2 < 9000) : RgB i j c (stepsN i j c) := by
  refine ⟨c0, cb, ?_⟩
  unfold Builtin.Range.rangeSize stepsN
  rw [if_pos c0]
  split
  · have := Int.ediv_nonneg (a := j - i - 1) (b := c) (by omega) (by omega)
    omega
  · rfl
end G
set_option Elab.async false
set_option linter.all false
set_option maxRecDepth 100000
set_option maxHeartbeats 4000000
namespace G
open PySem PySem.Spec PyProof.Rows L2
end G
set_option Elab.async false
set_option linter.all false
set_option maxRecDepth 100000
set_option maxHeartbeats 4000000
namespace G
open PySem PySem.Spec PyProof.Rows L2
end G
set_option Elab.async false
set_option linter.all false
set_option maxRecDepth 100000
set_option maxHeartbeats 4000000
namespace G
open PySem PySem.Spec PyProof.Rows L2
end G
set_option Elab.async false
set_option linter.all false
set_option maxRecDepth 100000
set_option maxHeartbeats 4000000
namespace G
open PySem PySem.Spec PyProof.Rows L2
class St (P : Prop) (P' : outParam Prop) : Prop where
  to : P' → P
class AtI (x : Str) (v : outParam V) (η : En) : Prop where
  h : At x v η
instance (priority := high) atiH {x : Str} {v : V} {η : En} : AtI x v ((x, some v) :: η) := ⟨.here⟩
instance (priority := low) atiT {x : Str} {v : V} {e : Str × Option V} {η : En} [a : AtI x v η] : AtI x v (e :: η) := ⟨.there a.h⟩
class MemI (p : Addr) (o : outParam HO) (L : Lg) : Prop where
  h : (p, o) ∈ L
instance (priority := high) memiH {p : Addr} {o : HO} {L : Lg} : MemI p o ((p, o) :: L) := ⟨mem0⟩
instance (priority := low) memiT {p : Addr} {o : HO} {e : Addr × HO} {L : Lg} [m : MemI p o L] : MemI p o (e :: L) := ⟨memS m.h⟩
class NStar (e : Expr) : Prop where
  h : ∀ es env, starEach (e :: es) env = (false, eval e env) :: starEach es env
instance {a b} : NStar (.Name a b) := ⟨fun _ _ => rfl⟩
instance {a b c} : NStar (.Constant a b c) := ⟨fun _ _ => rfl⟩
instance {a b c d} : NStar (.BinOp a b c d) := ⟨fun _ _ => rfl⟩
instance {a b c} : NStar (.UnaryOp a b c) := ⟨fun _ _ => rfl⟩
instance {a b c} : NStar (.BoolOp a b c) := ⟨fun _ _ => rfl⟩
instance {a b c d} : NStar (.Compare a b c d) := ⟨fun _ _ => rfl⟩
instance {a b c d} : NStar (.Call a b c d) := ⟨fun _ _ => rfl⟩
instance {a b c} : NStar (.Attribute a b c) := ⟨fun _ _ => rfl⟩
instance {a b c} : NStar (.Subscript a b c) := ⟨fun _ _ => rfl⟩
instance {a b c} : NStar (.Tuple a b c) := ⟨fun _ _ => rfl⟩
instance {a b} : NStar (.List a b) := ⟨fun _ _ => rfl⟩
instance {a b c d} : NStar (.IfExp a b c d) := ⟨fun _ _ => rfl⟩
instance {a b c} : NStar (.NamedExpr a b c) := ⟨fun _ _ => rfl⟩
instance {a b c d} : NStar (.Lambda a b c d) := ⟨fun _ _ => rfl⟩
instance {a b c} : NStar (.Dict a b c) := ⟨fun _ _ => rfl⟩
instance {a b c} : NStar (.Set a b c) := ⟨fun _ _ => rfl⟩
instance {a b c d} : NStar (.ListComp a b c d) := ⟨fun _ _ => rfl⟩
instance {a b c d} : NStar (.SetComp a b c d) := ⟨fun _ _ => rfl⟩
instance {a b c d f} : NStar (.DictComp a b c d f) := ⟨fun _ _ => rfl⟩
instance {a b c d} : NStar (.GeneratorExp a b c d) := ⟨fun _ _ => rfl⟩
instance {a b} : NStar (.JoinedStr a b) := ⟨fun _ _ => rfl⟩
instance {a b c d} : NStar (.FormattedValue a b c d) := ⟨fun _ _ => rfl⟩
class NMark (op : CmpOp) (b : Expr) : Prop where
  h : behindInMarks op b = false
instance {op a b} : NMark op (.Name a b) := ⟨rfl⟩
instance {op a b c} : NMark op (.Constant a b c) := ⟨rfl⟩
instance {op a b c d} : NMark op (.BinOp a b c d) := ⟨rfl⟩
instance {op a b c} : NMark op (.UnaryOp a b c) := ⟨rfl⟩
instance {op a b c d} : NMark op (.Call a b c d) := ⟨rfl⟩
instance {op a b c} : NMark op (.Attribute a b c) := ⟨rfl⟩
instance {op a b c} : NMark op (.Subscript a b c) := ⟨rfl⟩
instance {op a b c} : NMark op (.Tuple a b c) := ⟨rfl⟩
instance {op a b} : NMark op (.List a b) := ⟨rfl⟩
instance {op a b c} : NMark op (.NamedExpr a b c) := ⟨rfl⟩
instance {op a b c d} : NMark op (.Lambda a b c d) := ⟨rfl⟩
instance {op a b c} : NMark op (.Dict a b c) := ⟨rfl⟩
instance {op a b c d} : NMark op (.ListComp a b c d) := ⟨rfl⟩
instance {op a b c d} : NMark op (.SetComp a b c d) := ⟨rfl⟩
instance {op a b c d f} : NMark op (.DictComp a b c d f) := ⟨rfl⟩
instance {op a b c d} : NMark op (.GeneratorExp a b c d) := ⟨rfl⟩
instance {op a b} : NMark op (.JoinedStr a b) := ⟨rfl⟩
instance {op a b c d} : NMark op (.FormattedValue a b c d) := ⟨rfl⟩
instance {op a b c} : NMark op (.BoolOp a b c) := ⟨rfl⟩
instance {op a b c d} : NMark op (.Compare a b c d) := ⟨rfl⟩
instance {op a b c d} : NMark op (.IfExp a b c d) := ⟨rfl⟩
section
variable {X : Cx} {η : En} {L : Lg} {Q : QV} {a b c e : Expr} {pos : Pos}
instance {i : Int} {j} : St (GE X (.Constant (.int i) j pos) η L Q) (Q (.int i) L) := ⟨ge_int⟩
instance {i : Bool} {j} : St (GE X (.Constant (.bool i) j pos) η L Q) (Q (.bl i) L) := ⟨ge_bl⟩
instance {j} : St (GE X (.Constant .none j pos) η L Q) (Q .non L) := ⟨ge_non⟩
instance {i : Str} {j} : St (GE X (.Constant (.str i) j pos) η L Q) (Q (.str i) L) := ⟨ge_str⟩
instance {op : Operator} : St (GE X (.BinOp a op b pos) η L Q) (GE X a η L fun x L1 => GE X b η L1 fun y L2 => GOp X (binaryOp op) x y L2 Q) := ⟨ge_bin⟩
instance {op : UnaryOp} : St (GE X (.UnaryOp op a pos) η L Q) (GE X a η L fun x L1 => GUn X (unaryOp op) x L1 Q) := ⟨ge_un⟩
instance (priority := high) : St (GE X (.UnaryOp .Not a pos) η L Q) (GE X a η L fun x L1 => ∃ k, x = .bl k ∧ Q (.bl (!k)) L1) := ⟨ge_not⟩
instance {op : CmpOp} [m : NMark op b] : St (GE X (.Compare a [op] [b] pos) η L Q) (GE X a η L fun x L1 => GE X b η L1 fun y L2 => GOp X (compareOp op) x y L2 Q) := ⟨fun h => ge_cmp h m.h⟩
instance {op : BoolOp} : St (GE X (.BoolOp op [a] pos) η L Q) (GE X a η L Q) := ⟨ge_one⟩
instance {rest : List Expr} : St (GE X (.BoolOp .And (a :: b :: rest) pos) η L Q) (GE X a η L fun x L1 => ∃ k, x = .bl k ∧ if k = true then GE X (.BoolOp .And (b :: rest) pos) η L1 Q else Q (.bl false) L1) := ⟨ge_and⟩
instance {rest : List Expr} : St (GE X (.BoolOp .Or (a :: b :: rest) pos) η L Q) (GE X a η L fun x L1 => ∃ k, x = .bl k ∧ if k = true then Q (.bl true) L1 else GE X (.BoolOp .Or (b :: rest) pos) η L1 Q) := ⟨ge_or⟩
instance : St (GE X (.IfExp c a b pos) η L Q) (GT X c η L fun k L1 => if k = true then GE X a η L1 Q else GE X b η L1 Q) := ⟨ge_if⟩
instance {es : List Expr} {x1} : St (GE X (.Tuple es x1 pos) η L Q) (GA X es η L fun xs L1 => xs.length ≤ sizeLine ∧ ∀ p, Q (.ref p) ((p, .tup xs) :: L1)) := ⟨ge_tup⟩
instance {es : List Expr} : St (GE X (.List es pos) η L Q) (GA X es η L fun xs L1 => xs.length ≤ sizeLine ∧ ∀ p, Q (.ref p) ((p, .lst xs) :: L1)) := ⟨ge_lst⟩
instance {Q : List V → Lg → Prop} : St (GA X [] η L Q) (Q [] L) := ⟨ga_nil⟩
instance {es : List Expr} {Q : List V → Lg → Prop} [n : NStar e] : St (GA X (e :: es) η L Q) (GE X e η L fun x L1 => GA X es η L1 fun xs L2 => Q (x :: xs) L2) := ⟨fun h => ga_cons h (n.h _ _)⟩
instance {i j : Int} : St (GOp X (binaryOp .Add) (.int i) (.int j) L Q) (Q (.int (i + j)) L) := ⟨go_add⟩
instance {i j : Int} : St (GOp X (binaryOp .Sub) (.int i) (.int j) L Q) (Q (.int (i - j)) L) := ⟨go_sub⟩
instance {i j : Int} : St (GOp X (compareOp .Lt) (.int i) (.int j) L Q) (Q (.bl (decide (i < j))) L) := ⟨go_lt⟩
instance {i j : Int} : St (GOp X (compareOp .LtE) (.int i) (.int j) L Q) (Q (.bl (decide (i ≤ j))) L) := ⟨go_le⟩
instance {i j : Int} : St (GOp X (compareOp .Eq) (.int i) (.int j) L Q) (Q (.bl (decide (i = j))) L) := ⟨go_eq⟩
instance {i j : Int} : St (GOp X (compareOp .Gt) (.int i) (.int j) L Q) (Q (.bl (decide (j < i))) L) := ⟨go_gt⟩
instance {i j : Int} : St (GOp X (compareOp .GtE) (.int i) (.int j) L Q) (Q (.bl (decide (j ≤ i))) L) := ⟨go_ge⟩
instance {i j : Int} : St (GOp X (compareOp .NotEq) (.int i) (.int j) L Q) (Q (.bl (!decide (i = j))) L) := ⟨go_ne⟩
end
section
variable {X : Cx} {η : En} {L : Lg} {Q : Bool → Lg → Prop} {a b c e : Expr} {pos : Pos}
instance {op : CmpOp} [m : NMark op b] : St (GT X (.Compare a [op] [b] pos) η L Q) (GE X a η L fun x L1 => GE X b η L1 fun y L2 => GOp X (compareOp op) x y L2 fun z L3 => ∃ k, z = .bl k ∧ Q k L3) := ⟨fun h => gt_cmp h m.h⟩
instance {op : BoolOp} {es : List Expr} : St (GT X (.BoolOp op es pos) η L Q) (GW X (.BoolOp op es pos) η L Q) := ⟨gt_w⟩
instance : St (GT X (.UnaryOp .Not a pos) η L Q) (GT X a η L fun k L1 => Q (!k) L1) := ⟨gt_not⟩
instance {x : Str} : St (GT X (.Name x pos) η L Q) (GE X (.Name x pos) η L fun x L1 => ∃ k, x = .bl k ∧ Q k L1) := ⟨gt_val⟩
instance {f : Expr} {es ks} : St (GT X (.Call f es ks pos) η L Q) (GE X (.Call f es ks pos) η L fun x L1 => ∃ k, x = .bl k ∧ Q k L1) := ⟨gt_val⟩
instance : St (GW X (.BoolOp .And [a] pos) η L Q) (GT X a η L Q) := ⟨gw_and1⟩
instance : St (GW X (.BoolOp .Or [a] pos) η L Q) (GT X a η L Q) := ⟨gw_or1⟩
instance {rest : List Expr} : St (GW X (.BoolOp .And (a :: b :: rest) pos) η L Q) (GT X a η L fun k L1 => if k = true then GW X (.BoolOp .And (b :: rest) pos) η L1 Q else Q false L1) := ⟨gw_and⟩
instance {rest : List Expr} : St (GW X (.BoolOp .Or (a :: b :: rest) pos) η L Q) (GT X a η L fun k L1 => if k = true then Q true L1 else GW X (.BoolOp .Or (b :: rest) pos) η L1 Q) := ⟨gw_or⟩
end
section
variable {X : Cx} {η : En} {L : Lg} {e : Expr} {pos : Pos} {D : GD}
instance {st : Stmt} {rest : List Stmt} : St (GSs X (st :: rest) D η L) (GS X st { nx := fun θ L1 => GSs X rest D θ L1, rt := D.rt, bk := D.bk, ct := D.ct } η L) := ⟨gss_cons⟩
instance : St (GSs X [] D η L) (D.nx η L) := ⟨gss_nil⟩
instance : St (GS X (.Return (some e) pos) D η L) (GE X e η L D.rt) := ⟨gs_ret⟩
instance : St (GS X (.Return none pos) D η L) (D.rt .non L) := ⟨gs_retN⟩
instance : St (GS X (.Pass pos) D η L) (D.nx η L) := ⟨gs_pass⟩
instance : St (GS X (.Break pos) D η L) (D.bk η L) := ⟨gs_break⟩
instance : St (GS X (.Continue pos) D η L) (D.ct η L) := ⟨gs_continue⟩
instance {Q : En → Lg → Prop} : St (GGs X [] [] η L Q) (Q η L) := ⟨ggs_nil⟩
end
instance {p q : Prop} : St (if true = true then p else q) p := ⟨fun h => h⟩
instance {p q : Prop} : St (if false = true then p else q) q := ⟨fun h => h⟩
instance {p q : Prop} : St (if (!true) = true then p else q) q := ⟨fun h => h⟩
instance {p q : Prop} : St (if (!false) = true then p else q) p := ⟨fun h => h⟩
instance {k : Bool} {q : Bool → Prop} : St (∃ j, V.bl k = .bl j ∧ q j) (q k) := ⟨fun h => ⟨_, rfl, h⟩⟩
/-- the names of a def, as its scope has them -/
def chkN (N : List Str) (sc : Scope) : Bool := N.all fun x => (sc.names.lookup x == some .local || sc.names.lookup x == some .cell) && !(x == ("__debug__" : Str)) && !(x == ("__classdict__" : Str))
class OkL (sc : Scope) (M : outParam (List Str)) : Prop where
  k : chkN M sc = true
class InS (x : Str) (M : List Str) : Prop where
  h : x ∈ M
instance (priority := high) insH {x : Str} {M : List Str} : InS x (x :: M) := ⟨mem0⟩
instance (priority := low) insT {x y : Str} {M : List Str} [i : InS x M] : InS x (y :: M) := ⟨memS i.h⟩
class NdI (N : List Str) : Prop where
  n : N.Nodup
class VisX (X : Cx) : Prop where
  n : X.N.Nodup
  f : ∀ x, X.fn x = true
  c : X.calm = true
class OkX (X : Cx) (x : Str) : Prop where
  l : Loc X.env.scope x
  d : (x == ("__debug__" : Str)) = false ∧ (x == ("__classdict__" : Str)) = false
theorem chkN_at {N : List Str} {sc : Scope} (h : chkN N sc = true) {x : Str} (m : x ∈ N) : Loc sc x ∧ (x == ("__debug__" : Str)) = false ∧ (x == ("__classdict__" : Str)) = false := by
  have := List.all_eq_true.mp h x m
  simp only [Bool.and_eq_true, Bool.or_eq_true, beq_iff_eq, Bool.not_eq_true'] at this
  exact ⟨this.1.1, this.1.2, this.2⟩
instance {P : Program} {w : World} {K : PySem.W.Frag} {mg : Str → Option Value} {base : Heap} {N : List Str} {x : Str} {sc : Scope} {f : Addr} {cdv : Value} {A : Around} {outer : List Env} {s : Shared} {H : Hp} {E0 : XK} [k : NdI N] : VisX (cx0 P w K mg base N x sc f cdv A outer s H E0) := ⟨k.n, fun _ => rfl, rfl⟩
instance {P : Program} {w : World} {K : PySem.W.Frag} {mg : Str → Option Value} {base : Heap} {N : List Str} {x : Str} {sc : Scope} {f : Addr} {cdv : Value} {A : Around} {outer : List Env} {s : Shared} {H : Hp} {E0 : XK} {y : Str} {M : List Str} [k : OkL sc M] [i : InS y M] : OkX (cx0 P w K mg base N x sc f cdv A outer s H E0) y := ⟨(chkN_at k.k i.h).1, (chkN_at k.k i.h).2⟩
class PutFI (x : Str) (η : En) (f : outParam (V → En)) : Prop where
  h : PutF x η f
instance (priority := high) putfiH {x : Str} {o : Option V} {η : En} : PutFI x ((x, o) :: η) (fun v => (x, some v) :: η) := ⟨.here⟩
instance (priority := low) putfiT {x : Str} {e : Str × Option V} {η : En} {f : V → En} [p : PutFI x η f] : PutFI x (e :: η) (fun v => e :: f v) := ⟨.there p.h⟩
class PutI (x : Str) (v : V) (η : En) (θ : outParam En) : Prop where
  h : Put x v η θ
instance (priority := high) putiH {x : Str} {v : V} {o : Option V} {η : En} : PutI x v ((x, o) :: η) ((x, some v) :: η) := ⟨.here⟩
instance (priority := low) putiT {x : Str} {v : V} {e : Str × Option V} {η θ : En} [p : PutI x v η θ] : PutI x v (e :: η) (e :: θ) := ⟨.there p.h⟩
class NSwap (e : Expr) : Prop where
  h : ∀ t l env, swapsWith e t l env = pure false
instance {a b} : NSwap (.Name a b) := ⟨fun _ _ _ => rfl⟩
instance {a b c} : NSwap (.Constant a b c) := ⟨fun _ _ _ => rfl⟩
instance {a b c d} : NSwap (.BinOp a b c d) := ⟨fun _ _ _ => rfl⟩
instance {a b c} : NSwap (.UnaryOp a b c) := ⟨fun _ _ _ => rfl⟩
instance {a b c} : NSwap (.BoolOp a b c) := ⟨fun _ _ _ => rfl⟩
instance {a b c d} : NSwap (.Compare a b c d) := ⟨fun _ _ _ => rfl⟩
instance {a b c d} : NSwap (.Call a b c d) := ⟨fun _ _ _ => rfl⟩
instance {a b c} : NSwap (.Attribute a b c) := ⟨fun _ _ _ => rfl⟩
instance {a b c} : NSwap (.Subscript a b c) := ⟨fun _ _ _ => rfl⟩
instance {a b c} : NSwap (.Tuple a b c) := ⟨fun _ _ _ => rfl⟩
instance {a b} : NSwap (.List a b) := ⟨fun _ _ _ => rfl⟩
instance {a b c d} : NSwap (.IfExp a b c d) := ⟨fun _ _ _ => rfl⟩
instance {a b c} : NSwap (.NamedExpr a b c) := ⟨fun _ _ _ => rfl⟩
instance {a b c d} : NSwap (.Lambda a b c d) := ⟨fun _ _ _ => rfl⟩
instance {a b c} : NSwap (.Dict a b c) := ⟨fun _ _ _ => rfl⟩
instance {a b c} : NSwap (.Set a b c) := ⟨fun _ _ _ => rfl⟩
instance {a b c d} : NSwap (.GeneratorExp a b c d) := ⟨fun _ _ _ => rfl⟩
instance {a b} : NSwap (.JoinedStr a b) := ⟨fun _ _ _ => rfl⟩
instance {a b c d} : NSwap (.FormattedValue a b c d) := ⟨fun _ _ _ => rfl⟩
class PIx (e : Expr) : Prop where
  h : PlainIx e
instance {a b} : PIx (.Name a b) := ⟨fun _ _ => rfl⟩
instance {a b c} : PIx (.Constant a b c) := ⟨fun _ _ => rfl⟩
instance {a b c d} : PIx (.BinOp a b c d) := ⟨fun _ _ => rfl⟩
instance {a b c} : PIx (.UnaryOp a b c) := ⟨fun _ _ => rfl⟩
instance {a b c} : PIx (.BoolOp a b c) := ⟨fun _ _ => rfl⟩
instance {a b c d} : PIx (.Compare a b c d) := ⟨fun _ _ => rfl⟩
instance {a b c d} : PIx (.Call a b c d) := ⟨fun _ _ => rfl⟩
instance {a b c} : PIx (.Attribute a b c) := ⟨fun _ _ => rfl⟩
instance {a b c} : PIx (.Subscript a b c) := ⟨fun _ _ => rfl⟩
instance {a b c} : PIx (.Tuple a b c) := ⟨fun _ _ => rfl⟩
instance {a b} : PIx (.List a b) := ⟨fun _ _ => rfl⟩
instance {a b c d} : PIx (.IfExp a b c d) := ⟨fun _ _ => rfl⟩
instance {a b c} : PIx (.NamedExpr a b c) := ⟨fun _ _ => rfl⟩
instance {a b c d} : PIx (.Lambda a b c d) := ⟨fun _ _ => rfl⟩
instance {a b c} : PIx (.Dict a b c) := ⟨fun _ _ => rfl⟩
instance {a b c} : PIx (.Set a b c) := ⟨fun _ _ => rfl⟩
instance {a b c d} : PIx (.ListComp a b c d) := ⟨fun _ _ => rfl⟩
instance {a b c d} : PIx (.SetComp a b c d) := ⟨fun _ _ => rfl⟩
instance {a b c d f} : PIx (.DictComp a b c d f) := ⟨fun _ _ => rfl⟩
instance {a b c d} : PIx (.GeneratorExp a b c d) := ⟨fun _ _ => rfl⟩
instance {a b} : PIx (.JoinedStr a b) := ⟨fun _ _ => rfl⟩
instance {a b c d} : PIx (.FormattedValue a b c d) := ⟨fun _ _ => rfl⟩
class NBase (e : Expr) : Prop where
  h : ∀ n env, attributeBase e n env (eval e env) = eval e env
instance {a b} : NBase (.Name a b) := ⟨fun _ _ => rfl⟩
instance {a b c} : NBase (.Attribute a b c) := ⟨fun _ _ => rfl⟩
instance {a b c} : NBase (.Subscript a b c) := ⟨fun _ _ => rfl⟩
class NTgt (e : Expr) : Prop where
  h : ∀ ts env, assignEach (e :: ts) env = (false, assign e env) :: assignEach ts env
instance {a b} : NTgt (.Name a b) := ⟨fun _ _ => rfl⟩
instance {a b c} : NTgt (.Attribute a b c) := ⟨fun _ _ => rfl⟩
instance {a b c} : NTgt (.Subscript a b c) := ⟨fun _ _ => rfl⟩
instance {a b c} : NTgt (.Tuple a b c) := ⟨fun _ _ => rfl⟩
class NTgts (es : List Expr) : Prop where
  h : ∀ env, (assignEach es env).length = es.length ∧ (assignEach es env).findIdx? (·.1) = none
instance : NTgts [] := ⟨fun _ => ⟨rfl, rfl⟩⟩
instance {e : Expr} {es : List Expr} [a : NTgt e] [b : NTgts es] : NTgts (e :: es) := ⟨fun env => by
  have := b.h env
  rw [a.h]
  exact ⟨by simp [this.1], by simp [List.findIdx?_cons, this.2]⟩⟩
class SLen {α β : Type} (xs : List α) (es : List β) : Prop where
  h : xs.length = es.length
instance {α β : Type} : SLen ([] : List α) ([] : List β) := ⟨rfl⟩
instance {α β : Type} {x : α} {xs : List α} {y : β} {ys : List β} [a : SLen xs ys] : SLen (x :: xs) (y :: ys) := ⟨by simp [a.h]⟩
section
variable {X : Cx} {η : En} {L : Lg} {Q : QV} {a b e : Expr} {pos : Pos} {D : GD}
instance {x : Str} {v : V} [k : OkX X x] [t : AtI x v η] : St (GE X (.Name x pos) η L Q) (Q v L) := ⟨fun q => ge_var t.h q (k.l.elim .inl fun z => .inr (.inl z)) k.d.1 k.d.2⟩
instance [i : PIx b] : St (GE X (.Subscript a b pos) η L Q) (GE X a η L fun x L1 => GE X b η L1 fun y L2 => GIx X x y L2 Q) := ⟨fun h => ge_ix h i.h⟩
instance {n : Str} [i : NBase e] : St (GE X (.Attribute e n pos) η L Q) (GE X e η L fun x L1 => GAt X n x L1 Q) := ⟨fun h => ge_attr h (i.h _ _)⟩
instance {x : Str} {f : V → En} {pos' : Pos} [k : VisX X] [o : OkX X x] [p : PutFI x η f] [s : NSwap e] : St (GS X (.Assign [.Name x pos'] e pos) D η L) (GE X e η L fun v L1 => D.nx (f v) L1) := ⟨fun h => gs_set p.h h k.n o.l (s.h _ _ _) (.inl (k.f x))⟩
instance [s : NSwap e] : St (GS X (.Expr e pos) D η L) (GE X e η L fun x L1 => D.nx η L1) := ⟨fun h => gs_expr h (s.h _ _ _)⟩
instance {x : Str} {y : V} {f : V → En} {pos' : Pos} {op : Operator} [k : VisX X] [o : OkX X x] [t : AtI x y η] [p : PutFI x η f] : St (GS X (.AugAssign (.Name x pos') op e pos) D η L) (GE X e η L fun z L1 => GIp X op y z L1 fun w L2 => D.nx (f w) L2) := ⟨fun h => gs_aug t.h p.h h k.n o.l (.inl (k.f x))⟩
instance {x : Str} {v : V} {θ : En} {Q : En → Lg → Prop} [k : VisX X] [o : OkX X x] [p : PutI x v η θ] : St (GG X (.Name x pos) v η L Q) (Q θ L) := ⟨fun h => gg_name p.h h k.n o.l (.inl (k.f x))⟩
instance {v : V} {ts : List Expr} {vs : List V} {Q : En → Lg → Prop} [n : NTgt e] : St (GGs X (e :: ts) (v :: vs) η L Q) (GG X e v η L fun θ L1 => GGs X ts vs θ L1 Q) := ⟨fun h => ggs_cons h (by rw [n.h]; rfl)⟩
instance {es : List Expr} {k : Nat} {p : Addr} {xs : List V} {Q : En → Lg → Prop} [v : VisX X] [m : MemI p (.tup xs) L] [n : NTgts es] [s : SLen xs es] : St (GG X (.Tuple es k pos) (.ref p) η L Q) (GGs X es xs η L Q) := ⟨fun h => gg_tup m.h h s.h v.c (n.h _).1 (n.h _).2⟩
instance {i j : Int} : St (GIp X .Add (.int i) (.int j) L Q) (Q (.int (i + j)) L) := ⟨gp_add⟩
instance {i j : Int} : St (GIp X .Sub (.int i) (.int j) L Q) (Q (.int (i - j)) L) := ⟨gp_sub⟩
instance {i : Int} : St (GUn X (unaryOp .USub) (.int i) L Q) (Q (.int (-i)) L) := ⟨gu_neg⟩
instance : St (GOp X (compareOp .Is) .non .non L Q) (Q (.bl true) L) := ⟨isN_non⟩
instance : St (GOp X (compareOp .IsNot) .non .non L Q) (Q (.bl false) L) := ⟨notN_non⟩
instance {i : Int} : St (GOp X (compareOp .Is) (.int i) .non L Q) (Q (.bl false) L) := ⟨isN_int⟩
instance {i : Int} : St (GOp X (compareOp .IsNot) (.int i) .non L Q) (Q (.bl true) L) := ⟨notN_int⟩
instance {i : Addr} : St (GOp X (compareOp .Is) (.ref i) .non L Q) (Q (.bl false) L) := ⟨isN_ref⟩
instance {i : Addr} : St (GOp X (compareOp .IsNot) (.ref i) .non L Q) (Q (.bl true) L) := ⟨notN_ref⟩
end
instance {i : Int} {q : Int → Prop} : St (∃ j, V.int i = .int j ∧ q j) (q i) := ⟨fun h => ⟨_, rfl, h⟩⟩
instance {i : Addr} {q : Addr → Prop} : St (∃ j, V.ref i = .ref j ∧ q j) (q i) := ⟨fun h => ⟨_, rfl, h⟩⟩
instance {a : V} {q : V → Prop} : St (∃ v, [a] = [v] ∧ q v) (q a) := ⟨fun h => ⟨_, rfl, h⟩⟩
instance {a b : V} {q : V → V → Prop} : St (∃ v w, [a, b] = [v, w] ∧ q v w) (q a b) := ⟨fun h => ⟨_, _, rfl, h⟩⟩
instance {a b c : V} {q : V → V → V → Prop} : St (∃ u v w, [a, b, c] = [u, v, w] ∧ q u v w) (q a b c) := ⟨fun h => ⟨_, _, _, rfl, h⟩⟩
class NSt (t e : Expr) : Prop where
  h : ∀ env, swappedStores [t] e env = pure none
instance {ts k p a b} : NSt (.Tuple ts k p) (.Name a b) := ⟨fun _ => rfl⟩
instance {ts k p a b c} : NSt (.Tuple ts k p) (.Constant a b c) := ⟨fun _ => rfl⟩
instance {ts k p a b c d} : NSt (.Tuple ts k p) (.BinOp a b c d) := ⟨fun _ => rfl⟩
instance {ts k p a b c} : NSt (.Tuple ts k p) (.UnaryOp a b c) := ⟨fun _ => rfl⟩
instance {ts k p a b c} : NSt (.Tuple ts k p) (.BoolOp a b c) := ⟨fun _ => rfl⟩
instance {ts k p a b c d} : NSt (.Tuple ts k p) (.Compare a b c d) := ⟨fun _ => rfl⟩
instance {ts k p a b c d} : NSt (.Tuple ts k p) (.Call a b c d) := ⟨fun _ => rfl⟩
instance {ts k p a b c} : NSt (.Tuple ts k p) (.Attribute a b c) := ⟨fun _ => rfl⟩
instance {ts k p a b c} : NSt (.Tuple ts k p) (.Subscript a b c) := ⟨fun _ => rfl⟩
instance {ts k p a b} : NSt (.Tuple ts k p) (.List a b) := ⟨fun _ => rfl⟩
instance {ts k p a b c d} : NSt (.Tuple ts k p) (.IfExp a b c d) := ⟨fun _ => rfl⟩
instance {u v p e} : NSt (.Subscript u v p) e := ⟨fun _ => by cases e <;> rfl⟩
class NAsg (t : Expr) : Prop where
  h : ∀ env, (assignEach [t] env).map (·.2) = [assign t env]
instance {ts k p} : NAsg (.Tuple ts k p) := ⟨fun _ => rfl⟩
instance {u v p} : NAsg (.Subscript u v p) := ⟨fun _ => rfl⟩
instance {X : Cx} {η : En} {L : Lg} {t e : Expr} {pos : Pos} {D : GD} [s : NSwap e] [n : NSt t e] [a : NAsg t] : St (GS X (.Assign [t] e pos) D η L) (GE X e η L fun v L1 => GG X t v η L1 D.nx) := ⟨fun h => gs_asg h (s.h _ _ _) (n.h _) (a.h _)⟩
/-- a step by a built-in's name -/
class StB (P : Prop) (mg : outParam (Str → Option Value)) (C P' : outParam Prop) : Prop where
  to : Bi mg → C → P' → P
section
variable {X : Cx} {η : En} {L : Lg} {Q : QV} {e : Expr} {es : List Expr} {pos p : Pos}
instance [n : NStar e] : StB (GE X (.Call (.Name "len" p) (e :: es) [] pos) η L Q) X.mg (Gl X "len" ∧ (backTo pos (starEach es X.env)).any (·.1) = false) (GA X (e :: es) η L fun xs L1 => GC X (.builtin "len") xs L1 Q) := ⟨fun B c h => gb_len B h c.1 (n.h _ _) c.2⟩
instance [n : NStar e] : StB (GE X (.Call (.Name "abs" p) (e :: es) [] pos) η L Q) X.mg (Gl X "abs" ∧ (backTo pos (starEach es X.env)).any (·.1) = false) (GA X (e :: es) η L fun xs L1 => GC X (.builtin "abs") xs L1 Q) := ⟨fun B c h => gb_abs B h c.1 (n.h _ _) c.2⟩
instance [n : NStar e] : StB (GE X (.Call (.Name "min" p) (e :: es) [] pos) η L Q) X.mg (Gl X "min" ∧ (backTo pos (starEach es X.env)).any (·.1) = false) (GA X (e :: es) η L fun xs L1 => GC X (.builtin "min") xs L1 Q) := ⟨fun B c h => gb_min B h c.1 (n.h _ _) c.2⟩
instance [n : NStar e] : StB (GE X (.Call (.Name "max" p) (e :: es) [] pos) η L Q) X.mg (Gl X "max" ∧ (backTo pos (starEach es X.env)).any (·.1) = false) (GA X (e :: es) η L fun xs L1 => GC X (.builtin "max") xs L1 Q) := ⟨fun B c h => gb_max B h c.1 (n.h _ _) c.2⟩
instance [n : NStar e] : StB (GE X (.Call (.Name "sum" p) (e :: es) [] pos) η L Q) X.mg (Gl X "sum" ∧ (backTo pos (starEach es X.env)).any (·.1) = false) (GA X (e :: es) η L fun xs L1 => GC X (.builtin "sum") xs L1 Q) := ⟨fun B c h => gb_sum B h c.1 (n.h _ _) c.2⟩
instance [n : NStar e] : StB (GE X (.Call (.Name "sorted" p) (e :: es) [] pos) η L Q) X.mg (Gl X "sorted" ∧ (backTo pos (starEach es X.env)).any (·.1) = false) (GA X (e :: es) η L fun xs L1 => GC X (.builtin "sorted") xs L1 Q) := ⟨fun B c h => gb_sorted B h c.1 (n.h _ _) c.2⟩
instance [n : NStar e] : StB (GE X (.Call (.Name "any" p) (e :: es) [] pos) η L Q) X.mg (Gl X "any" ∧ (backTo pos (starEach es X.env)).any (·.1) = false) (GA X (e :: es) η L fun xs L1 => GC X (.builtin "any") xs L1 Q) := ⟨fun B c h => gb_any B h c.1 (n.h _ _) c.2⟩
instance [n : NStar e] : StB (GE X (.Call (.Name "all" p) (e :: es) [] pos) η L Q) X.mg (Gl X "all" ∧ (backTo pos (starEach es X.env)).any (·.1) = false) (GA X (e :: es) η L fun xs L1 => GC X (.builtin "all") xs L1 Q) := ⟨fun B c h => gb_all B h c.1 (n.h _ _) c.2⟩
instance [n : NStar e] : StB (GE X (.Call (.Name "isinstance" p) (e :: es) [] pos) η L Q) X.mg (Gl X "isinstance" ∧ (backTo pos (starEach es X.env)).any (·.1) = false) (GA X (e :: es) η L fun xs L1 => GC X (.builtin "isinstance") xs L1 Q) := ⟨fun B c h => gb_isinstance B h c.1 (n.h _ _) c.2⟩
instance [n : NStar e] : StB (GE X (.Call (.Name "int" p) (e :: es) [] pos) η L Q) X.mg (Gl X "int" ∧ (backTo pos (starEach es X.env)).any (·.1) = false) (GA X (e :: es) η L fun xs L1 => GC X (.type "int") xs L1 Q) := ⟨fun B c h => gb_int B h c.1 (n.h _ _) c.2⟩
instance [n : NStar e] : StB (GE X (.Call (.Name "list" p) (e :: es) [] pos) η L Q) X.mg (Gl X "list" ∧ (backTo pos (starEach es X.env)).any (·.1) = false) (GA X (e :: es) η L fun xs L1 => GC X (.type "list") xs L1 Q) := ⟨fun B c h => gb_list B h c.1 (n.h _ _) c.2⟩
instance [n : NStar e] : StB (GE X (.Call (.Name "tuple" p) (e :: es) [] pos) η L Q) X.mg (Gl X "tuple" ∧ (backTo pos (starEach es X.env)).any (·.1) = false) (GA X (e :: es) η L fun xs L1 => GC X (.type "tuple") xs L1 Q) := ⟨fun B c h => gb_tuple B h c.1 (n.h _ _) c.2⟩
instance [n : NStar e] : StB (GE X (.Call (.Name "bool" p) (e :: es) [] pos) η L Q) X.mg (Gl X "bool" ∧ (backTo pos (starEach es X.env)).any (·.1) = false) (GA X (e :: es) η L fun xs L1 => GC X (.type "bool") xs L1 Q) := ⟨fun B c h => gb_bool B h c.1 (n.h _ _) c.2⟩
instance [n : NStar e] : StB (GE X (.Call (.Name "str" p) (e :: es) [] pos) η L Q) X.mg (Gl X "str" ∧ (backTo pos (starEach es X.env)).any (·.1) = false) (GA X (e :: es) η L fun xs L1 => GC X (.type "str") xs L1 Q) := ⟨fun B c h => gb_str B h c.1 (n.h _ _) c.2⟩
instance : StB (GE X (.Name "int" pos) η L Q) X.mg (Gl X "int" ∧ 0 = 0) (Q (.ty "int") L) := ⟨fun B c q => gv_int B q c.1⟩
instance : StB (GE X (.Name "bool" pos) η L Q) X.mg (Gl X "bool" ∧ 0 = 0) (Q (.ty "bool") L) := ⟨fun B c q => gv_bool B q c.1⟩
instance : StB (GE X (.Name "tuple" pos) η L Q) X.mg (Gl X "tuple" ∧ 0 = 0) (Q (.ty "tuple") L) := ⟨fun B c q => gv_tuple B q c.1⟩
instance : StB (GE X (.Name "list" pos) η L Q) X.mg (Gl X "list" ∧ 0 = 0) (Q (.ty "list") L) := ⟨fun B c q => gv_list B q c.1⟩
instance : StB (GE X (.Name "str" pos) η L Q) X.mg (Gl X "str" ∧ 0 = 0) (Q (.ty "str") L) := ⟨fun B c q => gv_str B q c.1⟩
instance : StB (GE X (.Name "ValueError" pos) η L Q) X.mg (Gl X "ValueError" ∧ 0 = 0) (Q (.ty "ValueError") L) := ⟨fun B c q => gv_ValueError B q c.1⟩
instance : StB (GE X (.Name "LookupError" pos) η L Q) X.mg (Gl X "LookupError" ∧ 0 = 0) (Q (.ty "LookupError") L) := ⟨fun B c q => gv_LookupError B q c.1⟩
instance {i : Int} : St (GC X (.type "int") [.int i] L Q) (Q (.int i) L) := ⟨gc_int⟩
instance {k : Bool} : St (GC X (.type "int") [.bl k] L Q) (Q (.int (if k = true then 1 else 0)) L) := ⟨gc_intB⟩
instance {i : Int} : St (GC X (.builtin "abs") [.int i] L Q) (Q (.int i.natAbs) L) := ⟨gc_abs⟩
instance {i j : Int} [v : VisX X] : St (GC X (.builtin "min") [.int i, .int j] L Q) (Q (.int (if j < i then j else i)) L) := ⟨gc_min2 v.c⟩
instance {i j : Int} [v : VisX X] : St (GC X (.builtin "max") [.int i, .int j] L Q) (Q (.int (if j > i then j else i)) L) := ⟨gc_max2 v.c⟩
instance {q : Addr} {xs : List V} [m : MemI q (.lst xs) L] : St (GC X (.builtin "len") [.ref q] L Q) (Q (.int xs.length) L) := ⟨gc_lenL m.h⟩
instance {q : Addr} {xs : List V} [m : MemI q (.tup xs) L] : St (GC X (.builtin "len") [.ref q] L Q) (Q (.int xs.length) L) := ⟨gc_lenT m.h⟩
/-- a judgement's own class: the walker asks which one stands (no goal is unfolded where it is another) -/
class JE (P : Prop) : Prop where
  to : P → P
class JS (P : Prop) : Prop where
  to : P → P
class JAt (P : Prop) : Prop where
  to : P → P
class JIx (P : Prop) : Prop where
  to : P → P
class JT (P : Prop) : Prop where
  to : P → P
class JC (P : Prop) : Prop where
  to : P → P
class JG (P : Prop) : Prop where
  to : P → P
class JA (P : Prop) : Prop where
  to : P → P
class JSt (P : Prop) : Prop where
  to : P → P
class StIf (P : Prop) (P' : outParam Prop) : Prop where
  to : P' → P
instance : JE (GE X e η L Q) := ⟨id⟩
instance {f : Value} {xs : List V} : JC (GC X f xs L Q) := ⟨id⟩
instance {x y : V} : JIx (GIx X x y L Q) := ⟨id⟩
instance {n : Str} {x : V} : JAt (GAt X n x L Q) := ⟨id⟩
instance {st : Stmt} {D : GD} : JS (GS X st D η L) := ⟨id⟩
instance {Q : Bool → Lg → Prop} : JT (GT X e η L Q) := ⟨id⟩
instance {Q : List V → Lg → Prop} : JA (GA X es η L Q) := ⟨id⟩
instance {o i v : V} {Q : Lg → Prop} : JSt (GSt X o i v L Q) := ⟨id⟩
instance {v : V} {Q : En → Lg → Prop} : JG (GG X e v η L Q) := ⟨id⟩
instance {a b : List Stmt} {D : GD} : StIf (GS X (.If e a b pos) D η L) (GT X e η L fun k L1 => if k = true then GSs X a D η L1 else GSs X b D η L1) := ⟨gs_if⟩
theorem isT {Q : Bool → Lg → Prop} (h : GT X e η L Q) : GT X e η L Q := h
end
end G
set_option Elab.async false
set_option linter.all false
set_option maxRecDepth 100000
set_option maxHeartbeats 4000000
namespace G
open PySem PySem.Spec PyProof.Rows L2
end G
set_option Elab.async false
set_option linter.all false
set_option maxRecDepth 100000
set_option maxHeartbeats 4000000
namespace G
open PySem PySem.Spec PyProof.Rows L2
/-- a tuple that stands in the program's heap -/
def TupK (K : PySem.W.Frag) (a : Addr) (xs : List V) : Prop := ∃ (o : Obj) (its : Array Value) (n : Nat), K.lookup a = some o ∧ o.cls = .type "tuple" ∧ o.data = .seq its n ∧ its.size ≤ sizeLine ∧ Vals xs its.toList
theorem TupK.sq {K : PySem.W.Frag} {a : Addr} {xs : List V} (h : TupK K a xs) (H : Hp) : SqT K H a xs := .inr h
/-- the constant (1, ((0, 0),)) -/
structure EvT (K : PySem.W.Frag) (mg : Str → Option Value) (x : Str) where
  e : Addr
  r : Addr
  p : Addr
  at_ : mg x = some (.ref e)
  te : TupK K e [.int 1, .ref r]
  tr : TupK K r [.ref p]
  tp : TupK K p [.int 0, .int 0]
theorem EvT.dp {K : PySem.W.Frag} {mg : Str → Option Value} {x : Str} (T : EvT K mg x) (H : Hp) : Dp K H (.ref T.e) (.tuple [.int 1, .tuple [.tuple [.int 0, .int 0]]]) :=
  .tup (T.te.sq H) (.cons (.int 1) (.cons (.tup (T.tr.sq H) (.cons (.tup (T.tp.sq H) (.cons (.int 0) (.cons (.int 0) .nil))) .nil)) .nil))
end G
set_option Elab.async false
set_option linter.all false
set_option maxRecDepth 100000
set_option maxHeartbeats 4000000
namespace L2
open PySem PySem.Spec PyProof.Rows
end L2
namespace G
open PySem PySem.Spec PyProof.Rows L2
end G
set_option Elab.async false
set_option linter.all false
set_option maxRecDepth 100000
set_option maxHeartbeats 4000000
namespace G
open PySem PySem.Spec PyProof.Rows L2
end G
set_option Elab.async false
set_option linter.all false
set_option maxRecDepth 100000
set_option maxHeartbeats 4000000
namespace PySem.W
open PySem PySem.Calls PySem.Spec PyProof.Rows Builtin
end PySem.W
namespace G
open PySem PySem.Spec PyProof.Rows L2
end G
set_option Elab.async false
set_option linter.all false
set_option maxRecDepth 100000
set_option maxHeartbeats 4000000
namespace G
open PySem PySem.Spec PyProof.Rows L2
end G
set_option Elab.async false
set_option linter.all false
set_option maxRecDepth 100000
set_option maxHeartbeats 4000000
namespace PySem.SeqAt
open AutoSeq1 (wpAny_loadPart')
open MeetsSeq MeetsSeq2 MeetsSeq3 SeqRoads2
end PySem.SeqAt
namespace G
open PySem PySem.Spec PyProof.Rows L2
end G
set_option Elab.async false
set_option linter.all false
set_option maxRecDepth 100000
set_option maxHeartbeats 4000000
namespace G
open PySem PySem.Spec PyProof.Rows L2
end G
set_option Elab.async false
set_option linter.all false
set_option maxRecDepth 100000
set_option maxHeartbeats 4000000
namespace G
open PySem PySem.Spec PyProof.Rows L2
end G
set_option Elab.async false
set_option linter.all false
set_option maxRecDepth 100000
set_option maxHeartbeats 4000000
namespace G
open PySem PySem.Spec PyProof.Rows L2
section
variable {X : Cx} {η : En} {L : Lg} {Q : QV} {e : Expr} {pos : Pos}
theorem ge_sliceA {lo hi : Option Expr} {p2 : Pos} (h : GE X e η L fun v L1 => ∃ p xs, v = .ref p ∧ GPart X lo η L1 fun i L2 => GPart X hi η L2 fun j L3 => (p, HO.tup xs) ∈ L3 ∧ ((HT.sIx xs.length 0 i = 0 ∧ HT.sIx xs.length xs.length j = xs.length) → Q (.ref p) L3) ∧ (¬ (HT.sIx xs.length 0 i = 0 ∧ HT.sIx xs.length xs.length j = xs.length) → ∀ q, Q (.ref q) ((q, .tup (cutV xs i j)) :: L3))) : GE X (.Subscript e (.Slice lo hi none p2) pos) η L Q := fun hN H hH =>
  WE.of (pe_slice sl_tupA pe_W po_W po_W) (h.then hN hH fun v L1 H1 k1 ⟨p, xs, ev, q⟩ => q.then hN k1 fun i L2 H2 k2 q2 => q2.then hN k2 fun j L3 H3 k3 ⟨m, w, nw⟩ => ⟨p, xs, ev, sqt k3 m, fun z => ⟨L3, k3, w z⟩, fun z r hr => ⟨_, k3.new hr, nw z r⟩⟩)
end
end G
set_option Elab.async false
set_option linter.all false
set_option maxRecDepth 100000
set_option maxHeartbeats 4000000
namespace G
open PySem PySem.Spec PyProof.Rows L2
end G
set_option Elab.async false
set_option linter.all false
set_option maxRecDepth 100000
set_option maxHeartbeats 4000000
namespace G
open PySem PySem.Spec PyProof.Rows L2
section
variable {X : Cx} {j k : Nat} {η : En} {L : Lg} {x : Str} {e : Expr} {pos p1 p2 : Pos} {sp : SpL} {W : XW}
/-- an error of the class C with these fields is let out, whatever stands beside it -/
def telX (C : Addr) (fs : List (Str × V)) (E : XL) (L : Lg) : Prop := ∀ (d : Addr) (M : Lg), Sub ((d, HO.xd fs) :: L) M → E (.ref C) (some d) M
theorem telX.sub {C : Addr} {fs : List (Str × V)} {E : XL} {L L' : Lg} (h : telX C fs E L) (s : Sub L L') : telX C fs E L' := fun d M k => h d M (Sub.trans (Sub.cons s) k)
end
end G
set_option Elab.async false
set_option linter.all false
set_option maxRecDepth 100000
set_option maxHeartbeats 4000000
namespace G
open PySem PySem.Spec PyProof.Rows L2
section
variable {X : Cx} {η : En} {L : Lg} {Q : QV} {o e a b : Expr} {pos apos : Pos} {x y : Str} {i : Int}
theorem go_notInT {v : V} {xs : List V} {p : Addr} (m : (p, HO.tup xs) ∈ L ∨ (p, HO.lst xs) ∈ L) (f : flatV v = true) (fs : xs.all flatV = true) (h : Q (.bl (!inV v xs)) L) : GOp X (compareOp .NotIn) v (.ref p) L Q := GOp.of op_notIn_seq fun H hH => ⟨p, xs, rfl, m.elim (fun m => .inr (sqt hH m)) (fun m => .inl (sql hH m)), f, fs, L, hH, h⟩
end
end G
set_option Elab.async false
set_option linter.all false
set_option maxRecDepth 100000
set_option maxHeartbeats 4000000
namespace PySem.W
open PySem PySem.Calls PySem.Spec PyProof.Rows Builtin
end PySem.W
namespace G
open PySem PySem.Spec PyProof.Rows L2
end G
set_option Elab.async false
set_option linter.all false
set_option maxRecDepth 100000
set_option maxHeartbeats 4000000
namespace PySem.W
open PySem PySem.Calls PyProof.Rows
end PySem.W
namespace G
open PySem PySem.Spec PyProof.Rows L2
end G
set_option Elab.async false
set_option linter.all false
set_option maxRecDepth 100000
set_option maxHeartbeats 4000000
namespace G
open PySem PySem.Spec PyProof.Rows L2
end G
set_option Elab.async false
set_option linter.all false
set_option maxRecDepth 100000
set_option maxHeartbeats 4000000
namespace PySem.W
open PySem PySem.Calls PyProof.Rows
end PySem.W
namespace G
open PySem PySem.Spec PyProof.Rows L2
end G
set_option Elab.async false
set_option linter.all false
set_option maxRecDepth 100000
set_option maxHeartbeats 4000000
namespace G
open PySem PySem.Spec PyProof.Rows L2
end G
set_option Elab.async false
set_option linter.all false
set_option maxRecDepth 100000
set_option maxHeartbeats 400000
namespace PySem
/-- the zip while a tuple that it handed out stands -/
abbrev IsZipO (h : Heap) (z TI TO : Addr) (T : Addr) (f : Bool) : Prop :=
  h.get? z = some { cls := .type "zip", dict := none, data := .fields #[rawInt T, .bool f, .bool false, .ref TI, .ref TO], slots := #[] }
section
variable {prog : Program} {w : World} {A : Around} {E : Value → Shared → Prop} {s : Shared} {z TI TO i1 i2 T : Addr} {fp1 fp2 : List Addr} {n1 n2 i : Nat} {P1 P2 : Nat → Value → Prop} {St1 St2 : Nat → Heap → Prop} {f : Bool} {oT : Obj}
/-- the owned tuple is not free -/
theorem owned_out {hp : Heap} {g d tk os} {Q : Bool → Shared → Prop} (hz : IsZipO hp z TI TO T f) (hT : hp.get? T = some oT)
    (h : ∀ h', IsZipO h' z TI TO T true → Heap.SameBut z hp h' → Q false ⟨h', g, d, tk, os⟩) :
    wpAny (model prog w) A (Builtin.SmallTypes.ownedTupleIsFree (.ref z)) Q E ⟨hp, g, d, tk, os⟩ := by
  unfold Builtin.SmallTypes.ownedTupleIsFree
  refine wpAny_bind (wpAny_field hz rfl (x := rawInt T) rfl ?_)
  show wpAny _ _ (loadIfAlive ((T : Int).toNat) >>= _) _ _ _
  rw [Int.toNat_natCast]
  refine wpAny_bind (PySem.W.kdx_alive hT ?_)
  simp only [Option.isNone_some, Bool.false_eq_true, if_false]
  refine wpAny_bind (wpAny_field hz rfl (x := .bool f) rfl ?_)
  cases f with
  | true =>
    rw [if_neg (show ¬ ((Value.bool true != Value.bool true) = true) from Bool.false_ne_true)]
    exact wpAny_pure (h hp hz (Heap.SameBut.refl _ _))
  | false =>
    rw [if_pos (show (Value.bool false != Value.bool true) = true from rfl)]
    refine wpAny_bind (wpAny_setField_rec hz (by simp) fun h₃ he₃ hs₃ => ?_)
    exact wpAny_pure (h h₃ he₃ hs₃)
theorem zipD2_next_out {Q : Value → Shared → Prop} (S : ZipSep2 z TI TO i1 i2 fp1 fp2) (D1 : Draws prog w A i1 fp1 n1 P1 St1) (D2 : Draws prog w A i2 fp2 n2 P2 St2)
    (hz : IsZipO s.heap z TI TO T f) (hT : s.heap.get? T = some oT) (hTI : IsTupOf2 s.heap TI (.ref i1) (.ref i2)) (st1 : St1 i s.heap) (st2 : St2 i s.heap) (hlt1 : i < n1) (hlt2 : i < n2)
    (hQ : ∀ x1 x2 h' tk, P1 i x1 → P2 i x2 → IsZipO h' z TI TO T true → St1 (i + 1) h' → St2 (i + 1) h' → IsTupOf2 h' s.heap.objs.size x1 x2 → h'.objs.size = s.heap.objs.size + 1 →
      (∀ c o, c ≠ z → c ≠ i1 → c ≠ i2 → s.heap.get? c = some o → h'.get? c = some o) → Q (.ref s.heap.objs.size) { s with heap := h', toks := tk }) :
    wpAny (model prog w) A (Builtin.«zip.__next__» ⟨[.ref z], []⟩) (fun fin s' => ∃ v, fin = .done (.ret v) ∧ Q v s') E s := by
  obtain ⟨hp, g, d, tk0, os⟩ := s
  show wpAny _ _ (field (.ref z) 2 >>= _) _ _ _
  refine wpAny_bind (wpAny_field hz rfl (x := .bool false) rfl ?_)
  show wpAny _ _ (field (.ref z) 3 >>= _) _ _ _
  refine wpAny_bind (wpAny_field hz rfl (x := .ref TI) rfl ?_)
  refine wpAny_bind (wpAny_seqItems hTI rfl ?_)
  show wpAny _ _ (Builtin.SmallTypes.ownedTupleIsFree (.ref z) >>= _) _ _ _
  refine wpAny_bind (owned_out hz hT fun g0 hz0 hs0 => ?_)
  simp only [Bool.false_eq_true, if_false]
  simp only [List.forIn_toArray, List.forIn_cons, List.forIn_nil]
  refine wpAny_bind (wpAny_bind (wpAny_bind (wpAny_holding ?_)))
  show wpAny _ _ (Builtin.SmallTypes.nextOf (.ref i1) >>= _) _ _ ⟨g0, g, d, tk0, os⟩
  refine wpAny_bind (D1.item i _ _ _ hlt1 (D1.over st1 hs0 S.zf1) fun x1 p1 tk1 hx1 sn1 hp1 => wpAny_pure (wpAny_pure ?_))
  replace hp1 : Heap.SameBut i1 g0 p1 := hp1
  refine wpAny_bind (wpAny_bind (wpAny_holding ?_))
  show wpAny _ _ (Builtin.SmallTypes.nextOf (.ref i2) >>= _) _ _ ⟨p1, g, d, tk1, os⟩
  refine wpAny_bind (D2.item i _ _ _ hlt2 (D2.over (D2.over st2 hs0 S.zf2) hp1 S.sep1_2) fun x2 p2 tk2 hx2 sn2 hp2 => wpAny_pure (wpAny_pure ?_))
  replace hp2 : Heap.SameBut i2 p1 p2 := hp2
  refine wpAny_pure ?_
  show wpAny _ _ (newTuple [x1, x2] >>= _) _ _ _
  refine wpAny_bind (wpAny_newTuple ?_)
  have hsz : p2.objs.size = hp.objs.size := by rw [hp2.1, hp1.1, hs0.1]
  have hzz : IsZipO p2 z TI TO T true := hp2.extBut _ _ S.zi2 (hp1.extBut _ _ S.zi1 hz0)
  have hkk : ∀ c o, c ≠ z → c ≠ i1 → c ≠ i2 → hp.get? c = some o → p2.get? c = some o := fun c o cz c1 c2 e =>
    hp2.extBut _ _ c2 (hp1.extBut _ _ c1 (hs0.extBut _ _ cz e))
  have hj1 : St1 (i + 1) p2 := D1.over sn1 hp2 S.sep2_1
  have hj2 : St2 (i + 1) p2 := sn2
  have up : ∀ c o, p2.get? c = some o → (p2.push { cls := .type "tuple", data := .seq #[x1, x2] }).get? c = some o := fun c o e => Heap.get?_push_of_some _ e
  refine wpAny_pure ⟨_, rfl, ?_⟩
  show Q (.ref p2.objs.size) ⟨p2.push { cls := .type "tuple", data := .seq #[x1, x2] }, g, d, tk2, os⟩
  rw [hsz]
  refine hQ x1 x2 _ tk2 hx1 hx2 (up _ _ hzz) (D1.frame _ _ _ hj1 fun b hb o e => up b o e) (D2.frame _ _ _ hj2 fun b hb o e => up b o e) ?_ ?_ fun c o cz c1 c2 e => up c o (hkk c o cz c1 c2 e)
  · rw [← hsz]
    exact Heap.get?_push_size _ rfl
  · rw [Heap.size_push, hsz]
theorem zipD2_out_end {Q : Fin → Shared → Prop} (S : ZipSep2 z TI TO i1 i2 fp1 fp2) (D1 : Draws prog w A i1 fp1 n1 P1 St1) (D2 : Draws prog w A i2 fp2 n2 P2 St2)
    (hz : IsZipO s.heap z TI TO T f) (hT : s.heap.get? T = some oT) (hTI : IsTupOf2 s.heap TI (.ref i1) (.ref i2)) (st1 : St1 i s.heap) (st2 : St2 i s.heap) (hle1 : i ≤ n1) (hle2 : i ≤ n2) (hend : i = n1 ∨ i = n2)
    (hE : ∀ h' tk e, (∀ c o, c ≠ z → c ≠ i1 → c ≠ i2 → s.heap.get? c = some o → h'.get? c = some o) → (∃ o, h'.get? e = some o ∧ o.cls = .type "StopIteration") → E (.ref e) { s with heap := h', toks := tk }) :
    wpAny (model prog w) A (Builtin.«zip.__next__» ⟨[.ref z], []⟩) Q E s := by
  obtain ⟨hp, g, d, tk0, os⟩ := s
  show wpAny _ _ (field (.ref z) 2 >>= _) _ _ _
  refine wpAny_bind (wpAny_field hz rfl (x := .bool false) rfl ?_)
  show wpAny _ _ (field (.ref z) 3 >>= _) _ _ _
  refine wpAny_bind (wpAny_field hz rfl (x := .ref TI) rfl ?_)
  refine wpAny_bind (wpAny_seqItems hTI rfl ?_)
  show wpAny _ _ (Builtin.SmallTypes.ownedTupleIsFree (.ref z) >>= _) _ _ _
  refine wpAny_bind (owned_out hz hT fun g0 hz0 hs0 => ?_)
  simp only [Bool.false_eq_true, if_false]
  simp only [List.forIn_toArray, List.forIn_cons, List.forIn_nil]
  refine wpAny_bind (wpAny_bind (wpAny_bind (wpAny_holding ?_)))
  show wpAny _ _ (Builtin.SmallTypes.nextOf (.ref i1) >>= _) _ _ ⟨g0, g, d, tk0, os⟩
  by_cases hlt1 : i < n1
  · refine wpAny_bind (D1.item i _ _ _ hlt1 (D1.over st1 hs0 S.zf1) fun x1 p1 tk1 hx1 sn1 hp1 => wpAny_pure (wpAny_pure ?_))
    replace hp1 : Heap.SameBut i1 g0 p1 := hp1
    have hi2 : i = n2 := by omega
    refine wpAny_bind (wpAny_bind (wpAny_holding ?_))
    show wpAny _ _ (Builtin.SmallTypes.nextOf (.ref i2) >>= _) _ _ ⟨p1, g, d, tk1, os⟩
    refine wpAny_bind (D2.done ⟨p1, g, d, tk1, os⟩ _ _ (by rw [← hi2]; exact (D2.over (D2.over st2 hs0 S.zf2) hp1 S.sep1_2)) fun q e hq he => ?_)
    replace hq : Heap.ExtBut i2 p1 q := hq
    exact hE q tk1 e (fun c o cz c1 c2 x => hq _ _ c2 (hp1.extBut _ _ c1 (hs0.extBut _ _ cz x))) he
  · have hi1 : i = n1 := by omega
    refine wpAny_bind (D1.done ⟨g0, g, d, tk0, os⟩ _ _ (by rw [← hi1]; exact (D1.over st1 hs0 S.zf1)) fun q e hq he => ?_)
    replace hq : Heap.ExtBut i1 g0 q := hq
    exact hE q tk0 e (fun c o cz c1 c2 x => hq _ _ c1 (hs0.extBut _ _ cz x)) he
theorem pyNext_zipD2_out {Q : Option Value → Shared → Prop} (S : ZipSep2 z TI TO i1 i2 fp1 fp2) (D1 : Draws prog w A.in1 i1 fp1 n1 P1 St1) (D2 : Draws prog w A.in1 i2 fp2 n2 P2 St2)
    (hz : IsZipO s.heap z TI TO T f) (hT : s.heap.get? T = some oT) (hTI : IsTupOf2 s.heap TI (.ref i1) (.ref i2)) (st1 : St1 i s.heap) (st2 : St2 i s.heap) (hlt1 : i < n1) (hlt2 : i < n2)
    (hQ : ∀ x1 x2 h' tk, P1 i x1 → P2 i x2 → IsZipO h' z TI TO T true → St1 (i + 1) h' → St2 (i + 1) h' → IsTupOf2 h' s.heap.objs.size x1 x2 → h'.objs.size = s.heap.objs.size + 1 →
      (∀ c o, c ≠ z → c ≠ i1 → c ≠ i2 → s.heap.get? c = some o → h'.get? c = some o) → Q (some (.ref s.heap.objs.size)) { s with heap := h', toks := tk }) :
    wpAny (model prog w) A (pyNext (.ref z)) Q E s := by
  have hTy : s.TypeIs (.ref z) "zip" := ⟨_, hz, rfl⟩
  unfold pyNext
  exact wpAny_bind (wpAny_attempt (wpAny_callSpecial?_slot (name := Str.ofString "__next__") hTy F.slot_zip_next
    (wpAny_call_entry F.slot_zip_next hTy F.entry_zip_next
      (zipD2_next_out S D1 D2 hz hT hTI st1 st2 hlt1 hlt2 fun x1 x2 h' tk y1 y2 b1 d1 d2 b5 b6 b7 => wpAny_pure (hQ x1 x2 h' tk y1 y2 b1 d1 d2 b5 b6 b7)) (F.args_zip_next_1 _))))
theorem pyNext_zipD2_outEnd {Q : Option Value → Shared → Prop} (S : ZipSep2 z TI TO i1 i2 fp1 fp2) (D1 : Draws prog w A.in1 i1 fp1 n1 P1 St1) (D2 : Draws prog w A.in1 i2 fp2 n2 P2 St2)
    (hz : IsZipO s.heap z TI TO T f) (hT : s.heap.get? T = some oT) (hTI : IsTupOf2 s.heap TI (.ref i1) (.ref i2)) (st1 : St1 i s.heap) (st2 : St2 i s.heap) (hle1 : i ≤ n1) (hle2 : i ≤ n2) (hend : i = n1 ∨ i = n2)
    (hQ : ∀ h' tk, (∀ c o, c ≠ z → c ≠ i1 → c ≠ i2 → s.heap.get? c = some o → h'.get? c = some o) → Q none { s with heap := h', toks := tk }) : wpAny (model prog w) A (pyNext (.ref z)) Q E s := by
  have hTy : s.TypeIs (.ref z) "zip" := ⟨_, hz, rfl⟩
  unfold pyNext
  refine wpAny_bind (wpAny_attempt (wpAny_callSpecial?_slot (name := Str.ofString "__next__") hTy F.slot_zip_next
    (wpAny_call_entry F.slot_zip_next hTy F.entry_zip_next (zipD2_out_end S D1 D2 hz hT hTI st1 st2 hle1 hle2 hend fun h' tk e hk he => ?_) (F.args_zip_next_1 _))))
  obtain ⟨o, ho, hc⟩ := he
  refine wpAny_bind (wpAny_isInstance (T := "StopIteration") (b := true) ⟨o, ho, hc⟩ isSubtype_stop ?_)
  exact wpAny_pure (hQ _ _ hk)
end
end PySem
namespace PySem
namespace F
theorem zip_no_len : typeLookup (.type "zip") "__len__" = pure none := by rw [typeLookup_type, builtinLookup_eq_fast]; kernel_rfl
theorem zip_no_hint : typeLookup (.type "zip") "__length_hint__" = pure none := by rw [typeLookup_type, builtinLookup_eq_fast]; kernel_rfl
end F
/-- the state of a zip that a list draws from -/
structure ZipAt (h : Heap) (z TI TO i1 i2 S : Addr) (St1 St2 : Nat → Heap → Prop) (i : Nat) : Prop where
  ti : IsTupOf2 h TI (.ref i1) (.ref i2)
  s1 : St1 i h
  s2 : St2 i h
  zz : (IsZip h z TI TO .none ∧ ∃ a1 a2, IsTupOf2 h TO a1 a2) ∨ ∃ T f oT, IsZipO h z TI TO T f ∧ h.get? T = some oT ∧ T ≠ z ∧ T ≠ i1 ∧ T ≠ i2 ∧ T ≠ S
structure ZipGot (P1 P2 : Nat → Value → Prop) (lo : Addr) (h : Heap) (as : List Addr) : Prop where
  rise : as.Pairwise (· < ·)
  above : ∀ a ∈ as, lo < a
  pairs : ∀ (j : Nat) (a : Addr), as[j]? = some a → ∃ x1 x2, P1 j x1 ∧ P2 j x2 ∧ IsTupOf2 h a x1 x2
section
variable {prog : Program} {w : World} {A : Around} {E : Value → Shared → Prop} {s : Shared} {z TI TO i1 i2 S : Addr} {fp1 fp2 : List Addr} {n1 n2 i : Nat} {P1 P2 : Nat → Value → Prop} {St1 St2 : Nat → Heap → Prop}
theorem ZipGot.there {lo : Addr} {h : Heap} {as : List Addr} (g : ZipGot P1 P2 lo h as) {a : Addr} (ha : a ∈ as) : a < h.objs.size := by
  obtain ⟨j, hj⟩ := List.mem_iff_getElem?.mp ha
  obtain ⟨_, _, _, _, e⟩ := g.pairs j a hj
  exact Heap.lt_size e
theorem zipL_item {Q : Option Value → Shared → Prop} (D : ZipSep2 z TI TO i1 i2 fp1 fp2) (D1 : Draws prog w A.in1 i1 fp1 n1 P1 St1) (D2 : Draws prog w A.in1 i2 fp2 n2 P2 St2) (st : ZipAt s.heap z TI TO i1 i2 S St1 St2 i) (hS : S < s.heap.objs.size) (hlt1 : i < n1) (hlt2 : i < n2)
    (hQ : ∀ x1 x2 h' tk, P1 i x1 → P2 i x2 → ZipAt h' z TI TO i1 i2 S St1 St2 (i + 1) → IsTupOf2 h' s.heap.objs.size x1 x2 → h'.objs.size = s.heap.objs.size + 1 →
      (∀ c o, c ≠ z → c ≠ TO → c ≠ i1 → c ≠ i2 → s.heap.get? c = some o → h'.get? c = some o) → Q (some (.ref s.heap.objs.size)) { s with heap := h', toks := tk }) :
    wpAny (model prog w) A (pyNext (.ref z)) Q E s := by
  obtain ⟨hti, s1, s2, ⟨hz, a1, a2, hTO⟩ | ⟨T, f, oT, hz, hT, t1, t2, t3, t4⟩⟩ := st
  · obtain ⟨o1, e1⟩ := D1.live i s.heap s1
    obtain ⟨o2, e2⟩ := D2.live i s.heap s2
    refine wpAny_pyNext_zipD2_item D D1 D2 hz hti hTO s1 s2 hlt1 hlt2 fun x1 x2 h' tk y1 y2 b1 b2 d1 d2 b5 b6 b7 => ?_
    exact hQ x1 x2 h' tk y1 y2 ⟨b7 _ _ D.TIz D.TITO D.TIi1 D.TIi2 hti, d1, d2, .inr ⟨_, _, _, b1, b5, Nat.ne_of_gt (Heap.lt_size hz), Nat.ne_of_gt (Heap.lt_size e1), Nat.ne_of_gt (Heap.lt_size e2), Nat.ne_of_gt hS⟩⟩ b5 b6 b7
  · refine pyNext_zipD2_out D D1 D2 hz hT hti s1 s2 hlt1 hlt2 fun x1 x2 h' tk y1 y2 b1 d1 d2 b5 b6 b7 => ?_
    exact hQ x1 x2 h' tk y1 y2 ⟨b7 _ _ D.TIz D.TIi1 D.TIi2 hti, d1, d2, .inr ⟨T, true, oT, b1, b7 _ _ t1 t2 t3 hT, t1, t2, t3, t4⟩⟩ b5 b6 fun c o c1 _ c2 c3 e => b7 c o c1 c2 c3 e
theorem zipL_done {Q : Option Value → Shared → Prop} (D : ZipSep2 z TI TO i1 i2 fp1 fp2) (D1 : Draws prog w A.in1 i1 fp1 n1 P1 St1) (D2 : Draws prog w A.in1 i2 fp2 n2 P2 St2) (st : ZipAt s.heap z TI TO i1 i2 S St1 St2 i) (hle1 : i ≤ n1) (hle2 : i ≤ n2) (hend : i = n1 ∨ i = n2)
    (hQ : ∀ h' tk, (∀ c o, c ≠ z → c ≠ TO → c ≠ i1 → c ≠ i2 → s.heap.get? c = some o → h'.get? c = some o) → Q none { s with heap := h', toks := tk }) :
    wpAny (model prog w) A (pyNext (.ref z)) Q E s := by
  obtain ⟨hti, s1, s2, ⟨hz, a1, a2, hTO⟩ | ⟨T, f, oT, hz, hT, t1, t2, t3, t4⟩⟩ := st
  · exact wpAny_pyNext_zipD2_end D D1 D2 hz hti hTO s1 s2 hle1 hle2 hend hQ
  · exact pyNext_zipD2_outEnd D D1 D2 hz hT hti s1 s2 hle1 hle2 hend fun h' tk k => hQ h' tk fun c o c1 _ c2 c3 e => k c o c1 c2 c3 e
theorem zipL_keep {h h' : Heap} (D : ZipSep2 z TI TO i1 i2 fp1 fp2) (D1 : Draws prog w A i1 fp1 n1 P1 St1) (D2 : Draws prog w A i2 fp2 n2 P2 St2) (st : ZipAt h z TI TO i1 i2 S St1 St2 i) (k : ∀ b o, b ≠ S → h.get? b = some o → h'.get? b = some o) (a1 : S ∉ fp1) (a2 : S ∉ fp2) (a3 : S ≠ z) (a4 : S ≠ TI) (a5 : S ≠ TO) : ZipAt h' z TI TO i1 i2 S St1 St2 i := by
  obtain ⟨hti, s1, s2, zz⟩ := st
  refine ⟨k _ _ (Ne.symm a4) hti, D1.frame _ _ _ s1 fun b hb o e => k b o (fun q => a1 (q ▸ hb)) e, D2.frame _ _ _ s2 fun b hb o e => k b o (fun q => a2 (q ▸ hb)) e, ?_⟩
  rcases zz with ⟨hz, x1, x2, hTO⟩ | ⟨T, f, oT, hz, hT, t1, t2, t3, t4⟩
  · exact .inl ⟨k _ _ (Ne.symm a3) hz, x1, x2, k _ _ (Ne.symm a5) hTO⟩
  · exact .inr ⟨T, f, oT, k _ _ (Ne.symm a3) hz, k _ _ t4 hT, t1, t2, t3, t4⟩
variable {R : Result → Shared → Prop}
theorem zipL_loop (D : ZipSep2 z TI TO i1 i2 fp1 fp2) (D1 : Draws prog w A.in1.in1 i1 fp1 n1 P1 St1) (D2 : Draws prog w A.in1.in1 i2 fp2 n2 P2 St2) (a1 : S ∉ fp1) (a2 : S ∉ fp2) (a4 : TI < S) (a5 : TO < S) (a3 : z < S) (a6 : i1 < S) (a7 : i2 < S) (hn : min n1 n2 ≤ sizeLine) (res : Value) {h₁ : Heap}
    (hR : ∀ h' tk acc c as, (∀ b o, b ≠ S → b ≠ z → b ≠ TO → b ≠ i1 → b ≠ i2 → h₁.get? b = some o → h'.get? b = some o) → h'.get? S = some { cls := .type "list", dict := none, data := .seq acc c, slots := #[] } → as.length = min n1 n2 → ZipGot P1 P2 S h' as →
      acc.toList = as.map Value.ref → R (.ok (.ret res)) { s with heap := h', toks := tk }) :
    ∀ (k i : Nat) (h : Heap) (tk c : Nat) (acc : Array Value) (as : List Addr), min n1 n2 - i = k → i ≤ min n1 n2 → ZipAt h z TI TO i1 i2 S St1 St2 i → (∀ b o, b ≠ S → b ≠ z → b ≠ TO → b ≠ i1 → b ≠ i2 → h₁.get? b = some o → h.get? b = some o) →
      h.get? S = some { cls := .type "list", dict := none, data := .seq acc c, slots := #[] } → acc.toList = as.map Value.ref → as.length = i → ZipGot P1 P2 S h as →
      codeAny (model prog w) A (.builtin "list.extend.loop" ⟨[.ref S, .ref z, res], []⟩) R { s with heap := h, toks := tk } := by
  have b3 : S ≠ z := Nat.ne_of_gt a3
  have b4 : S ≠ TI := Nat.ne_of_gt a4
  have b5 : S ≠ TO := Nat.ne_of_gt a5
  have b6 : S ≠ i1 := Nat.ne_of_gt a6
  have b7 : S ≠ i2 := Nat.ne_of_gt a7
  have far : ∀ {a : Addr}, S < a → a ≠ z ∧ a ≠ TO ∧ a ≠ i1 ∧ a ≠ i2 := fun {a} h => ⟨Nat.ne_of_gt (Nat.lt_trans a3 h), Nat.ne_of_gt (Nat.lt_trans a5 h), Nat.ne_of_gt (Nat.lt_trans a6 h), Nat.ne_of_gt (Nat.lt_trans a7 h)⟩
  intro k
  induction k with
  | zero =>
    intro i h tk c acc as hk hi hst hkeep hS hacc hal hG
    have hin : i = min n1 n2 := by omega
    refine codeAny_builtin PySem.F.entry_extend_loop ?_
    rw [Around.under_plainId PySem.F.plain_extend_loop _]
    show wpAny _ A.in1 (pyNext (.ref z) >>= _) _ _ _
    refine wpAny_bind (zipL_done (s := { s with heap := h, toks := tk }) (A := A.in1) D D1 D2 hst (by omega) (by omega) (by omega) fun h' tk' he => ?_)
    refine wpAny_pure (hR h' tk' acc c as (fun b o h1 h2 h3 h4 h5 e => he b o h2 h3 h4 h5 (hkeep b o h1 h2 h3 h4 h5 e)) (he S _ b3 b5 b6 b7 hS) (by omega) ⟨hG.rise, hG.above, fun j a hj => ?_⟩ hacc)
    obtain ⟨x1, x2, p1, p2, e3⟩ := hG.pairs j a hj
    obtain ⟨f1, f2, f3, f4⟩ := far (hG.above a (List.mem_of_getElem? hj))
    exact ⟨x1, x2, p1, p2, he a _ f1 f2 f3 f4 e3⟩
  | succ k ih =>
    intro i h tk c acc as hk hi hst hkeep hS hacc hal hG
    have hsz : acc.size = i := by rw [← Array.length_toList, hacc, List.length_map, hal]
    have hSl : S < h.objs.size := Heap.lt_size hS
    refine codeAny_builtin PySem.F.entry_extend_loop ?_
    rw [Around.under_plainId PySem.F.plain_extend_loop _]
    show wpAny _ A.in1 (pyNext (.ref z) >>= _) _ _ _
    refine wpAny_bind (zipL_item (s := { s with heap := h, toks := tk }) (S := S) D D1 D2 hst hSl (by omega) (by omega) fun x1 x2 h' tk' p1 p2 hst' ht hz hkp => ?_)
    dsimp only at ht hz hkp ⊢
    have hS' := hkp S _ b3 b5 b6 b7 hS
    have up : ∀ b o, b ≠ S → h'.get? b = some o → (h'.update S (Obj.mapSeq (·.push (Value.ref h.objs.size)))).get? b = some o := fun b o hb e => (Heap.get?_update_other _ _ (Ne.symm hb)).trans e
    show wpAny _ A.in1 (updateSeq S (·.push (Value.ref h.objs.size)) >>= _) _ _ _
    refine wpAny_bind ?_
    refine wpAny_updateSeq hS' rfl (wpAny_pure ⟨plainId_quiet PySem.F.plain_extend_loop _, ih (i + 1) _ tk' _ (acc.push (Value.ref h.objs.size)) (as ++ [h.objs.size]) (by omega) (by omega) (zipL_keep D D1 D2 hst' up a1 a2 b3 b4 b5)
      (fun b o h1 h2 h3 h4 h5 e => up b o h1 (hkp b o h2 h3 h4 h5 (hkeep b o h1 h2 h3 h4 h5 e))) (Heap.get?_update_self _ hS' rfl) (by rw [Array.toList_push, hacc, List.map_append]; rfl) (by rw [List.length_append, hal]; rfl) ⟨?_, ?_, ?_⟩⟩) (by rw [hsz]; omega) (by show (acc.push (Value.ref h.objs.size)).size ≤ sizeLine + 1; rw [Array.size_push, hsz]; omega)
    · refine List.pairwise_append.mpr ⟨hG.rise, List.pairwise_singleton _ _, fun a ha b hb => ?_⟩
      rw [List.mem_singleton.mp hb]
      exact hG.there ha
    · intro a ha
      rcases List.mem_append.mp ha with ha | ha
      · exact hG.above a ha
      · rw [List.mem_singleton.mp ha]; exact hSl
    · intro j b hj
      rcases Nat.lt_trichotomy j as.length with h1 | h1 | h1
      · rw [List.getElem?_append_left h1] at hj
        obtain ⟨y1, y2, q1, q2, e3⟩ := hG.pairs j b hj
        have hb := hG.above b (List.mem_of_getElem? hj)
        obtain ⟨f1, f2, f3, f4⟩ := far hb
        exact ⟨y1, y2, q1, q2, up b _ (Nat.ne_of_gt hb) (hkp b _ f1 f2 f3 f4 e3)⟩
      · subst h1
        have hb : h.objs.size = b := by simpa using hj
        subst hb
        subst hal
        exact ⟨x1, x2, p1, p2, up _ _ (Nat.ne_of_gt hSl) ht⟩
      · have hnone : (as ++ [h.objs.size])[j]? = none := List.getElem?_eq_none (by rw [List.length_append, List.length_singleton]; omega)
        rw [hnone] at hj; cases hj
/-- list(z) of a new zip -/
theorem zipL_call {Q : Value → Shared → Prop} (D : ZipSep2 z TI TO i1 i2 fp1 fp2) (D1 : ∀ A : Around, A.handled = none → Draws prog w A i1 fp1 n1 P1 St1) (D2 : ∀ A : Around, A.handled = none → Draws prog w A i2 fp2 n2 P2 St2) (hh : A.handled = none)
    (hz : IsZip s.heap z TI TO .none) (hTI : IsTupOf2 s.heap TI (.ref i1) (.ref i2)) (hTO : ∃ a1 a2, IsTupOf2 s.heap TO a1 a2) (st1 : St1 0 s.heap) (st2 : St2 0 s.heap) (l1 : ∀ b ∈ fp1, b < s.heap.objs.size) (l2 : ∀ b ∈ fp2, b < s.heap.objs.size) (hn : min n1 n2 ≤ sizeLine)
    (hQ : ∀ h' tk acc c as, (∀ b o, b ≠ z → b ≠ TO → b ≠ i1 → b ≠ i2 → s.heap.get? b = some o → h'.get? b = some o) → h'.get? s.heap.objs.size = some { cls := .type "list", dict := none, data := .seq acc c, slots := #[] } → as.length = min n1 n2 → ZipGot P1 P2 s.heap.objs.size h' as →
      acc.toList = as.map Value.ref → Q (.ref s.heap.objs.size) { s with heap := h', toks := tk }) :
    wpAny (model prog w) A (call (.type "list") [.ref z]) Q E s := by
  have zl : z < s.heap.objs.size := Heap.lt_size hz
  have hSz : s.heap.objs.size ≠ z := Nat.ne_of_gt zl
  have til : TI < s.heap.objs.size := Heap.lt_size hTI
  have tol : TO < s.heap.objs.size := let ⟨_, _, e⟩ := hTO; Heap.lt_size e
  have i1l : i1 < s.heap.objs.size := l1 _ D.mem1
  have i2l : i2 < s.heap.objs.size := l2 _ D.mem2
  refine callType_codes (Q₁ := fun obj s₁ => obj = .ref s.heap.objs.size ∧ s₁ = { s with heap := s.heap.push { cls := .type "list", data := .seq #[] } }) F.called_list (F.typeCall_list_1 _) F.entry_list_init
    (code_list_new _ ⟨rfl, rfl⟩) fun obj s₁ h₁ => ?_
  obtain ⟨rfl, rfl⟩ := h₁
  have hS : (s.heap.push { cls := .type "list", data := .seq #[] }).get? s.heap.objs.size = some { cls := .type "list", data := .seq #[] } := Heap.get?_push_size _ rfl
  refine ⟨⟨_, hS, rfl⟩, F.args_list_init_2 _ _, ?_⟩
  show wpAny _ A.in1.in1 (do let old ← Builtin.List.listItems (.ref s.heap.objs.size); Builtin.List.listUpdate (.ref s.heap.objs.size) (fun _ => #[]); letGo old.toList.reverse; Builtin.List.listExtendWith (.ref s.heap.objs.size) (.ref z) .none) _ _ _
  refine wpAny_bind ?_
  unfold Builtin.List.listItems
  refine wpAny_bind (wpAny_seqItems hS rfl (wpAny_pure ?_))
  show wpAny _ A.in1.in1 (updateSeq s.heap.objs.size (fun _ => #[]) >>= fun _ => letGo (#[] : Array Value).toList.reverse >>= fun _ => Builtin.List.listExtendWith (.ref s.heap.objs.size) (.ref z) .none) _ _ _
  refine wpAny_bind (wpAny_updateSeq hS rfl ?_)
  have hS2 := Heap.get?_update_self (Obj.mapSeq (fun _ => (#[] : Array Value))) hS rfl
  refine wpAny_bind (wpAny_letGo ?_)
  unfold Builtin.List.listExtendWith
  have up : ∀ (h : Heap) (f : Obj → Obj), (∀ b o, s.heap.get? b = some o → h.get? b = some o) → ∀ b o, s.heap.get? b = some o → (h.update s.heap.objs.size f).get? b = some o := fun h f q b o e =>
    (Heap.get?_update_other _ _ (Ne.symm (Nat.ne_of_lt (Heap.lt_size e)))).trans (q b o e)
  have k1 : ∀ b o, s.heap.get? b = some o → (s.heap.push { cls := .type "list", data := .seq #[] }).get? b = some o := fun b o e => Heap.get?_push_of_some _ e
  have k2 := up _ (Obj.mapSeq (fun _ => (#[] : Array Value))) k1
  have gty : ∀ {h : Heap}, (∀ b o, s.heap.get? b = some o → h.get? b = some o) → Shared.TypeIs { s with heap := h } (.ref z) "zip" := fun {h} q => ⟨_, q _ _ hz, rfl⟩
  refine wpAny_bind (wpAny_typeOf (gty k2) ?_)
  have h1 : Builtin.List.listSameRef (.ref s.heap.objs.size) (.ref z) = false := by simp [Builtin.List.listSameRef, hSz]
  have h2 : (Value.type "zip" == Value.type "list") = false := by decide
  have h3 : (Value.type "zip" == Value.type "tuple") = false := by decide
  simp only [h1, h2, h3, Bool.or_false, Bool.false_eq_true, if_false]
  refine wpAny_bind (wpAny_pyIter_zip (s := { s with heap := _ }) (k2 _ _ hz) ?_)
  refine wpAny_bind (wpAny_holding ?_)
  unfold Builtin.List.listLengthHint
  refine wpAny_bind (wpAny_specialOf (gty k2) F.zip_no_len ?_)
  show wpAny _ A.in1.in1 (specialOf (Value.ref z) (Str.ofString "__length_hint__") >>= _) _ _ _
  refine wpAny_bind (wpAny_specialOf (gty k2) F.zip_no_hint ?_)
  refine wpAny_pure ?_
  show wpAny _ A.in1.in1 (rule "list.extend.makes-room" >>= fun _ => Builtin.List.listTouch (.ref s.heap.objs.size) >>= fun _ =>
    again (.builtin "list.extend.loop" ⟨[.ref s.heap.objs.size, .ref z, .none], []⟩)) _ _ _
  refine wpAny_bind (wpAny_rule ?_)
  refine wpAny_bind ?_
  show wpAny _ A.in1.in1 (updateSeq s.heap.objs.size (·.push .none) >>= fun _ => updateSeq s.heap.objs.size (·.pop)) _ _ _
  refine wpAny_bind (wpAny_updateSeq hS2 rfl ?_)
  have hS3 := Heap.get?_update_self (Obj.mapSeq (·.push Value.none)) hS2 rfl
  refine wpAny_updateSeq (hz := by seq_fits) hS3 rfl ?_
  have hS4 := Heap.get?_update_self (Obj.mapSeq (·.pop)) hS3 rfl
  have k4 := up _ (Obj.mapSeq (·.pop)) (up _ (Obj.mapSeq (·.push Value.none)) k2)
  refine wpAny_pure ⟨plainId_quiet F.plain_extend_loop _, ?_⟩
  have st0 : ZipAt s.heap z TI TO i1 i2 s.heap.objs.size St1 St2 0 := ⟨hTI, st1, st2, .inl ⟨hz, hTO⟩⟩
  have dd1 := D1 A.in1.in1.in1 hh
  have dd2 := D2 A.in1.in1.in1 hh
  refine zipL_loop (A := A.in1) (s := s) (h₁ := s.heap) D dd1 dd2 (fun m => Nat.lt_irrefl _ (l1 _ m)) (fun m => Nat.lt_irrefl _ (l2 _ m)) til tol zl i1l i2l hn .none (fun h' tk acc c as kp e1 e2 e3 e4 => ?_) (min n1 n2) 0 _ s.toks _ _ [] (Nat.sub_zero _) (Nat.zero_le _)
    ⟨k4 _ _ hTI, dd1.frame _ _ _ st1 fun b _ o e => k4 b o e, dd2.frame _ _ _ st2 fun b _ o e => k4 b o e, .inl ⟨k4 _ _ hz, let ⟨x, y, e⟩ := hTO; ⟨x, y, k4 _ _ e⟩⟩⟩ (fun b o _ _ _ _ _ e => k4 b o e) hS4 rfl rfl ⟨List.Pairwise.nil, (fun _ ha => nomatch ha), (fun j a hj => by simp at hj)⟩
  exact ⟨rfl, hQ h' tk acc c as (fun b o e1 e2 e3 e4 e => kp b o (Nat.ne_of_lt (Heap.lt_size e)) e1 e2 e3 e4 e) e1 e2 e3 e4⟩
end
end PySem
namespace G
open PySem PySem.Spec PyProof.Rows L2
/-- what a zip draws from -/
structure SqSrc (prog : Program) (w : World) (a : Addr) (its : Array Value) (oI : Obj) (Hd : Heap → Prop) (St : Addr → Nat → Heap → Prop) : Prop where
  bg : Begins (.ref a) oI Hd
  dr : ∀ (it : Addr) (A : Around), A.handled = none → a ≠ it → Draws prog w A it [it, a] its.size (fun i v => its[i]? = some v) (St it)
  st0 : ∀ (it : Addr) (h : Heap), h.get? it = some oI → Hd h → St it 0 h
def SqO (K : PySem.W.Frag) (H : Hp) (a : Addr) (xs : List V) : Prop := SqL K H a xs ∨ SqT K H a xs
theorem sqo_src {X : Cx} {pins : List (Addr × Obj)} {σ : L2.St} {H : Hp} {s : Shared} {a : Addr} {xs : List V} (I : Inv X pins σ H s) (h : SqO X.K H a xs) : a < s.heap.objs.size ∧ ∃ (its : List Value) (oI : Obj) (Hd : Heap → Prop) (St : Addr → Nat → Heap → Prop), Vals xs its ∧ SqSrc X.prog X.w a its.toArray oI Hd St ∧ Hd s.heap := by
  rcases h with h | h
  · obtain ⟨its, rv, p2, _⟩ := I.list h
    exact ⟨p2.lt, its, _, _, _, rv, ⟨begins_list a its.toArray, fun it A hh na => Draws.list hh it a na its.toArray, fun it h e hd => ⟨⟨_, e, rfl, rfl⟩, hd⟩⟩, p2.isList⟩
  · obtain ⟨its, rv, p1, _⟩ := I.tuple h
    obtain ⟨o1, ho1, _⟩ := id p1
    exact ⟨Heap.lt_size ho1, its, _, _, _, rv, ⟨begins_tuple a its.toArray, fun it A hh na => Draws.tuple hh it a na its.toArray, fun it h e hd => ⟨⟨_, e, rfl, rfl⟩, hd⟩⟩, p1⟩
def putP : Hp → List Addr → List (V × V) → Hp
  | H, a :: as, p :: kvs => putP (upd H a (.tup [p.1, p.2])) as kvs
  | H, _, _ => H
theorem putP_off {b : Addr} : ∀ (as : List Addr) (kvs : List (V × V)) (H : Hp), b ∉ as → putP H as kvs b = H b
  | [], _, _, _ => rfl
  | _ :: _, [], _, _ => rfl
  | a :: as, p :: kvs, H, h => by
    show putP (upd H a (.tup [p.1, p.2])) as kvs b = H b
    rw [putP_off as kvs _ (fun z => h (List.mem_cons_of_mem _ z)), upd_ne (fun z => h (by rw [z]; exact List.mem_cons_self))]
theorem putP_at : ∀ (as : List Addr) (kvs : List (V × V)) (H : Hp), as.length = kvs.length → as.Nodup → Paired (fun (t : Addr) (p : V × V) => putP H as kvs t = some (.tup [p.1, p.2])) as kvs
  | [], [], _, _, _ => .nil
  | [], _ :: _, _, h, _ => by cases h
  | _ :: _, [], _, h, _ => by cases h
  | a :: as, p :: kvs, H, h, hn => by
    have hn' := List.nodup_cons.mp hn
    have ih := putP_at as kvs (upd H a (.tup [p.1, p.2])) (Nat.succ.inj h) hn'.2
    refine .cons ?_ ih
    show putP (upd H a (.tup [p.1, p.2])) as kvs a = some (.tup [p.1, p.2])
    rw [putP_off as kvs _ hn'.1, upd_same]
theorem zip_laid {X : Cx} {pins : List (Addr × Obj)} {σ : L2.St} {H : Hp} {s : Shared} {h' : Heap} {tk : Nat} {xs ys : List V} {us vs : List Value} {acc : Array Value} {c : Nat} {as : List Addr} {S : Addr} (I : Inv X pins σ H s) (r1 : Vals xs us) (r2 : Vals ys vs) (hz : min us.length vs.length ≤ sizeLine)
    (hk : ∀ b o, s.heap.get? b = some o → h'.get? b = some o) (hlo : s.heap.objs.size ≤ S) (hS : h'.get? S = some { cls := .type "list", dict := none, data := .seq acc c, slots := #[] }) (hl : as.length = min us.length vs.length) (hG : ZipGot (fun i v => us.toArray[i]? = some v) (fun i v => vs.toArray[i]? = some v) S h' as) (hacc : acc.toList = as.map Value.ref) :
    ∃ H' : Hp, (∀ b o, H b = some o → H' b = some o) ∧ H S = none ∧ (∀ t ∈ as, H t = none) ∧ S ∉ as ∧ as.Nodup ∧ H' S = some (.lst (as.map V.ref)) ∧ Paired (fun (t : Addr) (q : V × V) => H' t = some (.tup [q.1, q.2])) as (xs.zip ys) ∧ Inv X pins σ H' { s with heap := h', toks := tk } := by
  have lk : (xs.zip ys).length = min us.length vs.length := by rw [List.length_zip, r1.length, r2.length]
  have hSn : S ∉ as := fun z => Nat.lt_irrefl _ (hG.above _ z)
  have nd : as.Nodup := List.Pairwise.imp (fun {a b} (h : a < b) => Nat.ne_of_lt h) hG.rise
  have new : ∀ t ∈ as, H t = none := fun t ht => I.hok.fresh (Nat.le_trans hlo (Nat.le_of_lt (hG.above t ht)))
  have newS : H S = none := I.hok.fresh hlo
  have atP := putP_at as (xs.zip ys) (upd H S (.lst (as.map V.ref))) (by omega) nd
  have off : ∀ b, b ∉ as → b ≠ S → putP (upd H S (.lst (as.map V.ref))) as (xs.zip ys) b = H b := fun b h1 h2 => by rw [putP_off as _ _ h1, upd_ne h2]
  have low : ∀ b o, s.heap.get? b = some o → b ∉ as ∧ b ≠ S := fun b o e => ⟨fun z => absurd (Heap.lt_size e) (Nat.not_lt.mpr (Nat.le_trans hlo (Nat.le_of_lt (hG.above b z)))), Nat.ne_of_lt (Nat.lt_of_lt_of_le (Heap.lt_size e) hlo)⟩
  have kp : ∀ b u, H b = some u → (putP (upd H S (.lst (as.map V.ref))) as (xs.zip ys)) b = some u := fun b u e => by
    rw [off b (fun z => by rw [new b z] at e; cases e) (fun z => by rw [z, newS] at e; cases e)]
    exact e
  have eS : putP (upd H S (.lst (as.map V.ref))) as (xs.zip ys) S = some (.lst (as.map V.ref)) := by rw [putP_off as _ _ hSn, upd_same]
  refine ⟨putP (upd H S (.lst (as.map V.ref))) as (xs.zip ys), kp, newS, new, hSn, nd, eS, atP, ?_⟩
  refine I.call' (ch := []) rfl ⟨fun b o q _ _ _ => hk b o q, fun b o q _ _ _ => ⟨o.slots, hk b o q⟩, fun b o q n _ => ?_, fun b o q _ => ⟨o, hk b o q⟩, fun b xs q => kp b _ q, fun b o u q => kp b _ q, fun b ps q => ⟨#[], by rw [kp b _ q]; simp⟩⟩ (fun b u q => ?_) I.bare fun b z => by simp at z
  · obtain ⟨z1, z2⟩ := low b o q
    rw [off b z1 z2]
    exact n
  · by_cases hb : b ∈ as
    · obtain ⟨j, pk, e1, e2, e3⟩ := LiI.paired_ix atP hb
      rw [e3] at q
      cases q
      obtain ⟨x1, x2, f1, f2, f3⟩ := hG.pairs j b e1
      obtain ⟨g1, g2⟩ := List.getElem?_zip_eq_some.mp e2
      obtain ⟨u1, hu1, ru1⟩ := r1.get g1
      obtain ⟨u2, hu2, ru2⟩ := r2.get g2
      have f1' : us[j]? = some x1 := by simpa using f1
      have f2' : vs[j]? = some x2 := by simpa using f2
      rw [f1'] at hu1
      rw [f2'] at hu2
      cases hu1
      cases hu2
      exact ⟨by show 2 ≤ sizeLine; decide, [x1, x2], .cons ru1 (.cons ru2 .nil), ⟨_, f3, rfl, _, rfl⟩⟩
    · by_cases hb2 : b = S
      · rw [hb2] at q ⊢
        rw [eS] at q
        cases q
        refine ⟨by rw [List.length_map]; omega, acc.toList, c, by rw [hacc]; exact LiI.vals_refs as, ?_⟩
        rw [Array.toArray_toList]
        exact hS
      · rw [off b hb hb2] at q
        exact (I.hok b u q).stay (fun d v _ y => hk d v y) (fun d y => kp d _ y) fun d xs y => kp d _ y
theorem five_of {N M : Nat} (h : N ≤ M) : N < M + 5 ∧ N + 1 < M + 5 := by omega
theorem five_up {a N : Nat} (h : a < N) : a < N + 5 := by omega
theorem five_ne {a N : Nat} (h : a < N) : a ≠ N + 4 ∧ a ≠ N + 3 ∧ a ≠ N ∧ a ≠ N + 1 := by omega
def esZ : List Addr → List (V × V) → Lg
  | t :: ts, p :: ps => (t, .tup [p.1, p.2]) :: esZ ts ps
  | _, _ => []
theorem esZ_fst {F : Addr → V × V → Prop} : ∀ {ts : List Addr} {ps : List (V × V)}, Paired F ts ps → (esZ ts ps).map (·.1) = ts ∧ (esZ ts ps).map (·.2) = ps.map fun d => HO.tup [d.1, d.2]
  | _, _, .nil => ⟨rfl, rfl⟩
  | _, _, .cons _ t => by
    obtain ⟨a, b⟩ := esZ_fst t
    exact ⟨by show _ :: List.map _ _ = _; rw [a], by show _ :: List.map _ _ = _; rw [b]; rfl⟩
theorem has_zip {H H' : Hp} {L : Lg} (h : Has H L) (g : ∀ b u, H b = some u → H' b = some u) : ∀ {ts : List Addr} {ps : List (V × V)}, Paired (fun (t : Addr) (q : V × V) => H' t = some (.tup [q.1, q.2])) ts ps → ts.Nodup → (∀ t ∈ ts, H t = none) → Has H' (esZ ts ps ++ L)
  | _, _, .nil, _, _ => h.grow g
  | t :: ts, p :: ps, .cons r tl, nd, hn => by
    obtain ⟨n1, n2⟩ := List.nodup_cons.mp nd
    have ih := has_zip h g tl n2 fun t' m => hn t' (List.mem_cons_of_mem _ m)
    refine ⟨List.nodup_cons.mpr ⟨fun m => ?_, ih.1⟩, fun e m => ?_⟩
    · have m' : t ∈ (esZ ts ps ++ L).map (·.1) := m
      rw [List.map_append, (esZ_fst tl).1] at m'
      rcases List.mem_append.mp m' with m' | m'
      · exact n1 m'
      · exact h.out (hn t List.mem_cons_self) m'
    · rcases List.mem_cons.mp m with rfl | m
      · exact holds_of rfl r
      · exact ih.2 e m
theorem sqo_of {K : PySem.W.Frag} {H : Hp} {L : Lg} {q : Addr} {o : HO} {xs : List V} (k : Has H L) (ro : RowO o xs) (m : (q, o) ∈ L) : SqO K H q xs := by
  rcases ro with rfl | rfl
  · exact .inl (sql k m)
  · exact .inr (sqt k m)
def rZipL (K : PySem.W.Frag) : List V → Hp → VK → Prop := fun vs H Q => ∃ (a b : Addr) (xs ys : List V), vs = [.ref a, .ref b] ∧ SqO K H a xs ∧ SqO K H b ys ∧ min xs.length ys.length ≤ sizeLine ∧
  ∀ (H' : Hp) (p : Addr) (ts : List Addr), (∀ b o, H b = some o → H' b = some o) → H p = none → (∀ t ∈ ts, H t = none) → p ∉ ts → ts.Nodup → H' p = some (.lst (ts.map V.ref)) → Paired (fun (t : Addr) (q : V × V) => H' t = some (.tup [q.1, q.2])) ts (xs.zip ys) → Q (.ref p) H'
def tZipL (K : PySem.W.Frag) (ta : TA) : TE := fun σ H Q => ta σ H fun vs H1 => rZipL K vs H1 Q
theorem pe_listZip {X : Cx} {e e2 : Expr} {ta : TA} {p p1 p2 pos : Pos} (hc : X.calm = true) (hg : Gl X "list") (hm : X.mg "list" = none) (hg2 : Gl X "zip") (hm2 : X.mg "zip" = none) (ha : PA X [e, e2] ta)
    (hs : starEach [.Call (.Name "zip" p1) [e, e2] [] p2] X.env = (false, eval (.Call (.Name "zip" p1) [e, e2] [] p2) X.env) :: starEach [] X.env := by rfl)
    (hs2 : starEach [e, e2] X.env = (false, eval e X.env) :: starEach [e2] X.env := by rfl) (hpl2 : (backTo p2 (starEach [e2] X.env)).any (·.1) = false := by rfl) :
    PE X (.Call (.Name "list" p) [.Call (.Name "zip" p1) [e, e2] [] p2] [] pos) (tZipL X.K ta) := by
  refine ⟨fun pins s σ H Q I hq => ?_⟩
  refine wpAny_Call_Name_kw (ld_blt I hg hm boot_list ?_)
  refine PyProof.Rows.callWith_type1 ?_ hs rfl
  rw [hs]
  show wpAny _ _ (spliced ((false, eval (.Call (.Name "zip" p1) [e, e2] [] p2) X.env) :: backTo pos (starEach [] X.env))) _ _ s
  refine Calls.spliced_cons ?_
  refine Call_ (ld_blt I hg2 hm2 PyProof.Rows.boot_zip (PyProof.Rows.callWith_type1 (thn (ha.run p2 pins s σ H _ I hq) fun us s1 ⟨vs, H1, I1, r1, q1⟩ => ?_) hs2 hpl2))
  obtain ⟨a, b, xs, ys, ex, hqx, hqy, hz, q⟩ := q1
  subst ex
  cases r1 with
  | cons r rr =>
    cases rr with
    | cons r' rr =>
      cases rr
      cases r
      cases r'
      obtain ⟨la, us, o1, Hd1, St1, rv1, S1, hd1⟩ := sqo_src I1 hqx
      obtain ⟨lb, ws, o2, Hd2, St2, rv2, S2, hd2⟩ := sqo_src I1 hqy
      refine zip_begins2 S1.bg S2.bg hd1 hd2 fun h' hz' hTI hTO h1 h2 hsz hk => ?_
      refine Calls.spliced_nil ?_
      have kd1 := S1.bg.keeps _ _ hd1 hk
      have kd2 := S2.bg.keeps _ _ hd2 hk
      have hn : min us.toArray.size ws.toArray.size ≤ sizeLine := by
        rw [List.size_toArray, List.size_toArray, ← rv1.length, ← rv2.length]
        exact hz
      refine zipL_call (s := { s1 with heap := h' }) (zip_sep2 (fp1 := [a]) (fp2 := [b]) (fun c hc => by rw [List.mem_singleton.mp hc]; exact la) (fun c hc => by rw [List.mem_singleton.mp hc]; exact lb)) (fun A hh => S1.dr _ A hh (Nat.ne_of_lt la)) (fun A hh => S2.dr _ A hh (Nat.ne_of_lt (Nat.lt_succ_of_lt lb))) (I1.ok.hd hc) hz' hTI ⟨_, _, hTO⟩ (S1.st0 _ _ h1 kd1) (S2.st0 _ _ h2 kd2)
        (fun c hcm => ?_) (fun c hcm => ?_) hn fun h'' tk acc c as kp eS el eG ea => ?_
      · show c < h'.objs.size
        rw [hsz]
        rcases List.mem_cons.mp hcm with z | z
        · rw [z]; exact (five_of (Nat.le_refl _)).1
        · rw [List.mem_singleton.mp z]; exact five_up la
      · show c < h'.objs.size
        rw [hsz]
        rcases List.mem_cons.mp hcm with z | z
        · rw [z]; exact (five_of (Nat.le_refl _)).2
        · rw [List.mem_singleton.mp z]; exact five_up lb
      · have kall : ∀ b o, s1.heap.get? b = some o → h''.get? b = some o := fun b o e => by
          have lt := Heap.lt_size e
          obtain ⟨n1, n2, n3, n4⟩ := five_ne lt
          exact kp b o n1 n2 n3 n4 (hk b o e)
        have lo : s1.heap.objs.size ≤ h'.objs.size := by rw [hsz]; omega
        obtain ⟨H', k1, k2, k3, k4, k5, k6, k7, J⟩ := zip_laid (S := h'.objs.size) (tk := tk) I1 rv1 rv2 (by rw [← rv1.length, ← rv2.length]; exact hz) kall lo eS (by rw [el, List.size_toArray, List.size_toArray]) eG ea
        exact ⟨.ref _, H', J, rfl, q H' _ as k1 k2 k3 k4 k5 k6 k7⟩
section
variable {X : Cx} {η : En} {L : Lg} {Q : QV} {e e2 : Expr} {p p1 p2 pos : Pos}
/-- list(zip(a, b)) of lists and tuples -/
theorem ge_listZip (h : GA X [e, e2] η L fun vs L1 => ∃ q r o1 o2 xs ys, vs = [.ref q, .ref r] ∧ RowO o1 xs ∧ RowO o2 ys ∧ (q, o1) ∈ L1 ∧ (r, o2) ∈ L1 ∧ min xs.length ys.length ≤ 1000000 ∧ ∀ D es, es.map (·.2) = (xs.zip ys).map (fun d => HO.tup [d.1, d.2]) → Q (.ref D) ((D, .lst (refs es)) :: (es ++ L1)))
    (hm : X.mg "list" = none) (hm2 : X.mg "zip" = none) (hg : Gl X "list" := by rfl) (hg2 : Gl X "zip" := by rfl) (hc : X.calm = true := by rfl)
    (hs : starEach [.Call (.Name "zip" p1) [e, e2] [] p2] X.env = (false, eval (.Call (.Name "zip" p1) [e, e2] [] p2) X.env) :: starEach [] X.env := by rfl)
    (hs2 : starEach [e, e2] X.env = (false, eval e X.env) :: starEach [e2] X.env := by rfl) (hpl2 : (backTo p2 (starEach [e2] X.env)).any (·.1) = false := by rfl) :
    GE X (.Call (.Name "list" p) [.Call (.Name "zip" p1) [e, e2] [] p2] [] pos) η L Q := fun hN H hH =>
  WE.of (pe_listZip hc hg hm hg2 hm2 pa_W hs hs2 hpl2) (h.then hN hH fun vs L1 H1 k1 ⟨q, r, o1, o2, xs, ys, e1, ro1, ro2, m1, m2, hl, z⟩ => ⟨q, r, xs, ys, e1, sqo_of k1 ro1 m1, sqo_of k1 ro2 m2, by rw [sizeLine_eq]; omega, fun H' D ts g n1 n2 n3 n4 hD hp => by
    have hz := has_zip k1 g hp n4 n2
    obtain ⟨f1, f2⟩ := esZ_fst hp
    have er : refs (esZ ts (xs.zip ys)) = ts.map V.ref := (show refs (esZ ts (xs.zip ys)) = ((esZ ts (xs.zip ys)).map (·.1)).map V.ref by rw [List.map_map]; rfl).trans (by rw [f1])
    have hh : Has H' ((D, .lst (ts.map V.ref)) :: (esZ ts (xs.zip ys) ++ L1)) := by
      refine ⟨List.nodup_cons.mpr ⟨fun mm => ?_, hz.1⟩, fun e me => ?_⟩
      · have m' : D ∈ (esZ ts (xs.zip ys) ++ L1).map (·.1) := mm
        rw [List.map_append, f1] at m'
        rcases List.mem_append.mp m' with m' | m'
        · exact n3 m'
        · exact k1.out n1 m'
      · rcases List.mem_cons.mp me with rfl | me
        · exact holds_of rfl hD
        · exact hz.2 e me
    rw [← er] at hh
    exact ⟨_, hh, z D (esZ ts (xs.zip ys)) f2⟩⟩)
end
end G
set_option Elab.async false
set_option linter.all false
set_option maxRecDepth 100000
set_option maxHeartbeats 4000000
namespace G
open PySem PySem.Spec PyProof.Rows L2
section
variable {X : Cx} {η : En} {L : Lg} {elt iter : Expr} {ifs : List Expr} {scope : Scope} {pos p1 p2 p3 p4 : Pos} {x y z : Str} {f : V → En} {Q : QV}
/-- [elt for x, y, z in iter if ..] -/
theorem ge_lc3 {g : V → V → En} {g3 : V → V → V → En} {kt : Nat} {pt : Pos} (P : PutF x η f) (R : ∀ v, PutF y (f v) (g v)) (T : ∀ v u, PutF z (g v u) (g3 v u))
    (h : GI X (.Tuple [.Name x p1, .Name y p2, .Name z p3] kt pt) iter η L fun S L1 => ∀ d, ∃ Pv, LcS X scope ifs elt S d L1 (stThree g3) Pv Q)
    (hb : blkC X.N X.env.scope scope [(x, X.N.idxOf x), (y, X.N.idxOf y), (z, X.N.idxOf z)] = true) (hw : wipe (vals η) [X.N.idxOf x, X.N.idxOf y, X.N.idxOf z] = vals η)
    (hlx : LocB X scope x := by exact fun _ _ _ _ _ => ⟨.inl rfl, .inr rfl⟩) (hly : LocB X scope y := by exact fun _ _ _ _ _ => ⟨.inl rfl, .inr rfl⟩) (hlz : LocB X scope z := by exact fun _ _ _ _ _ => ⟨.inl rfl, .inr rfl⟩)
    (hN : X.N.Nodup := by assumption) (hc : X.calm = true := by rfl) (hs : ∀ z, foldedSetIterable iter X.env z = pure z := by intro _; rfl) : GE X (.ListComp elt [⟨.Tuple [.Name x p1, .Name y p2, .Name z p3] kt pt, iter, ifs, 0⟩] scope pos) η L Q := fun nη H hH => by
  obtain ⟨i, h1, h2⟩ := P.idx
  obtain ⟨i2, k1, -⟩ := (R .non).idx
  obtain ⟨i3, l1, -⟩ := (T .non .non).idx
  have nf : ∀ v, X.N = names (f v) := fun v => (h2 v).2 ▸ nη
  have hi : X.N[i]? = some x := nη ▸ h1
  have hi2 : X.N[i2]? = some y := nf .non ▸ k1
  have ng : ∀ v u, X.N = names (g v u) := fun v u => (nf v).trans ((R v).at hN (nf v) hi2 u).2.symm
  have hi3 : X.N[i3]? = some z := ng .non .non ▸ l1
  rw [idxEq hN hi, idxEq hN hi2, idxEq hN hi3] at hb hw
  refine WE.of (pe_lc (own := [(x, i), (y, i2), (z, i3)]) (g := gTup X.K 3 (gCons (gName i) (gCons (gName i2) (gCons (gName i3) gNil)))) hc hN pi_W (blkOk_by hb) (fun s H C cl fp => pg_tup (X := blkX X s H scope C cl fp) (n := 3) hc (pgs_cons (pg_name hN hi (hlx s H C cl fp).1 (hlx s H C cl fp).2) (pgs_cons (pg_name hN hi2 (hly s H C cl fp).1 (hly s H C cl fp).2) (pgs_cons (pg_name hN hi3 (hlz s H C cl fp).1 (hlz s H C cl fp).2) pgs_nil))) rfl rfl) pts_ttB pe_teB hs) ?_
  refine lc_core' (Qh := up Q) (st := stThree g3) nη hH (fun D M H' hM q => ⟨M, hM, q⟩) (fun v M H' k Qk hM ⟨p, a, b, c, ev, mp, q⟩ hk => ?_) h
  have e3 : vals (g3 a b c) = (((vals η).set i (some a)).set i2 (some b)).set i3 (some c) := by
    rw [((T a b).at hN (ng a b) hi3 c).1, ((R a).at hN (nf a) hi2 b).1, (h2 a).1]
  have nθ : X.N = names (g3 a b c) := (ng a b).trans ((T a b).at hN (ng a b) hi3 c).2.symm
  refine ⟨p, [a, b, c], ev, sqt hM mp, rfl, a, [b, c], rfl, b, [c], rfl, c, [], rfl, rfl, ?_⟩
  have zz := hk (g3 a b c) M H' nθ hM q (by rw [e3, wipe_mem (by simp), wipe_mem (by simp), wipe_mem (by simp)])
  rw [e3] at zz
  show Qk (((wipe (vals η) [i, i2, i3]).set i (some a)).set i2 (some b) |>.set i3 (some c)) H'
  rw [hw]
  exact zz
theorem ge_lcF3 {g : V → V → En} {g3 : V → V → V → En} {kt : Nat} {pt : Pos} (P : PutF x η f) (R : ∀ v, PutF y (f v) (g v)) (T : ∀ v u, PutF z (g v u) (g3 v u))
    (h : GI X (.Tuple [.Name x p1, .Name y p2, .Name z p3] kt pt) iter η L (FreshL X scope ifs elt (stThree g3) Q))
    (hb : blkC X.N X.env.scope scope [(x, X.N.idxOf x), (y, X.N.idxOf y), (z, X.N.idxOf z)] = true) (hw : wipe (vals η) [X.N.idxOf x, X.N.idxOf y, X.N.idxOf z] = vals η)
    (hlx : LocB X scope x := by exact fun _ _ _ _ _ => ⟨.inl rfl, .inr rfl⟩) (hly : LocB X scope y := by exact fun _ _ _ _ _ => ⟨.inl rfl, .inr rfl⟩) (hlz : LocB X scope z := by exact fun _ _ _ _ _ => ⟨.inl rfl, .inr rfl⟩)
    (hN : X.N.Nodup := by assumption) (hc : X.calm = true := by rfl) (hs : ∀ z, foldedSetIterable iter X.env z = pure z := by intro _; rfl) : GE X (.ListComp elt [⟨.Tuple [.Name x p1, .Name y p2, .Name z p3] kt pt, iter, ifs, 0⟩] scope pos) η L Q :=
  GE.undrp (ge_lc3 P R T (h.imp fun S L1 ⟨p, g, pc, q⟩ d => pc.lc (Q := Q) monoThree d (q d)) hb hw hlx hly hlz hN hc hs)
end
end G
set_option Elab.async false
set_option linter.all false
set_option maxRecDepth 100000
set_option maxHeartbeats 400000
namespace G
open PySem PySem.Spec PyProof.Rows L2
/-- a def whose keyword-only parameters have defaults, as it stands -/
structure FunK (K : PySem.W.Frag) (x q : Str) (st : Stmt) (kws : List (Str × V)) (f : Addr) : Prop where
  ex : ∃ (oc : Value) (od : Option Addr) (D : Addr) (doc pm : Value) (an : Option Addr) (cdv ct : Value) (osl : Array (Option Value)),
    K.lookup f = some ⟨oc, od, .func (PySem.W.fnOf x q (defArgs st) (defBody st) (defScope st) .none (.ref D) doc pm an cdv ct), osl⟩ ∧ PySem.W.codeIn K cdv q = true ∧ ∀ p ∈ kws, ∃ u, PySem.W.nsIn K D p.1 = some (some u) ∧ RelV p.2 u
  kp : PySem.W.keepIn K (.ref f) = true
/-- the lacking names are looked up, one behind another; then r -/
def KwCh {α : Type} (D : Addr) : List (Str × Value) → Sem α → Sem α → Prop
  | [], t, r => t = r
  | q :: l, t, r => ∃ (β γ : Type) (k1 : Option Value → Sem β) (k2 : β → Sem γ) (k3 : γ → Sem α) (a : β), t = ((nsGet D q.1 >>= k1) >>= k2) >>= k3 ∧ k1 (some q.2) = pure a ∧ KwCh D l (k2 a >>= k3) r
theorem KwCh.run {α : Type} {K : PySem.W.Frag} {M : Model} {A : Around} {E : Value → Shared → Prop} {Q : α → Shared → Prop} {s : Shared} {D : Addr} (X : K.In s.heap) : ∀ {l : List (Str × Value)} {t r : Sem α}, (∀ q ∈ l, PySem.W.nsIn K D q.1 = some (some q.2)) → KwCh D l t r → wpAny M A r Q E s → wpAny M A t Q E s
  | [], t, r, _, e, h => by
    have e : t = r := e
    rw [e]
    exact h
  | q :: l, t, r, hl, e, h => by
    obtain ⟨β, γ, k1, k2, k3, a, e1, e2, e3⟩ := e
    have z := KwCh.run X (fun p hp => hl p (List.mem_cons_of_mem _ hp)) e3 h
    have l1 : PySem.W.Looks M s.heap (nsGet D q.1 >>= k1) a := (PySem.W.looks_nsIn X (hl q (List.mem_cons_self ..))).andThen (PySem.W.Looks.of_pure e2)
    rw [e1, bind_assoc]
    exact wpAny_bind (l1.here z)
section
variable {P : Program} {w : World} {K : PySem.W.Frag} {mg : Str → Option Value} {base : Heap}
/-- how such a call's values are bound: us the values for ps, rest for the star, ws for the keywords ks, the lacking ms from the defaults -/
def BindK (x q pv : Str) (st : Stmt) (ps ko ks : List Str) (ms : List (Str × V)) (g : {α : Type} → List α → List α → List α) (ok : Nat → Prop) : Prop :=
  ∀ (D : Addr) (doc pm : Value) (an : Option Addr) (cdv ct : Value) (us rest mv ws : List Value), us.length = ps.length → mv.length = ms.length → ws.length = ks.length → ok rest.length →
    KwCh D ((ms.map (·.1)).zip mv) (bindArgs (PySem.W.fnOf x q (defArgs st) (defBody st) (defScope st) .none (.ref D) doc pm an cdv ct) ⟨us ++ rest, ks.zip ws⟩) (newTuple rest >>= fun t => pure (ps.zip us ++ (ko.zip (g mv ws) ++ [(pv, t)])))
theorem run_starK {x q pv : Str} {st : Stmt} {f : Addr} {N ps ko ks : List Str} {k : Nat} {sp : SpL} {kws ms : List (Str × V)} (n : Nat) (g : {α : Type} → List α → List α → List α) (F : FunK K x q st kws f) (S : FnScope N (ps ++ (ko ++ [pv])) (defScope st)) (hms : ∀ q ∈ ms, q ∈ kws)
    (hg : ∀ {mz zs : List V} {mv ws : List Value}, Vals mz mv → Vals zs ws → Vals (g mz zs) (g mv ws)) (hgl : ∀ {α : Type} (mz zs : List α), mz.length = ms.length → zs.length = ks.length → (g mz zs).length = ko.length)
    {ok : Nat → Prop} (hb : BindK x q pv st ps ko ks ms g ok) (hl : ps.length + (ko.length + 1) ≤ N.length) (body : BodyOf P w K mg base N q st k sp) :
    RunG P w K mg base CX0 (k + 1) f (argsK n ks) (toSp fun vs L Q E => ∃ ws rest zs, vs = (ws ++ rest) ++ zs ∧ ws.length = ps.length ∧ (ws ++ rest).length = n ∧ zs.length = ks.length ∧ rest.length ≤ sizeLine ∧ ok rest.length ∧ ∀ p, sp (ws ++ (g (ms.map (·.2)) zs ++ [.ref p])) ((p, .tup rest) :: L) Q E) := by
  obtain ⟨oc, od, D, doc, pm, an, cdv, ct, osl, lk, hcd, hkw⟩ := F.ex
  intro A outer s H us vs Q E hr e0 r hsp
  obtain ⟨L, Ql, El, hH, ⟨ws, rest, zs, ev, hlw, hln, hlz, hz, hok, hs⟩, hq, _⟩ := hsp
  subst ev
  obtain ⟨u12, u3, eu, r12, r3⟩ := StX.vals_split r
  subst eu
  obtain ⟨u1, u2, eu, r1, r2⟩ := StX.vals_split r12
  subst eu
  obtain ⟨mv, hmv, rm, hks⟩ := kwd_vals (K := K) (D := D) (ms := ms) fun q hm => hkw q (hms q hm)
  have hn : H s.heap.objs.size = none := e0.hok.fresh (Nat.le_refl _)
  have hl1 : u1.length = ps.length := by
    rw [← r1.length]
    exact hlw
  have hl2 : u2.length ≤ sizeLine := by
    rw [← r2.length]
    exact hz
  have hl3 : u3.length = ks.length := by
    rw [← r3.length]
    exact hlz
  have hl12 : (u1 ++ u2).length = n := by
    rw [← r12.length]
    exact hln
  have kin : K.In s.heap := e0.mod.kin.keeps fun b o e => (e0.bs b o e).1
  have rg : Vals (g (ms.map (·.2)) zs) (g mv u3) := hg rm r3
  have glen := hgl mv u3 hmv hl3
  have glen2 := hgl (ms.map (·.2)) zs (by rw [List.length_map]) hlz
  refine StX.run_bnd (CX := CX0) lk hcd S hr.toRoom e0 (G := fun xs H2 => ∃ p, H p = none ∧ xs = ws ++ (g (ms.map (·.2)) zs ++ [V.ref p]) ∧ H2 = upd H p (.tup rest)) (fun A' Ex Q' h => ?_) fun s2 H2 xs ⟨p, hp, ex, eH⟩ hr' => ?_
  · have ea : argsK n ks ((u1 ++ u2) ++ u3) = ⟨u1 ++ u2, ks.zip u3⟩ := by
      show (⟨((u1 ++ u2) ++ u3).take n, ks.zip (((u1 ++ u2) ++ u3).drop n)⟩ : Args) = _
      rw [← hl12, List.take_left, List.drop_left]
    rw [ea]
    refine KwCh.run kin hks (hb D doc pm an cdv ct u1 u2 mv u3 hl1 hmv hl3 (by rw [← r2.length]; exact hok)) ?_
    refine wpAny_bind (wpAny_newTuple (wpAny_pure ?_) hl2)
    have new : ObjOk P w (upd H s.heap.objs.size (.tup rest)) (s.heap.push ({ cls := .type "tuple", data := .seq u2.toArray } : Obj)) s.heap.objs.size (.tup rest) := ⟨hz, u2, r2, ⟨_, Heap.get?_push_size _ rfl, rfl, _, rfl⟩⟩
    have un := StX.un_laid (fs := frs outer) (s := s) (o := ({ cls := .type "tuple", data := .seq u2.toArray } : Obj)) (u := .tup rest) hn
    have z := h _ _ (ws ++ (g (ms.map (·.2)) zs ++ [V.ref s.heap.objs.size])) (u1 ++ (g mv u3 ++ [Value.ref s.heap.objs.size])) (StX.env0_laid e0 new) un rfl (fun _ _ z => z.elim) (r1.append (rg.append (.cons rfl .nil))) (by simp only [List.length_append, hlw, glen2] <;> rfl) ⟨_, hn, rfl, rfl⟩
    rw [List.zip_append hl1.symm, List.zip_append glen.symm] at z
    exact z
  · subst ex eH
    have hlv : (ws ++ (g (ms.map (·.2)) zs ++ [V.ref p])).length ≤ N.length := by
      rw [List.length_append, List.length_append, hlw, glen2]
      exact hl
    exact ⟨WSs _ (defBody st), PSs.nox pss_W, body_end (X := cx0 P w K mg base N q (defScope st) f cdv A outer s2 (upd H p (.tup rest)) E) hlv hq (hH.new hp) (body _ f cdv A outer s2 _ E _ _ Ql El rfl S.nd ⟨hr', guard_deeper hr.gd⟩ (hs p))⟩
end
end G
set_option Elab.async false
set_option linter.all false
set_option maxRecDepth 100000
set_option maxHeartbeats 400000
namespace PySem.W
open PySem PySem.Calls PySem.Spec PyProof.Rows
end PySem.W
namespace G
open PySem PySem.Spec PyProof.Rows L2
/-- the defaults as the dict at D holds them -/
inductive KwHas (K : PySem.W.Frag) (D : Addr) : List (Str × V) → Prop
  | nil : KwHas K D []
  | cons {x : Str} {v : V} {u : Value} {l : List (Str × V)} (h : PySem.W.nsIn K D x = some (some u)) (r : RelV v u) (t : KwHas K D l) : KwHas K D ((x, v) :: l)
theorem KwHas.all {K : PySem.W.Frag} {D : Addr} : ∀ {l : List (Str × V)}, KwHas K D l → ∀ p ∈ l, ∃ u, PySem.W.nsIn K D p.1 = some (some u) ∧ RelV p.2 u
  | _, .nil, _, h => nomatch h
  | _, .cons h r t, p, hp => by
    rcases List.mem_cons.mp hp with rfl | hp
    · exact ⟨_, h, r⟩
    · exact t.all p hp
theorem funk_mk {K : PySem.W.Frag} {x q : Str} {st : Stmt} {kws : List (Str × V)} {f D : Addr} {oc doc pm cdv ct : Value} {od an : Option Addr} {osl : Array (Option Value)} (h : K.lookup f = some ⟨oc, od, .func (PySem.W.fnOf x q (defArgs st) (defBody st) (defScope st) .none (.ref D) doc pm an cdv ct), osl⟩) (c : PySem.W.codeIn K cdv q = true) (k : PySem.W.keepIn K (.ref f) = true) (d : KwHas K D kws) : FunK K x q st kws f :=
  ⟨⟨oc, od, D, doc, pm, an, cdv, ct, osl, h, c, d.all⟩, k⟩
end G
set_option Elab.async false
set_option linter.all false
set_option maxRecDepth 100000
set_option maxHeartbeats 400000
namespace G
open PySem PySem.Spec PyProof.Rows L2
/-- the class C has its own __getitem__ -/
structure OwnItem (K : PySem.W.Frag) (C g : Addr) : Prop where
  at_ : PySem.W.findIn K (.ref C) "__getitem__" = some (some (.ref g))
  fn : PySem.W.isFn K (.ref g) = true
  fi : PySem.W.fnIn K g = true
section
variable {X : Cx} {CX : CXT} {η : En} {L : Lg} {Q : QV} {C g : Addr} {j k : Nat} {sp : SpL} {El : XL} {a b : Expr} {pos : Pos}
theorem ge_ixM (T : OwnItem X.K C g) (F : RunG X.prog X.w X.K X.mg X.base CX k g argsP (toSp sp)) (hr : RoomG j X.A) (hx : Passes CX X (upX El))
    (h : GE X a η L fun x L1 => GE X b η L1 fun y L2 => ∃ p dx fs, x = .ref p ∧ (p, HO.ins C dx fs) ∈ L2 ∧ sp [.ref p, y] L2 Q El) (hjk : k + 1 ≤ j := by decide)
    (hs : ∀ o i, subscripted b true o i = runValue (.builtin "lifetime.subscript" ⟨[o, i], []⟩) := by exact fun _ _ => rfl) : GE X (.Subscript a b pos) η L Q := fun hN H hH pins s I => by
  refine Subscript_ (thn (h hN H hH pins s I) fun v s1 ⟨x, H1, I1, rx, L1, h1, q1⟩ => thn (q1 hN H1 h1 pins s1 I1) fun u s2 ⟨y, H2, I2, ry, L2, h2, p, dx, fs, ex, mp, q⟩ => ?_)
  subst ex
  obtain rfl : v = Value.ref p := rx
  obtain ⟨oe, od, J⟩ := ins_inst I2 h2 mp
  obtain ⟨m, hF⟩ := I2.fr
  refine PySem.W.sub_K hF I2.ok.mod.kin J T.at_ T.fi T.fn ?_ (hs _ _)
  refine wpAny_call (codeAny_mono (F X.A.in1 X.stack s2 H2 [.ref p, u] [.ref p, y] _ _ (hr.mono hjk).in1 I2.env0.in1 (.cons rfl (.cons ry .nil)) (up_sp h2 q)) fun r s3 hq => ?_)
  cases r with
  | error e => exact hx pins _ H2 s2 e s3 I2 hq
  | ok fl =>
    cases fl with
    | ret w => exact I2.after hq
    | next => exact hq.elim
    | brk => exact hq.elim
    | cont => exact hq.elim
end
end G
set_option Elab.async false
set_option linter.all false
set_option maxRecDepth 100000
set_option maxHeartbeats 4000000
namespace G
open PySem PySem.Spec PyProof.Rows L2
end G
set_option Elab.async false
set_option linter.all false
set_option maxRecDepth 100000
set_option maxHeartbeats 4000000
namespace G
open PySem PySem.Spec PyProof.Rows L2
end G
set_option Elab.async false
set_option linter.all false
set_option maxRecDepth 100000
set_option maxHeartbeats 4000000
namespace G
open PySem PySem.Spec PyProof.Rows L2
end G
set_option Elab.async false
set_option linter.all false
set_option maxRecDepth 100000
set_option maxHeartbeats 4000000
namespace G
open PySem PySem.Spec PyProof.Rows L2
section
variable {X : Cx} {L : Lg} {elt : Expr} {ifs : List Expr} {scope : Scope} {f : V → En} {R : V → Lg → Prop} {q : Addr} {o : HO} {xs : List V} {pt : Nat → Bool} {pg : Nat → V}
theorem pure_rowI (mq : (q, o) ∈ L) (hl : xs.length ≤ 1000000) (ht : ∀ i v, xs[i]? = some v → TurnP X scope ifs elt L (f v) (pt i) (pg i)) (h : ∀ D, R (.ref D) ((D, .lst (((List.range xs.length).filter pt).map pg)) :: L)) : PureL X scope ifs elt (stOne f) R ⟨xs.length, fun M => (q, o) ∈ M, itemAt xs⟩ L := by
  refine ⟨pt, pg, ⟨hl, fun M h => h _ mq, fun i x E D acc M hi it _ s => ?_⟩, h⟩
  obtain ⟨hx, hE⟩ := it
  subst hE
  exact turnP_use (st := stOne f) (ht i x hx) s
end
end G
set_option Elab.async false
set_option linter.all false
set_option maxRecDepth 100000
set_option maxHeartbeats 4000000
namespace G
open PySem PySem.Spec PyProof.Rows L2
end G
set_option Elab.async false
set_option linter.all false
set_option maxRecDepth 100000
set_option maxHeartbeats 4000000
namespace G
open PySem PySem.Spec PyProof.Rows L2
end G
set_option Elab.async false
set_option linter.all false
set_option maxRecDepth 100000
set_option maxHeartbeats 4000000
namespace G
open PySem PySem.Spec PyProof.Rows L2
end G
set_option Elab.async false
set_option linter.all false
set_option maxRecDepth 100000
set_option maxHeartbeats 4000000
namespace G
open PySem PySem.Spec PyProof.Rows L2
end G
set_option Elab.async false
set_option linter.all false
set_option maxRecDepth 100000
set_option maxHeartbeats 4000000
namespace G
open PySem PySem.Spec PyProof.Rows L2 NdefX
end G
set_option Elab.async false
set_option linter.all false
set_option maxRecDepth 100000
set_option maxHeartbeats 4000000
namespace G
open PySem PySem.Spec PyProof.Rows L2 NdefX
end G
set_option Elab.async false
set_option linter.all false
set_option maxRecDepth 100000
set_option maxHeartbeats 4000000
namespace G
open PySem PySem.Spec PyProof.Rows L2 HotX
end G
set_option Elab.async false
set_option linter.all false
set_option maxRecDepth 100000
set_option maxHeartbeats 4000000
namespace G
open PySem PySem.Spec PyProof.Rows L2 HotX
end G
set_option Elab.async false
set_option linter.all false
set_option maxRecDepth 100000
set_option maxHeartbeats 4000000
namespace G
open PySem PySem.Spec PyProof.Rows L2 ItX
end G
set_option Elab.async false
set_option linter.all false
set_option maxRecDepth 100000
set_option maxHeartbeats 4000000
namespace G
open PySem PySem.Spec PyProof.Rows L2
end G
set_option Elab.async false
set_option linter.all false
set_option maxRecDepth 100000
set_option maxHeartbeats 4000000
namespace G
open PySem PySem.Spec PyProof.Rows L2
def IsTrip (h : Heap) (v : Value) (k : Str × Str × Int) : Prop := ∃ a o t u c n, v = .ref a ∧ h.get? a = some o ∧ o.cls = .type "tuple" ∧ o.data = .seq #[.str k.1 t, .str k.2.1 u, .int k.2.2 c] n
theorem IsTrip.keeps {h h' : Heap} {v : Value} {k : Str × Str × Int} (x : IsTrip h v k) (kp : ∀ b o, h.get? b = some o → o.cls = .type "tuple" → h'.get? b = some o) : IsTrip h' v k := by
  obtain ⟨a, o, t, u, c, n, e, ho, hc, hd⟩ := x
  exact ⟨a, o, t, u, c, n, e, kp _ _ ho hc, hc, hd⟩
end G
set_option Elab.async false
set_option linter.all false
set_option maxRecDepth 100000
set_option maxHeartbeats 4000000
namespace PySem.SeqAt
open AutoSeq1 (wpAny_loadPart')
open MeetsSeq MeetsSeq2 MeetsSeq3 SeqRoads2
section
variable {prog : Program} {w : World}
theorem list_neNe (l b : Addr) (items items2 : Array Value) (n n2 : Nat) (dd dd2 : Option Addr) (sl sl2 : Array (Option Value)) (hsz : items.size ≠ items2.size) :
    MeetsIn prog w (Builtin.«list.__ne__» ⟨[.ref l, .ref b], []⟩)
      (fun A R s => s.heap.get? l = some { cls := .type "list", dict := dd, data := .seq items n, slots := sl } ∧ s.heap.get? b = some { cls := .type "list", dict := dd2, data := .seq items2 n2, slots := sl2 } ∧
        R (.ok (.ret (.bool true))) s) := by
  intro A R s h
  obtain ⟨hp, g, d, tk, os⟩ := s; obtain ⟨hl, hb, h⟩ := h
  have f3 := AutoSeq1.sub_list_list
  have hne : (items.size != items2.size) = true := by simp [hsz]
  wp_walk using wpAny_loadPart' hl, wpAny_loadPart' hb
  exact h
theorem rn_listsNe {A : Around} {s : Shared} {l b : Addr} {items items2 : Array Value} (hl : s.heap.IsList l items) (hb : s.heap.IsList b items2) (hsz : items.size ≠ items2.size) (hu : A.units < cLine)
    (E Q : Value → Shared → Prop) (h : Q (.bool true) s) : wpAny (model prog w) A (richCompare .NotEq (.ref l) (.ref b)) Q E s := by
  obtain ⟨⟨cls, dd, data, sl⟩, ho, hc, n, hd⟩ := id hl
  obtain ⟨⟨cls2, dd2, data2, sl2⟩, ho2, hc2, n2, hd2⟩ := id hb
  simp only at hc hd hc2 hd2
  subst hc hd hc2 hd2
  have ta : s.TypeIs (.ref l) "list" := ⟨_, ho, rfl⟩
  have tb : s.TypeIs (.ref b) "list" := ⟨_, ho2, rfl⟩
  exact wpAny_richCompare_same_room (op := .NotEq) ta tb F.slot_list_ne (call_meetsIn F.slot_list_ne ta F.entry_list_ne (F.args_list_ne_2 _ _) (list_neNe l b items items2 n n2 dd dd2 sl sl2 hsz)
    ⟨ho, ho2, show Value.bool true ≠ Value.notImplemented ∧ Q (.bool true) s from ⟨(fun x => nomatch x), h⟩⟩) hu
end
end PySem.SeqAt
namespace G
open PySem PySem.Spec PyProof.Rows L2
section
variable {X : Cx} {j : Nat} {L : Lg} {Q : QV} {p q : Addr} {xs ys : List V}
theorem go_neLen (hr : RoomG j X.A) (ma : (p, HO.lst xs) ∈ L) (mb : (q, HO.lst ys) ∈ L) (ne : xs.length ≠ ys.length) (h : Q (.bl true) L) : GOp X (compareOp .NotEq) (.ref p) (.ref q) L Q := fun pins s σ H v u hH I rx ry => by
  obtain rfl : v = Value.ref p := rx
  obtain rfl : u = Value.ref q := ry
  obtain ⟨its, r, e, z⟩ := I.list (sql hH ma)
  obtain ⟨its2, r2, e2, z2⟩ := I.list (sql hH mb)
  show wpAny (model X.prog X.w) X.A (richCompare .NotEq (.ref p) (.ref q)) _ _ _
  exact PySem.SeqAt.rn_listsNe e.isList e2.isList (by rw [List.size_toArray, List.size_toArray, ← r.length, ← r2.length]; exact ne) hr.toRoom.units0 _ _ ⟨.bl true, H, I, rfl, L, hH, h⟩
/-- xs != [] -/
theorem go_neNil (hr : RoomG j X.A) (ma : (p, HO.lst xs) ∈ L) (mb : (q, HO.lst ([] : List V)) ∈ L) (h : Q (.bl (decide (xs ≠ []))) L) : GOp X (compareOp .NotEq) (.ref p) (.ref q) L Q := by
  cases xs with
  | nil =>
    refine go_neD hr.toRoom (dl_lst ma dls_nil) (dl_lst mb dls_nil) (by rfl) (by rfl) ?_
    rw [show PyData.eqv (.list []) (.list []) = true from by simp [PyData.eqv, PyData.eqvAll]]
    exact h
  | cons x xs =>
    refine go_neLen hr ma mb (by simp) ?_
    rw [decide_eq_true (by simp)] at h
    exact h
end
end G
set_option Elab.async false
set_option linter.all false
set_option maxRecDepth 100000
set_option maxHeartbeats 4000000
namespace G
open PySem PySem.Spec PyProof.Rows L2
end G
set_option Elab.async false
set_option linter.all false
set_option maxRecDepth 100000
set_option maxHeartbeats 4000000
namespace G
open PySem PySem.Spec PyProof.Rows L2
end G
set_option Elab.async false
set_option linter.all false
set_option maxRecDepth 100000
set_option maxHeartbeats 4000000
namespace G
open PySem PySem.Spec PyProof.Rows L2
open L2H (RoomH)
theorem RoomH.in1 {k : Nat} {A : Around} (r : RoomH (k + 1) A) : RoomH k A.in1 :=
  ⟨by have := r.dp; show A.depth + 3 * k + 5 < _; omega, by have := r.un; show A.units + 1 + 16 * k + 200 < _; omega⟩
end G
set_option Elab.async false
set_option linter.all false
set_option maxRecDepth 100000
set_option maxHeartbeats 4000000
namespace PySem.W
open PySem PySem.Spec PyProof.Rows
end PySem.W
namespace L2
open PySem PySem.Spec PyProof.Rows
end L2
namespace G
open PySem PySem.Spec PyProof.Rows L2
end G
set_option Elab.async false
set_option linter.all false
set_option maxRecDepth 100000
set_option maxHeartbeats 4000000
namespace G
open PySem PySem.Spec PyProof.Rows L2
end G
set_option Elab.async false
set_option linter.all false
set_option maxRecDepth 100000
set_option maxHeartbeats 4000000
namespace G
open PySem PySem.Spec PyProof.Rows L2
end G
set_option Elab.async false
set_option linter.all false
set_option maxRecDepth 100000
set_option maxHeartbeats 1000000
namespace PySem
/-- drawing from an object each of whose turns makes new cells: own are the cells that a turn may change, far cells that stand apart -/
structure DrawN (prog : Program) (w : World) (A : Around) (z : Addr) (own far : List Addr) (n : Nat) (P : Nat → Nat → Nat → Value → Heap → Prop) (St : Nat → Heap → Prop) : Prop where
  live : ∀ i h, St i h → ∀ b ∈ own, ∃ o, h.get? b = some o
  frame : ∀ i h h', St i h → (∀ b o, b ∉ far → h.get? b = some o → h'.get? b = some o) → St i h'
  stay : ∀ i lo hi v h h', P i lo hi v h → (∀ b o, lo ≤ b → h.get? b = some o → h'.get? b = some o) → P i lo hi v h'
  widen : ∀ i lo hi lo' hi' v h, lo' ≤ lo → hi ≤ hi' → P i lo hi v h → P i lo' hi' v h
  item : ∀ i (s : Shared) (Q : Option Value → Shared → Prop) (E : Value → Shared → Prop), i < n → St i s.heap → (∀ b ∈ far, b < s.heap.objs.size) →
    (∀ x h' tk, P i s.heap.objs.size h'.objs.size x h' → St (i + 1) h' → s.heap.objs.size ≤ h'.objs.size → (∀ b o, b ∉ own → s.heap.get? b = some o → h'.get? b = some o) → Q (some x) { s with heap := h', toks := tk }) → wpAny (model prog w) A (callSpecial? (.ref z) (Str.ofString "__next__")) Q E s
  done : ∀ (s : Shared) (Q : Option Value → Shared → Prop) (E : Value → Shared → Prop), St n s.heap →
    (∀ h' tk e, (∀ b o, b ∉ own → s.heap.get? b = some o → h'.get? b = some o) → (∃ o, h'.get? e = some o ∧ o.cls = .type "StopIteration") → E (.ref e) { s with heap := h', toks := tk }) → wpAny (model prog w) A (callSpecial? (.ref z) (Str.ofString "__next__")) Q E s
structure ZipAtN (h : Heap) (z TI TO i1 i2 : Addr) (far : List Addr) (St1 St2 : Nat → Heap → Prop) (i : Nat) : Prop where
  ti : IsTupOf2 h TI (.ref i1) (.ref i2)
  to : ∃ o, h.get? TO = some o
  s1 : St1 i h
  s2 : St2 i h
  zz : (IsZip h z TI TO .none ∧ ∃ a1 a2, IsTupOf2 h TO a1 a2) ∨ ∃ T f oT, IsZipO h z TI TO T f ∧ h.get? T = some oT ∧ T ≠ z ∧ T ≠ i1 ∧ T ≠ i2 ∧ T ∉ far
def PZip (P1 P2 : Nat → Value → Prop) (i lo hi : Nat) (v : Value) (h : Heap) : Prop := ∃ T x1 x2, v = .ref T ∧ lo ≤ T ∧ T < hi ∧ P1 i x1 ∧ P2 i x2 ∧ IsTupOf2 h T x1 x2
section
variable {prog : Program} {w : World} {A : Around} {E : Value → Shared → Prop} {s : Shared} {z TI TO i1 i2 e it : Addr} {far own fp1 fp2 : List Addr} {n n1 n2 i : Nat} {P1 P2 : Nat → Value → Prop} {St1 St2 St : Nat → Heap → Prop} {P : Nat → Nat → Nat → Value → Heap → Prop}
theorem own4 {z TO i1 i2 b : Addr} (h : b ∉ [z, TO, i1, i2]) : b ≠ z ∧ b ≠ TO ∧ b ≠ i1 ∧ b ≠ i2 := by
  simp only [List.mem_cons, List.not_mem_nil, or_false, not_or] at h
  exact h
theorem DrawN.zip (D : ZipSep2 z TI TO i1 i2 fp1 fp2) (D1 : Draws prog w A.in1 i1 fp1 n1 P1 St1) (D2 : Draws prog w A.in1 i2 fp2 n2 P2 St2) (f1 : ∀ b ∈ far, b ∉ fp1) (f2 : ∀ b ∈ far, b ∉ fp2) (fz : z ∉ far) (fT : TI ∉ far) (fO : TO ∉ far) :
    DrawN prog w A z [z, TO, i1, i2] far (min n1 n2) (PZip P1 P2) (fun i h => ZipAtN h z TI TO i1 i2 far St1 St2 i) where
  live := fun i h st b hb => by
    obtain ⟨hti, to, s1, s2, zz⟩ := st
    simp only [List.mem_cons, List.not_mem_nil, or_false] at hb
    rcases hb with rfl | rfl | rfl | rfl
    · rcases zz with ⟨hz, _⟩ | ⟨T, f, oT, hz, _⟩ <;> exact ⟨_, hz⟩
    · exact to
    · exact D1.live _ _ s1
    · exact D2.live _ _ s2
  frame := fun i h h' st k => by
    obtain ⟨hti, ⟨o, to⟩, s1, s2, zz⟩ := st
    refine ⟨k _ _ fT hti, ⟨o, k _ _ fO to⟩, D1.frame _ _ _ s1 fun b hb o e => k b o (fun q => f1 b q hb) e, D2.frame _ _ _ s2 fun b hb o e => k b o (fun q => f2 b q hb) e, ?_⟩
    rcases zz with ⟨hz, x1, x2, hTO⟩ | ⟨T, f, oT, hz, hT, t1, t2, t3, t4⟩
    · exact .inl ⟨k _ _ fz hz, x1, x2, k _ _ fO hTO⟩
    · exact .inr ⟨T, f, oT, k _ _ fz hz, k _ _ t4 hT, t1, t2, t3, t4⟩
  stay := fun i lo hi v h h' ⟨T, x1, x2, e, l, u, p1, p2, t⟩ k => ⟨T, x1, x2, e, l, u, p1, p2, k _ _ l t⟩
  widen := fun i lo hi lo' hi' v h a b ⟨T, x1, x2, e, l, u, r⟩ => ⟨T, x1, x2, e, Nat.le_trans a l, Nat.lt_of_lt_of_le u b, r⟩
  item := fun i s Q E hi st hfar hQ => by
    obtain ⟨hti, ⟨o, to⟩, s1, s2, zz⟩ := st
    obtain ⟨o1, e1⟩ := D1.live i s.heap s1
    obtain ⟨o2, e2⟩ := D2.live i s.heap s2
    rcases zz with ⟨hz, a1, a2, hTO⟩ | ⟨T, f, oT, hz, hT, t1, t2, t3, t4⟩
    · have hTy : s.TypeIs (.ref z) "zip" := ⟨_, hz, rfl⟩
      refine wpAny_callSpecial?_slot (name := Str.ofString "__next__") hTy F.slot_zip_next (wpAny_call_entry F.slot_zip_next hTy F.entry_zip_next
        (zipD2_next_item D D1 D2 hz hti hTO s1 s2 (by omega) (by omega) fun x1 x2 h' tk y1 y2 b1 b2 d1 d2 b5 b6 b7 => ?_) (F.args_zip_next_1 _))
      refine hQ _ h' tk ⟨_, x1, x2, rfl, Nat.le_refl _, by rw [b6]; exact Nat.lt_succ_self _, y1, y2, b5⟩ ⟨b7 _ _ D.TIz D.TITO D.TIi1 D.TIi2 hti, ⟨_, b2⟩, d1, d2, .inr ⟨_, _, _, b1, b5, Nat.ne_of_gt (Heap.lt_size hz), Nat.ne_of_gt (Heap.lt_size e1), Nat.ne_of_gt (Heap.lt_size e2), fun q => Nat.lt_irrefl _ (hfar _ q)⟩⟩ (by rw [b6]; exact Nat.le_succ _) fun b o hb q => ?_
      obtain ⟨c1, c2, c3, c4⟩ := own4 hb
      exact b7 b o c1 c2 c3 c4 q
    · have hTy : s.TypeIs (.ref z) "zip" := ⟨_, hz, rfl⟩
      refine wpAny_callSpecial?_slot (name := Str.ofString "__next__") hTy F.slot_zip_next (wpAny_call_entry F.slot_zip_next hTy F.entry_zip_next
        (zipD2_next_out D D1 D2 hz hT hti s1 s2 (by omega) (by omega) fun x1 x2 h' tk y1 y2 b1 d1 d2 b5 b6 b7 => ?_) (F.args_zip_next_1 _))
      refine hQ _ h' tk ⟨_, x1, x2, rfl, Nat.le_refl _, by rw [b6]; exact Nat.lt_succ_self _, y1, y2, b5⟩ ⟨b7 _ _ D.TIz D.TIi1 D.TIi2 hti, ⟨o, b7 _ _ D.TOz D.Ti1 D.Ti2 to⟩, d1, d2, .inr ⟨T, true, oT, b1, b7 _ _ t1 t2 t3 hT, t1, t2, t3, t4⟩⟩ (by rw [b6]; exact Nat.le_succ _) fun b o hb q => ?_
      obtain ⟨c1, c2, c3, c4⟩ := own4 hb
      exact b7 b o c1 c3 c4 q
  done := fun s Q E st hE => by
    obtain ⟨hti, _, s1, s2, zz⟩ := st
    rcases zz with ⟨hz, a1, a2, hTO⟩ | ⟨T, f, oT, hz, hT, t1, t2, t3, t4⟩
    · have hTy : s.TypeIs (.ref z) "zip" := ⟨_, hz, rfl⟩
      refine wpAny_callSpecial?_slot (name := Str.ofString "__next__") hTy F.slot_zip_next (wpAny_call_entry F.slot_zip_next hTy F.entry_zip_next
        (zipD2_next_end D D1 D2 hz hti hTO s1 s2 (by omega) (by omega) (by omega) fun h' tk e k he => hE h' tk e (fun b o hb q => ?_) he) (F.args_zip_next_1 _))
      obtain ⟨c1, c2, c3, c4⟩ := own4 hb
      exact k b o c1 c2 c3 c4 q
    · have hTy : s.TypeIs (.ref z) "zip" := ⟨_, hz, rfl⟩
      refine wpAny_callSpecial?_slot (name := Str.ofString "__next__") hTy F.slot_zip_next (wpAny_call_entry F.slot_zip_next hTy F.entry_zip_next
        (zipD2_out_end D D1 D2 hz hT hti s1 s2 (by omega) (by omega) (by omega) fun h' tk e k he => hE h' tk e (fun b o hb q => ?_) he) (F.args_zip_next_1 _))
      obtain ⟨c1, c2, c3, c4⟩ := own4 hb
      exact k b o c1 c3 c4 q
theorem nextOf_of {Q : Value → Shared → Prop} (h : wpAny (model prog w) A (callSpecial? (.ref z) (Str.ofString "__next__")) (fun r s' => ∃ v, r = some v ∧ Q v s') E s) : wpAny (model prog w) A (Builtin.SmallTypes.nextOf (.ref z)) Q E s := by
  unfold Builtin.SmallTypes.nextOf
  refine wpAny_bind (wpAny_mono h (fun r s' hr => ?_) fun _ _ z => z)
  obtain ⟨v, rfl, q⟩ := hr
  exact wpAny_pure q
abbrev IsE (h : Heap) (e it : Addr) (c : Int) (o0 : Value) (f : Bool) (old : Value) : Prop :=
  h.get? e = some { cls := .type "enumerate", dict := none, data := .fields #[o0, .bool f, .ref it, rawInt c, .none, old], slots := #[] }
def EnumAtN (h : Heap) (e it : Addr) (own far : List Addr) (St : Nat → Heap → Prop) (i : Nat) : Prop :=
  St i h ∧ ((∃ old, IsE h e it i .none false old) ∨ ∃ (x : Value) (T : Addr) (f : Bool) (oT : Obj), IsE h e it i (rawInt T) f x ∧ h.get? T = some oT ∧ T ∉ far ∧ T ≠ e ∧ T ∉ own)
def PEnum (P : Nat → Nat → Nat → Value → Heap → Prop) (i lo hi : Nat) (v : Value) (h : Heap) : Prop := ∃ T tk x, v = .ref T ∧ lo ≤ T ∧ T < hi ∧ h.get? T = some { cls := .type "tuple", data := .seq #[.int (i : Int) tk, x] } ∧ P i lo T x h
theorem enumN_next {Q : Value → Shared → Prop} (D : DrawN prog w A it own (e :: far) n P St) (he0 : e ∉ own) (hfe : e ∉ far) (st : EnumAtN s.heap e it own far St i) (hlt : i < n) (hfar : ∀ b ∈ far, b < s.heap.objs.size)
    (hQ : ∀ x h' tk, PEnum P i s.heap.objs.size h'.objs.size x h' → EnumAtN h' e it own far St (i + 1) → s.heap.objs.size ≤ h'.objs.size → (∀ b o, b ∉ e :: own → s.heap.get? b = some o → h'.get? b = some o) → Q x { s with heap := h', toks := tk }) :
    wpAny (model prog w) A (Builtin.«enumerate.__next__» ⟨[.ref e], []⟩) (fun fin s' => ∃ v, fin = .done (.ret v) ∧ Q v s') E s := by
  obtain ⟨hp, g, d, tk₀, os⟩ := s
  obtain ⟨hst, hee⟩ := st
  obtain ⟨o0, f, old, he, hx⟩ : ∃ o0 f old, IsE hp e it i o0 f old ∧ ((o0 = .none ∧ f = false) ∨ ∃ (T : Addr) (oT : Obj), o0 = rawInt T ∧ hp.get? T = some oT ∧ T ∉ far ∧ T ≠ e ∧ T ∉ own) := by
    rcases hee with ⟨old, h⟩ | ⟨x, T, f, oT, h, a, b, c, d⟩
    · exact ⟨_, _, _, h, .inl ⟨rfl, rfl⟩⟩
    · exact ⟨_, _, _, h, .inr ⟨T, oT, rfl, a, b, c, d⟩⟩
  clear hee
  have hel : e < hp.objs.size := Heap.lt_size he
  show wpAny _ _ (field (.ref e) 2 >>= _) _ _ _
  refine wpAny_bind (wpAny_field he rfl (x := .ref it) rfl ?_)
  refine wpAny_bind (nextOf_of (D.item i _ _ _ hlt hst (fun b hb => ?_) fun x h₁ tk hPx hst₁ hz1 hk1 => ⟨_, rfl, ?_⟩))
  · rcases List.mem_cons.mp hb with rfl | hb
    · exact hel
    · exact hfar b hb
  dsimp only at hPx hz1 hk1 ⊢
  have he₁ : IsE h₁ e it i o0 f old := hk1 _ _ he0 he
  show wpAny _ _ (field (.ref e) 3 >>= _) _ _ ⟨h₁, g, d, tk, os⟩
  refine wpAny_bind (wpAny_field he₁ rfl (x := rawInt (i : Int)) rfl ?_)
  show wpAny _ _ (field (.ref e) 4 >>= _) _ _ ⟨h₁, g, d, tk, os⟩
  refine wpAny_bind (wpAny_field he₁ rfl (x := .none) rfl ?_)
  show wpAny _ _ (mkInt (i : Int) >>= _) _ _ ⟨h₁, g, d, tk, os⟩
  refine wpAny_bind (wpAny_mkInt ?_)
  show wpAny _ _ (setField (.ref e) 3 (rawInt ((i : Int) + 1)) >>= _) _ _ ⟨h₁, g, d, tk + 1, os⟩
  refine wpAny_bind (wpAny_setField_rec he₁ (by simp) fun h₂ he₂ hs₂ => ?_)
  replace hs₂ : Heap.SameBut e h₁ h₂ := hs₂
  replace he₂ : IsE h₂ e it ((i : Int) + 1) o0 f old := he₂
  show wpAny _ _ (setField (.ref e) 4 .none >>= _) _ _ ⟨h₂, g, d, tk + 1, os⟩
  refine wpAny_bind (wpAny_setField_rec he₂ (by simp) fun h₃ he₃ hs₃ => ?_)
  replace hs₃ : Heap.SameBut e h₂ h₃ := hs₃
  replace he₃ : IsE h₃ e it ((i : Int) + 1) o0 f old := he₃
  show wpAny _ _ (newTuple [.int (i : Int) tk, x] >>= _) _ _ ⟨h₃, g, d, tk + 1, os⟩
  refine wpAny_bind (wpAny_newTuple ?_)
  have he₄ : IsE (h₃.push { cls := .type "tuple", data := .seq #[.int (i : Int) tk, x] }) e it ((i : Int) + 1) o0 f old := Heap.get?_push_of_some _ he₃
  generalize hh₄ : h₃.push { cls := .type "tuple", data := .seq #[.int (i : Int) tk, x] } = h₄ at he₄
  have hsz : h₃.objs.size = h₁.objs.size := by rw [hs₃.1, hs₂.1]
  have ht₄ : h₄.get? h₁.objs.size = some { cls := .type "tuple", data := .seq #[.int (i : Int) tk, x] } := by rw [← hh₄, ← hsz]; exact Heap.get?_push_size _ rfl
  have hz₄ : h₄.objs.size = h₁.objs.size + 1 := by rw [← hh₄, Heap.size_push, hsz]
  have hk₄ : ∀ b o, b ≠ e → h₁.get? b = some o → h₄.get? b = some o := fun b o hbe hb => by
    rw [← hh₄]; exact Heap.get?_push_of_some _ (hs₃.extBut b o hbe (hs₂.extBut b o hbe hb))
  have e1 : ((i + 1 : Nat) : Int) = (i : Int) + 1 := by omega
  -- what stands at the end
  have fin : ∀ h' tk', Heap.SameBut e h₄ h' → ((∃ (y : Value) (T : Addr) (f' : Bool) (oT : Obj), IsE h' e it ((i : Int) + 1) (rawInt T) f' y ∧ h'.get? T = some oT ∧ T ∉ far ∧ T ≠ e ∧ T ∉ own)) → Q (.ref h₁.objs.size) ⟨h', g, d, tk', os⟩ := fun h' tk' hs hh => by
    have kall : ∀ b o, b ≠ e → h₁.get? b = some o → h'.get? b = some o := fun b o hbe hb => hs.extBut b o hbe (hk₄ b o hbe hb)
    have hsz' : h'.objs.size = h₁.objs.size + 1 := by rw [hs.1, hz₄]
    refine hQ _ h' tk' ⟨h₁.objs.size, tk, x, rfl, hz1, by rw [hsz']; exact Nat.lt_succ_self _, hs.extBut _ _ (Nat.ne_of_gt (Nat.lt_of_lt_of_le hel hz1)) ht₄, D.stay _ _ _ _ _ _ hPx fun b o hb q => kall b o (Nat.ne_of_gt (Nat.lt_of_lt_of_le hel hb)) q⟩ ⟨D.frame _ _ _ hst₁ fun b o hb q => kall b o (fun z => hb (z ▸ List.mem_cons_self)) q, .inr ?_⟩ (by show hp.objs.size ≤ _; rw [hsz']; omega) fun b o hb q => ?_
    · rw [e1]; exact hh
    · exact kall b o (fun z => hb (z ▸ List.mem_cons_self)) (hk1 b o (fun z => hb (List.mem_cons_of_mem _ z)) q)
  have tfar : h₁.objs.size ∉ far ∧ h₁.objs.size ≠ e ∧ h₁.objs.size ∉ own := by
    refine ⟨fun z => ?_, Nat.ne_of_gt (Nat.lt_of_lt_of_le hel hz1), fun z => ?_⟩
    · exact absurd (hfar _ z) (Nat.not_lt.mpr hz1)
    · obtain ⟨o, ho⟩ := D.live _ _ hst₁ _ z
      exact Nat.lt_irrefl _ (Heap.lt_size ho)
  show wpAny _ _ (Builtin.SmallTypes.ownedTupleIsFree (.ref e) >>= _) _ _ ⟨h₄, g, d, tk + 1, os⟩
  rw [hsz]
  clear hh₄ he₃ hs₃ he₂ hs₂ he₁ hsz
  rcases hx with ⟨rfl, rfl⟩ | ⟨T, oT, rfl, hT, t1, t2, t3⟩
  · refine wpAny_bind ?_
    unfold Builtin.SmallTypes.ownedTupleIsFree
    refine wpAny_bind (wpAny_field he₄ rfl (x := .none) rfl (wpAny_pure ?_))
    simp only [if_true]
    refine wpAny_bind (wpAny_rule ?_)
    refine wpAny_bind (wpAny_field he₄ rfl (x := old) rfl ?_)
    refine wpAny_bind (wpAny_setField_rec he₄ (by simp) fun h₅ he₅ hs₅ => ?_)
    replace hs₅ : Heap.SameBut e h₄ h₅ := hs₅
    replace he₅ : IsE h₅ e it ((i : Int) + 1) .none false x := he₅
    show wpAny _ _ (Builtin.SmallTypes.ownedTupleHandOut (.ref e) (.ref h₁.objs.size) >>= _) _ _ ⟨h₅, g, d, tk + 1, os⟩
    refine wpAny_bind ?_
    unfold Builtin.SmallTypes.ownedTupleHandOut
    refine wpAny_bind (wpAny_setField_rec he₅ (by simp) fun h₆ he₆ hs₆ => ?_)
    replace hs₆ : Heap.SameBut e h₅ h₆ := hs₆
    replace he₆ : IsE h₆ e it ((i : Int) + 1) (rawInt h₁.objs.size) false x := he₆
    refine wpAny_setField_rec he₆ (by simp) fun h₇ he₇ hs₇ => ?_
    replace hs₇ : Heap.SameBut e h₆ h₇ := hs₇
    replace he₇ : IsE h₇ e it ((i : Int) + 1) (rawInt h₁.objs.size) false x := he₇
    have hs : Heap.SameBut e h₄ h₇ := ⟨by rw [hs₇.1, hs₆.1, hs₅.1], fun b hb => (hs₇.2 b hb).trans ((hs₆.2 b hb).trans (hs₅.2 b hb))⟩
    exact wpAny_bind (wpAny_letGo (wpAny_pure ⟨_, rfl, fin h₇ _ hs ⟨_, _, _, _, he₇, hs.extBut _ _ tfar.2.1 ht₄, tfar⟩⟩))
  · refine wpAny_bind (wpAny_tupleHeld_enum (s := ⟨h₄, g, d, tk + 1, os⟩) he₄ (hk₄ T oT t2 (hk1 _ _ t3 hT)) fun h₅ he₅ hs₅ => ?_)
    replace hs₅ : Heap.SameBut e h₄ h₅ := hs₅
    simp only [Bool.false_eq_true, if_false]
    exact wpAny_pure ⟨_, rfl, fin h₅ _ hs₅ ⟨_, T, _, oT, he₅, hs₅.extBut _ _ t2 (hk₄ T oT t2 (hk1 _ _ t3 hT)), t1, t2, t3⟩⟩
theorem DrawN.enum (D : DrawN prog w A.in1 it own (e :: far) n P St) (he0 : e ∉ own) (hfe : e ∉ far) : DrawN prog w A e (e :: own) far n (PEnum P) (fun i h => EnumAtN h e it own far St i) where
  live := fun i h st b hb => by
    rcases List.mem_cons.mp hb with rfl | hb
    · rcases st.2 with ⟨_, h⟩ | ⟨_, _, _, _, h, _⟩ <;> exact ⟨_, h⟩
    · exact D.live _ _ st.1 b hb
  frame := fun i h h' st k => by
    obtain ⟨hst, hee⟩ := st
    refine ⟨D.frame _ _ _ hst fun b o hb q => k b o (fun z => hb (List.mem_cons_of_mem _ z)) q, ?_⟩
    rcases hee with ⟨old, h⟩ | ⟨x, T, f, oT, h, a, b, c, d⟩
    · exact .inl ⟨old, k _ _ hfe h⟩
    · exact .inr ⟨x, T, f, oT, k _ _ hfe h, k _ _ b a, b, c, d⟩
  stay := fun i lo hi v h h' ⟨T, tk, x, e, l, u, t, p⟩ k => ⟨T, tk, x, e, l, u, k _ _ l t, D.stay _ _ _ _ _ _ p k⟩
  widen := fun i lo hi lo' hi' v h a b ⟨T, tk, x, e, l, u, t, p⟩ => ⟨T, tk, x, e, Nat.le_trans a l, Nat.lt_of_lt_of_le u b, t, D.widen _ _ _ _ _ _ _ a (Nat.le_refl _) p⟩
  item := fun i s Q E hi st hfar hQ => by
    have hTy : s.TypeIs (.ref e) "enumerate" := by rcases st.2 with ⟨_, h⟩ | ⟨_, _, _, _, h, _⟩ <;> exact ⟨_, h, rfl⟩
    exact wpAny_callSpecial?_slot (name := Str.ofString "__next__") hTy F.slot_enumerate_next (wpAny_call_entry F.slot_enumerate_next hTy F.entry_enumerate_next
      (enumN_next D he0 hfe st hi hfar fun x h' tk a b c d => hQ x h' tk a b c d) (F.args_enumerate_next_1 _))
  done := fun s Q E st hE => by
    obtain ⟨hst, hee⟩ := st
    have hTy : s.TypeIs (.ref e) "enumerate" := by rcases hee with ⟨_, h⟩ | ⟨_, _, _, _, h, _⟩ <;> exact ⟨_, h, rfl⟩
    obtain ⟨o0, f, old, he⟩ : ∃ o0 f old, IsE s.heap e it n o0 f old := by
      rcases hee with ⟨old, h⟩ | ⟨x, T, f, oT, h, _⟩
      · exact ⟨_, _, _, h⟩
      · exact ⟨_, _, _, h⟩
    refine wpAny_callSpecial?_slot (name := Str.ofString "__next__") hTy F.slot_enumerate_next (wpAny_call_entry F.slot_enumerate_next hTy F.entry_enumerate_next ?_ (F.args_enumerate_next_1 _))
    show wpAny _ _ (field (.ref e) 2 >>= _) _ _ _
    refine wpAny_bind (wpAny_field he rfl (x := .ref it) rfl ?_)
    exact wpAny_bind (nextOf_of (D.done _ _ _ hst fun h' tk e' k he' => hE h' tk e' (fun b o hb q => k b o (fun z => hb (List.mem_cons_of_mem _ z)) q) he'))
end
end PySem
namespace PySem
namespace F
theorem enum_no_len : typeLookup (.type "enumerate") "__len__" = pure none := by rw [typeLookup_type, builtinLookup_eq_fast]; kernel_rfl
theorem enum_no_hint : typeLookup (.type "enumerate") "__length_hint__" = pure none := by rw [typeLookup_type, builtinLookup_eq_fast]; kernel_rfl
end F
/-- what a list holds that has drawn n times; lo: where the cells of each turn begin -/
structure GotF (P : Nat → Nat → Nat → Value → Heap → Prop) (S n : Nat) (h : Heap) (acc : Array Value) (lo : Nat → Nat) : Prop where
  size : acc.size = n
  low : ∀ j, j ≤ n → S < lo j
  got : ∀ j v, acc[j]? = some v → lo j ≤ lo (j + 1) ∧ P j (lo j) (lo (j + 1)) v h
structure GotN (P : Nat → Nat → Nat → Value → Heap → Prop) (S n : Nat) (h : Heap) (acc : Array Value) (lo : Nat → Nat) : Prop extends GotF P S n h acc lo where
  top : lo n ≤ h.objs.size
section
variable {prog : Program} {w : World} {A : Around} {E : Value → Shared → Prop} {s : Shared} {z S : Addr} {own : List Addr} {n : Nat} {P : Nat → Nat → Nat → Value → Heap → Prop} {St : Nat → Heap → Prop} {R : Result → Shared → Prop}
theorem GotF.grow {i : Nat} {h h' : Heap} {acc : Array Value} {lo : Nat → Nat} (D : DrawN prog w A z own [S] n P St) (g : GotF P S i h acc lo) (k : ∀ b o, S < b → h.get? b = some o → h'.get? b = some o) : GotF P S i h' acc lo :=
  ⟨g.size, g.low, fun j v hj => ⟨(g.got j v hj).1, D.stay _ _ _ _ _ _ (g.got j v hj).2 fun b o hb q => k b o (Nat.lt_of_lt_of_le (g.low j (by have := (Array.getElem?_eq_some_iff.mp hj).1; rw [g.size] at this; omega)) hb) q⟩⟩
theorem GotN.grow {i : Nat} {h h' : Heap} {acc : Array Value} {lo : Nat → Nat} (D : DrawN prog w A z own [S] n P St) (g : GotN P S i h acc lo) (k : ∀ b o, S < b → h.get? b = some o → h'.get? b = some o) (hz : h.objs.size ≤ h'.objs.size) : GotN P S i h' acc lo :=
  ⟨g.toGotF.grow D k, Nat.le_trans g.top hz⟩
theorem GotN.push {i : Nat} {h : Heap} {acc : Array Value} {lo : Nat → Nat} {x : Value} {m : Nat} (g : GotN P S i h acc lo) (D : DrawN prog w A z own [S] n P St) (hm : lo i ≤ m) (p : P i m h.objs.size x h) (hz : m ≤ h.objs.size) : ∃ lo', GotN P S (i + 1) h (acc.push x) lo' := by
  refine ⟨fun j => if j ≤ i then lo j else h.objs.size, ⟨?_, ?_, ?_⟩, ?_⟩
  · rw [Array.size_push, g.size]
  · intro j hj
    show S < (if _ then _ else _)
    have l := g.low i (Nat.le_refl _)
    have t := g.top
    have e := Nat.lt_of_lt_of_le l t
    split
    · exact g.low j (by assumption)
    · exact e
  · intro j v hj
    show (if _ then _ else _) ≤ (if _ then _ else _) ∧ P j (if _ then _ else _) (if _ then _ else _) v h
    rcases Nat.lt_trichotomy j i with h1 | h1 | h1
    · rw [if_pos (by omega), if_pos (by omega)]
      have e : (acc.push x)[j]? = acc[j]? := by rw [Array.getElem?_push, if_neg (by rw [g.size]; omega)]
      rw [e] at hj
      exact g.got j v hj
    · subst h1
      rw [if_pos (Nat.le_refl _), if_neg (by omega)]
      have e : (acc.push x)[j]? = some x := by rw [Array.getElem?_push, if_pos g.size.symm]
      rw [e] at hj
      cases hj
      exact ⟨Nat.le_trans hm hz, D.widen _ _ _ _ _ _ _ hm (Nat.le_refl _) p⟩
    · exfalso
      have := (Array.getElem?_eq_some_iff.mp hj).1
      rw [Array.size_push, g.size] at this
      omega
  · show (if _ then _ else _) ≤ _
    rw [if_neg (by omega)]
    exact Nat.le_refl _
theorem listN_loop (D : DrawN prog w A.in1 z own [S] n P St) (hS : ∀ b ∈ own, b < S) (hn : n ≤ sizeLine) (res : Value) {h₁ : Heap}
    (hR : ∀ h' tk acc c lo, (∀ b o, b ≠ S → b ∉ own → h₁.get? b = some o → h'.get? b = some o) → h'.get? S = some { cls := .type "list", dict := none, data := .seq acc c, slots := #[] } → GotF P S n h' acc lo → R (.ok (.ret res)) { s with heap := h', toks := tk }) :
    ∀ (k i : Nat) (h : Heap) (tk c : Nat) (acc : Array Value) (lo : Nat → Nat), n - i = k → i ≤ n → St i h → (∀ b o, b ≠ S → b ∉ own → h₁.get? b = some o → h.get? b = some o) →
      h.get? S = some { cls := .type "list", dict := none, data := .seq acc c, slots := #[] } → GotN P S i h acc lo →
      codeAny (model prog w) A (.builtin "list.extend.loop" ⟨[.ref S, .ref z, res], []⟩) R { s with heap := h, toks := tk } := by
  have Sown : S ∉ own := fun m => Nat.lt_irrefl _ (hS S m)
  have up : ∀ {b : Addr}, S < b → b ∉ own := fun {b} h m => Nat.lt_asymm h (hS b m)
  intro k
  induction k with
  | zero =>
    intro i h tk c acc lo hk hi hst hkeep hL hG
    obtain rfl : i = n := by omega
    refine codeAny_builtin PySem.F.entry_extend_loop ?_
    rw [Around.under_plainId PySem.F.plain_extend_loop _]
    show wpAny _ A.in1 (pyNext (.ref z) >>= _) _ _ _
    unfold pyNext
    refine wpAny_bind (wpAny_bind (wpAny_attempt (D.done _ _ _ hst fun h' tk' e he hst' => ?_)))
    obtain ⟨o, ho, hc⟩ := hst'
    refine wpAny_bind (wpAny_isInstance (T := "StopIteration") (b := true) ⟨o, ho, hc⟩ isSubtype_stop ?_)
    refine wpAny_pure ?_
    exact wpAny_pure (hR h' tk' acc c lo (fun b o h1 h2 q => he b o h2 (hkeep b o h1 h2 q)) (he S _ Sown hL) (hG.toGotF.grow D fun b o hb q => he b o (up hb) q))
  | succ k ih =>
    intro i h tk c acc lo hk hi hst hkeep hL hG
    refine codeAny_builtin PySem.F.entry_extend_loop ?_
    rw [Around.under_plainId PySem.F.plain_extend_loop _]
    show wpAny _ A.in1 (pyNext (.ref z) >>= _) _ _ _
    unfold pyNext
    refine wpAny_bind (wpAny_bind (wpAny_attempt (D.item i _ _ _ (by omega) hst (fun b hb => by rw [List.mem_singleton.mp hb]; exact Heap.lt_size hL) fun x h' tk' p hst' hz hkp => ?_)))
    dsimp only at p hz hkp ⊢
    refine wpAny_pure ?_
    have hL' := hkp S _ Sown hL
    have upd : ∀ b o, b ≠ S → h'.get? b = some o → (h'.update S (Obj.mapSeq (·.push x))).get? b = some o := fun b o hb e => (Heap.get?_update_other _ _ (Ne.symm hb)).trans e
    have us : (h'.update S (Obj.mapSeq (·.push x))).objs.size = h'.objs.size := (Heap.SameBut.update ..).1
    show wpAny _ A.in1 (updateSeq S (·.push x) >>= _) _ _ _
    have G1 : GotN P S i (h'.update S (Obj.mapSeq (·.push x))) acc lo := hG.grow D (fun b o hb q => upd b o (Nat.ne_of_gt hb) (hkp b o (up hb) q)) (by rw [us]; exact hz)
    obtain ⟨lo', G2⟩ := G1.push (x := x) (m := h.objs.size) D hG.top (by rw [us]; exact D.stay _ _ _ _ _ _ p fun b o hb q => upd b o (Nat.ne_of_gt (Nat.lt_of_lt_of_le (Heap.lt_size hL) hb)) q) (by rw [us]; exact hz)
    refine wpAny_bind ?_
    refine wpAny_updateSeq hL' rfl (wpAny_pure ⟨plainId_quiet PySem.F.plain_extend_loop _, ih (i + 1) _ tk' _ (acc.push x) lo' (by omega) (by omega) (D.frame _ _ _ hst' fun b o hb q => upd b o (fun e => hb (e ▸ List.mem_cons_self)) q)
      (fun b o h1 h2 q => upd b o h1 (hkp b o h2 (hkeep b o h1 h2 q))) (Heap.get?_update_self _ hL' rfl) G2⟩) (by rw [hG.size]; omega) (by show (acc.push x).size ≤ sizeLine + 1; rw [Array.size_push, hG.size]; omega)
/-- list(e) of a new enumerate -/
theorem listN_call {Q : Value → Shared → Prop} {it : Value} (D : ∀ A : Around, A.handled = none → DrawN prog w A z own [s.heap.objs.size] n P St) (hh : A.handled = none)
    (he : ∃ oe, s.heap.get? z = some oe ∧ oe.cls = .type "enumerate") (hit : ∀ (A : Around) (E : Value → Shared → Prop) (Q : Value → Shared → Prop) (s' : Shared), (∀ o, s.heap.get? z = some o → s'.heap.get? z = some o) → Q (.ref z) s' → wpAny (model prog w) A (pyIter (.ref z)) Q E s')
    (st : St 0 s.heap) (hn : n ≤ sizeLine)
    (hQ : ∀ h' tk acc c lo, (∀ b o, b ∉ own → s.heap.get? b = some o → h'.get? b = some o) → h'.get? s.heap.objs.size = some { cls := .type "list", dict := none, data := .seq acc c, slots := #[] } → GotF P s.heap.objs.size n h' acc lo → Q (.ref s.heap.objs.size) { s with heap := h', toks := tk }) :
    wpAny (model prog w) A (call (.type "list") [.ref z]) Q E s := by
  obtain ⟨oe, he, hc⟩ := he
  have zl : z < s.heap.objs.size := Heap.lt_size he
  have hSz : s.heap.objs.size ≠ z := Nat.ne_of_gt zl
  refine callType_codes (Q₁ := fun obj s₁ => obj = .ref s.heap.objs.size ∧ s₁ = { s with heap := s.heap.push { cls := .type "list", data := .seq #[] } }) F.called_list (F.typeCall_list_1 _) F.entry_list_init
    (code_list_new _ ⟨rfl, rfl⟩) fun obj s₁ h₁ => ?_
  obtain ⟨rfl, rfl⟩ := h₁
  have hS : (s.heap.push { cls := .type "list", data := .seq #[] }).get? s.heap.objs.size = some { cls := .type "list", data := .seq #[] } := Heap.get?_push_size _ rfl
  refine ⟨⟨_, hS, rfl⟩, F.args_list_init_2 _ _, ?_⟩
  show wpAny _ A.in1.in1 (do let old ← Builtin.List.listItems (.ref s.heap.objs.size); Builtin.List.listUpdate (.ref s.heap.objs.size) (fun _ => #[]); letGo old.toList.reverse; Builtin.List.listExtendWith (.ref s.heap.objs.size) (.ref z) .none) _ _ _
  refine wpAny_bind ?_
  unfold Builtin.List.listItems
  refine wpAny_bind (wpAny_seqItems hS rfl (wpAny_pure ?_))
  show wpAny _ A.in1.in1 (updateSeq s.heap.objs.size (fun _ => #[]) >>= fun _ => letGo (#[] : Array Value).toList.reverse >>= fun _ => Builtin.List.listExtendWith (.ref s.heap.objs.size) (.ref z) .none) _ _ _
  refine wpAny_bind (wpAny_updateSeq hS rfl ?_)
  have hS2 := Heap.get?_update_self (Obj.mapSeq (fun _ => (#[] : Array Value))) hS rfl
  refine wpAny_bind (wpAny_letGo ?_)
  unfold Builtin.List.listExtendWith
  have up : ∀ (h : Heap) (f : Obj → Obj), (∀ b o, s.heap.get? b = some o → h.get? b = some o) → ∀ b o, s.heap.get? b = some o → (h.update s.heap.objs.size f).get? b = some o := fun h f q b o e =>
    (Heap.get?_update_other _ _ (Ne.symm (Nat.ne_of_lt (Heap.lt_size e)))).trans (q b o e)
  have k1 : ∀ b o, s.heap.get? b = some o → (s.heap.push { cls := .type "list", data := .seq #[] }).get? b = some o := fun b o e => Heap.get?_push_of_some _ e
  have k2 := up _ (Obj.mapSeq (fun _ => (#[] : Array Value))) k1
  have gty : ∀ {h : Heap}, (∀ b o, s.heap.get? b = some o → h.get? b = some o) → Shared.TypeIs { s with heap := h } (.ref z) "enumerate" := fun {h} q => ⟨_, q _ _ he, hc⟩
  refine wpAny_bind (wpAny_typeOf (gty k2) ?_)
  have h1 : Builtin.List.listSameRef (.ref s.heap.objs.size) (.ref z) = false := by simp [Builtin.List.listSameRef, hSz]
  have h2 : (Value.type "enumerate" == Value.type "list") = false := by decide
  have h3 : (Value.type "enumerate" == Value.type "tuple") = false := by decide
  simp only [h1, h2, h3, Bool.or_false, Bool.false_eq_true, if_false]
  refine wpAny_bind (hit _ _ _ _ (fun o q => k2 _ _ q) ?_)
  refine wpAny_bind (wpAny_holding ?_)
  unfold Builtin.List.listLengthHint
  refine wpAny_bind (wpAny_specialOf (gty k2) F.enum_no_len ?_)
  show wpAny _ A.in1.in1 (specialOf (Value.ref z) (Str.ofString "__length_hint__") >>= _) _ _ _
  refine wpAny_bind (wpAny_specialOf (gty k2) F.enum_no_hint ?_)
  refine wpAny_pure ?_
  show wpAny _ A.in1.in1 (rule "list.extend.makes-room" >>= fun _ => Builtin.List.listTouch (.ref s.heap.objs.size) >>= fun _ =>
    again (.builtin "list.extend.loop" ⟨[.ref s.heap.objs.size, .ref z, .none], []⟩)) _ _ _
  refine wpAny_bind (wpAny_rule ?_)
  refine wpAny_bind ?_
  show wpAny _ A.in1.in1 (updateSeq s.heap.objs.size (·.push .none) >>= fun _ => updateSeq s.heap.objs.size (·.pop)) _ _ _
  refine wpAny_bind (wpAny_updateSeq hS2 rfl ?_)
  have hS3 := Heap.get?_update_self (Obj.mapSeq (·.push Value.none)) hS2 rfl
  refine wpAny_updateSeq (hz := by seq_fits) hS3 rfl ?_
  have hS4 := Heap.get?_update_self (Obj.mapSeq (·.pop)) hS3 rfl
  have k4 := up _ (Obj.mapSeq (·.pop)) (up _ (Obj.mapSeq (·.push Value.none)) k2)
  refine wpAny_pure ⟨plainId_quiet F.plain_extend_loop _, ?_⟩
  have dd := D A.in1.in1 hh
  have ol : ∀ b ∈ own, b < s.heap.objs.size := fun b hb => let ⟨o, ho⟩ := dd.live _ _ st b hb; Heap.lt_size ho
  refine listN_loop (A := A.in1) (s := s) (h₁ := s.heap) dd ol hn .none (fun h' tk acc c lo kp e1 e2 => ?_) n 0 _ s.toks _ _ (fun _ => s.heap.objs.size + 1) (Nat.sub_zero _) (Nat.zero_le _) (dd.frame _ _ _ st fun b o _ e => k4 b o e) (fun b o _ _ e => k4 b o e) hS4
    ⟨⟨rfl, fun j _ => Nat.lt_succ_self _, fun j v hj => by simp at hj⟩, Heap.lt_size hS4⟩
  exact ⟨rfl, hQ h' tk acc c lo (fun b o h1 e => kp b o (Nat.ne_of_lt (Heap.lt_size e)) h1 e) e1 e2⟩
end
end PySem
namespace PySem
section
variable {prog : Program} {w : World} {A : Around} {E : Value → Shared → Prop} {s : Shared}
theorem enum_new_in (v : Value) : MeetsIn prog w (Builtin.«enumerate.__new__» ⟨[.type "enumerate", v], []⟩) (fun A R s => wpAny (model prog w) A.in1 (pyIter v) (fun it s1 => R (.ok (.ret (.ref s1.heap.objs.size))) { s1 with heap := s1.heap.push { cls := .type "enumerate", data := .fields #[.none, .bool false, it, rawInt 0, .none, .none] } }) (fun e s' => R (.error e) s') s) :=
  .of_wp fun A R s h => by
    have hsub := sub_enumerate
    obtain ⟨hp, g, d, tk, os⟩ := s
    have q1 : ∀ {Q : Value → Shared → Prop}, (∀ it s1, R (.ok (.ret (.ref s1.heap.objs.size))) { s1 with heap := s1.heap.push { cls := .type "enumerate", data := .fields #[.none, .bool false, it, rawInt 0, .none, .none] } } → Q it s1) → wpAny (model prog w) A.in1 (pyIter v) Q (fun e s' => R (.error e) s') ⟨hp, g, d, tk, os⟩ :=
      fun hq => wpAny_mono h (fun it s1 h1 => hq it s1 h1) fun _ _ z => z
    wp_walk using q1
    refine wpAny_stack_any fun st => wpAny_pure ?_
    split
    · rename_i c _ _ _ _ _
      cases (c == Value.type "enumerate")
      · wp_walk using q1
        intro it s1 h1
        obtain ⟨hp1, g1, d1, tk1, os1⟩ := s1
        wp_walk
        exact ⟨_, rfl, h1⟩
      · wp_walk using q1
        intro it s1 h1
        obtain ⟨hp1, g1, d1, tk1, os1⟩ := s1
        wp_walk
        exact ⟨_, rfl, h1⟩
    · wp_walk using q1
      intro it s1 h1
      obtain ⟨hp1, g1, d1, tk1, os1⟩ := s1
      wp_walk
      exact ⟨_, rfl, h1⟩
theorem zip_new_in (v1 v2 : Value) : MeetsIn prog w (Builtin.«zip.__new__» ⟨[.type "zip", v1, v2], []⟩) (fun A R s => wpAny (model prog w) A.in1 (pyIter v1) (fun i1 s1 => wpAny (model prog w) A.in1 (pyIter v2) (fun i2 s2 => R (.ok (.ret (.ref (s2.heap.objs.size + 2)))) { s2 with heap := ((s2.heap.push { cls := .type "tuple", data := .seq #[i1, i2] }).push { cls := .type "tuple", data := .seq #[.none, .none] }).push { cls := .type "zip", data := .fields #[.none, .bool false, .bool false, .ref s2.heap.objs.size, .ref (s2.heap.objs.size + 1)] } }) (fun e s' => R (.error e) s') s1) (fun e s' => R (.error e) s') s) :=
  .of_wp fun A R s h => by
    have hsub := sub_zip
    obtain ⟨hp, g, d, tk, os⟩ := s
    have q1 : ∀ {Q : Value → Shared → Prop}, (∀ i1 s1, wpAny (model prog w) A.in1 (pyIter v2) (fun i2 s2 => R (.ok (.ret (.ref (s2.heap.objs.size + 2)))) { s2 with heap := ((s2.heap.push { cls := .type "tuple", data := .seq #[i1, i2] }).push { cls := .type "tuple", data := .seq #[.none, .none] }).push { cls := .type "zip", data := .fields #[.none, .bool false, .bool false, .ref s2.heap.objs.size, .ref (s2.heap.objs.size + 1)] } }) (fun e s' => R (.error e) s') s1 → Q i1 s1) → wpAny (model prog w) A.in1 (pyIter v1) Q (fun e s' => R (.error e) s') ⟨hp, g, d, tk, os⟩ :=
      fun hq => wpAny_mono h (fun it s1 h1 => hq it s1 h1) fun _ _ z => z
    wp_walk using q1
    intro i1 s1 h1
    obtain ⟨hp1, g1, d1, tk1, os1⟩ := s1
    have q2 : ∀ {Q : Value → Shared → Prop}, (∀ i2 s2, R (.ok (.ret (.ref (s2.heap.objs.size + 2)))) { s2 with heap := ((s2.heap.push { cls := .type "tuple", data := .seq #[i1, i2] }).push { cls := .type "tuple", data := .seq #[.none, .none] }).push { cls := .type "zip", data := .fields #[.none, .bool false, .bool false, .ref s2.heap.objs.size, .ref (s2.heap.objs.size + 1)] } } → Q i2 s2) → wpAny (model prog w) A.in1 (pyIter v2) Q (fun e s' => R (.error e) s') ⟨hp1, g1, d1, tk1, os1⟩ :=
      fun hq => wpAny_mono h1 (fun it s1 h1 => hq it s1 h1) fun _ _ z => z
    wp_walk using q2
    intro i2 s2 h2
    obtain ⟨hp2, g2, d2, tk2, os2⟩ := s2
    wp_walk
    have z1 : ∀ (o : Obj), (hp2.push o).objs.size = hp2.objs.size + 1 := fun o => by rw [Heap.size_push]
    refine ⟨_, rfl, ?_⟩
    simp only [Heap.size_push]
    exact h2
end
end PySem
namespace PySem
section
variable {prog : Program} {w : World} {A : Around} {E : Value → Shared → Prop} {s : Shared}
theorem zip_callIn {v1 v2 : Value} {Q : Value → Shared → Prop} (h : wpAny (model prog w) A.in1.in1 (pyIter v1) (fun i1 s1 => wpAny (model prog w) A.in1.in1 (pyIter v2) (fun i2 s2 => ∀ h', IsZip h' (s2.heap.objs.size + 2) s2.heap.objs.size (s2.heap.objs.size + 1) .none → IsTupOf2 h' s2.heap.objs.size i1 i2 → IsTupOf2 h' (s2.heap.objs.size + 1) .none .none → h'.objs.size = s2.heap.objs.size + 3 →
      (∀ c o, s2.heap.get? c = some o → h'.get? c = some o) → Q (.ref (s2.heap.objs.size + 2)) { s2 with heap := h' }) E s1) E s) :
    wpAny (model prog w) A (call (.type "zip") [v1, v2]) Q E s := by
  refine callType_newIn F.called_zip (by decide) (F.typeCall_zip_2 _ _) (F.newCall_zip_2 _ _) (fun obj => F.args_object_init_3 obj _ _) F.entry_zip_new (zip_new_in v1 v2) ?_
  refine wpAny_mono h (fun i1 s1 h1 => wpAny_mono h1 (fun i2 s2 h2 => ?_) fun _ _ z => z) fun _ _ z => z
  have z1 : (s2.heap.push { cls := .type "tuple", data := .seq #[i1, i2] }).objs.size = s2.heap.objs.size + 1 := Heap.size_push ..
  have z2 : ((s2.heap.push { cls := .type "tuple", data := .seq #[i1, i2] }).push { cls := .type "tuple", data := .seq #[.none, .none] }).objs.size = s2.heap.objs.size + 2 := by rw [Heap.size_push, z1]
  have gZ := Heap.get?_push_size ((s2.heap.push { cls := .type "tuple", data := .seq #[i1, i2] }).push { cls := .type "tuple", data := .seq #[.none, .none] }) (o := { cls := .type "zip", data := .fields #[.none, .bool false, .bool false, .ref s2.heap.objs.size, .ref (s2.heap.objs.size + 1)] }) rfl
  rw [z2] at gZ
  have gO := Heap.get?_push_size (s2.heap.push { cls := .type "tuple", data := .seq #[i1, i2] }) (o := { cls := .type "tuple", data := .seq #[.none, .none] }) rfl
  rw [z1] at gO
  have gT := Heap.get?_push_size s2.heap (o := { cls := .type "tuple", data := .seq #[i1, i2] }) rfl
  exact ⟨⟨_, gZ, rfl⟩, h2 _ gZ (Heap.get?_push_of_some _ (Heap.get?_push_of_some _ gT)) (Heap.get?_push_of_some _ gO) (by rw [Heap.size_push, z2]) fun c o e => Heap.get?_push_of_some _ (Heap.get?_push_of_some _ (Heap.get?_push_of_some _ e))⟩
theorem enum_callIn {v : Value} {Q : Value → Shared → Prop} (h : wpAny (model prog w) A.in1.in1 (pyIter v) (fun it s1 => ∀ h', h'.get? s1.heap.objs.size = some { cls := .type "enumerate", data := .fields #[.none, .bool false, it, rawInt 0, .none, .none] } → h'.objs.size = s1.heap.objs.size + 1 → (∀ c o, s1.heap.get? c = some o → h'.get? c = some o) → Q (.ref s1.heap.objs.size) { s1 with heap := h' }) E s) :
    wpAny (model prog w) A (call (.type "enumerate") [v]) Q E s := by
  refine callType_newIn F.called_enumerate (by decide) (F.typeCall_enumerate_1 _) (F.newCall_enumerate_1 _) (fun obj => F.args_object_init_2 obj _) F.entry_enumerate_new (enum_new_in v) ?_
  refine wpAny_mono h (fun it s1 h1 => ?_) fun _ _ z => z
  have g := Heap.get?_push_size s1.heap (o := { cls := .type "enumerate", data := .fields #[.none, .bool false, it, rawInt 0, .none, .none] }) rfl
  exact ⟨⟨_, g, rfl⟩, h1 _ g (by rw [Heap.size_push]) fun c o e => Heap.get?_push_of_some _ e⟩
end
end PySem
namespace G
open PySem PySem.Spec PyProof.Rows L2
/-- many tuples and a list laid at once -/
def putN : Hp → List (Addr × List V) → Hp
  | H, [] => H
  | H, e :: r => putN (upd H e.1 (.tup e.2)) r
theorem putN_off {b : Addr} : ∀ (r : List (Addr × List V)) (H : Hp), b ∉ r.map (·.1) → putN H r b = H b
  | [], _, _ => rfl
  | e :: r, H, h => by
    show putN (upd H e.1 (.tup e.2)) r b = H b
    rw [putN_off r _ (fun z => h (List.mem_cons_of_mem _ z)), upd_ne (fun z => h (by rw [z]; exact List.mem_cons_self))]
theorem putN_at : ∀ (r : List (Addr × List V)) (H : Hp), (r.map (·.1)).Nodup → ∀ e ∈ r, putN H r e.1 = some (.tup e.2)
  | [], _, _, _, h => by cases h
  | e :: r, H, nd, d, h => by
    obtain ⟨n1, n2⟩ := List.nodup_cons.mp nd
    rcases List.mem_cons.mp h with rfl | h
    · show putN (upd H d.1 (.tup d.2)) r d.1 = _
      rw [putN_off r _ n1, upd_same]
    · exact putN_at r _ n2 d h
theorem tups_laid {X : Cx} {pins : List (Addr × Obj)} {σ : L2.St} {H : Hp} {s : Shared} {h' : Heap} {tk : Nat} {ch : List Addr} {news : List (Addr × List V)} {S : Addr} {vs : List V} {acc : Array Value} {c : Nat} {L : Lg} (I : Inv X pins σ H s) (hH : Has H L) (hf : ∀ b ∈ ch, FpOk X pins H b) (k : ∀ b o, b ∉ ch → s.heap.get? b = some o → h'.get? b = some o)
    (nd : (S :: news.map (·.1)).Nodup) (lo : ∀ a ∈ S :: news.map (·.1), s.heap.objs.size ≤ a) (hS : h'.get? S = some { cls := .type "list", dict := none, data := .seq acc c, slots := #[] }) (rS : Vals vs acc.toList) (lS : vs.length ≤ sizeLine)
    (ht : ∀ e ∈ news, e.2.length ≤ sizeLine ∧ ∃ us, Vals e.2 us ∧ h'.get? e.1 = some { cls := .type "tuple", data := .seq us.toArray }) :
    Inv X pins σ (putN (upd H S (.lst vs)) news) { s with heap := h', toks := tk } ∧ Has (putN (upd H S (.lst vs)) news) ((S, .lst vs) :: (news.map (fun e => (e.1, HO.tup e.2)) ++ L)) := by
  obtain ⟨nS, nN⟩ := List.nodup_cons.mp nd
  have new : ∀ a ∈ S :: news.map (·.1), H a = none := fun a ha => I.hok.fresh (lo a ha)
  have nit : ∀ b u, H b = some u → b ∉ ch := fun b u e z => by
    have q := (hf b z).1
    rw [q] at e; cases e
  have off : ∀ b, b ∉ S :: news.map (·.1) → putN (upd H S (.lst vs)) news b = H b := fun b hb => by
    rw [putN_off _ _ (fun z => hb (List.mem_cons_of_mem _ z)), upd_ne (fun z => hb (by rw [z]; exact List.mem_cons_self))]
  have eS : putN (upd H S (.lst vs)) news S = some (.lst vs) := by rw [putN_off _ _ nS, upd_same]
  have atN := putN_at news (upd H S (.lst vs)) nN
  have kp : ∀ b u, H b = some u → putN (upd H S (.lst vs)) news b = some u := fun b u e => by
    rw [off b fun z => by rw [new b z] at e; cases e]
    exact e
  have low : ∀ b o, s.heap.get? b = some o → b ∉ S :: news.map (·.1) := fun b o e z => absurd (Heap.lt_size e) (Nat.not_lt.mpr (lo b z))
  refine ⟨?_, ?_⟩
  · refine I.call' (ch := ch) rfl ⟨fun b o q _ _ hc => k b o hc q, fun b o q _ _ hc => ⟨o.slots, k b o hc q⟩, fun b o q n _ => ?_, fun b o q hc => ⟨o, k b o hc q⟩, fun b xs q => kp b _ q, fun b o u q => kp b _ q, fun b ps q => ⟨#[], by rw [kp b _ q]; simp⟩⟩ (fun b u q => ?_) I.bare fun b hb => ⟨(hf b hb).2.2.2.1, (hf b hb).2.1, (hf b hb).2.2.2.2.1, (hf b hb).2.2.2.2.2⟩
    · rw [off b (low b o q)]
      exact n
    · by_cases hb : b ∈ news.map (·.1)
      · obtain ⟨e, he, rfl⟩ := List.mem_map.mp hb
        rw [atN e he] at q
        cases q
        obtain ⟨l, us, r, g⟩ := ht e he
        exact ⟨l, us, r, ⟨_, g, rfl, _, rfl⟩⟩
      · by_cases hb2 : b = S
        · subst hb2
          rw [eS] at q
          cases q
          refine ⟨lS, acc.toList, c, rS, ?_⟩
          rw [Array.toArray_toList]
          exact hS
        · rw [off b fun z => (List.mem_cons.mp z).elim hb2 hb] at q
          refine (I.hok b u q).stay (fun d v hd y => k d v ?_ y) (fun d y => kp d _ y) fun d xs y => kp d _ y
          rcases hd with z | z
          · rw [z]; exact nit b u q
          · exact nit d _ z
  · have en : (((S, HO.lst vs) :: (news.map (fun e => (e.1, HO.tup e.2)) ++ L)).map (·.1)) = (S :: news.map (·.1)) ++ L.map (·.1) := by
      rw [List.map_cons, List.map_append, List.map_map]
      rfl
    refine ⟨?_, fun e m => ?_⟩
    · rw [en]
      refine List.nodup_append.mpr ⟨nd, hH.1, fun a ha b hb => ?_⟩
      rintro rfl
      exact hH.out (new a ha) hb
    · rcases List.mem_cons.mp m with rfl | m
      · exact holds_of rfl eS
      · rcases List.mem_append.mp m with m | m
        · obtain ⟨d, hd, rfl⟩ := List.mem_map.mp m
          exact holds_of rfl (atN d hd)
        · exact (hH.grow kp).2 e m
end G
namespace G
open PySem PySem.Spec PyProof.Rows L2 ItX
theorem notIn2 {a b c : Addr} (h1 : a ≠ b) (h2 : a ≠ c) : a ∉ [b, c] := fun m => by
  rcases List.mem_cons.mp m with z | m
  · exact h1 z
  · exact h2 (List.mem_singleton.mp m)
theorem lay_mono {lo T U : Nat → Nat} {n : Nat} (h : ∀ j, j < n → lo j ≤ U j ∧ U j < T j ∧ T j < lo (j + 1)) : ∀ i j, i ≤ j → j ≤ n → lo i ≤ lo j := fun i j => by
  induction j with
  | zero => intro a _; rw [Nat.le_zero.mp a]; exact Nat.le_refl _
  | succ j ih =>
    intro a b
    rcases Nat.lt_or_ge j i with c | c
    · obtain rfl : i = j + 1 := by omega
      exact Nat.le_refl _
    · have := ih c (by omega)
      have := h j (by omega)
      omega
theorem pair_range {R : Nat → Nat → Prop} {f : Nat → Nat} {n : Nat} (h : ∀ i j, i < j → j < n → R (f i) (f j)) : ((List.range n).map f).Pairwise R := by
  rw [List.pairwise_map]
  exact List.Pairwise.imp_of_mem (fun {a b} ha hb r => h a b r (List.mem_range.mp hb)) List.pairwise_lt_range
theorem lay_nodup {lo T U : Nat → Nat} {S n : Nat} (low : ∀ j, j ≤ n → S < lo j) (h : ∀ j, j < n → lo j ≤ U j ∧ U j < T j ∧ T j < lo (j + 1)) :
    (S :: ((List.range n).map T ++ (List.range n).map U)).Nodup ∧ ∀ a ∈ S :: ((List.range n).map T ++ (List.range n).map U), S ≤ a := by
  have mono := lay_mono h
  have lt : ∀ i j, i < j → j < n → T i < U j := fun i j a b => by
    have h1 := h i (by omega)
    have h2 := h j b
    have h3 := mono (i + 1) j a (by omega)
    omega
  have up : ∀ a ∈ (List.range n).map T ++ (List.range n).map U, S < a := fun a m => by
    rcases List.mem_append.mp m with m | m
    · obtain ⟨i, hi, rfl⟩ := List.mem_map.mp m
      have hi := List.mem_range.mp hi
      have h1 := h i hi
      have h2 := low i (by omega)
      omega
    · obtain ⟨i, hi, rfl⟩ := List.mem_map.mp m
      have hi := List.mem_range.mp hi
      have h1 := h i hi
      have h2 := low i (by omega)
      omega
  refine ⟨List.nodup_cons.mpr ⟨fun m => Nat.lt_irrefl _ (up _ m), List.nodup_append.mpr ⟨?_, ?_, ?_⟩⟩, fun a m => ?_⟩
  · exact pair_range (R := (· ≠ ·)) fun i j a b => by
      have h1 := lt i j a b
      have h2 := h j b
      show T i ≠ T j
      omega
  · exact pair_range (R := (· ≠ ·)) fun i j a b => by
      have h1 := lt i j a b
      have h2 := h i (by omega)
      show U i ≠ U j
      omega
  · intro a ha b hb
    obtain ⟨i, hi, rfl⟩ := List.mem_map.mp ha
    obtain ⟨j, hj, rfl⟩ := List.mem_map.mp hb
    have hi := List.mem_range.mp hi
    have hj := List.mem_range.mp hj
    have h1 := h i hi
    have h2 := h j hj
    rcases Nat.lt_trichotomy i j with c | c | c
    · have := lt i j c hj
      omega
    · subst c
      omega
    · have h3 := lt j i c hi
      omega
  · rcases List.mem_cons.mp m with rfl | m
    · exact Nat.le_refl _
    · exact Nat.le_of_lt (up a m)
section
variable {X : Cx} {η : En} {L : Lg} {Q : QV} {e e2 : Expr} {g C : Addr} {φ : Addr → Addr → List V → Lg → Prop} {k j : Nat} {p p1 p2 p3 p4 pos : Pos}
/-- list(enumerate(zip(a, b))), a an object with its own __iter__ over a tuple -/
theorem ge_listEnumZip (F : ∀ n, RunN n X.prog X.w X.K X.mg X.base CX0 k g argsP (toSp (spIterT n φ))) (hr : RoomG j X.A) (hs : PySem.W.findIn X.K (.ref C) "__iter__" = some (some (.ref g))) (hf : PySem.W.isFn X.K (.ref g) = true)
    (h : GA X [e, e2] η L fun vs L1 => ∃ (a t dx q : Addr) (fs : List (Str × V)) (xs ys : List V) (o2 : HO), vs = [.ref a, .ref q] ∧ (a, HO.ins C dx fs) ∈ L1 ∧ (t, HO.tup xs) ∈ L1 ∧ φ a t xs L1 ∧ RowO o2 ys ∧ (q, o2) ∈ L1 ∧ min xs.length ys.length ≤ 1000000 ∧
      ∀ (D : Addr) (T U : Nat → Addr), Q (.ref D) ((D, .lst ((List.range (min xs.length ys.length)).map fun i => V.ref (T i))) :: (((List.range (min xs.length ys.length)).map fun i => (T i, HO.tup [.int (i : Nat), .ref (U i)])) ++ (((List.range (min xs.length ys.length)).map fun i => (U i, HO.tup [xs.getD i .non, ys.getD i .non])) ++ L1))))
    (hm : X.mg "list" = none) (hm2 : X.mg "enumerate" = none) (hm3 : X.mg "zip" = none) (hg : Gl X "list" := by rfl) (hg2 : Gl X "enumerate" := by rfl) (hg3 : Gl X "zip" := by rfl) (hc : X.calm = true := by rfl) (hjk : k + 2 ≤ j := by decide)
    (hs1 : starEach [.Call (.Name "enumerate" p1) [.Call (.Name "zip" p2) [e, e2] [] p3] [] p4] X.env = (false, eval (.Call (.Name "enumerate" p1) [.Call (.Name "zip" p2) [e, e2] [] p3] [] p4) X.env) :: starEach [] X.env := by rfl)
    (hs2 : starEach [.Call (.Name "zip" p2) [e, e2] [] p3] X.env = (false, eval (.Call (.Name "zip" p2) [e, e2] [] p3) X.env) :: starEach [] X.env := by rfl)
    (hs3 : starEach [e, e2] X.env = (false, eval e X.env) :: starEach [e2] X.env := by rfl) (hpl3 : (backTo p3 (starEach [e2] X.env)).any (·.1) = false := by rfl) :
    GE X (.Call (.Name "list" p) [.Call (.Name "enumerate" p1) [.Call (.Name "zip" p2) [e, e2] [] p3] [] p4] [] pos) η L Q := fun hN H hH pins s I => by
  refine wpAny_Call_Name_kw (ld_blt I hg hm boot_list ?_)
  refine PyProof.Rows.callWith_type1 ?_ hs1 rfl
  rw [hs1]
  show wpAny _ _ (spliced ((false, eval (.Call (.Name "enumerate" p1) [.Call (.Name "zip" p2) [e, e2] [] p3] [] p4) X.env) :: backTo pos (starEach [] X.env))) _ _ s
  refine Calls.spliced_cons ?_
  refine Call_ (ld_blt I hg2 hm2 boot_enumerate (PyProof.Rows.callWith_type1 ?_ hs2 rfl))
  rw [hs2]
  show wpAny _ _ (spliced ((false, eval (.Call (.Name "zip" p2) [e, e2] [] p3) X.env) :: backTo p4 (starEach [] X.env))) _ _ s
  refine Calls.spliced_cons ?_
  refine Call_ (ld_blt I hg3 hm3 PyProof.Rows.boot_zip (PyProof.Rows.callWith_type1 (thn (h hN H hH p3 pins s I) fun us s1 ⟨vs, H1, I1, r1, L1, h1, a, t, dx, q, fs, xs, ys, o2, ev, ma, mt, hφ, ro, mq, hl, z⟩ => ?_) hs3 hpl3))
  subst ev
  cases r1 with
  | cons r rr =>
  cases rr with
  | cons r' rr =>
  cases rr
  cases r
  cases r'
  refine zip_callIn ?_
  obtain ⟨oe, od, J⟩ := ins_inst I1 h1 ma
  refine PySem.W.g_iter I1.kIn J hs hf (wpAny_call (codeAny_mono (F X.s_0.heap.objs.size X.A.in1.in1 X.stack s1 H1 [.ref a] [.ref a] (up fun v L' => ∃ it, v = .ref it ∧ X.s_0.heap.objs.size ≤ it ∧ L' = (it, itT t it) :: L1) (upX NoX) I1.sz ((hr.mono hjk).in1).in1 I1.env0.in1.in1 (.cons rfl .nil) (up_sp h1 ⟨a, t, xs, rfl, hφ, mt, fun it hit => ⟨it, rfl, hit, rfl⟩⟩)) fun r s' hq => ?_))
  cases r with
  | error e => exact hq.elim
  | ok fl =>
    cases fl with
    | ret w =>
      obtain ⟨z0, H', I', rz, L', h', it, ez, hit, eL⟩ := I1.after hq
      subst ez eL
      obtain rfl : w = Value.ref it := rz
      have ho : H' it = some (itT t it) := h'.2 _ List.mem_cons_self
      have st : s'.heap.IsTupleIter it t 0 := (I'.hok it _ ho).1
      have ha : Has (dropH H' it) L1 := by
        refine ⟨(List.nodup_cons.mp h'.1).2, fun e he => ?_⟩
        have ne : e.1 ≠ it := fun z => (List.nodup_cons.mp h'.1).1 (List.mem_map.mpr ⟨e, he, z⟩)
        refine holds_drop (fun c q' e3 => ?_) ne (h'.2 e (List.mem_cons_of_mem _ he))
        rintro rfl
        obtain ⟨oc, vs, tk, g1, g2, g3⟩ := (show ∃ (oc : Obj) (vs : Array Value) (t : Tok), s'.heap.get? c = some oc ∧ oc.data = .fields vs ∧ vs[1]? = some (.str q' t) from (I'.hok c _ e3).1)
        obtain ⟨o2, g4, g5, g6⟩ := st
        cases g1.symm.trans g4
        cases g2.symm.trans g6
        simp at g3
      have ho' := ho
      unfold itT at ho'
      have I2 := inv_drop I' ho'
      have fp := inv_fp I' ho hit
      have neL : ∀ e ∈ L1, e.1 ≠ it := fun e he z => (List.nodup_cons.mp h'.1).1 (List.mem_map.mpr ⟨e, he, z⟩)
      have net : t ≠ it := neL _ mt
      have neq : q ≠ it := neL _ mq
      show PySem.W.OwitIt _ _ _ _ (Value.ref it) s'
      unfold PySem.W.OwitIt
      refine wpAny_specialOf st.typeIs PySem.F.slot_tuple_iterator_next.lookup ?_
      dsimp only
      obtain ⟨lb, ws, oI, Hd2, St2, rv2, S2, hd2⟩ := sqo_src I2 (sqo_of ha ro mq)
      obtain ⟨its, rv1, p1t, hz1⟩ := I2.tuple (sqt ha mt)
      refine S2.bg.iter _ _ _ _ _ _ hd2 ?_
      intro hZ hz hTI hTO hsz hk
      dsimp only at hz hTI hTO hsz hk ⊢
      have zp : (s'.heap.push oI).objs.size = s'.heap.objs.size + 1 := Heap.size_push ..
      rw [zp] at hz hTI hTO hsz ⊢
      have hk' : ∀ c o, s'.heap.get? c = some o → hZ.get? c = some o := fun c o e => hk c o (Heap.get?_push_of_some _ e)
      have hI := hk _ _ (Heap.get?_push_size s'.heap S2.bg.free)
      refine Calls.spliced_nil ?_
      refine enum_callIn ?_
      refine wpAny_pyIter_zip hz ?_
      intro hE he hsz2 hk2
      dsimp only at he hsz2 hk2 ⊢
      refine Calls.spliced_nil ?_
      have k3 : ∀ c o, s'.heap.get? c = some o → hE.get? c = some o := fun c o e => hk2 c o (hk' c o e)
      have itl : it < s'.heap.objs.size := let ⟨o, ho, _⟩ := st; Heap.lt_size ho
      have tl : t < s'.heap.objs.size := let ⟨o, ho, _⟩ := p1t; Heap.lt_size ho
      have lenN : min its.toArray.size ws.toArray.size = min xs.length ys.length := by rw [List.size_toArray, List.size_toArray, rv1.length, rv2.length]
      have gtN : ∀ {x : Addr}, x < s'.heap.objs.size → (s'.heap.objs.size + 1 + 2 : Addr) ≠ x := fun {x} l => Nat.ne_of_gt (Nat.lt_of_lt_of_le l (Nat.le_add_right _ 3))
      have gtN' : ∀ {x : Addr}, x < s'.heap.objs.size → (s'.heap.objs.size + 1 + 1 : Addr) ≠ x := fun {x} l => Nat.ne_of_gt (Nat.lt_of_lt_of_le l (Nat.le_add_right _ 2))
      have sep : ZipSep2 (s'.heap.objs.size + 1 + 2) (s'.heap.objs.size + 1) (s'.heap.objs.size + 1 + 1) it s'.heap.objs.size [it, t] [s'.heap.objs.size, q] :=
        { TIz := show (s'.heap.objs.size + 1 : Nat) ≠ s'.heap.objs.size + 1 + 2 by omega, TOz := show (s'.heap.objs.size + 1 + 1 : Nat) ≠ s'.heap.objs.size + 1 + 2 by omega, TITO := show (s'.heap.objs.size + 1 : Nat) ≠ s'.heap.objs.size + 1 + 1 by omega,
          TIi1 := Nat.ne_of_gt (Nat.lt_succ_of_lt itl), mem1 := List.mem_cons_self, zf1 := notIn2 (gtN itl) (gtN tl), Tf1 := notIn2 (gtN' itl) (gtN' tl),
          TIi2 := show (s'.heap.objs.size + 1 : Nat) ≠ s'.heap.objs.size by omega, mem2 := List.mem_cons_self, zf2 := notIn2 (Nat.ne_of_gt (show (s'.heap.objs.size : Nat) < s'.heap.objs.size + 1 + 2 by omega)) (gtN lb), Tf2 := notIn2 (Nat.ne_of_gt (show (s'.heap.objs.size : Nat) < s'.heap.objs.size + 1 + 1 by omega)) (gtN' lb),
          sep1_2 := notIn2 (Nat.ne_of_lt itl) (Ne.symm neq), sep2_1 := notIn2 (Nat.ne_of_gt itl) (Nat.ne_of_gt tl) }
      have far2 : ∀ (b : Addr), b ∈ hZ.objs.size :: [hE.objs.size] → s'.heap.objs.size + 1 + 2 < b := fun b hb => by
        rcases List.mem_cons.mp hb with z | hb
        · rw [z, hsz]; omega
        · rw [List.mem_singleton.mp hb, hsz2, hsz]; omega
      have apart : ∀ (b : Addr), b ≤ s'.heap.objs.size + 1 + 2 → b ∉ hZ.objs.size :: [hE.objs.size] := fun b l m => absurd (far2 b m) (Nat.not_lt.mpr l)
      have he0 : hZ.objs.size ∉ [s'.heap.objs.size + 1 + 2, s'.heap.objs.size + 1 + 1, it, s'.heap.objs.size] := fun m => by
        have hx : ∀ {x : Addr}, x < s'.heap.objs.size + 1 + 3 → hZ.objs.size ≠ x := fun {x} l => by rw [hsz]; exact Nat.ne_of_gt l
        simp only [List.mem_cons, List.not_mem_nil, or_false] at m
        rcases m with m | m | m | m
        · exact hx (Nat.lt_succ_self _) m
        · exact hx (Nat.lt_succ_of_lt (Nat.lt_succ_self _)) m
        · exact hx (Nat.lt_of_lt_of_le itl (Nat.le_add_right _ 4)) m
        · exact hx (Nat.lt_of_lt_of_le (Nat.lt_succ_self _) (Nat.le_add_right _ 3)) m
      refine listN_call (z := hZ.objs.size) (own := hZ.objs.size :: [s'.heap.objs.size + 1 + 2, s'.heap.objs.size + 1 + 1, it, s'.heap.objs.size]) (n := min its.toArray.size ws.toArray.size) (it := .none)
        (P := PEnum (PZip (fun i v => its.toArray[i]? = some v) (fun i v => ws.toArray[i]? = some v))) (St := fun i h => EnumAtN h hZ.objs.size (s'.heap.objs.size + 1 + 2) [s'.heap.objs.size + 1 + 2, s'.heap.objs.size + 1 + 1, it, s'.heap.objs.size] [hE.objs.size] (fun i h => ZipAtN h (s'.heap.objs.size + 1 + 2) (s'.heap.objs.size + 1) (s'.heap.objs.size + 1 + 1) it s'.heap.objs.size (hZ.objs.size :: [hE.objs.size]) (fun i h => h.IsTupleIter it t i ∧ h.IsTuple t its.toArray) (St2 s'.heap.objs.size) i) i)
        (fun A hh => DrawN.enum (DrawN.zip sep (Draws.tuple (prog := X.prog) (w := X.w) (A := A.in1.in1) hh it t net its.toArray) (S2.dr s'.heap.objs.size A.in1.in1 hh (Nat.ne_of_lt lb)) (fun b hb => notIn2 (Nat.ne_of_gt (Nat.lt_of_lt_of_le itl (by have := far2 b hb; omega))) (Nat.ne_of_gt (Nat.lt_of_lt_of_le tl (by have := far2 b hb; omega)))) (fun b hb => notIn2 (Nat.ne_of_gt (by have := far2 b hb; omega)) (Nat.ne_of_gt (Nat.lt_of_lt_of_le lb (by have := far2 b hb; omega)))) (apart _ (Nat.le_refl _)) (apart _ (Nat.le_add_right _ 2)) (apart _ (Nat.le_succ _))) he0 (fun m => absurd (List.mem_singleton.mp m) (by rw [hsz2]; exact Nat.ne_of_lt (Nat.lt_succ_self _))))
        (I2.ok.hd hc) ⟨_, he, rfl⟩ (fun A E Q s2 hk hq => wpAny_pyIter_enum (hk _ he) hq) ?_ (by rw [lenN, sizeLine_eq]; omega) fun h'' tk acc c lo kp eS eG => ?_
      · exact ⟨⟨hk2 _ _ hTI, ⟨_, hk2 _ _ hTO⟩, ⟨st.at fun o e => k3 _ _ e, (show hE.IsTuple t its.toArray from Heap.IsTuple.at p1t fun o e => k3 _ _ e)⟩, S2.st0 _ _ (hk2 _ _ hI) (S2.bg.keeps _ _ hd2 k3), .inl ⟨hk2 _ _ hz, _, _, hk2 _ _ hTO⟩⟩, .inl ⟨.none, he⟩⟩
      dsimp only at kp eS eG ⊢
      rw [lenN] at eG
      obtain ⟨Fn, hF⟩ := (Classical.skolem (b := fun _ : Nat => Addr × Addr) (p := fun (j : Nat) (d : Addr × Addr) => j < min xs.length ys.length → ∃ tk x1 x2, acc[j]? = some (.ref d.1) ∧ (lo j ≤ d.2 ∧ d.2 < d.1 ∧ d.1 < lo (j + 1)) ∧ h''.get? d.1 = some { cls := .type "tuple", data := .seq #[.int (j : Int) tk, .ref d.2] } ∧ its[j]? = some x1 ∧ ws[j]? = some x2 ∧ IsTupOf2 h'' d.2 x1 x2)).mp (fun j => by
        by_cases hj : j < min xs.length ys.length
        · have hj2 : j < acc.size := by rw [eG.size]; exact hj
          obtain ⟨_, T, tk, x, ev, l1, u1, g1, U, x1, x2, ex, l2, u2, p1, p2, g2⟩ := eG.got j acc[j] (Array.getElem?_eq_getElem hj2)
          subst ex
          exact ⟨(T, U), fun _ => ⟨tk, x1, x2, by rw [Array.getElem?_eq_getElem hj2, ev], ⟨l2, u2, u1⟩, g1, by simpa using p1, by simpa using p2, g2⟩⟩
        · exact ⟨(0, 0), fun z => absurd z hj⟩)
      have lay := lay_nodup (T := fun j => (Fn j).1) (U := fun j => (Fn j).2) eG.low fun j hj => by
        obtain ⟨_, _, _, _, b, _⟩ := hF j hj
        exact b
      have en : (((List.range (min xs.length ys.length)).map fun i => ((Fn i).1, [V.int (i : Nat), V.ref (Fn i).2])) ++ ((List.range (min xs.length ys.length)).map fun i => ((Fn i).2, [xs.getD i .non, ys.getD i .non]))).map (·.1) = (List.range (min xs.length ys.length)).map (fun j => (Fn j).1) ++ (List.range (min xs.length ys.length)).map (fun j => (Fn j).2) := by
        rw [List.map_append, List.map_map, List.map_map]
        rfl
      have up5 : ∀ b o, b < s'.heap.objs.size → b ≠ it → s'.heap.get? b = some o → h''.get? b = some o := fun b o l n e => kp b o (fun m => by
        simp only [List.mem_cons, List.not_mem_nil, or_false] at m
        rcases m with m | m | m | m | m
        · exact absurd m (by rw [hsz]; exact Nat.ne_of_lt (Nat.lt_of_lt_of_le l (Nat.le_add_right _ 4)))
        · exact gtN l m.symm
        · exact gtN' l m.symm
        · exact n m
        · exact Nat.ne_of_lt l m) (k3 b o e)
      have rS : Vals ((List.range (min xs.length ys.length)).map fun i => V.ref (Fn i).1) acc.toList := by
        have ea : acc.toList = ((List.range (min xs.length ys.length)).map fun i => (Fn i).1).map Value.ref := by
          refine List.ext_getElem? fun j => ?_
          rw [List.map_map, List.getElem?_map, Array.getElem?_toList]
          by_cases hj : j < min xs.length ys.length
          · obtain ⟨_, _, _, a, _⟩ := hF j hj
            rw [a, List.getElem?_range hj]
            rfl
          · rw [Array.getElem?_eq_none (by rw [eG.size]; omega), List.getElem?_eq_none (by rw [List.length_range]; omega)]
            rfl
        rw [ea, show ((List.range (min xs.length ys.length)).map fun i => V.ref (Fn i).1) = ((List.range (min xs.length ys.length)).map fun i => (Fn i).1).map V.ref by rw [List.map_map]; rfl]
        exact LiI.vals_refs _
      have ht : ∀ d ∈ (((List.range (min xs.length ys.length)).map fun i => ((Fn i).1, [V.int (i : Nat), V.ref (Fn i).2])) ++ ((List.range (min xs.length ys.length)).map fun i => ((Fn i).2, [xs.getD i .non, ys.getD i .non]))), d.2.length ≤ sizeLine ∧ ∃ us, Vals d.2 us ∧ h''.get? d.1 = some { cls := .type "tuple", data := .seq us.toArray } := by
        intro d hd
        rcases List.mem_append.mp hd with hd | hd
        · obtain ⟨i, hi, rfl⟩ := List.mem_map.mp hd
          obtain ⟨tk, x1, x2, _, _, g1, _⟩ := hF i (List.mem_range.mp hi)
          exact ⟨by show 2 ≤ sizeLine; decide, [.int (i : Int) tk, .ref (Fn i).2], .cons ⟨_, rfl⟩ (.cons rfl .nil), g1⟩
        · obtain ⟨i, hi, rfl⟩ := List.mem_map.mp hd
          have hi := List.mem_range.mp hi
          obtain ⟨tk, x1, x2, _, _, _, p1, p2, g2⟩ := hF i hi
          obtain ⟨u1, hu1, ru1⟩ := rv1.get (i := i) (List.getElem?_eq_getElem (show i < xs.length by omega))
          obtain ⟨u2, hu2, ru2⟩ := rv2.get (i := i) (List.getElem?_eq_getElem (show i < ys.length by omega))
          rw [p1] at hu1
          rw [p2] at hu2
          cases hu1
          cases hu2
          refine ⟨by show 2 ≤ sizeLine; decide, [x1, x2], .cons ?_ (.cons ?_ .nil), g2⟩
          · rw [List.getD_eq_getElem?_getD, List.getElem?_eq_getElem (show i < xs.length by omega)]
            exact ru1
          · rw [List.getD_eq_getElem?_getD, List.getElem?_eq_getElem (show i < ys.length by omega)]
            exact ru2
      obtain ⟨I3, h3⟩ := tups_laid (tk := tk) (ch := [it]) (S := hE.objs.size) (vs := (List.range (min xs.length ys.length)).map fun i => V.ref (Fn i).1) (h' := h'') I2 ha (fun b hb => by rw [List.mem_singleton.mp hb]; exact fp) (fun b o hb e => up5 b o (Heap.lt_size e) (fun z => hb (List.mem_singleton.mpr z)) e)
        (by rw [en]; exact lay.1) (by rw [en]; exact fun a m => Nat.le_trans (by rw [hsz2, hsz]; omega) (lay.2 a m)) eS rS (by rw [List.length_map, List.length_range, sizeLine_eq]; omega) ht
      refine ⟨.ref hE.objs.size, _, I3, rfl, _, h3, ?_⟩
      have zz := z hE.objs.size (fun i => (Fn i).1) (fun i => (Fn i).2)
      rw [List.map_append, List.map_map, List.map_map, List.append_assoc]
      exact zz
    | next => exact hq.elim
    | brk => exact hq.elim
    | cont => exact hq.elim
end
end G
set_option Elab.async false
set_option linter.all false
set_option maxRecDepth 100000
set_option maxHeartbeats 4000000
namespace G
open PySem PySem.Spec PyProof.Rows L2
abbrev stNest (g : V → V → V → En) : V → Lg → (En → Lg → Prop) → Prop := fun v M k => ∃ p a r b c, v = .ref p ∧ (p, HO.tup [a, .ref r]) ∈ M ∧ (r, HO.tup [b, c]) ∈ M ∧ k (g a b c) M
theorem monoNest {g : V → V → V → En} : ∀ v M (k k' : En → Lg → Prop), (∀ θ M', k θ M' → k' θ M') → stNest g v M k → stNest g v M k' := fun _ _ _ _ m ⟨p, a, r, b, c, e, h, h2, z⟩ => ⟨p, a, r, b, c, e, h, h2, m _ _ z⟩
section
variable {X : Cx} {η : En} {L : Lg} {elt iter : Expr} {ifs : List Expr} {scope : Scope} {pos p1 p2 p3 p4 : Pos} {x y z : Str} {f : V → En} {Q : QV}
theorem ge_lcN {g : V → V → En} {g3 : V → V → V → En} {kt kt2 : Nat} {pt pt2 : Pos} (P : PutF x η f) (R : ∀ v, PutF y (f v) (g v)) (T : ∀ v u, PutF z (g v u) (g3 v u))
    (h : GI X (.Tuple [.Name x p1, .Tuple [.Name y p2, .Name z p3] kt2 pt2] kt pt) iter η L fun S L1 => ∀ d, ∃ Pv, LcS X scope ifs elt S d L1 (stNest g3) Pv Q)
    (hb : blkC X.N X.env.scope scope [(x, X.N.idxOf x), (y, X.N.idxOf y), (z, X.N.idxOf z)] = true) (hw : wipe (vals η) [X.N.idxOf x, X.N.idxOf y, X.N.idxOf z] = vals η)
    (hlx : LocB X scope x := by exact fun _ _ _ _ _ => ⟨.inl rfl, .inr rfl⟩) (hly : LocB X scope y := by exact fun _ _ _ _ _ => ⟨.inl rfl, .inr rfl⟩) (hlz : LocB X scope z := by exact fun _ _ _ _ _ => ⟨.inl rfl, .inr rfl⟩)
    (hN : X.N.Nodup := by assumption) (hc : X.calm = true := by rfl) (hs : ∀ z, foldedSetIterable iter X.env z = pure z := by intro _; rfl) : GE X (.ListComp elt [⟨.Tuple [.Name x p1, .Tuple [.Name y p2, .Name z p3] kt2 pt2] kt pt, iter, ifs, 0⟩] scope pos) η L Q := fun nη H hH => by
  obtain ⟨i, h1, h2⟩ := P.idx
  obtain ⟨i2, k1, -⟩ := (R .non).idx
  obtain ⟨i3, l1, -⟩ := (T .non .non).idx
  have nf : ∀ v, X.N = names (f v) := fun v => (h2 v).2 ▸ nη
  have hi : X.N[i]? = some x := nη ▸ h1
  have hi2 : X.N[i2]? = some y := nf .non ▸ k1
  have ng : ∀ v u, X.N = names (g v u) := fun v u => (nf v).trans ((R v).at hN (nf v) hi2 u).2.symm
  have hi3 : X.N[i3]? = some z := ng .non .non ▸ l1
  rw [idxEq hN hi, idxEq hN hi2, idxEq hN hi3] at hb hw
  refine WE.of (pe_lc (own := [(x, i), (y, i2), (z, i3)]) (g := gTup X.K 2 (gCons (gName i) (gCons (gTup X.K 2 (gCons (gName i2) (gCons (gName i3) gNil))) gNil))) hc hN pi_W (blkOk_by hb) (fun s H C cl fp => pg_tup (X := blkX X s H scope C cl fp) (n := 2) hc (pgs_cons (pg_name hN hi (hlx s H C cl fp).1 (hlx s H C cl fp).2) (pgs_cons (pg_tup (X := blkX X s H scope C cl fp) (n := 2) hc (pgs_cons (pg_name hN hi2 (hly s H C cl fp).1 (hly s H C cl fp).2) (pgs_cons (pg_name hN hi3 (hlz s H C cl fp).1 (hlz s H C cl fp).2) pgs_nil)) rfl rfl) pgs_nil)) rfl rfl) pts_ttB pe_teB hs) ?_
  refine lc_core' (Qh := up Q) (st := stNest g3) nη hH (fun D M H' hM q => ⟨M, hM, q⟩) (fun v M H' k Qk hM ⟨p, a, r, b, c, ev, mp, mr, q⟩ hk => ?_) h
  have e3 : vals (g3 a b c) = (((vals η).set i (some a)).set i2 (some b)).set i3 (some c) := by
    rw [((T a b).at hN (ng a b) hi3 c).1, ((R a).at hN (nf a) hi2 b).1, (h2 a).1]
  have nθ : X.N = names (g3 a b c) := (ng a b).trans ((T a b).at hN (ng a b) hi3 c).2.symm
  refine ⟨p, [a, .ref r], ev, sqt hM mp, rfl, a, [.ref r], rfl, .ref r, [], rfl, r, [b, c], rfl, sqt hM mr, rfl, b, [c], rfl, c, [], rfl, rfl, rfl, ?_⟩
  have zz := hk (g3 a b c) M H' nθ hM q (by rw [e3, wipe_mem (by simp), wipe_mem (by simp), wipe_mem (by simp)])
  rw [e3] at zz
  show Qk (((wipe (vals η) [i, i2, i3]).set i (some a)).set i2 (some b) |>.set i3 (some c)) H'
  rw [hw]
  exact zz
theorem ge_lcPN {g : V → V → En} {g3 : V → V → V → En} {kt kt2 : Nat} {pt pt2 : Pos} (P : PutF x η f) (R : ∀ v, PutF y (f v) (g v)) (T : ∀ v u, PutF z (g v u) (g3 v u))
    (h : GI X (.Tuple [.Name x p1, .Tuple [.Name y p2, .Name z p3] kt2 pt2] kt pt) iter η L (PureL X scope ifs elt (stNest g3) Q))
    (hb : blkC X.N X.env.scope scope [(x, X.N.idxOf x), (y, X.N.idxOf y), (z, X.N.idxOf z)] = true) (hw : wipe (vals η) [X.N.idxOf x, X.N.idxOf y, X.N.idxOf z] = vals η)
    (hlx : LocB X scope x := by exact fun _ _ _ _ _ => ⟨.inl rfl, .inr rfl⟩) (hly : LocB X scope y := by exact fun _ _ _ _ _ => ⟨.inl rfl, .inr rfl⟩) (hlz : LocB X scope z := by exact fun _ _ _ _ _ => ⟨.inl rfl, .inr rfl⟩)
    (hN : X.N.Nodup := by assumption) (hc : X.calm = true := by rfl) (hs : ∀ z, foldedSetIterable iter X.env z = pure z := by intro _; rfl) : GE X (.ListComp elt [⟨.Tuple [.Name x p1, .Tuple [.Name y p2, .Name z p3] kt2 pt2] kt pt, iter, ifs, 0⟩] scope pos) η L Q :=
  GE.undrp (ge_lcN P R T (h.imp fun S L1 ⟨p, g, pc, q⟩ d => pc.lc (Q := Q) monoNest d (q d)) hb hw hlx hly hlz hN hc hs)
theorem pure_listN {g3 : V → V → V → En} {pg : Nat → V} {pt : Nat → Bool} {q : Addr} {xs : List V} {R : V → Lg → Prop} (mq : (q, HO.lst xs) ∈ L) (hl : xs.length ≤ 1000000) (ht : ∀ i v, xs[i]? = some v → ∃ t a r b c, v = .ref t ∧ (t, HO.tup [a, .ref r]) ∈ L ∧ (r, HO.tup [b, c]) ∈ L ∧ TurnP X scope ifs elt L (g3 a b c) (pt i) (pg i))
    (r : ∀ D, R (.ref D) ((D, .lst (((List.range xs.length).filter pt).map pg)) :: L)) : PureL X scope ifs elt (stNest g3) R ⟨xs.length, KeepL q xs, itemAt xs⟩ L := by
  refine ⟨pt, pg, ⟨hl, fun M h => h _ mq, fun i x E D acc M hi ⟨hx, hE⟩ nd s => ?_⟩, r⟩
  subst hE
  obtain ⟨t, a, r, b, c, ev, m, m2, k⟩ := ht i x hx
  exact ⟨t, a, r, b, c, ev, (s.to nd).2 _ (memS m), (s.to nd).2 _ (memS m2), turnP_use (st := stNest g3) k s⟩
end
end G
set_option Elab.async false
set_option linter.all false
set_option maxRecDepth 100000
set_option maxHeartbeats 4000000
namespace G
open PySem PySem.Spec PyProof.Rows L2
section
variable {X : Cx} {L : Lg} {Q : QV} {p : Addr} {xs : List V} {k : Int}
theorem go_repT (m1 : (p, HO.tup xs) ∈ L) (ne : xs ≠ []) (k0 : 2 ≤ k) (k1 : k ≤ 1000) (z : xs.length ≤ 1000) (h : ∀ r, Q (.ref r) ((r, .tup (List.replicate k.toNat xs).flatten) :: L)) : GOp X (binaryOp .Mult) (.ref p) (.int k) L Q := GOp.of op_repT fun H hH => ⟨p, k, xs, rfl, rfl, sqt hH m1, ne, k0, k1, z, fun r hr => ⟨_, hH.new hr, h r⟩⟩
end
end G
set_option Elab.async false
set_option linter.all false
set_option maxRecDepth 100000
set_option maxHeartbeats 4000000
namespace G
open PySem PySem.Spec PyProof.Rows L2
section
variable {X : Cx} {η : En} {L : Lg} {elt iter : Expr} {scope : Scope} {pos p1 p3 : Pos} {x y : Str} {f : V → En}
theorem gs_lcR {D : GD} {fy : V → En} {py : Pos} (Py : PutF y η fy) (P : PutF x η f) (h : GI X (.Name x p1) iter η L (RepL X scope elt (stOne f) fun v M => D.nx (fy v) M)) (hb : blkC X.N X.env.scope scope [(x, X.N.idxOf x)] = true) (hlx : LocB X scope x := by exact fun _ _ _ _ _ => ⟨.inl rfl, .inr rfl⟩)
    (hyl : X.env.scope.names.lookup y = some .local := by rfl) (hsw : swapsWith (.ListComp elt [⟨.Name x p1, iter, [], 0⟩] scope pos) (some (.Name y py)) p3.line X.env = pure true := by rfl)
    (hN : X.N.Nodup := by assumption) (hc : X.calm = true := by rfl) (hs : ∀ z, foldedSetIterable iter X.env z = pure z := by intro _; rfl) : GS X (.Assign [.Name y py] (.ListComp elt [⟨.Name x p1, iter, [], 0⟩] scope pos) p3) D η L :=
  GS.undrp (gs_lc1 Py P (h.imp fun S L1 ⟨α, Rep, ds, mono, hn, kp, tn, q⟩ d => lc_rep (Q := fun v M => D.nx (fy v) M) mono lift_one hn kp d (tn d) (q d)) hb hlx hyl hsw hN hc hs)
end
end G
set_option Elab.async false
set_option linter.all false
set_option maxRecDepth 100000
set_option maxHeartbeats 4000000
namespace G
open PySem PySem.Spec PyProof.Rows L2
theorem tuple_mulE (l : Addr) (n : Nat) (dd : Option Addr) (sl : Array (Option Value)) (x : Int) (u : Tok) (c0 : (decide (x < -(2 ^ 63)) || decide (x ≥ 2 ^ 63)) = false) :
    Meets (Builtin.«tuple.__mul__» ⟨[.ref l, .int x u], []⟩) (fun _ R s => s.heap.get? l = some { cls := .type "tuple", dict := dd, data := .seq #[] n, slots := sl } ∧
      R (.ok (.ret (Value.ref l))) s) :=
  .of_wp fun prog w A R s h => by
    obtain ⟨hp, g, d, tk, os⟩ := s
    obtain ⟨hl, h⟩ := h
    have f1 := AutoSeq1.idx_int
    wp_walk using wpAny_loadPart' hl
    repeat (first
      | (refine wpAny_ite_false (decide_eq_false (by rw [c0]; exact Bool.false_ne_true)) ?_; wp_walk using wpAny_loadPart' hl)
      | (refine wpAny_ite_true (decide_eq_true (by rfl)) ?_; wp_walk using wpAny_loadPart' hl))
    exact ⟨_, rfl, h⟩
section
variable {X : Cx} {L : Lg} {Q : QV} {p q : Addr} {xs ys : List V} {k : Int}
theorem op_repE : OpR X (binaryOp .Mult) (fun x y H Q => ∃ l k, x = .ref l ∧ y = .int k ∧ SqT X.K H l [] ∧ 2 ≤ k ∧ k ≤ 1000 ∧ Q (.ref l) H) := by
  intro pins s σ H x y v u Q I rx ry h
  obtain ⟨l, k, rfl, rfl, hT, h1, h2, q⟩ := h
  cases rx
  obtain ⟨t, rfl⟩ := ry
  obtain ⟨its, r, ⟨⟨cls, dd, data, sl⟩, ho, hc, n, hd⟩, hs⟩ := I.tuple hT
  simp only at hc hd
  subst hc hd
  cases r
  have c0 : (decide (k < -(2 ^ 63)) || decide (k ≥ 2 ^ 63)) = false := by
    rw [decide_eq_false (by omega), decide_eq_false (by omega)] <;> rfl
  refine wpAny_binaryOp_repeat_ref (T := "tuple") (U := "int") (by decide) ⟨_, ho, rfl⟩ (fun s' => typeIs_int s' k t) noFill_tuple_mul F.fills_int_mul F.slot_int_rmul repeat_tuple F.slot_int_index.lookup
    (call_meets F.slot_int_rmul (typeIs_int s k t) F.entry_int_rmul (F.args_int_rmul_2 _ _) (int_rmul_tuple k t l #[] n dd sl)
      ⟨ho, rfl, ⟨_, ho, rfl⟩, call_meets F.slot_tuple_mul ⟨_, ho, rfl⟩ F.entry_tuple_mul (F.args_tuple_mul_2 _ _) (tuple_mulE l n dd sl k t c0) ⟨ho, ?_⟩⟩)
  exact ⟨.ref l, H, I, rfl, q⟩
theorem go_repE (m1 : (p, HO.tup []) ∈ L) (k0 : 2 ≤ k) (k1 : k ≤ 1000) (h : Q (.ref p) L) : GOp X (binaryOp .Mult) (.ref p) (.int k) L Q := GOp.of op_repE fun H hH => ⟨p, k, rfl, rfl, sqt hH m1, k0, k1, _, hH, h⟩
theorem go_catT (m1 : (p, HO.tup xs) ∈ L) (m2 : (q, HO.tup ys) ∈ L) (z : xs.length + ys.length ≤ sizeLine) (q0 : xs = [] → Q (.ref q) L) (q1 : xs ≠ [] → ys = [] → Q (.ref p) L) (q2 : xs ≠ [] → ys ≠ [] → ∀ r, Q (.ref r) ((r, .tup (xs ++ ys)) :: L)) : GOp X (binaryOp .Add) (.ref p) (.ref q) L Q := GOp.of op_catA fun H hH => ⟨p, q, xs, ys, rfl, rfl, sqt hH m1, sqt hH m2, z, fun e => ⟨_, hH, q0 e⟩, fun e f => ⟨_, hH, q1 e f⟩, fun e f r hr => ⟨_, hH.new hr, q2 e f r⟩⟩
end
end G
set_option Elab.async false
set_option linter.all false
set_option maxRecDepth 100000
set_option maxHeartbeats 4000000
namespace G
open PySem PySem.Spec PyProof.Rows L2
theorem FnA.as {P : Program} {w : World} {K : PySem.W.Frag} {mg : Str → Option Value} {base : Heap} {CX : CXT} {x y : Str} {k : Nat} {args : List Value → Args} {sp : SpL} (D : FnA P w K mg base CX x k args sp) (h : mg y = mg x) : FnA P w K mg base CX y k args sp :=
  let ⟨f, hm, r⟩ := D
  ⟨f, h.trans hm, r⟩
end G
set_option Elab.async false
set_option linter.all false
set_option maxRecDepth 100000
set_option maxHeartbeats 4000000
namespace G
open PySem PySem.Spec PyProof.Rows L2
end G
local macro_rules | `(tactic| tm_at "g_at") => `(tactic| first | with_reducible apply G.At.here | (with_reducible apply G.At.there; tm_at "g_at"))
local macro_rules | `(tactic| tm_at "g_put") => `(tactic| first | with_reducible apply G.PutF.here | (with_reducible apply G.PutF.there; tm_at "g_put"))
local macro_rules | `(tactic| tm_at "g_pv") => `(tactic| first | with_reducible apply G.Put.here | (with_reducible apply G.Put.there; tm_at "g_pv"))
local macro_rules | `(tactic| tm_at "g_mem") => `(tactic| first | with_reducible apply G.mem0 | (with_reducible apply G.memS; tm_at "g_mem") | (with_reducible apply G.memR; tm_at "g_mem") | with_reducible assumption)
local macro_rules | `(tactic| tm_at "d_mem") => `(tactic| repeat (first | exact G.mem0 | with_reducible apply G.memS))
local macro_rules | `(tactic| tm_at "g_memd") => `(tactic| first | apply G.mem0 | (apply G.memS; tm_at "g_memd") | (with_reducible apply G.memR; tm_at "g_memd"))
local macro_rules | `(tactic| tm_at "g_swap") => `(tactic| first | ((with_reducible apply G.Swap.here); rfl) | with_reducible assumption | ((with_reducible apply G.Swap.there); tm_at "g_swap") | ((with_reducible apply G.Swap.right); tm_at "g_swap"))
local macro_rules | `(tactic| tm_at "g_sub") => `(tactic| first | with_reducible apply G.Sub.refl | (refine G.Sub.trans ?_ G.Sub.drop; tm_at "g_sub"))
local macro_rules | `(tactic| tm_at "g_subl") => `(tactic| first | with_reducible exact List.Sublist.refl _ | with_reducible apply List.Sublist.cons_cons | with_reducible apply List.Sublist.cons)
local macro_rules | `(tactic| tm_at "g_end") => `(tactic| (refine G.Sub.sublist ?_; repeat (first | with_reducible exact List.Sublist.refl _ | with_reducible apply List.Sublist.cons_cons | with_reducible apply List.Sublist.cons | with_reducible apply G.subl_app)))
local macro_rules | `(tactic| tm_at "g_br") => `(tactic| first | with_reducible apply G.br0 | with_reducible apply G.br1 | with_reducible apply G.br2 | with_reducible apply G.br3 | with_reducible apply G.br4 | with_reducible apply G.br5 | with_reducible apply G.br6)
local macro_rules | `(tactic| tm_at "g_len") => `(tactic| (intro vs L Q E h; repeat (first | (obtain ⟨e, _⟩ := h; subst e; rfl) | (obtain ⟨_, h⟩ := h))))
local macro_rules | `(tactic| tm_at "g_size") => `(tactic| first | exact G.sz1 | exact G.sz2 | exact G.sz3 | exact G.sz_le (n := 0) (by decide) | exact G.sz_le (n := 4) (by decide) | exact G.sz_le (n := 5) (by decide) | exact G.sz_le (n := 6) (by decide) | exact G.sz_le (n := 7) (by decide) | exact G.sz_le (n := 8) (by decide) | exact G.sz_le (by first | decide | omega | (simp only [List.length_append, List.length_cons, List.length_nil, List.length_map]; omega)))
/-- all steps but a test's -/
local macro_rules | `(tactic| tm_at "f_e") => `(tactic| first
  | ((with_reducible show G.GE _ (PySem.Expr.Call (PySem.Expr.Attribute _ "append" _) _ _ _) _ _ _); refine G.ge_append ?_)
  | ((with_reducible show G.GE _ (PySem.Expr.Compare _ [_, _] _ _) _ _ _); refine G.ge_chain ?_)
  | ((with_reducible show G.GE _ (PySem.Expr.Subscript _ (PySem.Expr.Slice _ _ none _) _) _ _ _); refine G.ge_sliceL ?_)
  | ((with_reducible show G.GE _ (PySem.Expr.Name _ _) _ _ _); refine G.ge_var (by tm_at "g_at") ?_)
  | ((with_reducible show G.GE _ (PySem.Expr.Dict [] [] _) _ _ _); refine G.ge_dict0 (fun p => ?_))
  | ((with_reducible show G.GE _ (PySem.Expr.Compare _ _ _ _) _ _ _); refine G.ge_cmp ?_)
  | ((with_reducible show G.GE _ (PySem.Expr.Subscript _ _ _) _ _ _); refine G.ge_ix ?_)
  | ((with_reducible show G.GE _ (PySem.Expr.Attribute _ _ _) _ _ _); refine G.ge_attr ?_))
local macro_rules | `(tactic| tm_at "f_t") => `(tactic| first
  | ((with_reducible show G.GT _ (PySem.Expr.Compare _ [_, _] _ _) _ _ _); refine G.gt_chain ?_)
  | ((with_reducible show G.GT _ (PySem.Expr.Compare _ _ _ _) _ _ _); refine G.gt_cmp ?_)
  | refine G.gt_val ?_)
local macro_rules | `(tactic| tm_at "f_s") => `(tactic| first
  | ((with_reducible show G.GS _ (PySem.Stmt.Assign [PySem.Expr.Name _ _] _ _) _ _ _); refine (fun h => G.gs_set (by tm_at "g_put") h) ?_)
  | ((with_reducible show G.GS _ (PySem.Stmt.Assign [PySem.Expr.Tuple [PySem.Expr.Name _ _, PySem.Expr.Name _ _] _ _] (PySem.Expr.Tuple _ _ _) _) _ _ _); refine G.gs_par (by tm_at "g_put") (fun _ => by tm_at "g_put") ?_)
  | ((with_reducible show G.GS _ (PySem.Stmt.Assign [PySem.Expr.Tuple [PySem.Expr.Name _ _, PySem.Expr.Name _ _, PySem.Expr.Name _ _] _ _] (PySem.Expr.Tuple _ _ _) _) _ _ _); refine G.gs_par3 (by tm_at "g_put") (fun _ => by tm_at "g_put") (fun _ _ => by tm_at "g_put") ?_)
  | ((with_reducible show G.GS _ (PySem.Stmt.Assign [PySem.Expr.Attribute _ _ _] _ _) _ _ _); refine G.gs_fld ?_)
  | ((with_reducible show G.GS _ (PySem.Stmt.Assign _ _ _) _ _ _); refine G.gs_asg ?_)
  | ((with_reducible show G.GS _ (PySem.Stmt.AugAssign _ _ _ _) _ _ _); refine G.gs_aug (by tm_at "g_at") (by tm_at "g_put") ?_)
  | ((with_reducible show G.GS _ (PySem.Stmt.Expr _ _) _ _ _); refine G.gs_expr ?_))
local macro_rules | `(tactic| tm_at "f_c") => `(tactic| first
  | ((with_reducible show G.GC _ (PySem.Value.builtin "len") _ _ _); first | refine G.gc_lenL (by tm_at "g_mem") ?_ | refine G.gc_lenT (by tm_at "g_mem") ?_)
  | ((with_reducible show G.GC _ (PySem.Value.builtin "min") [L2.V.int _, L2.V.int _] _ _); refine G.gc_min2 rfl ?_)
  | ((with_reducible show G.GC _ (PySem.Value.builtin "max") [L2.V.int _, L2.V.int _] _ _); refine G.gc_max2 rfl ?_))
local macro_rules | `(tactic| tm_at "f_g") => `(tactic| first
  | ((with_reducible show G.GG _ (PySem.Expr.Name _ _) _ _ _ _); refine G.gg_name (by tm_at "g_pv") ?_)
  | ((with_reducible show G.GG _ (PySem.Expr.Tuple _ _ _) _ _ _ _); refine G.gg_tup (by tm_at "g_mem") ?_)
  | ((with_reducible show G.GG _ (PySem.Expr.Subscript _ _ _) _ _ _ _); refine G.gg_sub ?_))
local macro_rules | `(tactic| tm_at "f_st") => `(tactic| first
  | refine G.gst_30 (by tm_at "g_mem") (by tm_at "g_swap") ?_
  | refine G.gst_31 (by tm_at "g_mem") (by tm_at "g_swap") ?_
  | refine G.gst_32 (by tm_at "g_mem") (by tm_at "g_swap") ?_)
local macro_rules | `(tactic| tm_at "f_i") => `(tactic| first
  | ((with_reducible show ∃ _, _ = _ ∧ _); with_reducible refine ⟨_, rfl, ?_⟩)
  | ((with_reducible show ∃ _ _, _ = _ ∧ _ ∈ _ ∧ _); refine ⟨_, _, rfl, (by tm_at "g_mem"), ?_⟩)
  | ((with_reducible show ∃ _ _, _ ∈ _ ∧ _ < _ ∧ _); refine ⟨_, _, (by tm_at "g_mem"), (by exact G.sz_lt (by simp only [List.length_append, List.length_cons, List.length_nil, List.length_map]; omega)), (by tm_at "g_swap"), ?_⟩)
  | ((with_reducible show ∃ _ _, _ = _ ∧ _); with_reducible refine ⟨_, _, rfl, ?_⟩)
  | ((with_reducible show ∃ _ _ _, _ = _ ∧ _); with_reducible refine ⟨_, _, _, rfl, ?_⟩))
local macro_rules | `(tactic| tm_at "f_a") => `(tactic| first
  | ((with_reducible show G.GA _ (PySem.Expr.Starred _ _ :: _) _ _ _); refine G.ga_star ?_)
  | refine G.ga_cons ?_)
local macro_rules | `(tactic| tm_at "f_k") => `(tactic| first
  | ((with_reducible show G.GK _ (_ :: _) _ _ _); refine G.gk_cons ?_)
  | ((with_reducible show G.GK _ [] _ _ _); refine G.gk_nil ?_)
  | ((with_reducible show G.GGs _ (_ :: _) _ _ _ _); refine G.ggs_cons ?_))
local macro_rules | `(tactic| tm_at "f1") => `(tactic| first
  | ((refine G.JE.to ?_); first | refine G.StB.to (by assumption) ⟨rfl, rfl⟩ ?_ | tm_at "f_e")
  | ((refine G.JS.to ?_); tm_at "f_s")
  | ((refine G.JAt.to ?_); refine G.gat_fldA (by tm_at "g_mem") (by assumption) (by assumption) (by exact rfl) ?_)
  | ((refine G.JIx.to ?_); first | refine G.gi_lst (by tm_at "g_mem") (by exact rfl) ?_ | refine G.gi_tup (by tm_at "g_mem") (by exact rfl) ?_)
  | ((refine G.JT.to ?_); tm_at "f_t")
  | ((refine G.JC.to ?_); tm_at "f_c")
  | ((refine G.JG.to ?_); tm_at "f_g")
  | ((refine G.JA.to ?_); tm_at "f_a")
  | ((refine G.JSt.to ?_); tm_at "f_st")
  | tm_at "f_i"
  | tm_at "f_k")
local macro_rules | `(tactic| tm_at "gx1") => `(tactic| first
  | refine G.St.to ?_
  | ((with_reducible show _ ∧ _); refine ⟨(by tm_at "g_size"), fun p => ?_⟩)
  | tm_at "f1")
local macro_rules | `(tactic| tm_at "g1") => `(tactic| first
  | refine G.St.to ?_
  | refine G.StIf.to ?_
  | ((with_reducible show _ ∧ _); refine ⟨(by tm_at "g_size"), fun p => ?_⟩)
  | tm_at "f1")
local macro_rules | `(tactic| tm_at "g") => `(tactic| repeat (tm_at "g1"; try dsimp only [G.bodyD]))
local macro_rules | `(tactic| tm_at "gx") => `(tactic| repeat (tm_at "gx1"; try dsimp only [G.bodyD]))
local macro_rules | `(tactic| tm_at "g_rot") => `(tactic| first | with_reducible apply G.Sub.refl | (with_reducible apply G.rotStep; tm_at "g_rot") | (with_reducible apply G.rotApp; tm_at "g_rot"))
/-- what a draw is shown of; then intro d n m d0 d1 a0 a1 a2 -/
local macro_rules | `(tactic| tm_at "g_dr") => `(tactic| refine ⟨_, _, _, _, _, _, _, rfl, by tm_at "g_rot", by assumption, by omega, by omega, by omega, by omega, by omega, ?_⟩)
local macro_rules | `(tactic| tm_at "g_draw") => `(tactic| (refine G.ge_call (El := G.NoX) (by assumption) (by assumption) G.passA ?_; tm_at "g"; tm_at "g_dr"))
/-- what a pick is shown of; then intro k x n m hx a0 a1 a2 -/
local macro_rules | `(tactic| tm_at "g_pk") => `(tactic| refine ⟨_, _, _, _, _, _, _, _, rfl, by tm_at "g_rot", by tm_at "g_mem", by assumption, by first | exact Nat.le_of_ble_eq_true rfl | (simp only [List.length_append, List.length_cons, List.length_nil, List.length_map]; omega), by first | exact Nat.le_of_ble_eq_true rfl | (simp only [List.length_append, List.length_cons, List.length_nil, List.length_map]; omega), by omega, by omega, by omega, ?_⟩)
namespace T
open PySem PySem.Spec PyProof.Rows L2 G
theorem count_le {c : Int} : ∀ {l : List Int}, l.Pairwise (· ≤ ·) → ∀ {m : Nat} (h : m < l.length), l[m] ≤ c ↔ m + 1 ≤ l.countP (fun x => decide (x ≤ c))
  | [], _, m, h => absurd h (Nat.not_lt_zero m)
  | a :: r, hs, m, h => by
    obtain ⟨ha, hr⟩ := List.pairwise_cons.mp hs
    rw [List.countP_cons]
    cases m with
    | zero =>
      show a ≤ c ↔ _
      by_cases z : a ≤ c
      · simp [z]
      · have none : r.countP (fun x => decide (x ≤ c)) = 0 := List.countP_eq_zero.mpr fun x hx => by
          have := ha x hx
          simp
          omega
        simp [z, none]
    | succ m =>
      have h' : m < r.length := Nat.lt_of_succ_lt_succ h
      show r[m] ≤ c ↔ _
      rw [count_le hr h']
      by_cases z : a ≤ c
      · simp [z]
      · have none : r.countP (fun x => decide (x ≤ c)) = 0 := List.countP_eq_zero.mpr fun x hx => by
          have := ha x hx
          simp
          omega
        simp [z, none]
/-- how many of the offsets a stretch holds -/
def cnt (os : List Int) (p w b : Int) : Nat := os.countP fun o => decide ((o - b) % p ≤ w)
def below (row : List Int) (b : Int) : Nat := row.countP fun x => decide (x ≤ b - 1)
theorem below_iff {row : List Int} (hs : row.Pairwise (· ≤ ·)) {b : Int} {i : Nat} (h : i < row.length) : row[i] < b ↔ i < below row b := by
  have := count_le (c := b - 1) hs h
  unfold below
  omega
def turnL (row : List Int) (p b : Int) : List Int := row.drop (below row b) ++ (row.take (below row b)).map (· + p)
def twice (row : List Int) (p : Int) : List Int := row ++ row.map (· + p)
theorem below_le {row : List Int} {b : Int} : below row b ≤ row.length := List.countP_le_length
theorem take_lt {row : List Int} (hs : row.Pairwise (· ≤ ·)) {b x : Int} (h : x ∈ row.take (below row b)) : x < b := by
  obtain ⟨i, hi, e⟩ := List.mem_iff_getElem.mp h
  rw [List.length_take] at hi
  have h1 : i < row.length := by omega
  rw [List.getElem_take] at e
  rw [← e]
  exact (below_iff hs h1).mpr (by omega)
theorem drop_ge {row : List Int} (hs : row.Pairwise (· ≤ ·)) {b x : Int} (h : x ∈ row.drop (below row b)) : b ≤ x := by
  obtain ⟨i, hi, e⟩ := List.mem_iff_getElem.mp h
  rw [List.length_drop] at hi
  rw [List.getElem_drop] at e
  have := below_iff (b := b) hs (i := below row b + i) (by omega)
  rw [← e]
  omega
theorem mod_arc {o b p : Int} (o0 : 0 ≤ o) (o1 : o < p) (b0 : 0 ≤ b) (b1 : b < p) : (o - b) % p = if o < b then o + p - b else o - b := by
  split
  · rename_i z
    have e : o - b = (o + p - b) + p * (-1) := by omega
    rw [e, Int.add_mul_emod_self_left, Int.emod_eq_of_lt (by omega) (by omega)]
  · rename_i z
    exact Int.emod_eq_of_lt (by omega) (by omega)
section
variable {row : List Int} {p b w : Int}
theorem cnt_turn (hs : row.Pairwise (· ≤ ·)) (hr : ∀ o ∈ row, 0 ≤ o ∧ o < p) (b0 : 0 ≤ b) (b1 : b < p) : cnt row p w b = (turnL row p b).countP fun x => decide (x ≤ b + w) := by
  unfold cnt turnL
  conv => lhs; rw [← List.take_append_drop (below row b) row]
  rw [List.countP_append, List.countP_append, Nat.add_comm, List.countP_map]
  congr 1
  · refine List.countP_congr fun o ho => ?_
    have h1 := drop_ge hs ho
    have h2 := hr o (List.mem_of_mem_drop ho)
    rw [mod_arc h2.1 h2.2 b0 b1, if_neg (by omega)]
    simp
    omega
  · refine List.countP_congr fun o ho => ?_
    have h1 := take_lt hs ho
    have h2 := hr o (List.mem_of_mem_take ho)
    rw [mod_arc h2.1 h2.2 b0 b1, if_pos h1]
    simp
    omega
theorem turn_sorted (hs : row.Pairwise (· ≤ ·)) (hr : ∀ o ∈ row, 0 ≤ o ∧ o < p) : (turnL row p b).Pairwise (· ≤ ·) := by
  unfold turnL
  refine List.pairwise_append.mpr ⟨hs.drop, List.pairwise_map.mpr (hs.take.imp fun h => by omega), fun x hx y hy => ?_⟩
  obtain ⟨z, hz, rfl⟩ := List.mem_map.mp hy
  have := hr x (List.mem_of_mem_drop hx)
  have := hr z (List.mem_of_mem_take hz)
  omega
theorem twice_sorted (hs : row.Pairwise (· ≤ ·)) (hr : ∀ o ∈ row, 0 ≤ o ∧ o < p) : (twice row p).Pairwise (· ≤ ·) := by
  unfold twice
  refine List.pairwise_append.mpr ⟨hs, List.pairwise_map.mpr (hs.imp fun h => by omega), fun x hx y hy => ?_⟩
  obtain ⟨z, hz, rfl⟩ := List.mem_map.mp hy
  have := hr x hx
  have := hr z hz
  omega
theorem turn_len : (turnL row p b).length = row.length := by
  have := below_le (row := row) (b := b)
  unfold turnL
  rw [List.length_append, List.length_drop, List.length_map, List.length_take]
  omega
theorem turn_at {j : Nat} (h : j < row.length) : (turnL row p b)[j]? = (twice row p)[below row b + j]? := by
  have hb := below_le (row := row) (b := b)
  unfold turnL twice
  by_cases z : j < row.length - below row b
  · rw [List.getElem?_append_left (by rw [List.length_drop]; exact z), List.getElem?_append_left (by omega), List.getElem?_drop]
  · rw [List.getElem?_append_right (by rw [List.length_drop]; omega), List.getElem?_append_right (by omega), List.length_drop, List.getElem?_map, List.getElem?_map, List.getElem?_take, if_pos (by omega)]
    congr 2
    omega
theorem feas_iff (hs : row.Pairwise (· ≤ ·)) (hr : ∀ o ∈ row, 0 ≤ o ∧ o < p) (b0 : 0 ≤ b) (b1 : b < p) {m : Nat} (m1 : m < row.length) {x : Int} (hx : (twice row p)[below row b + m]? = some x) : m + 1 ≤ cnt row p w b ↔ x ≤ b + w := by
  rw [cnt_turn hs hr b0 b1]
  have hl : m < (turnL row p b).length := by rw [turn_len]; exact m1
  have e : (turnL row p b)[m]? = some x := by rw [turn_at m1]; exact hx
  have e2 : (turnL row p b)[m] = x := by
    have := List.getElem?_eq_getElem hl
    rw [this] at e
    exact Option.some.inj e
  rw [← count_le (c := b + w) (turn_sorted hs hr) hl, e2]
theorem twice_len : (twice row p).length = 2 * row.length := by
  unfold twice
  rw [List.length_append, List.length_map]
  omega
theorem twice_mono (hs : row.Pairwise (· ≤ ·)) (hr : ∀ o ∈ row, 0 ≤ o ∧ o < p) {i j : Nat} {x y : Int} (ij : i ≤ j) (hi : (twice row p)[i]? = some x) (hj : (twice row p)[j]? = some y) : x ≤ y := by
  obtain ⟨h1, e1⟩ := List.getElem?_eq_some_iff.mp hi
  obtain ⟨h2, e2⟩ := List.getElem?_eq_some_iff.mp hj
  rcases Nat.lt_or_eq_of_le ij with z | z
  · rw [← e1, ← e2]
    exact List.pairwise_iff_getElem.mp (twice_sorted hs hr) i j h1 h2 z
  · subst z
    rw [← e1, ← e2]
    exact Int.le_refl _
theorem twice_low {i : Nat} (h : i < row.length) : (twice row p)[i]? = some row[i] := by
  unfold twice
  rw [List.getElem?_append_left h, List.getElem?_eq_getElem h]
theorem twice_high {i : Nat} (h : i < row.length) : (twice row p)[row.length + i]? = some (row[i] + p) := by
  unfold twice
  rw [List.getElem?_append_right (by omega), List.getElem?_map, Nat.add_sub_cancel_left, List.getElem?_eq_getElem h]
  rfl
/-- a pair of the program: how far, from where -/
def IsPair (row : List Int) (p : Int) (m : Nat) (at_ : Nat) (far b : Int) : Prop := ∃ x, at_ < row.length ∧ row[at_]? = some b ∧ (twice row p)[at_ + m]? = some x ∧ far = x - b
/-- a pair is a stretch that holds as many -/
theorem pair_holds (hs : row.Pairwise (· ≤ ·)) (hr : ∀ o ∈ row, 0 ≤ o ∧ o < p) {m at_ : Nat} {far b : Int} (m1 : m < row.length) (h : IsPair row p m at_ far b) : m + 1 ≤ cnt row p far b := by
  obtain ⟨x, ha, hb, hx, rfl⟩ := h
  have hb' : row[at_] = b := by
    rw [List.getElem?_eq_getElem ha] at hb
    exact Option.some.inj hb
  have hbr := hr b (by rw [← hb']; exact List.getElem_mem ha)
  have t1 : below row b ≤ at_ := by
    have := below_iff (b := b) hs ha
    omega
  have hl : below row b + m < (twice row p).length := by rw [twice_len]; omega
  obtain ⟨y, hy⟩ : ∃ y, (twice row p)[below row b + m]? = some y := ⟨_, List.getElem?_eq_getElem hl⟩
  have yx := twice_mono hs hr (by omega) hy hx
  exact (feas_iff hs hr hbr.1 hbr.2 m1 hy).mpr (by omega)
/-- a stretch that holds as many is not less than some pair -/
theorem pair_le (hs : row.Pairwise (· ≤ ·)) (hr : ∀ o ∈ row, 0 ≤ o ∧ o < p) {m : Nat} {w b : Int} (m1 : m < row.length) (b0 : 0 ≤ b) (b1 : b < p) (h : m + 1 ≤ cnt row p w b) : ∃ at_ far c, IsPair row p m at_ far c ∧ le2 (far, c) (w, b) := by
  have hbl := below_le (row := row) (b := b)
  have hl : below row b + m < (twice row p).length := by rw [twice_len]; omega
  obtain ⟨y, hy⟩ : ∃ y, (twice row p)[below row b + m]? = some y := ⟨_, List.getElem?_eq_getElem hl⟩
  have yw := (feas_iff hs hr b0 b1 m1 hy).mp h
  by_cases z : below row b < row.length
  · have g := below_iff (b := b) hs z
    refine ⟨below row b, y - row[below row b], row[below row b], ⟨y, z, List.getElem?_eq_getElem z, hy, rfl⟩, ?_⟩
    unfold le2
    dsimp only
    omega
  · have e : below row b = row.length := by omega
    have n0 : 0 < row.length := by omega
    rw [e, twice_high m1] at hy
    have hy := Option.some.inj hy
    have h0 := hr row[0] (List.getElem_mem n0)
    refine ⟨0, row[m] - row[0], row[0], ⟨row[m], n0, List.getElem?_eq_getElem n0, by rw [Nat.zero_add]; exact twice_low m1, rfl⟩, ?_⟩
    unfold le2
    dsimp only
    omega
theorem cnt_all (hr : ∀ o ∈ row, 0 ≤ o ∧ o < p) (hp : 1 ≤ p) : cnt row p (p - 1) 0 = row.length := by
  unfold cnt
  refine List.countP_eq_length.mpr fun o ho => decide_eq_true ?_
  have := Int.emod_lt_of_pos (o - 0) (show 0 < p by omega)
  omega
theorem cnt_perm {os : List Int} (h : row.Perm os) : cnt row p w b = cnt os p w b := h.countP_eq _
end
/-- what the program and the law's trying both find -/
structure Least (os : List Int) (p : Int) (m : Nat) (w b : Int) : Prop where
  w0 : 0 ≤ w
  w1 : w < p
  b0 : 0 ≤ b
  b1 : b < p
  holds : m + 1 ≤ cnt os p w b
  least : ∀ w' b', 0 ≤ w' → w' < p → 0 ≤ b' → b' < p → m + 1 ≤ cnt os p w' b' → le2 (w, b) (w', b')
theorem least_of {row os : List Int} {p : Int} {m at_ : Nat} {w b : Int} (hp : row.Perm os) (hs : row.Pairwise (· ≤ ·)) (hr : ∀ o ∈ row, 0 ≤ o ∧ o < p) (p1 : 1 ≤ p) (m1 : m < row.length) (h : IsPair row p m at_ w b) (hl : ∀ at' far c, IsPair row p m at' far c → le2 (w, b) (far, c)) : Least os p m w b := by
  have hh := pair_holds hs hr m1 h
  obtain ⟨x, ha, hb, hx, ew⟩ := h
  have hb' : row[at_] = b := by
    rw [List.getElem?_eq_getElem ha] at hb
    exact Option.some.inj hb
  have hbr := hr b (by rw [← hb']; exact List.getElem_mem ha)
  have bx := twice_mono hs hr (Nat.le_add_right at_ m) (twice_low ha) hx
  have small : w < p := by
    obtain ⟨at', far, c, ip, lle⟩ := pair_le (w := p - 1) (b := 0) hs hr m1 (by omega) (by omega) (by rw [cnt_all hr p1]; exact m1)
    have := hl at' far c ip
    unfold le2 at this lle
    dsimp only at this lle
    omega
  refine ⟨by omega, small, hbr.1, hbr.2, by rw [← cnt_perm hp]; exact hh, fun w' b' w0 w1 b0 b1 hc => ?_⟩
  rw [← cnt_perm hp] at hc
  obtain ⟨at', far, c, ip, lle⟩ := pair_le hs hr m1 b0 b1 hc
  have := hl at' far c ip
  unfold le2 at this lle ⊢
  dsimp only at this lle ⊢
  omega
def leftL (os : List Int) (p w b : Int) : List Int := ((List.range os.length).filter fun i => decide (w < (os.getD i 0 - b) % p)).map fun i : Nat => (i : Int)
/-- what both find, where m may be 0 or below -/
def Found (os : List Int) (p k w b : Int) : Prop := ((os.length : Int) - k ≤ 0 → w = 0 ∧ b = 0) ∧ (0 < (os.length : Int) - k → Least os p ((os.length : Int) - k - 1).toNat w b)
/-- the program's pairs -/
def prsL (row : List Int) (p : Int) (m : Nat) : List (Int × Int) := (List.range row.length).map fun i => ((twice row p).getD (i + m) 0 - (twice row p).getD i 0, (twice row p).getD i 0)
theorem prs_pair {row : List Int} {p : Int} {m : Nat} {d : Int × Int} (m1 : m < row.length) : d ∈ prsL row p m ↔ ∃ at_, IsPair row p m at_ d.1 d.2 := by
  have tl := twice_len (row := row) (p := p)
  have gd : ∀ i, i < 2 * row.length → (twice row p)[i]? = some ((twice row p).getD i 0) := fun i hi => by
    rw [List.getD_eq_getElem?_getD, List.getElem?_eq_getElem (by omega)]
    rfl
  have lo : ∀ i, i < row.length → row[i]? = some ((twice row p).getD i 0) := fun i hi => by
    rw [← gd i (by omega), twice_low hi, List.getElem?_eq_getElem hi]
  unfold prsL
  rw [List.mem_map]
  constructor
  · rintro ⟨i, hi, rfl⟩
    have hi' := List.mem_range.mp hi
    exact ⟨i, _, hi', lo i hi', gd _ (by omega), rfl⟩
  · rintro ⟨i, x, hi, hb, hx, ef⟩
    refine ⟨i, List.mem_range.mpr hi, ?_⟩
    rw [lo i hi] at hb
    rw [gd _ (by omega)] at hx
    rw [Option.some.inj hb, Option.some.inj hx, ← ef]
def top (i : Nat) : Stmt := PySem.Challenge.pw_wheelreach_k88_misread_entries_and_perio.main.body.getD i (.Pass ⟨0, 0, 0, 0⟩)
abbrev s_BadNumber_init : Stmt := clsAt (top 3) 0
abbrev N_BadNumber_init : List Str := ["self", "value", "__class__"]
theorem sc_BadNumber_init : NdefX.NScope N_BadNumber_init ["self", "value"] ["__class__"] (defScope s_BadNumber_init) := NdefX.nscope_by (by decide +kernel)
abbrev s_BadLot_init : Stmt := clsAt (top 4) 0
abbrev N_BadLot_init : List Str := ["self", "part", "__class__"]
theorem sc_BadLot_init : NdefX.NScope N_BadLot_init ["self", "part"] ["__class__"] (defScope s_BadLot_init) := NdefX.nscope_by (by decide +kernel)
abbrev s_BadWheel_init : Stmt := clsAt (top 5) 0
abbrev N_BadWheel_init : List Str := ["self", "part", "__class__"]
theorem sc_BadWheel_init : NdefX.NScope N_BadWheel_init ["self", "part"] ["__class__"] (defScope s_BadWheel_init) := NdefX.nscope_by (by decide +kernel)
abbrev s_BadMeter_init : Stmt := clsAt (top 6) 0
abbrev N_BadMeter_init : List Str := ["self", "part", "__class__"]
theorem sc_BadMeter_init : NdefX.NScope N_BadMeter_init ["self", "part"] ["__class__"] (defScope s_BadMeter_init) := NdefX.nscope_by (by decide +kernel)
abbrev s_BadValue_init : Stmt := clsAt (top 7) 0
abbrev N_BadValue_init : List Str := ["self", "value", "__class__"]
theorem sc_BadValue_init : NdefX.NScope N_BadValue_init ["self", "value"] ["__class__"] (defScope s_BadValue_init) := NdefX.nscope_by (by decide +kernel)
abbrev s_BadLog_init : Stmt := clsAt (top 8) 0
abbrev N_BadLog_init : List Str := ["self", "at", "__class__"]
theorem sc_BadLog_init : NdefX.NScope N_BadLog_init ["self", "at"] ["__class__"] (defScope s_BadLog_init) := NdefX.nscope_by (by decide +kernel)
abbrev s_BadText_init : Stmt := clsAt (top 9) 0
abbrev N_BadText_init : List Str := ["self", "line", "word", "__class__"]
theorem sc_BadText_init : NdefX.NScope N_BadText_init ["self", "line", "word"] ["__class__"] (defScope s_BadText_init) := NdefX.nscope_by (by decide +kernel)
abbrev s_NoPlace_init : Stmt := clsAt (top 11) 0
abbrev N_NoPlace_init : List Str := ["self", "at", "__class__"]
theorem sc_NoPlace_init : NdefX.NScope N_NoPlace_init ["self", "at"] ["__class__"] (defScope s_NoPlace_init) := NdefX.nscope_by (by decide +kernel)
abbrev s_Unlike_init : Stmt := clsAt (top 12) 0
abbrev N_Unlike_init : List Str := ["self", "part", "__class__"]
theorem sc_Unlike_init : NdefX.NScope N_Unlike_init ["self", "part"] ["__class__"] (defScope s_Unlike_init) := NdefX.nscope_by (by decide +kernel)
abbrev s_TooMany_init : Stmt := clsAt (top 13) 0
abbrev N_TooMany_init : List Str := ["self", "what", "most", "__class__"]
theorem sc_TooMany_init : NdefX.NScope N_TooMany_init ["self", "what", "most"] ["__class__"] (defScope s_TooMany_init) := NdefX.nscope_by (by decide +kernel)
abbrev s_Wheel_init : Stmt := clsAt (top 74) 1
abbrev N_Wheel_init : List Str := ["self", "period", "back", "ahead"]
theorem sc_Wheel_init : FnScope N_Wheel_init ["self", "period", "back", "ahead"] (defScope s_Wheel_init) := ⟨rfl, rfl, rfl, by decide +kernel, rfl, by decide +kernel, by decide +kernel⟩
instance : G.NdI N_Wheel_init := ⟨sc_Wheel_init.nd⟩
instance : G.OkL (defScope s_Wheel_init) ["self", "period", "back", "ahead"] := ⟨by decide +kernel⟩
abbrev s_Wheel_trusted : Stmt := clsAt (top 74) 3
abbrev N_Wheel_trusted : List Str := ["self"]
theorem sc_Wheel_trusted : FnScope N_Wheel_trusted ["self"] (defScope s_Wheel_trusted) := ⟨rfl, rfl, rfl, by decide +kernel, rfl, by decide +kernel, by decide +kernel⟩
instance : G.NdI N_Wheel_trusted := ⟨sc_Wheel_trusted.nd⟩
instance : G.OkL (defScope s_Wheel_trusted) ["self"] := ⟨by decide +kernel⟩
abbrev s_Wheel_play : Stmt := clsAt (top 74) 4
abbrev N_Wheel_play : List Str := ["self"]
theorem sc_Wheel_play : FnScope N_Wheel_play ["self"] (defScope s_Wheel_play) := ⟨rfl, rfl, rfl, by decide +kernel, rfl, by decide +kernel, by decide +kernel⟩
instance : G.NdI N_Wheel_play := ⟨sc_Wheel_play.nd⟩
instance : G.OkL (defScope s_Wheel_play) ["self"] := ⟨by decide +kernel⟩
abbrev s_Wheel_is_mark : Stmt := clsAt (top 74) 7
abbrev N_Wheel_is_mark : List Str := ["self", "mark"]
theorem sc_Wheel_is_mark : FnScope N_Wheel_is_mark ["self", "mark"] (defScope s_Wheel_is_mark) := ⟨rfl, rfl, rfl, by decide +kernel, rfl, by decide +kernel, by decide +kernel⟩
instance : G.NdI N_Wheel_is_mark := ⟨sc_Wheel_is_mark.nd⟩
instance : G.OkL (defScope s_Wheel_is_mark) ["self", "mark"] := ⟨by decide +kernel⟩
abbrev s_Wheel_lets : Stmt := clsAt (top 74) 9
abbrev N_Wheel_lets : List Str := ["self", "value", "mark"]
theorem sc_Wheel_lets : FnScope N_Wheel_lets ["self", "value", "mark"] (defScope s_Wheel_lets) := ⟨rfl, rfl, rfl, by decide +kernel, rfl, by decide +kernel, by decide +kernel⟩
instance : G.NdI N_Wheel_lets := ⟨sc_Wheel_lets.nd⟩
instance : G.OkL (defScope s_Wheel_lets) ["self", "value", "mark"] := ⟨by decide +kernel⟩
abbrev s_Wheel_eq : Stmt := clsAt (top 74) 15
abbrev N_Wheel_eq : List Str := ["self", "other"]
theorem sc_Wheel_eq : FnScope N_Wheel_eq ["self", "other"] (defScope s_Wheel_eq) := ⟨rfl, rfl, rfl, by decide +kernel, rfl, by decide +kernel, by decide +kernel⟩
instance : G.NdI N_Wheel_eq := ⟨sc_Wheel_eq.nd⟩
instance : G.OkL (defScope s_Wheel_eq) ["self", "other"] := ⟨by decide +kernel⟩
abbrev s_Wheel_str : Stmt := clsAt (top 74) 16
abbrev N_Wheel_str : List Str := ["self"]
theorem sc_Wheel_str : FnScope N_Wheel_str ["self"] (defScope s_Wheel_str) := ⟨rfl, rfl, rfl, by decide +kernel, rfl, by decide +kernel, by decide +kernel⟩
instance : G.NdI N_Wheel_str := ⟨sc_Wheel_str.nd⟩
instance : G.OkL (defScope s_Wheel_str) ["self"] := ⟨by decide +kernel⟩
abbrev s_Grid_init : Stmt := clsAt (top 75) 1
abbrev N_Grid_init : List Str := ["self", "period", "__class__"]
theorem sc_Grid_init : NdefX.NScope N_Grid_init ["self", "period"] ["__class__"] (defScope s_Grid_init) := NdefX.nscope_by (by decide +kernel)
abbrev s_Meter_init : Stmt := clsAt (top 80) 0
abbrev N_Meter_init : List Str := ["self", "off", "more", "lost", "wheels", "wheel"]
theorem sc_Meter_init : FnScope N_Meter_init ["self", "off", "more", "lost", "wheels"] (defScope s_Meter_init) := ⟨rfl, rfl, rfl, by decide +kernel, rfl, by decide +kernel, by decide +kernel⟩
instance : G.NdI N_Meter_init := ⟨sc_Meter_init.nd⟩
instance : G.OkL (defScope s_Meter_init) ["self", "off", "more", "lost", "wheels"] := ⟨by decide +kernel⟩
abbrev s_Meter_iter : Stmt := clsAt (top 80) 11
abbrev N_Meter_iter : List Str := ["self"]
theorem sc_Meter_iter : FnScope N_Meter_iter ["self"] (defScope s_Meter_iter) := ⟨rfl, rfl, rfl, by decide +kernel, rfl, by decide +kernel, by decide +kernel⟩
instance : G.NdI N_Meter_iter := ⟨sc_Meter_iter.nd⟩
instance : G.OkL (defScope s_Meter_iter) ["self"] := ⟨by decide +kernel⟩
abbrev s_Meter_getitem : Stmt := clsAt (top 80) 12
abbrev N_Meter_getitem : List Str := ["self", "i"]
theorem sc_Meter_getitem : FnScope N_Meter_getitem ["self", "i"] (defScope s_Meter_getitem) := ⟨rfl, rfl, rfl, by decide +kernel, rfl, by decide +kernel, by decide +kernel⟩
instance : G.NdI N_Meter_getitem := ⟨sc_Meter_getitem.nd⟩
instance : G.OkL (defScope s_Meter_getitem) ["self", "i"] := ⟨by decide +kernel⟩
abbrev s_Paper_init : Stmt := clsAt (top 83) 2
abbrev N_Paper_init : List Str := ["self", "parts"]
theorem sc_Paper_init : FnScope N_Paper_init ["self", "parts"] (defScope s_Paper_init) := ⟨rfl, rfl, rfl, by decide +kernel, rfl, by decide +kernel, by decide +kernel⟩
instance : G.NdI N_Paper_init := ⟨sc_Paper_init.nd⟩
instance : G.OkL (defScope s_Paper_init) ["self", "parts"] := ⟨by decide +kernel⟩
abbrev s_Paper_eq : Stmt := clsAt (top 83) 3
abbrev N_Paper_eq : List Str := ["self", "other"]
theorem sc_Paper_eq : FnScope N_Paper_eq ["self", "other"] (defScope s_Paper_eq) := ⟨rfl, rfl, rfl, by decide +kernel, rfl, by decide +kernel, by decide +kernel⟩
instance : G.NdI N_Paper_eq := ⟨sc_Paper_eq.nd⟩
instance : G.OkL (defScope s_Paper_eq) ["self", "other"] := ⟨by decide +kernel⟩
abbrev s_Paper_bool : Stmt := clsAt (top 83) 4
abbrev N_Paper_bool : List Str := ["self"]
theorem sc_Paper_bool : FnScope N_Paper_bool ["self"] (defScope s_Paper_bool) := ⟨rfl, rfl, rfl, by decide +kernel, rfl, by decide +kernel, by decide +kernel⟩
instance : G.NdI N_Paper_bool := ⟨sc_Paper_bool.nd⟩
instance : G.OkL (defScope s_Paper_bool) ["self"] := ⟨by decide +kernel⟩
abbrev s_Stretch_init : Stmt := clsAt (top 88) 1
abbrev N_Stretch_init : List Str := ["self", "begin", "width", "left", "__class__"]
theorem sc_Stretch_init : NdefX.NScope N_Stretch_init ["self", "begin", "width", "left"] ["__class__"] (defScope s_Stretch_init) := NdefX.nscope_by (by decide +kernel)
abbrev s_is_whole : Stmt := top 15
abbrev N_is_whole : List Str := ["value"]
theorem sc_is_whole : FnScope N_is_whole ["value"] (defScope s_is_whole) := ⟨rfl, rfl, rfl, by decide +kernel, rfl, by decide +kernel, by decide +kernel⟩
instance : G.NdI N_is_whole := ⟨sc_is_whole.nd⟩
instance : G.OkL (defScope s_is_whole) ["value"] := ⟨by decide +kernel⟩
abbrev s_need_part : Stmt := top 71
abbrev N_need_part : List Str := ["value", "least", "part"]
theorem sc_need_part : FnScope N_need_part ["value", "least", "part"] (defScope s_need_part) := ⟨rfl, rfl, rfl, by decide +kernel, rfl, by decide +kernel, by decide +kernel⟩
instance : G.NdI N_need_part := ⟨sc_need_part.nd⟩
instance : G.OkL (defScope s_need_part) ["value", "least", "part"] := ⟨by decide +kernel⟩
abbrev s_need_value : Stmt := top 72
abbrev N_need_value : List Str := ["value"]
theorem sc_need_value : FnScope N_need_value ["value"] (defScope s_need_value) := ⟨rfl, rfl, rfl, by decide +kernel, rfl, by decide +kernel, by decide +kernel⟩
instance : G.NdI N_need_value := ⟨sc_need_value.nd⟩
instance : G.OkL (defScope s_need_value) ["value"] := ⟨by decide +kernel⟩
abbrev s_need_count : Stmt := top 79
abbrev N_need_count : List Str := ["value", "part"]
theorem sc_need_count : FnScope N_need_count ["value", "part"] (defScope s_need_count) := ⟨rfl, rfl, rfl, by decide +kernel, rfl, by decide +kernel, by decide +kernel⟩
instance : G.NdI N_need_count := ⟨sc_need_count.nd⟩
instance : G.OkL (defScope s_need_count) ["value", "part"] := ⟨by decide +kernel⟩
abbrev s_need_least : Stmt := top 89
abbrev N_need_least : List Str := ["value", "least"]
theorem sc_need_least : FnScope N_need_least ["value", "least"] (defScope s_need_least) := ⟨rfl, rfl, rfl, by decide +kernel, rfl, by decide +kernel, by decide +kernel⟩
instance : G.NdI N_need_least := ⟨sc_need_least.nd⟩
instance : G.OkL (defScope s_need_least) ["value", "least"] := ⟨by decide +kernel⟩
abbrev s_need_few : Stmt := top 90
abbrev N_need_few : List Str := ["value"]
theorem sc_need_few : FnScope N_need_few ["value"] (defScope s_need_few) := ⟨rfl, rfl, rfl, by decide +kernel, rfl, by decide +kernel, by decide +kernel⟩
instance : G.NdI N_need_few := ⟨sc_need_few.nd⟩
instance : G.OkL (defScope s_need_few) ["value"] := ⟨by decide +kernel⟩
abbrev s_is_marks : Stmt := top 92
abbrev N_is_marks : List Str := ["marks", "periods", "pairs", "mark", "period"]
theorem sc_is_marks : FnScope N_is_marks ["marks", "periods"] (defScope s_is_marks) := ⟨rfl, rfl, rfl, by decide +kernel, rfl, by decide +kernel, by decide +kernel⟩
instance : G.NdI N_is_marks := ⟨sc_is_marks.nd⟩
instance : G.OkL (defScope s_is_marks) ["marks", "periods", "pairs"] := ⟨by decide +kernel⟩
abbrev s_is_entry : Stmt := top 93
abbrev N_is_entry : List Str := ["value"]
theorem sc_is_entry : FnScope N_is_entry ["value"] (defScope s_is_entry) := ⟨rfl, rfl, rfl, by decide +kernel, rfl, by decide +kernel, by decide +kernel⟩
instance : G.NdI N_is_entry := ⟨sc_is_entry.nd⟩
instance : G.OkL (defScope s_is_entry) ["value"] := ⟨by decide +kernel⟩
abbrev s_need_entries : Stmt := top 94
abbrev N_need_entries : List Str := ["entries", "periods", "at", "entry"]
theorem sc_need_entries : FnScope N_need_entries ["entries", "periods"] (defScope s_need_entries) := ⟨rfl, rfl, rfl, by decide +kernel, rfl, by decide +kernel, by decide +kernel⟩
instance : G.NdI N_need_entries := ⟨sc_need_entries.nd⟩
instance : G.OkL (defScope s_need_entries) ["entries", "periods", "at", "entry"] := ⟨by decide +kernel⟩
abbrev s_stretch_of : Stmt := top 95
abbrev N_stretch_of : List Str := ["period", "offsets", "skip", "many", "row", "begin", "width", "again", "pairs", "left", "offset", "at", "far", "least"]
theorem sc_stretch_of : FnScope N_stretch_of ["period", "offsets", "skip"] (defScope s_stretch_of) := ⟨rfl, rfl, rfl, by decide +kernel, rfl, by decide +kernel, by decide +kernel⟩
instance : G.NdI N_stretch_of := ⟨sc_stretch_of.nd⟩
instance : G.OkL (defScope s_stretch_of) ["period", "offsets", "skip", "many", "row", "begin", "width", "again", "pairs", "left"] := ⟨by decide +kernel⟩
abbrev s_offsets_at : Stmt := top 96
abbrev N_offsets_at : List Str := ["entries", "place", "period", "marks", "at", "entry", "value", "mark"]
theorem sc_offsets_at : FnScope N_offsets_at ["entries", "place", "period"] (defScope s_offsets_at) := ⟨rfl, rfl, rfl, by decide +kernel, rfl, by decide +kernel, by decide +kernel⟩
instance : G.NdI N_offsets_at := ⟨sc_offsets_at.nd⟩
instance : G.OkL (defScope s_offsets_at) ["entries", "place", "period", "marks"] := ⟨by decide +kernel⟩
abbrev s_need_log : Stmt := top 97
abbrev N_need_log : List Str := ["meter", "entries", "wheel"]
theorem sc_need_log : FnScope N_need_log ["meter", "entries"] (defScope s_need_log) := ⟨rfl, rfl, rfl, by decide +kernel, rfl, by decide +kernel, by decide +kernel⟩
instance : G.NdI N_need_log := ⟨sc_need_log.nd⟩
instance : G.OkL (defScope s_need_log) ["meter", "entries"] := ⟨by decide +kernel⟩
abbrev s_off_in : Stmt := top 98
abbrev N_off_in : List Str := ["meter", "entry", "pairs", "at", "wheel", "mark"]
theorem sc_off_in : FnScope N_off_in ["meter", "entry"] (defScope s_off_in) := ⟨rfl, rfl, rfl, by decide +kernel, rfl, by decide +kernel, by decide +kernel⟩
instance : G.NdI N_off_in := ⟨sc_off_in.nd⟩
instance : G.OkL (defScope s_off_in) ["meter", "entry", "pairs"] := ⟨by decide +kernel⟩
abbrev s_wheels_off : Stmt := top 99
abbrev N_wheels_off : List Str := ["meter", "entries", "entry"]
theorem sc_wheels_off : FnScope N_wheels_off ["meter", "entries"] (defScope s_wheels_off) := ⟨rfl, rfl, rfl, by decide +kernel, rfl, by decide +kernel, by decide +kernel⟩
instance : G.NdI N_wheels_off := ⟨sc_wheels_off.nd⟩
instance : G.OkL (defScope s_wheels_off) ["meter", "entries"] := ⟨by decide +kernel⟩
abbrev s_is_misread : Stmt := top 100
abbrev N_is_misread : List Str := ["meter", "entry", "lost", "off", "at", "mark"]
theorem sc_is_misread : FnScope N_is_misread ["meter", "entry"] (defScope s_is_misread) := ⟨rfl, rfl, rfl, by decide +kernel, rfl, by decide +kernel, by decide +kernel⟩
instance : G.NdI N_is_misread := ⟨sc_is_misread.nd⟩
instance : G.OkL (defScope s_is_misread) ["meter", "entry", "lost", "off"] := ⟨by decide +kernel⟩
abbrev s_misread : Stmt := top 101
abbrev N_misread : List Str := ["meter", "entries", "at", "entry"]
theorem sc_misread : FnScope N_misread ["meter", "entries"] (defScope s_misread) := ⟨rfl, rfl, rfl, by decide +kernel, rfl, by decide +kernel, by decide +kernel⟩
instance : G.NdI N_misread := ⟨sc_misread.nd⟩
instance : G.OkL (defScope s_misread) ["meter", "entries"] := ⟨by decide +kernel⟩
abbrev s_is_longer : Stmt := top 102
abbrev N_is_longer : List Str := ["entry", "place", "mark"]
theorem sc_is_longer : FnScope N_is_longer ["entry", "place"] (defScope s_is_longer) := ⟨rfl, rfl, rfl, by decide +kernel, rfl, by decide +kernel, by decide +kernel⟩
instance : G.NdI N_is_longer := ⟨sc_is_longer.nd⟩
instance : G.OkL (defScope s_is_longer) ["entry", "place"] := ⟨by decide +kernel⟩
abbrev s_is_fit : Stmt := top 103
abbrev N_is_fit : List Str := ["entries", "place", "period", "play", "marks", "offsets", "entry", "mark", "at", "offset"]
theorem sc_is_fit : FnScope N_is_fit ["entries", "place", "period", "play"] (defScope s_is_fit) := ⟨rfl, rfl, rfl, by decide +kernel, rfl, by decide +kernel, by decide +kernel⟩
instance : G.NdI N_is_fit := ⟨sc_is_fit.nd⟩
instance : G.OkL (defScope s_is_fit) ["entries", "place", "period", "play", "marks", "offsets"] := ⟨by decide +kernel⟩
abbrev s_periods_that_fit : Stmt := top 104
abbrev N_periods_that_fit : List Str := ["entries", "place", "play", "most", "at", "entry", "period"]
theorem sc_periods_that_fit : FnScope N_periods_that_fit ["entries", "place", "play", "most"] (defScope s_periods_that_fit) := ⟨rfl, rfl, rfl, by decide +kernel, rfl, by decide +kernel, by decide +kernel⟩
instance : G.NdI N_periods_that_fit := ⟨sc_periods_that_fit.nd⟩
instance : G.OkL (defScope s_periods_that_fit) ["entries", "place", "play", "most", "at", "entry"] := ⟨by decide +kernel⟩
abbrev s_law_pen : Stmt := top 106
abbrev N_law_pen : List Str := ["_law_script"]
theorem sc_law_pen : FnScope N_law_pen ["_law_script"] (defScope s_law_pen) := ⟨rfl, rfl, rfl, by decide +kernel, rfl, by decide +kernel, by decide +kernel⟩
instance : G.NdI N_law_pen := ⟨sc_law_pen.nd⟩
instance : G.OkL (defScope s_law_pen) ["_law_script"] := ⟨by decide +kernel⟩
abbrev s_law_draw : Stmt := top 107
abbrev N_law_draw : List Str := ["_law_pen_here", "_law_many", "_law_digit", "_law_tick", "_law_cell", "_law_great", "_law_mixed"]
theorem sc_law_draw : FnScope N_law_draw ["_law_pen_here", "_law_many"] (defScope s_law_draw) := ⟨rfl, rfl, rfl, by decide +kernel, rfl, by decide +kernel, by decide +kernel⟩
instance : G.NdI N_law_draw := ⟨sc_law_draw.nd⟩
instance : G.OkL (defScope s_law_draw) ["_law_pen_here", "_law_many", "_law_digit", "_law_tick", "_law_cell", "_law_great", "_law_mixed"] := ⟨by decide +kernel⟩
abbrev s_law_pick : Stmt := top 108
abbrev N_law_pick : List Str := ["_law_pen_here", "_law_some"]
theorem sc_law_pick : FnScope N_law_pick ["_law_pen_here", "_law_some"] (defScope s_law_pick) := ⟨rfl, rfl, rfl, by decide +kernel, rfl, by decide +kernel, by decide +kernel⟩
instance : G.NdI N_law_pick := ⟨sc_law_pick.nd⟩
instance : G.OkL (defScope s_law_pick) ["_law_pen_here", "_law_some"] := ⟨by decide +kernel⟩
abbrev s_law_wheels : Stmt := top 109
abbrev N_law_wheels : List Str := ["_law_pen_here", "_law_most", "_law_found", "_law_turn", "_law_period", "_law_plain"]
theorem sc_law_wheels : FnScope N_law_wheels ["_law_pen_here", "_law_most"] (defScope s_law_wheels) := ⟨rfl, rfl, rfl, by decide +kernel, rfl, by decide +kernel, by decide +kernel⟩
instance : G.NdI N_law_wheels := ⟨sc_law_wheels.nd⟩
instance : G.OkL (defScope s_law_wheels) ["_law_pen_here", "_law_most", "_law_found", "_law_turn", "_law_period", "_law_plain"] := ⟨by decide +kernel⟩
abbrev s_law_wheel : Stmt := top 110
abbrev N_law_wheel : List Str := ["_law_plain"]
theorem sc_law_wheel : FnScope N_law_wheel ["_law_plain"] (defScope s_law_wheel) := ⟨rfl, rfl, rfl, by decide +kernel, rfl, by decide +kernel, by decide +kernel⟩
instance : G.NdI N_law_wheel := ⟨sc_law_wheel.nd⟩
instance : G.OkL (defScope s_law_wheel) ["_law_plain"] := ⟨by decide +kernel⟩
abbrev s_law_meter : Stmt := top 111
abbrev N_law_meter : List Str := ["_law_plains", "_law_off_here", "_law_more", "_law_lost", "_law_some", "_law_plain"]
theorem sc_law_meter : FnScope N_law_meter ["_law_plains", "_law_off_here", "_law_more", "_law_lost"] (defScope s_law_meter) := ⟨rfl, rfl, rfl, by decide +kernel, rfl, by decide +kernel, by decide +kernel⟩
instance : G.NdI N_law_meter := ⟨sc_law_meter.nd⟩
instance : G.OkL (defScope s_law_meter) ["_law_plains", "_law_off_here", "_law_more", "_law_lost", "_law_some"] := ⟨by decide +kernel⟩
abbrev s_law_entries : Stmt := top 112
abbrev N_law_entries : List Str := ["_law_pen_here", "_law_plains", "_law_most", "_law_found", "_law_turn", "_law_value", "_law_marks", "_law_plain", "_law_slip"]
theorem sc_law_entries : FnScope N_law_entries ["_law_pen_here", "_law_plains", "_law_most"] (defScope s_law_entries) := ⟨rfl, rfl, rfl, by decide +kernel, rfl, by decide +kernel, by decide +kernel⟩
instance : G.NdI N_law_entries := ⟨sc_law_entries.nd⟩
instance : G.OkL (defScope s_law_entries) ["_law_pen_here", "_law_plains", "_law_most", "_law_found", "_law_turn", "_law_value", "_law_marks", "_law_plain", "_law_slip"] := ⟨by decide +kernel⟩
abbrev s_law_off : Stmt := top 113
abbrev N_law_off : List Str := ["_law_plains", "_law_entry", "_law_found", "_law_at", "_law_plain", "_law_mark"]
theorem sc_law_off : FnScope N_law_off ["_law_plains", "_law_entry"] (defScope s_law_off) := ⟨rfl, rfl, rfl, by decide +kernel, rfl, by decide +kernel, by decide +kernel⟩
instance : G.NdI N_law_off := ⟨sc_law_off.nd⟩
instance : G.OkL (defScope s_law_off) ["_law_plains", "_law_entry", "_law_found", "_law_at", "_law_plain", "_law_mark"] := ⟨by decide +kernel⟩
abbrev s_law_is_misread : Stmt := top 114
abbrev N_law_is_misread : List Str := ["_law_plains", "_law_entry", "_law_off_here", "_law_more", "_law_lost", "_law_away", "_law_gone", "_law_at"]
theorem sc_law_is_misread : FnScope N_law_is_misread ["_law_plains", "_law_entry", "_law_off_here", "_law_more", "_law_lost"] (defScope s_law_is_misread) := ⟨rfl, rfl, rfl, by decide +kernel, rfl, by decide +kernel, by decide +kernel⟩
instance : G.NdI N_law_is_misread := ⟨sc_law_is_misread.nd⟩
instance : G.OkL (defScope s_law_is_misread) ["_law_plains", "_law_entry", "_law_off_here", "_law_more", "_law_lost", "_law_away", "_law_gone"] := ⟨by decide +kernel⟩
abbrev s_law_log_right : Stmt := top 115
abbrev N_law_log_right : List Str := ["_law_pen_here", "_law_plains", "_law_numbers", "_law_meter_here", "_law_entries_here", "_law_told", "_law_wrong", "_law_turn", "_law_entry", "_law_at"]
theorem sc_law_log_right : FnScope N_law_log_right ["_law_pen_here"] (defScope s_law_log_right) := ⟨rfl, rfl, rfl, by decide +kernel, rfl, by decide +kernel, by decide +kernel⟩
instance : G.NdI N_law_log_right := ⟨sc_law_log_right.nd⟩
instance : G.OkL (defScope s_law_log_right) ["_law_pen_here", "_law_plains", "_law_numbers", "_law_meter_here", "_law_entries_here", "_law_told", "_law_wrong"] := ⟨by decide +kernel⟩
abbrev s_law_is_fit : Stmt := top 116
abbrev N_law_is_fit : List Str := ["_law_period", "_law_rows", "_law_play", "_law_begin", "_law_value", "_law_mark"]
theorem sc_law_is_fit : FnScope N_law_is_fit ["_law_period", "_law_rows", "_law_play"] (defScope s_law_is_fit) := ⟨rfl, rfl, rfl, by decide +kernel, rfl, by decide +kernel, by decide +kernel⟩
instance : G.NdI N_law_is_fit := ⟨sc_law_is_fit.nd⟩
instance : G.OkL (defScope s_law_is_fit) ["_law_period", "_law_rows", "_law_play", "_law_begin"] := ⟨by decide +kernel⟩
abbrev s_law_periods_right : Stmt := top 117
abbrev N_law_periods_right : List Str := ["_law_pen_here", "_law_period", "_law_play", "_law_place", "_law_entries_here", "_law_most", "_law_turn", "_law_value", "_law_mark", "_law_rows", "_law_due", "_law_marks", "_law_other"]
theorem sc_law_periods_right : FnScope N_law_periods_right ["_law_pen_here"] (defScope s_law_periods_right) := ⟨rfl, rfl, rfl, by decide +kernel, rfl, by decide +kernel, by decide +kernel⟩
instance : G.NdI N_law_periods_right := ⟨sc_law_periods_right.nd⟩
instance : G.OkL (defScope s_law_periods_right) ["_law_pen_here", "_law_period", "_law_play", "_law_place", "_law_entries_here", "_law_most", "_law_turn", "_law_value", "_law_mark", "_law_rows", "_law_due"] := ⟨by decide +kernel⟩
abbrev s_law : Stmt := top 118
abbrev N_law : List Str := ["_law_script", "_law_pen_here", "_law_turn", "_law_pair", "_law_entries_here", "_law_some", "_law_wide", "_law_eight", "_law_period"]
theorem sc_law : FnScope N_law ["_law_script"] (defScope s_law) := ⟨rfl, rfl, rfl, by decide +kernel, rfl, by decide +kernel, by decide +kernel⟩
instance : G.NdI N_law := ⟨sc_law.nd⟩
instance : G.OkL (defScope s_law) ["_law_script", "_law_pen_here", "_law_turn", "_law_pair", "_law_entries_here", "_law_some", "_law_wide", "_law_eight"] := ⟨by decide +kernel⟩
section
variable {P : Program} {w : World} {K : PySem.W.Frag} {mg : Str → Option Value} {base : Heap}
theorem fn_law_pen (B : Bi mg) (F : Df K mg "_law_pen" s_law_pen) : Fn P w K mg base CX0 "_law_pen" 1 (fun vs L Q _ => ∃ (a : Addr) (ns : List Int), vs = [.ref a] ∧ InL K L a (ns.map V.int) ∧ ∀ p c ms, ms.length ≤ 63 → Q (.ref p) ((p, penO c 0 0) :: (c, celO ms) :: L)) := by
  refine fn_plain F sc_law_pen (fun _ _ _ _ _ _ us hl => match us, hl with | [_], _ => rfl) (by decide) (by tm_at "g_len") ?_
  intro X f cdv A outer s H E0 L vs Q E hX nd hr h
  subst hX
  obtain ⟨a, ns, rfl, hi, q⟩ := h
  show GSs _ (defBody s_law_pen) (bodyD Q) [("_law_script", some (.ref a))] L
  refine gss_cons ?_
  tm_at "g"
  refine ⟨a, ns.map V.int, rfl, ?_⟩
  show GE _ _ _ _ _
  tm_at "g"
  refine ⟨hi, fun q1 => ?_⟩
  obtain ⟨ms, hm, em⟩ := cut63 (ns := ns)
  rw [em]
  tm_at "g"
  refine gc_list mem0 fun c => ?_
  tm_at "g"

  exact ⟨_, Sub.sublist (((List.sublist_cons_self _ _).cons_cons _).cons_cons _), q _ c ms hm⟩
theorem fn_law_draw (B : Bi mg) (F : Df K mg "_law_draw" s_law_draw) : Fn P w K mg base CX0 "_law_draw" 1 spDraw := by
  refine fn_plain F sc_law_draw (fun _ _ _ _ _ _ us hl => match us, hl with | [_, _], _ => rfl) (by decide) (by tm_at "g_len") ?_
  intro X f cdv A outer s H E0 L vs Q E hX nd hr h
  subst hX
  obtain ⟨p, c, ns, n, m, many, R, rfl, sb, h63, k1, k2, n0, n1, m0, q⟩ := h
  refine GSs.sub sb ?_
  show GSs _ (defBody s_law_draw) (bodyD Q) [("_law_pen_here", some (.ref p)), ("_law_many", some (.int many)), ("_law_digit", none), ("_law_tick", none), ("_law_cell", none), ("_law_great", none), ("_law_mixed", none)] _
  refine gss_cons ?_
  tm_at "g"
  refine ite_d (fun hm => ?_) (fun hm => ?_)
  · tm_at "g"
    refine go_modR k1 fun d d0 d1 => ?_
    tm_at "g"
    refine go_divS k1 k2 ?_
    tm_at "g"
    exact ⟨_, Sub.refl, q d n (m / many) d0 d1 n0 (by omega) (Int.ediv_nonneg m0 (by omega))⟩
  tm_at "g"
  refine go_mulS (.inl (by decide)) ?_
  tm_at "gx"
  refine GS.cut (fun θ M => ∃ r : Int, θ = ([("_law_pen_here", some (.ref p)), ("_law_many", some (.int many)), ("_law_digit", none), ("_law_tick", some (.int n)), ("_law_cell", some (.int r)), ("_law_great", none), ("_law_mixed", none)] : En) ∧ Sub ((p, penO c (n + 1) m) :: (c, celO ns) :: R) M) ?_ ?_
  · tm_at "g"
    refine go_neD (d := .list (ns.map PyData.int)) (e := .list ([].map PyData.int)) hr.toRoom (dl_lst (by tm_at "g_mem") dls_ints) (dl_lst (by tm_at "g_mem") dls_nil) (shapedL _) (shapedL _) ?_
    rw [eqvL]
    tm_at "g"
    refine ite_n (fun hz => ?_) (fun hz => ?_)
    · tm_at "g"
      have hp : 0 < (ns.length : Int) := by
        cases ns with
        | nil => exact absurd rfl hz
        | cons a r => rw [List.length_cons]; omega
      rw [List.length_map]
      refine go_modR hp fun d d0 d1 => ?_
      obtain ⟨k, rfl⟩ : ∃ k : Nat, d = (k : Int) := ⟨d.toNat, by omega⟩
      have hk : k < ns.length := by omega
      refine gi_lst (by tm_at "g_mem") (atI_nat (v := .int ns[k]) (by rw [List.getElem?_map, List.getElem?_eq_getElem hk] <;> rfl)) ?_
      tm_at "g"
      tm_at "g_sub"
    · tm_at "g"
      tm_at "g_sub"
  rintro θ M ⟨raw, rfl, hs⟩
  refine GSs.sub hs ?_
  tm_at "gx"
  refine gs_if (GT.imp (Q := fun k M => M = (p, penO c (n + 1) m) :: (c, celO ns) :: R ∧ (k = true → 1000000000000000000 ≤ (raw.natAbs : Int))) ?_ ?_)
  · tm_at "g"
    refine ite_d (fun _ => ?_) (fun _ => ⟨rfl, fun z => nomatch z⟩)
    tm_at "g"
    refine go_powL (r := 1000000000000000000) ⟨by decide, by decide, by decide⟩ (by decide) ?_
    tm_at "g"
    exact ⟨rfl, fun z => of_decide_eq_true z⟩
  rintro k M ⟨rfl, hk⟩
  refine ite_b (fun e => ?_) (fun e => ?_)
  · have hr1 := hk e
    tm_at "g"
    refine go_powL (r := 1000000000000000000) ⟨by decide, by decide, by decide⟩ (by decide) ?_
    tm_at "g"
    refine go_mulS (.inl (by decide)) ?_
    tm_at "g"
    have g0 : 0 ≤ 2 * ((raw.natAbs : Int) - 1000000000000000000) + (if (decide (raw < 0)) = true then 1 else 0) := by split <;> omega
    refine go_divS k1 k2 ?_
    tm_at "g"
    refine go_modR k1 fun d d0 d1 => ?_
    tm_at "g"
    exact ⟨_, Sub.refl, q d (n + 1) _ d0 d1 (by omega) (by omega) (Int.ediv_nonneg g0 (by omega))⟩
  tm_at "g"
  refine go_modR (by decide) fun a a0 a1 => ?_
  tm_at "g"
  refine go_mulS (.inl (by decide)) ?_
  tm_at "g"
  refine go_powR ⟨by decide, by decide, by omega⟩ fun b => ?_
  tm_at "g"
  refine go_modR (by decide) fun s s0 s1 => ?_
  tm_at "g"
  refine go_mulS (.inl (by decide)) ?_
  tm_at "g"
  have b1 := bnd (t := 2 * n + 777) (B := 200000 + 777) s0 (Int.le_of_lt s1) (by omega) (by omega)
  refine go_mulS (.inl (by omega)) ?_
  tm_at "g"
  refine go_mulS (.inl (by decide)) ?_
  tm_at "g"
  have b2 := bnd (s := 98224 * n) (t := n) (A := 98224 * 100000) (B := 100000) (by omega) (by omega) n0 n1
  refine go_mulS (.inl (by omega)) ?_
  tm_at "g"
  refine go_powR ⟨by decide, by decide, by omega⟩ fun b => ?_
  tm_at "g"
  refine go_modR (by decide) fun s' s0' s1' => ?_
  tm_at "g"
  refine go_divS (by decide) (by decide) ?_
  tm_at "g"
  refine go_modR k1 fun d d0 d1 => ?_
  tm_at "g"
  exact ⟨_, Sub.refl, q d (n + 1) m d0 d1 (by omega) (by omega) m0⟩
end
section
variable {P : Program} {w : World} {K : PySem.W.Frag} {mg : Str → Option Value} {base : Heap} {C D : Addr}
theorem fn_law_pick (B : Bi mg) (F : Df K mg "_law_pick" s_law_pick) (D1 : Fn P w K mg base CX0 "_law_draw" 1 spDraw) : Fn P w K mg base CX0 "_law_pick" 2 spPick := by
  refine fn_plain F sc_law_pick (fun _ _ _ _ _ _ us hl => match us, hl with | [_, _], _ => rfl) (by decide) (by tm_at "g_len") ?_
  intro X f cdv A outer s H E0 L vs Q E hX nd hr h
  subst hX
  obtain ⟨p, c, q, ns, xs, n, m, R, rfl, sb, mq, h63, l0, l1, n0, n1, m0, qq⟩ := h
  refine GSs.sub sb ?_
  show GSs _ (defBody s_law_pick) (bodyD Q) [("_law_pen_here", some (.ref p)), ("_law_some", some (.ref q))] _
  refine gss_cons ?_
  tm_at "g"
  refine ge_call (El := NoX) D1 hr passA ?_
  tm_at "g"
  refine ⟨p, c, ns, n, m, xs.length, R, rfl, Sub.refl, h63, by omega, by omega, n0, n1, m0, fun d n' m' d0 d1 a0 a1 a2 => ?_⟩
  obtain ⟨k, rfl⟩ : ∃ k : Nat, d = (k : Int) := ⟨d.toNat, by omega⟩
  have hk : k < xs.length := by omega
  refine gi_lst (memS (memS mq)) (atI_nat (v := xs[k]) (List.getElem?_eq_getElem hk)) ?_
  tm_at "g"
  exact ⟨_, Sub.refl, qq k _ n' m' (List.getElem?_eq_getElem hk) a0 a1 a2⟩
end
section
variable {P : Program} {w : World} {K : PySem.W.Frag} {mg : Str → Option Value} {base : Heap}
/-- Paper.__init__: the parts are kept -/
def spPaperInit (K : PySem.W.Frag) : SpL := fun vs L Q _ => ∃ (a C dx p : Addr) (fs : List (Str × V)) (M : Lg), vs = [.ref a, .ref p] ∧ (a, HO.ins C dx fs) ∈ L ∧ Cls K C ∧ NoAttr K C "own_parts" ∧ fs.length < 900 ∧ Swap a (.ins C dx (putF "own_parts" (.ref p) fs)) L M ∧ Q .non M
theorem run_Paper_init {f : Addr} {fd : FuncData} (F : Fun K "__init__" "Paper.__init__" s_Paper_init f fd) : RunG P w K mg base CX0 1 f argsP (toSp fun vs L Q E => ∃ ws rest, vs = ws ++ rest ∧ ws.length = 1 ∧ rest.length ≤ sizeLine ∧ ∀ p, spPaperInit K (ws ++ [.ref p]) ((p, .tup rest) :: L) Q E) := by
  refine run_starred (ps := ["self"]) F sc_Paper_init (fun _ _ _ _ _ _ us rest hl => match us, hl with | [u], _ => by cases rest <;> rfl) (by decide) ?_ (by tm_at "g_len")
  intro X f cdv A outer s H E0 L vs Q E hX nd hr h
  subst hX
  obtain ⟨a, C, dx, p, fs, M, rfl, m, c, no, hl, sw, q⟩ := h
  show GSs _ (defBody s_Paper_init) (bodyD Q) [("self", some (.ref a)), ("parts", some (.ref p))] L
  refine gss_cons ?_
  tm_at "g"
  refine ⟨a, C, dx, fs, M, rfl, m, c, no, by omega, sw, ?_⟩
  tm_at "g"
  exact ⟨_, Sub.refl, q⟩
/-- Stretch.__init__ at a new instance -/
def spStretchInit (K : PySem.W.Frag) (C0 : Addr) : SpL := fun vs L Q _ => ∃ (a C dx : Addr) (x y z : V) (R : Lg), vs = [.ref a, x, y, z] ∧ L = (a, HO.ins C dx []) :: R ∧ Cls K C ∧ C = C0 ∧ NoAttr K C "own_parts" ∧ NoAttr K C "begin" ∧ NoAttr K C "width" ∧ NoAttr K C "left" ∧
  ∀ p, Q .non ((p, .tup [x, y, z]) :: (a, HO.ins C dx [("own_parts", .ref p), ("begin", x), ("width", y), ("left", z)]) :: R)
theorem run_Stretch_init {f c cc D g C0 : Addr} {fd : FuncData} (F : SupF P K "__init__" "Stretch.__init__" s_Stretch_init f c cc D fd) (G : RunG P w K mg base CX0 1 g argsP (toSp fun vs L Q E => ∃ ws rest, vs = ws ++ rest ∧ ws.length = 1 ∧ rest.length ≤ sizeLine ∧ ∀ p, spPaperInit K (ws ++ [.ref p]) ((p, .tup rest) :: L) Q E))
    (T : SupM K mg C0 D "__init__" g) (args : List Value → Args) (pmV : List V → List V) (pmU : List Value → List Value) (hpm : ∀ vs us, Vals vs us → Vals (pmV vs) (pmU us))
    (hb : ∀ (kV doc pm ct : Value) (an : Option Addr) (us : List Value), (pmU us).length = 4 → bindArgs (PySem.W.fnX "__init__" "Stretch.__init__" (defArgs s_Stretch_init) (defBody s_Stretch_init) (defScope s_Stretch_init) [("__class__", cc)] .none kV doc pm an (.ref c) ct) (args us) = pure ((["self", "begin", "width", "left"] : List Str).zip (pmU us))) :
    RunG P w K mg base CX0 2 f args (toSp fun vs => spStretchInit K C0 (pmV vs)) := by
  refine run_sup (sp := spStretchInit K C0) F sc_Stretch_init args pmV pmU hpm hb (by tm_at "g_len") (fun vs hl => match vs, hl with | [_, _, _, _], _ => rfl) ?_
  intro X A outer s H E0 L vs Q E hX he nd hr h hH hN
  subst hX
  obtain ⟨a, C, dx, x, y, z, R, rfl, rfl, c0, rfl, n1, n2, n3, n4, q⟩ := h
  obtain ⟨ar, har, hself⟩ : ∃ ar, (fd.params.posonlyargs ++ fd.params.args).head? = some ar ∧ ar.arg = ("self" : Str) := by
    obtain ⟨_, _, _, _, _, _, _, _, efd, _⟩ := F.ex
    rw [efd]
    exact ⟨_, rfl, rfl⟩
  refine at_supi (η := ([("self", some (.ref a)), ("begin", some x), ("width", some y), ("left", some z), ("__class__", none)] : En)) (ar := ar) (El := NoX) F T rfl rfl rfl har rfl rfl (by rw [hself]; rfl) G hr passA hN hH (by rw [hself]; exact .here) mem0 (fun u => ?_)
  tm_at "g"
  refine ⟨by tm_at "g_mem", [.ref a], [x, y, z], rfl, rfl, sz3, fun p => ⟨a, C, dx, p, [], _, rfl, by tm_at "g_mem", c0, n1, by decide, by tm_at "g_swap", ?_⟩⟩
  tm_at "g"
  refine ⟨a, C, dx, [("own_parts", .ref p)], (p, .tup [x, y, z]) :: (u, .met g a) :: (a, .ins C dx [("own_parts", .ref p), ("begin", x)]) :: R, rfl, memS (memS mem0), c0, n2, (show 1 < 1000 by decide), .there (.there .here), ?_⟩
  tm_at "g"
  refine ⟨a, C, dx, [("own_parts", .ref p), ("begin", x)], (p, .tup [x, y, z]) :: (u, .met g a) :: (a, .ins C dx [("own_parts", .ref p), ("begin", x), ("width", y)]) :: R, rfl, memS (memS mem0), c0, n3, (show 2 < 1000 by decide), .there (.there .here), ?_⟩
  tm_at "g"
  refine ⟨a, C, dx, [("own_parts", .ref p), ("begin", x), ("width", y)], (p, .tup [x, y, z]) :: (u, .met g a) :: (a, .ins C dx [("own_parts", .ref p), ("begin", x), ("width", y), ("left", z)]) :: R, rfl, memS (memS mem0), c0, n4, (show 3 < 1000 by decide), .there (.there .here), ?_⟩
  tm_at "g"
  exact ⟨_, by tm_at "g_end", q p⟩
end
def whole : V → Bool
  | .int _ => true
  | _ => false
theorem kindWhole {L : Lg} {v : V} {T : String} (k : Knd L v T) : ∃ b1 b2, kitB T "int" = some b1 ∧ kitB T "bool" = some b2 ∧ (b1 && !b2) = whole v := by
  cases k with
  | non => exact ⟨false, false, kb_non_int, by decide +kernel, rfl⟩
  | bl => exact ⟨true, true, kb_bool_int, kb_bool_bool, rfl⟩
  | int => exact ⟨true, false, kb_int_int, kb_int_bool, rfl⟩
  | str => exact ⟨false, false, kb_str_int, by decide +kernel, rfl⟩
  | lst m => exact ⟨false, false, kb_list_int, by decide +kernel, rfl⟩
  | tup m => exact ⟨false, false, kb_tuple_int, by decide +kernel, rfl⟩
  | dct m => exact ⟨false, false, kb_dict_int, by decide +kernel, rfl⟩
theorem whole_int {v : V} (h : whole v = true) : ∃ i, v = .int i := by
  cases v with
  | int i => exact ⟨i, rfl⟩
  | _ => cases h
def spIsWhole : SpL := fun vs L Q _ => ∃ v T, vs = [v] ∧ Knd L v T ∧ Q (.bl (whole v)) L
section
variable {P : Program} {w : World} {K : PySem.W.Frag} {mg : Str → Option Value} {base : Heap} {C D : Addr}
theorem body_is_whole (B : Bi mg) : BodyOf P w K mg base N_is_whole "is_whole" s_is_whole 0 spIsWhole := by
  intro X f cdv A outer s H E0 L vs Q E hX nd hr h
  subst hX
  obtain ⟨v, T, rfl, k, q⟩ := h
  obtain ⟨b1, b2, h1, h2, h3⟩ := kindWhole k
  show GSs _ (defBody s_is_whole) (bodyD Q) [("value", some v)] L
  refine gss_cons ?_
  tm_at "g"
  refine gc_isK k h1 ?_
  tm_at "g"
  refine ite_b (fun z => ?_) (fun z => ?_)
  · tm_at "g"
    refine gc_isK k h2 ?_
    tm_at "g"
    rw [z] at h3
    rw [← h3] at q
    exact ⟨_, Sub.refl, q⟩
  · rw [z] at h3
    rw [← h3] at q
    exact ⟨_, Sub.refl, q⟩
theorem fn_is_whole (B : Bi mg) (F : Df K mg "is_whole" s_is_whole) : Fn P w K mg base CX0 "is_whole" 1 spIsWhole :=
  fn_plain F sc_is_whole (fun _ _ _ _ _ _ us hl => match us, hl with | [_], _ => rfl) (by decide) (by tm_at "g_len") (body_is_whole B)
/-- a list or a tuple -/
def Row (L : Lg) (q : Addr) (xs : List V) : Prop := (q, HO.lst xs) ∈ L ∨ (q, HO.tup xs) ∈ L
theorem Row.sub {L M : Lg} {q : Addr} {xs : List V} (r : Row L q xs) (s : ∀ e ∈ L, e ∈ M) : Row M q xs := r.imp (s _) (s _)
end
def ptL (p w b : Int) : Nat → V → Bool := fun _ v => match v with
  | .int o => decide (w < (o - b) % p)
  | _ => false
theorem left_eq {os : List Int} {p w b : Int} : (((List.range (os.map V.int).length).filter fun i => ptL p w b i ((os.map V.int)[i]?.getD .non)).map fun i : Nat => V.int (i : Int)) = (leftL os p w b).map V.int := by
  unfold leftL
  rw [List.map_map, List.length_map]
  show List.map _ _ = List.map _ _
  congr 1
  refine List.filter_congr fun i hi => ?_
  have hi' : i < os.length := List.mem_range.mp hi
  rw [List.getElem?_map, List.getD_eq_getElem?_getD, List.getElem?_eq_getElem hi']
  rfl
def spStretchOf (K : PySem.W.Frag) (C : Addr) : SpL := fun vs L Q _ => ∃ (p k : Int) (q : Addr) (os : List Int) (o : HO), vs = [.int p, .ref q, .int k] ∧ RowO o (os.map V.int) ∧ (q, o) ∈ L ∧ os.length ≤ 60 ∧ (∀ o ∈ os, 0 ≤ o ∧ o < p) ∧ 1 ≤ p ∧ p ≤ 1000000000000 ∧ 0 ≤ k ∧
  ∀ (w b : Int) (a dx t l : Addr), Found os p k w b → Q (.ref a) ((t, .tup [.int b, .int w, .ref l]) :: (a, HO.ins C dx [("own_parts", .ref t), ("begin", .int b), ("width", .int w), ("left", .ref l)]) :: (dx, .own a) :: (l, .tup ((leftL os p w b).map V.int)) :: L)
section
variable {P : Program} {w : World} {K : PySem.W.Frag} {mg : Str → Option Value} {base : Heap} {C fI : Addr}
theorem fn_stretch_of (B : Bi mg) (F : Df K mg "stretch_of" s_stretch_of) (hC : mg "Stretch" = some (.ref C)) (M : Mk K C fI) (c : Cls K C) (n1 : NoAttr K C "own_parts") (n2 : NoAttr K C "begin") (n3 : NoAttr K C "width") (n4 : NoAttr K C "left") (G : RunG P w K mg base CX0 2 fI argsP (toSp (spStretchInit K C))) : Fn P w K mg base CX0 "stretch_of" 4 (spStretchOf K C) := by
  refine fn_plain F sc_stretch_of (fun _ _ _ _ _ _ us hl => match us, hl with | [_, _, _], _ => rfl) (by decide) (by tm_at "g_len") ?_
  intro X f cdv A outer s H E0 L vs Q E hX nd hr h
  subst hX
  obtain ⟨p, k, q, os, o, rfl, ro, m, hl, ho, p1, p2, k0, qq⟩ := h
  show GSs _ (defBody s_stretch_of) (bodyD Q) [("period", some (.int p)), ("offsets", some (.ref q)), ("skip", some (.int k)), ("many", none), ("row", none), ("begin", none), ("width", none), ("again", none), ("pairs", none), ("left", none), ("offset", none), ("at", none), ("far", none), ("least", none)] L
  refine gss_cons ?_
  tm_at "g"
  refine gc_lenO ro m ?_
  tm_at "g"
  refine ge_lcP (by tm_at "g_put") (gi_rowO ro ?_) (show blkC N_stretch_of (defScope s_stretch_of) _ [(_, List.idxOf _ N_stretch_of)] = true by decide +kernel)
  tm_at "g"
  refine ⟨m, ?_⟩
  refine pure_rowO (t := fun _ => true) (g := id) m (by rw [List.length_map]; omega) (fun v hv D acc s1 H1 C1 cl1 fp1 => ?_) fun D => ?_
  · obtain ⟨n, hn, rfl⟩ := List.mem_map.mp hv
    refine gts_nil ⟨rfl, Sub.refl, fun _ s2 H2 C2 cl2 fp2 => ?_⟩
    tm_at "g"
    exact ⟨rfl, Sub.refl⟩
  rw [List.map_id, List.filter_eq_self.mpr fun _ _ => rfl]
  tm_at "g"
  refine gc_sorted mem0 fun row r hp hs => ?_
  tm_at "gx"
  have rl : row.length = os.length := hp.length_eq
  have hr' : ∀ o ∈ row, 0 ≤ o ∧ o < p := fun o h => ho o (hp.mem_iff.mp h)
  refine GS.cut (fun θ N => ∃ (w b : Int) (u1 u2 : Option V), θ = ([("period", some (.int p)), ("offsets", some (.ref q)), ("skip", some (.int k)), ("many", some (.int ((os.length : Int) - k))), ("row", some (.ref r)), ("begin", some (.int b)), ("width", some (.int w)), ("again", u1), ("pairs", u2), ("left", none), ("offset", none), ("at", none), ("far", none), ("least", none)] : En) ∧ Sub L N ∧ Found os p k w b) ?_ ?_
  · rw [List.length_map]
    refine gs_if ?_
    tm_at "g"
    refine ite_d (fun z => ?_) (fun z => ?_)
    · tm_at "g"
      refine ⟨r, _, rfl, .inr (by tm_at "g_mem"), ?_⟩
      tm_at "g"
      refine ge_lcP (by tm_at "g_put") (gi_list ?_) (show blkC N_stretch_of (defScope s_stretch_of) _ [(_, List.idxOf _ N_stretch_of)] = true by decide +kernel)
      tm_at "g"
      refine pure_list (t := fun _ => true) (g := intF (· + p)) (by tm_at "g_mem") (by rw [List.length_map]; omega) (fun v hv D acc s1 H1 C1 cl1 fp1 => ?_) fun D2 => ?_
      · obtain ⟨n, hn, rfl⟩ := List.mem_map.mp hv
        refine gts_nil ⟨rfl, Sub.refl, fun _ s2 H2 C2 cl2 fp2 => ?_⟩
        tm_at "g"
        exact ⟨rfl, Sub.refl⟩
      rw [ints_mapV]
      refine ⟨D2, _, rfl, .inr (by tm_at "g_mem"), ?_⟩
      tm_at "g"
      rw [show (row.map V.int ++ ((row.map (· + p)).map V.int ++ [])) = (twice row p).map V.int from by unfold twice; simp]
      have hm : (((os.length : Int) - k - 1).toNat : Int) = (os.length : Int) - k - 1 := by omega
      generalize em : ((os.length : Int) - k - 1).toNat = mm at hm
      refine gs_lcF (by tm_at "g_put") (by tm_at "g_put") (gi_range1 ?_ B.range) (show blkC N_stretch_of (defScope s_stretch_of) _ [(_, List.idxOf _ N_stretch_of)] = true by decide +kernel)
      tm_at "g"
      rw [List.length_map, Int.toNat_natCast]
      have tl := twice_len (row := row) (p := p)
      refine ⟨by omega, ?_⟩
      refine fresh_fn (p := fun _ => true) (pl := fun i => .tup [.int ((twice row p).getD (i + mm) 0 - (twice row p).getD i 0), .int ((twice row p).getD i 0)]) (by omega) (fun i R hi hR s1 H1 C1 cl1 fp1 => ?_) fun D3 es e0 => ?_
      · have mA := hR _ mem0
        refine gts_nil ⟨rfl, Sub.refl, fun _ s2 H2 C2 cl2 fp2 => ?_⟩
        tm_at "g"
        refine gi_lst mA (by rw [show (i : Int) + ((os.length : Int) - k) - 1 = ((i + mm : Nat) : Int) by omega]; exact at_ints (by omega)) ?_
        tm_at "g"
        refine gi_lst mA (at_ints (by omega)) ?_
        tm_at "g"
        refine gi_lst mA (at_ints (by omega)) ?_
        tm_at "g"
        exact Sub.refl
      obtain ⟨ps, rfl, hps⟩ := es_pairs (ds := prsL row p mm) (by
        rw [e0, List.filter_eq_self.mpr fun _ _ => rfl]
        unfold prsL
        rw [List.map_map]
        rfl)
      tm_at "g"
      refine ge_lcF2 (by tm_at "g_put") (fun _ => by tm_at "g_put") (gi_list ?_) (by decide) (show blkC N_stretch_of (defScope s_stretch_of) _ [(_, List.idxOf _ N_stretch_of), (_, List.idxOf _ N_stretch_of)] = true by decide +kernel)
      tm_at "g"
      have lps : ps.length = row.length := by
        have z := congrArg List.length hps
        unfold prsL at z
        rw [List.length_map, List.length_map, List.length_range] at z
        exact z
      refine fresh_list2 (p := fun _ => true) (pl := fun i => .tup [.int ((prsL row p mm).getD i (0, 0)).1, .int ((prsL row p mm).getD i (0, 0)).2]) (by tm_at "g_mem") (by rw [List.length_map, List.length_map]; omega) (fun i v hv => ?_) fun D4 es2 e2 => ?_
      · rw [refs_map, List.getElem?_map] at hv
        obtain ⟨e, he, rfl⟩ := Option.map_eq_some_iff.mp hv
        have eg : (prsL row p mm).getD i (0, 0) = e.2 := by
          rw [← hps, List.getD_eq_getElem?_getD, List.getElem?_map, he]
          rfl
        rw [eg]
        refine ⟨e.1, _, _, rfl, memS (memL (List.mem_map.mpr ⟨e, List.mem_of_getElem? he, rfl⟩)), fun R hR s1 H1 C1 cl1 fp1 => ?_⟩
        refine gts_nil ⟨rfl, Sub.refl, fun _ s2 H2 C2 cl2 fp2 => ?_⟩
        tm_at "g"
        exact Sub.refl
      obtain ⟨ps2, rfl, hps2⟩ := es_pairs (ds := prsL row p mm) (by
        rw [e2, List.length_map, List.length_map, show ps.length = (prsL row p mm).length by rw [← hps, List.length_map]]
        exact range_get fun i a h => by
          rw [List.getD_eq_getElem?_getD, h]
          rfl)
      tm_at "g"
      refine gc_minP (ps := ps2) rfl hr (by rw [refs_map]; exact mem0) (fun e he => memS (memL (List.mem_map.mpr ⟨e, he, rfl⟩))) ?_ fun e he hmin => ?_
      · rintro rfl
        rw [← hps] at hps2
        have z := congrArg List.length hps2
        rw [List.length_map] at z
        simp at z
        omega
      refine gg_tup (xs := [.int e.2.1, .int e.2.2]) (memS (memL (List.mem_map.mpr ⟨e, he, rfl⟩))) ?_
      tm_at "g"
      have hm2 : ∀ d, d ∈ prsL row p mm ↔ ∃ e ∈ ps2, e.2 = d := fun d => by
        rw [← hps2, List.mem_map]
      refine ⟨_, _, _, _, rfl, by tm_at "g_end", fun y => absurd y (by omega), fun _ => ?_⟩
      rw [em]
      obtain ⟨at_, ip⟩ := (prs_pair (by omega)).mp ((hm2 _).mpr ⟨e, he, rfl⟩)
      refine least_of (at_ := at_) hp hs hr' p1 (by omega) ip fun at' far c ip' => ?_
      obtain ⟨e', he', ee⟩ := (hm2 (far, c)).mp ((prs_pair (by omega)).mpr ⟨at', ip'⟩)
      have z := hmin e' he'
      rw [ee] at z
      exact z
    · tm_at "g"
      exact ⟨0, 0, _, _, rfl, by tm_at "g_end", fun _ => ⟨rfl, rfl⟩, fun y => absurd y z⟩
  · rintro θ N ⟨w0, b, u1, u2, rfl, sb, fd⟩
    refine GSs.sub sb ?_
    tm_at "g"
    refine gs_lcP2 (by tm_at "g_put") (by tm_at "g_put") (fun _ => by tm_at "g_put") (gi_enumO ro ?_ B.enumerate) (by decide) (show blkC N_stretch_of (defScope s_stretch_of) _ [(_, List.idxOf _ N_stretch_of), (_, List.idxOf _ N_stretch_of)] = true by decide +kernel)
    tm_at "g"
    refine ⟨m, ?_⟩
    refine pure_enumO (pt := ptL p w0 b) (pg := fun i _ => .int (i : Int)) m (by rw [List.length_map]; omega) (fun i v hv D acc s1 H1 C1 cl1 fp1 => ?_) fun D => ?_
    · rw [List.getElem?_map] at hv
      obtain ⟨x, hx, rfl⟩ := Option.map_eq_some_iff.mp hv
      show GT _ _ _ _ _
      tm_at "g"
      refine go_mod (by omega) ?_
      tm_at "g"
      refine ⟨rfl, Sub.refl, fun _ s2 H2 C2 cl2 fp2 => ?_⟩
      tm_at "g"
      exact ⟨rfl, Sub.refl⟩
    rw [left_eq]
    tm_at "g"
    refine ge_callF hC M.kp (fun _ => gf_make (El := NoX) M G (fun _ _ => rfl) hr passA) ?_
    tm_at "g"
    refine gc_tupL (by tm_at "g_mem") fun l => ?_
    tm_at "g"
    exact fun a dx => ⟨a, C, dx, _, _, _, _, rfl, rfl, c, rfl, n1, n2, n3, n4, fun t => ⟨rfl, _, by tm_at "g_end", qq w0 b a dx t l fd⟩⟩
end
inductive Dv where
  | non | bl (b : Bool) | int (i : Int) | str (s : Str) | row (t : Bool) (xs : List Dv) | dct | oth
inductive DvAt (L : Lg) : V → Dv → Prop
  | non : DvAt L .non .non
  | bl {b : Bool} : DvAt L (.bl b) (.bl b)
  | int {i : Int} : DvAt L (.int i) (.int i)
  | str {s : Str} : DvAt L (.str s) (.str s)
  | lst {a : Addr} {vs : List V} {ds : List Dv} : (a, HO.lst vs) ∈ L → Reps (DvAt L) vs ds → DvAt L (.ref a) (.row false ds)
  | tup {a : Addr} {vs : List V} {ds : List Dv} : (a, HO.tup vs) ∈ L → Reps (DvAt L) vs ds → DvAt L (.ref a) (.row true ds)
  | dct {a : Addr} : (a, HO.dK []) ∈ L → DvAt L (.ref a) .dct
def kndV : Dv → String
  | .non => "NoneType"
  | .bl _ => "bool"
  | .int _ => "int"
  | .str _ => "str"
  | .row false _ => "list"
  | .row true _ => "tuple"
  | .dct => "dict"
  | .oth => ""
theorem DvAt.knd {L : Lg} {v : V} {d : Dv} (h : DvAt L v d) : Knd L v (kndV d) := by
  cases h with
  | non => exact .non
  | bl => exact .bl
  | int => exact .int
  | str => exact .str
  | lst m _ => exact .lst m
  | tup m _ => exact .tup m
  | dct m => exact .dct m
mutual
theorem dvMono {L L' : Lg} (s : ∀ e ∈ L, e ∈ L') : ∀ {v : V} {d : Dv}, DvAt L v d → DvAt L' v d
  | _, _, .non => .non
  | _, _, .bl => .bl
  | _, _, .int => .int
  | _, _, .str => .str
  | _, _, .lst m r => .lst (s _ m) (dvsMono s r)
  | _, _, .tup m r => .tup (s _ m) (dvsMono s r)
  | _, _, .dct m => .dct (s _ m)
theorem dvsMono {L L' : Lg} (s : ∀ e ∈ L, e ∈ L') : ∀ {vs : List V} {ds : List Dv}, Reps (DvAt L) vs ds → Reps (DvAt L') vs ds
  | _, _, .nil => .nil
  | _, _, .cons h t => .cons (dvMono s h) (dvsMono s t)
end
def wholeD : Dv → Option Int
  | .int i => some i
  | _ => none
theorem whole_d {L : Lg} {v : V} {d : Dv} (h : DvAt L v d) : whole v = (wholeD d).isSome := by
  cases h <;> rfl
theorem whole_i {L : Lg} {v : V} {d : Dv} {i : Int} (h : DvAt L v d) (e : wholeD d = some i) : v = .int i := by
  cases h <;> first | (cases e; rfl) | cases e
/-- an entry: a pair, its first a whole number within 10 ** 30 -/
def big30 : Option Int → Bool
  | some i => decide (-1000000000000000000000000000000 < i) && decide (i < 1000000000000000000000000000000)
  | none => false
def entD : Dv → Bool
  | .row true [d, _] => big30 (wholeD d)
  | _ => false
def spIsEntryD : SpL := fun vs L Q _ => ∃ v d, vs = [v] ∧ DvAt L v d ∧ (∀ ds, d = .row true ds → ds.length ≤ 1000) ∧ Q (.bl (entD d)) L
section
variable {P : Program} {w : World} {K : PySem.W.Frag} {mg : Str → Option Value} {base : Heap}
theorem fn_is_entryD (B : Bi mg) (F : Df K mg "is_entry" s_is_entry) (D1 : Fn P w K mg base CX0 "is_whole" 1 spIsWhole) {u : Value} (hM : mg "MOST_VALUE" = some u) (rM : RelV (.int 1000000000000000000000000000000) u) : Fn P w K mg base CX0 "is_entry" 2 spIsEntryD := by
  refine fn_plain F sc_is_entry (fun _ _ _ _ _ _ us hl => match us, hl with | [_], _ => rfl) (by decide) (by tm_at "g_len") ?_
  intro X f cdv A outer s H E0 L vs Q E hX nd hr h
  subst hX
  obtain ⟨v, d, rfl, dv, lim, q⟩ := h
  show GSs _ (defBody s_is_entry) (bodyD Q) [("value", some v)] L
  refine gss_cons ?_
  tm_at "g"
  by_cases ht : ∃ ds, d = .row true ds
  · obtain ⟨ds, rfl⟩ := ht
    have ll := lim ds rfl
    cases dv with
    | tup mt rp =>
      rename_i a xs
      have lx := rp.len
      refine gc_isK (.tup mt) (b := true) (by decide +kernel) ?_
      tm_at "g"
      match xs, ds, rp, lx with
      | [], [], _, _ =>
        rw [show (!decide (((([] : List V).length : Nat) : Int) = 2)) = true from rfl]
        tm_at "g"
        exact ⟨_, Sub.refl, q⟩
      | [_], [_], _, _ =>
        rw [show ∀ x : V, (!decide (((([x] : List V).length : Nat) : Int) = 2)) = true from fun _ => rfl]
        tm_at "g"
        exact ⟨_, Sub.refl, q⟩
      | x :: y :: z :: r, _ :: _ :: _ :: _, _, _ =>
        rw [show (!decide ((((x :: y :: z :: r).length : Nat) : Int) = 2)) = true from by rw [decide_eq_false (by simp only [List.length_cons]; omega)]; rfl]
        tm_at "g"
        exact ⟨_, Sub.refl, q⟩
      | [x, y], [d, d'], .cons hx (.cons hy .nil), _ =>
        rw [show (!decide (((([x, y] : List V).length : Nat) : Int) = 2)) = false from rfl]
        tm_at "g"
        refine ge_call (El := NoX) D1 hr passA ?_
        tm_at "g"
        refine ⟨_, _, rfl, hx.knd, ?_⟩
        rw [whole_d hx]
        cases ew : wholeD d with
        | none =>
          rw [show entD (.row true [d, d']) = big30 (wholeD d) from rfl, ew] at q
          tm_at "g"
          exact ⟨_, Sub.refl, q⟩
        | some i =>
          rw [show entD (.row true [d, d']) = big30 (wholeD d) from rfl, ew, show big30 (some i) = (decide (-1000000000000000000000000000000 < i) && decide (i < 1000000000000000000000000000000)) from rfl] at q
          cases whole_i hx ew
          rw [show (some i).isSome = true from rfl]
          tm_at "g"
          refine gv_con hM rM ?_
          tm_at "g"
          refine ite_d (fun h1 => ?_) (fun h1 => ?_)
          · rw [decide_eq_true h1, Bool.true_and] at q
            tm_at "g"
            refine gv_con hM rM ?_
            tm_at "g"
            exact ⟨_, Sub.refl, q⟩
          · rw [decide_eq_false h1, Bool.false_and] at q
            exact ⟨_, Sub.refl, q⟩
  · have kb : kitB (kndV d) "tuple" = some false := by
      cases d with
      | row t ds =>
        cases t with
        | true => exact absurd ⟨ds, rfl⟩ ht
        | false => exact (show kitB "list" "tuple" = some false by decide +kernel)
      | oth => cases dv
      | non => exact (show kitB "NoneType" "tuple" = some false by decide +kernel)
      | bl b => exact (show kitB "bool" "tuple" = some false by decide +kernel)
      | int i => exact (show kitB "int" "tuple" = some false by decide +kernel)
      | str z => exact (show kitB "str" "tuple" = some false by decide +kernel)
      | dct => exact (show kitB "dict" "tuple" = some false by decide +kernel)
    have ed : entD d = false := by
      cases d with
      | row t ds =>
        cases t with
        | true => exact absurd ⟨ds, rfl⟩ ht
        | false => rfl
      | _ => rfl
    refine gc_isK dv.knd kb ?_
    tm_at "g"
    rw [ed] at q
    exact ⟨_, Sub.refl, q⟩
end
def markD : Dv → Int → Bool
  | .non, _ => true
  | .int i, p => decide (0 ≤ i) && decide (i < p)
  | _, _ => false
def marksD : Dv → List Int → Bool
  | .row _ ds, ps => decide (ds.length = ps.length) && (List.zipWith markD ds ps).all id
  | _, _ => false
def rowB : Dv → Bool
  | .row _ _ => true
  | _ => false
theorem row_any {L : Lg} {v : V} {d : Dv} (h : DvAt L v d) : kitAnyB (kndV d) ["list", "tuple"] = some (rowB d) := by
  cases h with
  | non => exact (show kitAnyB "NoneType" ["list", "tuple"] = some false by decide +kernel)
  | bl => exact (show kitAnyB "bool" ["list", "tuple"] = some false by decide +kernel)
  | int => exact (show kitAnyB "int" ["list", "tuple"] = some false by decide +kernel)
  | str => exact (show kitAnyB "str" ["list", "tuple"] = some false by decide +kernel)
  | lst m _ => exact (show kitAnyB "list" ["list", "tuple"] = some true by decide +kernel)
  | tup m _ => exact (show kitAnyB "tuple" ["list", "tuple"] = some true by decide +kernel)
  | dct m => exact (show kitAnyB "dict" ["list", "tuple"] = some false by decide +kernel)
theorem row_at {L : Lg} {v : V} {t : Bool} {ds : List Dv} (h : DvAt L v (.row t ds)) : ∃ (a : Addr) (o : HO) (vs : List V), v = .ref a ∧ RowO o vs ∧ (a, o) ∈ L ∧ Reps (DvAt L) vs ds := by
  cases h with
  | lst m r => exact ⟨_, _, _, rfl, .inl rfl, m, r⟩
  | tup m r => exact ⟨_, _, _, rfl, .inr rfl, m, r⟩
def spIsMarksD : SpL := fun vs L Q _ => ∃ (v : V) (d : Dv) (p : Addr) (op : HO) (ps : List Int), vs = [v, .ref p] ∧ DvAt L v d ∧ RowO op (ps.map V.int) ∧ (p, op) ∈ L ∧ ps.length ≤ 1000 ∧ Q (.bl (marksD d ps)) L
section
variable {P : Program} {w : World} {K : PySem.W.Frag} {mg : Str → Option Value} {base : Heap}
theorem fn_is_marksD (B : Bi mg) (F : Df K mg "is_marks" s_is_marks) (D1 : Fn P w K mg base CX0 "is_whole" 1 spIsWhole) : Fn P w K mg base CX0 "is_marks" 2 spIsMarksD := by
  refine fn_plain F sc_is_marks (fun _ _ _ _ _ _ us hl => match us, hl with | [_, _], _ => rfl) (by decide) (by tm_at "g_len") ?_
  intro X f cdv A outer s H E0 L vs Q E hX nd hr h
  subst hX
  obtain ⟨v, d, p, op, ps, rfl, dv, ro2, m2, hps, q⟩ := h
  show GSs _ (defBody s_is_marks) (bodyD Q) [("marks", some v), ("periods", some (.ref p)), ("pairs", none), ("mark", none), ("period", none)] L
  refine gss_cons ?_
  tm_at "g"
  rename_i tt
  refine gc_isT (b := rowB d) ["list", "tuple"] (dvMono (fun _ h => memS h) dv).knd mem0 (row_any dv) ?_
  by_cases hrow : ∃ t ds, d = .row t ds
  · obtain ⟨t, ds, rfl⟩ := hrow
    obtain ⟨m, om, vs, rfl, ro1, m1, rp⟩ := row_at dv
    rw [show rowB (.row t ds) = true from rfl]
    tm_at "g"
    refine gc_lenO ro1 (memS m1) ?_
    tm_at "g"
    refine gc_lenO ro2 (memS m2) ?_
    tm_at "g"
    rw [List.length_map, rp.len]
    by_cases hl : ds.length = ps.length
    · rw [hl, decide_eq_true rfl]
      refine G.St.to ?_
      refine G.St.to ?_
      refine G.St.to ?_
      refine gs_set (by tm_at "g_put") ?_
      refine ge_listZip ?_ B.list B.zip
      tm_at "g"
      refine ⟨m, p, om, op, _, _, rfl, ro1, ro2, by tm_at "g_mem", by tm_at "g_mem", by rw [rp.len, List.length_map]; omega, fun D es he => ?_⟩
      tm_at "g"
      refine ge_lcP2 (by tm_at "g_put") (fun _ => by tm_at "g_put") (gi_list ?_) (by decide) (show blkC N_is_marks (defScope s_is_marks) _ [(_, List.idxOf _ N_is_marks), (_, List.idxOf _ N_is_marks)] = true by decide +kernel)
      tm_at "g"
      have lz : es.length = ps.length := by
        have z := congrArg List.length he
        rw [List.length_map, List.length_map, List.length_zip, List.length_map, rp.len] at z
        omega
      refine pure_list2 (pt := fun _ => true) (pg := fun i => .bl ((List.zipWith markD ds ps).getD i false)) mem0 (by rw [refs, List.length_map]; omega) (fun i v hv => ?_) fun D2 => ?_
      · unfold refs at hv
        rw [List.getElem?_map] at hv
        obtain ⟨e, hi, rfl⟩ := Option.map_eq_some_iff.mp hv
        have z : (es.map (·.2))[i]? = some e.2 := by rw [List.getElem?_map, hi]; rfl
        rw [he, List.getElem?_map] at z
        obtain ⟨d, hd, ed⟩ := Option.map_eq_some_iff.mp z
        obtain ⟨h1, h2⟩ := List.getElem?_zip_eq_some.mp hd
        rw [List.getElem?_map] at h2
        obtain ⟨y, hy, e2⟩ := Option.map_eq_some_iff.mp h2
        obtain ⟨x, hx, ax⟩ := rp.get h1
        have ez : (List.zipWith markD ds ps).getD i false = markD x y := by
          rw [List.getD_eq_getElem?_getD, List.getElem?_zipWith, hx, hy]
          rfl
        rw [ez]
        obtain ⟨d1, d2⟩ := d
        dsimp only at h1 e2 ed ax
        subst e2
        refine ⟨e.1, d1, .int y, rfl, memS (memL (by rw [ed]; exact List.mem_of_getElem? hi)), fun D3 acc s1 H1 C1 cl1 fp1 => ?_⟩
        refine gts_nil ⟨rfl, Sub.refl, fun _ s2 H2 C2 cl2 fp2 => ?_⟩
        have am := dvMono (L' := (D3, HO.lst acc) :: (D, HO.lst (refs es)) :: (es ++ (tt, HO.tup [V.ty "list", V.ty "tuple"]) :: L)) (fun e he => memS (memS (List.mem_append_right _ (memS he)))) ax
        show GE _ _ _ _ _
        cases am with
        | non =>
          tm_at "g"
          exact ⟨rfl, Sub.refl⟩
        | int =>
          rename_i i2
          tm_at "g"
          refine ge_call (El := NoX) D1 hr passA ?_
          tm_at "g"
          refine ⟨_, _, rfl, .int, ?_⟩
          rw [show whole (V.int i2) = true from rfl]
          tm_at "g"
          refine ite_d (fun h1 => ?_) (fun h1 => ?_)
          · tm_at "g"
            exact ⟨by show V.bl _ = V.bl (decide (0 ≤ i2) && decide (i2 < y)); rw [decide_eq_true h1, Bool.true_and], Sub.refl⟩
          · exact ⟨by show V.bl _ = V.bl (decide (0 ≤ i2) && decide (i2 < y)); rw [decide_eq_false h1, Bool.false_and], Sub.refl⟩
        | bl =>
          tm_at "g"
          refine go_isN ?_
          rw [decide_eq_false (fun z => nomatch z)]
          tm_at "g"
          refine ge_call (El := NoX) D1 hr passA ?_
          tm_at "g"
          refine ⟨_, _, rfl, .bl, ?_⟩
          dsimp only [whole]
          tm_at "g"
          exact ⟨rfl, Sub.refl⟩
        | str =>
          tm_at "g"
          refine go_isN ?_
          rw [decide_eq_false (fun z => nomatch z)]
          tm_at "g"
          refine ge_call (El := NoX) D1 hr passA ?_
          tm_at "g"
          refine ⟨_, _, rfl, .str, ?_⟩
          dsimp only [whole]
          tm_at "g"
          exact ⟨rfl, Sub.refl⟩
        | lst m3 r3 =>
          tm_at "g"
          refine ge_call (El := NoX) D1 hr passA ?_
          tm_at "g"
          refine ⟨_, _, rfl, (.lst m3), ?_⟩
          dsimp only [whole]
          tm_at "g"
          exact ⟨rfl, Sub.refl⟩
        | tup m3 r3 =>
          tm_at "g"
          refine ge_call (El := NoX) D1 hr passA ?_
          tm_at "g"
          refine ⟨_, _, rfl, (.tup m3), ?_⟩
          dsimp only [whole]
          tm_at "g"
          exact ⟨rfl, Sub.refl⟩
        | dct m3 =>
          tm_at "g"
          refine ge_call (El := NoX) D1 hr passA ?_
          tm_at "g"
          refine ⟨_, _, rfl, (.dct m3), ?_⟩
          dsimp only [whole]
          tm_at "g"
          exact ⟨rfl, Sub.refl⟩
      rw [show ((List.range (refs es).length).filter fun _ => true).map (fun i => V.bl ((List.zipWith markD ds ps).getD i false)) = (List.zipWith markD ds ps).map V.bl by
        rw [List.filter_eq_self.mpr fun _ _ => rfl]
        refine List.ext_getElem (by simp only [refs, List.length_map, List.length_range, List.length_zipWith]; omega) fun i h1 h2 => ?_
        rw [List.getElem_map, List.getElem_map, List.getElem_range, List.getD_eq_getElem?_getD, List.getElem?_eq_getElem (by rw [List.length_map] at h2; exact h2)]
        rfl]
      tm_at "g"
      refine gc_allB (by rfl) mem0 ?_
      rw [show marksD (.row t ds) ps = (decide (ds.length = ps.length) && (List.zipWith markD ds ps).all id) from rfl, decide_eq_true hl, Bool.true_and] at q
      tm_at "g"
      exact ⟨_, by tm_at "g_end", q⟩
    · rw [decide_eq_false (by omega)]
      rw [show marksD (.row t ds) ps = (decide (ds.length = ps.length) && (List.zipWith markD ds ps).all id) from rfl, decide_eq_false hl, Bool.false_and] at q
      tm_at "g"
      exact ⟨_, by tm_at "g_end", q⟩
  · have eb : rowB d = false := by
      cases d with
      | row t ds => exact absurd ⟨t, ds, rfl⟩ hrow
      | _ => rfl
    have em : marksD d ps = false := by
      cases d with
      | row t ds => exact absurd ⟨t, ds, rfl⟩ hrow
      | _ => rfl
    rw [em] at q
    rw [eb]
    tm_at "g"
    exact ⟨_, by tm_at "g_end", q⟩
end
def fewD : Dv → Bool
  | .row _ ds => decide (ds.length ≤ 60)
  | _ => false
def spNeedFewD (Cl : Addr) : SpL := fun vs L Q E => ∃ v d, vs = [v] ∧ DvAt L v d ∧ (∀ t ds, d = .row t ds → ds.length ≤ 1000) ∧ (fewD d = true → ∀ M, Sub L M → Q .non M) ∧ (fewD d = false → telX Cl [("at", .non)] E L)
section
variable {P : Program} {w : World} {K : PySem.W.Frag} {mg : Str → Option Value} {base : Heap} {Cl : Addr}
theorem fn_need_fewD (B : Bi mg) (F : Df K mg "need_few" s_need_few) (T : ErrT P w K mg base "BadLog" Cl ["at"]) {u : Value} (hM : mg "MOST_ENTRIES" = some u) (rM : RelV (.int 60) u) : Fn P w K mg base (L2.CX P w) "need_few" 3 (spNeedFewD Cl) := by
  refine fn_raise F sc_need_few (fun _ _ _ _ _ _ us hl => match us, hl with | [_], _ => rfl) (by decide) (by tm_at "g_len") ?_
  intro X f cdv A outer s H E0 L vs Q E hX nd hr tk h
  subst hX
  obtain ⟨v, d, rfl, dv, lim, q, e0⟩ := h
  show GSs _ (defBody s_need_few) (bodyD Q) [("value", some v)] L
  refine gss_cons ?_
  tm_at "g"
  rename_i tt
  refine gc_isT (b := rowB d) ["list", "tuple"] (dvMono (fun _ h => memS h) dv).knd mem0 (row_any dv) ?_
  by_cases hrow : ∃ t ds, d = .row t ds
  · obtain ⟨t, ds, rfl⟩ := hrow
    obtain ⟨m, om, vs, rfl, ro1, m1, rp⟩ := row_at dv
    have ll := lim t ds rfl
    rw [show rowB (.row t ds) = true from rfl]
    tm_at "g"
    refine gc_lenO ro1 (memS m1) ?_
    tm_at "g"
    refine gv_con hM rM ?_
    tm_at "g"
    rw [rp.len]
    refine ite_d (fun z => ?_) (fun z => ?_)
    · have ef : fewD (.row t ds) = false := decide_eq_false (by omega)
      tm_at "g"
      refine gs_raise tk (gmk_err T.ck hr ?_ (by decide))
      tm_at "g"
      exact ⟨rfl, fun d => ⟨_, Sub.refl, e0 ef d _ (Sub.cons Sub.drop)⟩⟩
    · have ef : fewD (.row t ds) = true := decide_eq_true (by omega)
      tm_at "g"
      exact ⟨_, Sub.refl, q ef _ Sub.drop⟩
  · have eb : rowB d = false := by
      cases d with
      | row t ds => exact absurd ⟨t, ds, rfl⟩ hrow
      | _ => rfl
    have ef : fewD d = false := by
      cases d with
      | row t ds => exact absurd ⟨t, ds, rfl⟩ hrow
      | _ => rfl
    rw [eb]
    tm_at "g"
    refine gs_raise tk (gmk_err T.ck hr ?_ (by decide))
    tm_at "g"
    exact ⟨rfl, fun d => ⟨_, Sub.refl, e0 ef d _ (Sub.cons Sub.drop)⟩⟩
end
def okEnt (ps : List Int) : Dv → Bool
  | .row true [d, m] => big30 (wholeD d) && marksD m ps
  | _ => false
theorem ok_ent {ps : List Int} {d : Dv} (h : entD d = false) : okEnt ps d = false := by
  match d, h with
  | .row true [d, m], h =>
    show (big30 (wholeD d) && marksD m ps) = false
    rw [show big30 (wholeD d) = false from h]
    rfl
  | .row true [], _ => rfl
  | .row true [_], _ => rfl
  | .row true (_ :: _ :: _ :: _), _ => rfl
  | .row false _, _ => rfl
  | .non, _ => rfl
  | .bl _, _ => rfl
  | .int _, _ => rfl
  | .str _, _ => rfl
  | .dct, _ => rfl
  | .oth, _ => rfl
theorem ent_row {d : Dv} (h : entD d = true) : ∃ x m, d = .row true [x, m] ∧ big30 (wholeD x) = true := by
  match d, h with
  | .row true [x, m], h => exact ⟨x, m, rfl, h⟩
def spNeedEntriesD (Cl : Addr) : SpL := fun vs L Q E => ∃ (v : V) (d : Dv) (p : Addr) (op : HO) (ps : List Int), vs = [v, .ref p] ∧ DvAt L v d ∧ RowO op (ps.map V.int) ∧ (p, op) ∈ L ∧ ps.length ≤ 1000 ∧ (∀ t ds, d = .row t ds → ds.length ≤ 1000 ∧ ∀ x ∈ ds, ∀ ys, x = .row true ys → ys.length ≤ 1000) ∧
  (fewD d = false → telX Cl [("at", .non)] E L) ∧ ∀ t ds, d = .row t ds → fewD d = true → (∀ i x, ds[i]? = some x → okEnt ps x = false → (∀ j y, j < i → ds[j]? = some y → okEnt ps y = true) → telX Cl [("at", .int (i : Nat))] E L) ∧ ((∀ x ∈ ds, okEnt ps x = true) → ∀ M, Sub L M → Q .non M)
section
variable {P : Program} {w : World} {K : PySem.W.Frag} {mg : Str → Option Value} {base : Heap} {Cl : Addr}
theorem fn_need_entriesD (B : Bi mg) (F : Df K mg "need_entries" s_need_entries) (D1 : Fn P w K mg base (L2.CX P w) "need_few_logs" 3 (spNeedFewD Cl)) (D2 : Fn P w K mg base CX0 "is_entry" 2 spIsEntryD) (D3 : Fn P w K mg base CX0 "is_marks" 2 spIsMarksD) (T : ErrT P w K mg base "BadLog" Cl ["at"]) : Fn P w K mg base (L2.CX P w) "need_entries" 4 (spNeedEntriesD Cl) := by
  refine fn_raise F sc_need_entries (fun _ _ _ _ _ _ us hl => match us, hl with | [_, _], _ => rfl) (by decide) (by tm_at "g_len") ?_
  intro X f cdv A outer s H E0 L vs Q E hX nd hr tk h
  subst hX
  obtain ⟨v, d, p, op, ps, rfl, dv, ro2, m2, hps, lim, e0, q⟩ := h
  show GSs _ (defBody s_need_entries) (bodyD Q) [("entries", some v), ("periods", some (.ref p)), ("at", none), ("entry", none)] L
  refine gss_cons ?_
  tm_at "g"
  refine ge_callX D1 hr tk ?_
  tm_at "g"
  refine ⟨v, d, rfl, dv, fun t ds e => (lim t ds e).1, fun ef M sM => ?_, fun ef d' M sb => ⟨_, Sub.refl, e0 ef d' M sb⟩⟩
  have hrow : ∃ t ds, d = .row t ds := by
    cases d with
    | row t ds => exact ⟨t, ds, rfl⟩
    | _ => cases ef
  obtain ⟨t, ds, rfl⟩ := hrow
  obtain ⟨qa, oq, xs, rfl, ro1, m1, rp⟩ := row_at dv
  obtain ⟨e1, q1⟩ := q t ds rfl ef
  obtain ⟨ll, lx⟩ := lim t ds rfl
  refine (fun h => GSs.sub sM h) ?_
  clear sM
  tm_at "g"
  refine gs_for (gi_enumO ro1 ?_ B.enumerate)
  tm_at "g"
  refine ⟨m1, fun i θ N => ∃ u1 u2, θ = ([("entries", some (.ref qa)), ("periods", some (.ref p)), ("at", u1), ("entry", u2)] : En) ∧ Sub L N ∧ ∀ j y, j < i → ds[j]? = some y → okEnt ps y = true, ⟨none, none, rfl, Sub.refl, fun j y hj => absurd hj (Nat.not_lt_zero _)⟩, fun i θ M _ nd ⟨_, _, _, sb, _⟩ => (sb.to nd).2 _ m1, ?_, ?_⟩
  · rintro i x E1 θ N hi ⟨t, a, b, rfl, rfl, ea, eb⟩ ⟨u1, u2, rfl, sb, bef⟩
    cases ea
    have eb : xs[i]? = some b := eb
    obtain ⟨e, he, de⟩ := rp.get eb
    refine GG.sub (Sub.cons sb) ?_
    refine gg_tup mem0 ?_
    tm_at "g"
    refine ge_call (El := NoX) D2 hr passA ?_
    tm_at "g"
    refine ⟨b, e, rfl, dvMono (fun _ h => memS h) de, fun ys z => lx e (List.mem_of_getElem? he) ys z, ?_⟩
    cases ee : entD e with
    | false =>
      tm_at "g"
      refine gs_raise tk (gmk_err T.ck hr ?_ (by decide))
      tm_at "g"
      exact ⟨rfl, fun d => ⟨_, Sub.refl, e1 i e he (ok_ent ee) bef d _ (Sub.cons Sub.drop)⟩⟩
    | true =>
      obtain ⟨x, m, rfl, ex⟩ := ent_row ee
      cases de with
      | tup mt rt =>
        cases rt with
        | cons hx rt =>
          cases rt with
          | cons hm rt =>
            cases rt
            tm_at "g"
            refine ge_call (El := NoX) D3 hr passA ?_
            tm_at "g"
            refine ⟨_, m, p, op, ps, rfl, dvMono (fun _ h => memS h) hm, ro2, memS m2, hps, ?_⟩
            have eo : okEnt ps (.row true [x, m]) = marksD m ps := by
              show (big30 (wholeD x) && marksD m ps) = _
              rw [ex, Bool.true_and]
            rw [← eo]
            cases ek : okEnt ps (.row true [x, m]) with
            | false =>
              tm_at "g"
              refine gs_raise tk (gmk_err T.ck hr ?_ (by decide))
              tm_at "g"
              exact ⟨rfl, fun d => ⟨_, Sub.refl, e1 i _ he ek bef d _ (Sub.cons Sub.drop)⟩⟩
            | true =>
              tm_at "g"
              refine ⟨Sub.drop, fun j y hj hy => ?_⟩
              rcases Nat.lt_or_ge j i with h | h
              · exact bef j y h hy
              · obtain rfl : j = i := by omega
                cases he.symm.trans hy
                exact ek
  · rintro θ N ⟨u1, u2, rfl, sb, bef⟩
    tm_at "g"
    refine ⟨_, Sub.refl, q1 (fun x hx => ?_) _ sb⟩
    obtain ⟨i, hi⟩ := List.mem_iff_getElem?.mp hx
    refine bef i x ?_ hi
    show i < xs.length
    rw [rp.len]
    exact (List.getElem?_eq_some_iff.mp hi).1
end
def leastB (l : Int) : Option Int → Bool
  | some i => decide (l ≤ i)
  | none => false
def spNeedLeastD (Cn : Addr) : SpL := fun vs L Q E => ∃ v d l, vs = [v, .int l] ∧ DvAt L v d ∧ (leastB l (wholeD d) = true → Q .non L) ∧ (leastB l (wholeD d) = false → telX Cn [("value", v)] E L)
section
variable {P : Program} {w : World} {K : PySem.W.Frag} {mg : Str → Option Value} {base : Heap} {Cn : Addr}
theorem fn_need_leastD (F : Df K mg "need_least" s_need_least) (D1 : Fn P w K mg base CX0 "is_whole" 1 spIsWhole) (T : ErrT P w K mg base "BadNumber" Cn ["value"]) : Fn P w K mg base (L2.CX P w) "need_least" 3 (spNeedLeastD Cn) := by
  refine fn_raise F sc_need_least (fun _ _ _ _ _ _ us hl => match us, hl with | [_, _], _ => rfl) (by decide) (by tm_at "g_len") ?_
  intro X f cdv A outer s H E0 L vs Q E hX nd hr tk h
  subst hX
  obtain ⟨v, d, l, rfl, dv, q, e0⟩ := h
  show GSs _ (defBody s_need_least) (bodyD Q) [("value", some v), ("least", some (.int l))] L
  refine gss_cons ?_
  tm_at "g"
  refine ge_call (El := NoX) D1 hr passA ?_
  tm_at "g"
  refine ⟨_, _, rfl, dv.knd, ?_⟩
  rw [whole_d dv]
  cases ew : wholeD d with
  | none =>
    rw [ew] at e0
    rw [show (none : Option Int).isSome = false from rfl]
    tm_at "g"
    refine gs_raise tk (gmk_err T.ck hr ?_ (by decide))
    tm_at "g"
    exact ⟨rfl, fun d => ⟨_, Sub.refl, e0 rfl d _ Sub.refl⟩⟩
  | some i =>
    rw [ew] at e0 q
    cases whole_i dv ew
    rw [show (some i).isSome = true from rfl]
    tm_at "g"
    refine ite_d (fun h1 => ?_) (fun h1 => ?_)
    · have el : leastB l (some i) = false := decide_eq_false (by omega)
      tm_at "g"
      refine gs_raise tk (gmk_err T.ck hr ?_ (by decide))
      tm_at "g"
      exact ⟨rfl, fun d => ⟨_, Sub.refl, e0 el d _ Sub.refl⟩⟩
    · have el : leastB l (some i) = true := decide_eq_true (by omega)
      tm_at "g"
      exact ⟨_, Sub.refl, q el⟩
end
def LimE (d : Dv) : Prop := ∀ t ds, d = .row t ds → ds.length ≤ 1000 ∧ ∀ x ∈ ds, ∀ ys, x = .row true ys → ys.length ≤ 1000
def tells (C : Addr) (n : Str) (v : V) (E : XL) (L : Lg) : Prop := ∀ d, E (.ref C) (some d) ((d, .xd [(n, v)]) :: L)
/-- what a wheel's part must be -/
def okPart (least : Int) : V → Bool
  | .int i => decide (least ≤ i) && decide (i ≤ 1000000000000)
  | _ => false
def spNeedPart (C : Addr) : SpL := fun vs L Q E => ∃ (v : V) (T : String) (least : Int) (part : Str), vs = [v, .int least, .str part] ∧ Knd L v T ∧ (okPart least v = true → Q .non L) ∧ (okPart least v = false → tells C "part" (.str part) E L)
abbrev wO (C dx : Addr) (p b h : V) : HO := .ins C dx [("period", p), ("back", b), ("ahead", h)]
/-- what a wheel's class must have for its fields -/
structure WhA (K : PySem.W.Frag) (C : Addr) : Prop where
  c : L2.Cls K C
  n1 : NoAttr K C "period"
  n2 : NoAttr K C "back"
  n3 : NoAttr K C "ahead"
/-- a wheel's parts are kept, or the first wrong one is told -/
def spWheelInit (K : PySem.W.Frag) (Ce : Addr) : SpL := fun vs L Q E => ∃ (a C dx : Addr) (p b h : V) (Tp Tb Th : String) (M : Lg), vs = [.ref a, p, b, h] ∧ (a, HO.ins C dx []) ∈ L ∧ WhA K C ∧ Knd L p Tp ∧ Knd L b Tb ∧ Knd L h Th ∧ Swap a (wO C dx p b h) L M ∧
  (okPart 2 p = true → okPart 0 b = true → okPart 0 h = true → Q .non M) ∧ (okPart 2 p = false → tells Ce "part" (.str "period") E L) ∧ (okPart 2 p = true → okPart 0 b = false → tells Ce "part" (.str "back") E L) ∧
  (okPart 2 p = true → okPart 0 b = true → okPart 0 h = false → tells Ce "part" (.str "ahead") E L)
section
variable {P : Program} {w : World} {K : PySem.W.Frag} {mg : Str → Option Value} {base : Heap} {C D Ce : Addr}
theorem fn_need_part (F : Df K mg "need_part" s_need_part) (D1 : Fn P w K mg base CX0 "is_whole" 1 spIsWhole) (T : ErrT P w K mg base "BadWheel" C ["part"]) {u : Value} (hM : mg "MOST" = some u) (rM : RelV (.int 1000000000000) u) : Fn P w K mg base (L2.CX P w) "need_part" 3 (spNeedPart C) := by
  refine fn_raise F sc_need_part (fun _ _ _ _ _ _ us hl => match us, hl with | [_, _, _], _ => rfl) (by decide) (by tm_at "g_len") ?_
  intro X f cdv A outer s H E0 L vs Q E hX nd hr tk h
  subst hX
  obtain ⟨v, T0, least, part, rfl, k, q1, q2⟩ := h
  show GSs _ (defBody s_need_part) (bodyD Q) [("value", some v), ("least", some (.int least)), ("part", some (.str part))] L
  refine gss_cons ?_
  tm_at "g"
  refine ge_call (El := NoX) D1 hr passA ?_
  tm_at "g"
  refine ⟨v, T0, rfl, k, ?_⟩
  cases hw : whole v with
  | true =>
    obtain ⟨i, rfl⟩ := whole_int hw
    tm_at "g"
    refine ite_d (fun z1 => ?_) (fun z1 => ?_)
    · tm_at "g"
      refine gv_con hM rM ?_
      tm_at "g"
      refine ite_n (fun z2 => ?_) (fun z2 => ?_)
      · tm_at "g"
        refine gs_raise tk (gmk_err T.ck hr ?_ (by decide))
        tm_at "g"
        exact ⟨rfl, fun d => ⟨_, Sub.refl, q2 (by show (decide _ && decide _) = _; rw [decide_eq_true z1, decide_eq_false z2]; rfl) d⟩⟩
      · tm_at "g"
        exact ⟨_, Sub.refl, q1 (by show (decide _ && decide _) = _; rw [decide_eq_true z1, decide_eq_true z2]; rfl)⟩
    · tm_at "g"
      refine gs_raise tk (gmk_err T.ck hr ?_ (by decide))
      tm_at "g"
      exact ⟨rfl, fun d => ⟨_, Sub.refl, q2 (by show (decide _ && decide _) = _; rw [decide_eq_false z1]; rfl) d⟩⟩
  | false =>
    tm_at "g"
    refine gs_raise tk (gmk_err T.ck hr ?_ (by decide))
    tm_at "g"
    exact ⟨rfl, fun d => ⟨_, Sub.refl, q2 (by cases v <;> first | rfl | cases hw) d⟩⟩
theorem run_Wheel_initK {args : List Value → Args} (pmV : List V → List V) (pmU : List Value → List Value) (hpm : ∀ vs us, Vals vs us → Vals (pmV vs) (pmU us)) {f : Addr} {fd : FuncData} (F : Fun K "__init__" "Wheel.__init__" s_Wheel_init f fd) (D1 : Fn P w K mg base (L2.CX P w) "need_part" 3 (spNeedPart Ce))
    (hb : ∀ (kV doc pm : Value) (an : Option Addr) (cdv ct : Value) (us : List Value), (pmU us).length = 4 → bindArgs (PySem.W.fnOf "__init__" "Wheel.__init__" (defArgs s_Wheel_init) (defBody s_Wheel_init) (defScope s_Wheel_init) .none kV doc pm an cdv ct) (args us) = pure ((["self", "period", "back", "ahead"] : List Str).zip (pmU us))) : RunG P w K mg base (L2.CX P w) 4 f args (toSp fun vs => spWheelInit K Ce (pmV vs)) := by
  refine run_raise (sp := spWheelInit K Ce) F sc_Wheel_init args pmV pmU hpm hb (by decide) (by tm_at "g_len") ?_
  intro X f cdv A outer s H E0 L vs Q E hX nd hr tk h
  subst hX
  obtain ⟨a, C, dx, p, b, h, Tp, Tb, Th, M, rfl, ma, wa, kp, kb, kh, sw, q, e1, e2, e3⟩ := h
  obtain ⟨lf, rfl, l1, l2⟩ := sw.lens
  show GSs _ (defBody s_Wheel_init) (bodyD Q) [("self", some (.ref a)), ("period", some p), ("back", some b), ("ahead", some h)] L
  refine gss_cons ?_
  tm_at "g"
  refine ge_callX D1 hr tk ?_
  tm_at "g"
  refine ⟨p, Tp, 2, "period", rfl, kp, fun z1 => ?_, fun z d => ⟨_, Sub.refl, e1 z d⟩⟩
  tm_at "g"
  refine ge_callX D1 hr tk ?_
  tm_at "g"
  refine ⟨b, Tb, 0, "back", rfl, kb, fun z2 => ?_, fun z d => ⟨_, Sub.refl, e2 z1 z d⟩⟩
  tm_at "g"
  refine ge_callX D1 hr tk ?_
  tm_at "g"
  refine ⟨h, Th, 0, "ahead", rfl, kh, fun z3 => ?_, fun z d => ⟨_, Sub.refl, e3 z1 z2 z d⟩⟩
  tm_at "g"
  refine ⟨a, C, dx, [], _, rfl, ma, wa.c, wa.n1, (show 0 < 1000 by decide), l1 _, ?_⟩
  tm_at "g"
  refine ⟨a, C, dx, [("period", p)], _, rfl, (l1 _).got, wa.c, wa.n2, (show 1 < 1000 by decide), l2 _ _ rfl, ?_⟩
  tm_at "g"
  refine ⟨a, C, dx, [("period", p), ("back", b)], _, rfl, (l1 _).got, wa.c, wa.n3, (show 2 < 1000 by decide), l2 _ _ rfl, ?_⟩
  tm_at "g"
  exact ⟨_, Sub.refl, q z1 z2 z3⟩
theorem run_Wheel_init {f : Addr} {fd : FuncData} (F : Fun K "__init__" "Wheel.__init__" s_Wheel_init f fd) (D1 : Fn P w K mg base (L2.CX P w) "need_part" 3 (spNeedPart Ce)) : RunG P w K mg base (L2.CX P w) 4 f argsP (toSp (spWheelInit K Ce)) :=
  run_Wheel_initK (args := argsP) id id (fun _ _ r => r) F D1 (fun _ _ _ _ _ _ us hl => match us, hl with | [_, _, _, _], _ => rfl)
end
def spExactInit (K : PySem.W.Frag) (Ce C0 : Addr) : SpL := fun vs L Q E => ∃ (a dx : Addr) (p : V) (Tp : String) (M : Lg), vs = [.ref a, p] ∧ (a, HO.ins C0 dx []) ∈ L ∧ WhA K C0 ∧ Knd L p Tp ∧ Swap a (wO C0 dx p (.int 0) (.int 0)) L M ∧
  (okPart 2 p = true → Q .non M) ∧ (okPart 2 p = false → tells Ce "part" (.str "period") E L)
section
variable {P : Program} {w : World} {K : PySem.W.Frag} {mg : Str → Option Value} {base : Heap} {C D Ce : Addr}
theorem telL {C : Addr} {n : Str} {v : V} {E : XL} {L : Lg} {a : Addr × HO} (h : tells C n v E L) : tells C n v (drpE E) (a :: L) := fun d => ⟨_, Sub.cons Sub.drop, h d⟩
theorem run_Grid_init {f c cc D g C0 : Addr} {fd : FuncData} (F : SupF P K "__init__" "Grid.__init__" s_Grid_init f c cc D fd) (G : RunG P w K mg base (L2.CX P w) 4 g argsP (toSp (spWheelInit K Ce))) (T : SupM K mg C0 D "__init__" g) (args : List Value → Args) (pmV : List V → List V) (pmU : List Value → List Value) (hpm : ∀ vs us, Vals vs us → Vals (pmV vs) (pmU us))
    (hb : ∀ (kV doc pm ct : Value) (an : Option Addr) (us : List Value), (pmU us).length = 2 → bindArgs (PySem.W.fnX "__init__" "Grid.__init__" (defArgs s_Grid_init) (defBody s_Grid_init) (defScope s_Grid_init) [("__class__", cc)] .none kV doc pm an (.ref c) ct) (args us) = pure ((["self", "period"] : List Str).zip (pmU us))) :
    RunG P w K mg base (L2.CX P w) 5 f args (toSp fun vs => spExactInit K Ce C0 (pmV vs)) := by
  refine run_sup (sp := spExactInit K Ce C0) F sc_Grid_init args pmV pmU hpm hb (by tm_at "g_len") (fun vs hl => match vs, hl with | [_, _], _ => rfl) ?_
  intro X A outer s H E0 L vs Q E hX he nd hr h hH hN
  subst hX
  obtain ⟨a, dx, p, Tp, M, rfl, ma, wa, kp, sw, q, e1⟩ := h
  have tk := tk_sup (P := P) (w := w) (K := K) (mg := mg) (base := base) (N := N_Grid_init) (x := "__init__") (q := "Grid.__init__") (st := s_Grid_init) (cc := cc) (c := c) (f := f) (A := A) (outer := outer) (s := s) (H := H) he
  obtain ⟨ar, har, hself⟩ : ∃ ar, (fd.params.posonlyargs ++ fd.params.args).head? = some ar ∧ ar.arg = ("self" : Str) := by
    obtain ⟨_, _, _, _, _, _, _, _, efd, _⟩ := F.ex
    rw [efd]
    exact ⟨_, rfl, rfl⟩
  refine gas_supX (η := ([("self", some (.ref a)), ("period", some p), ("__class__", none)] : En)) (ar := ar) F T rfl rfl rfl har rfl rfl (by rw [hself]; rfl) G hr tk (by rw [hself]; exact .here) ma (fun u => ?_) (by decide) (by decide) rfl rfl rfl rfl rfl hN H hH
  tm_at "g"
  refine ⟨mem0, a, C0, dx, p, .int 0, .int 0, Tp, _, _, _, rfl, memS ma, wa, kp.sub (fun _ => memS), .int, .int, .there sw, fun z1 _ _ => ?_, fun z => telL (e1 z), fun _ z => absurd z (by decide), fun _ _ z => absurd z (by decide)⟩
  tm_at "g"
  exact ⟨_, Sub.drop, q z1⟩
end
section
variable {P : Program} {w : World} {K : PySem.W.Frag} {mg : Str → Option Value} {base : Heap} {C D Ce gT gE gS : Addr}
def spTrusted (K : PySem.W.Frag) : SpL := fun vs L Q _ => ∃ (a C dx : Addr) (fs : List (Str × V)) (u : Value) (t : Bool), vs = [.ref a] ∧ (a, HO.ins C dx fs) ∈ L ∧ L2.Cls K C ∧ Con K C "TRUSTED" (.bl t) u ∧ fs.lookup ("TRUSTED" : Str) = none ∧ Q (.bl t) L
theorem run_Wheel_trusted (B : Bi mg) {f : Addr} {fd : FuncData} (F : Fun K "trusted" "Wheel.trusted" s_Wheel_trusted f fd) : RunG P w K mg base CX0 1 f argsP (toSp (spTrusted K)) := by
  refine run_plain F sc_Wheel_trusted argsP id id (fun _ _ r => r) (fun _ _ _ _ _ _ us hl => match us, hl with | [_], _ => rfl) (by decide) (by tm_at "g_len") ?_
  intro X f cdv A outer s H E0 L vs Q E hX nd hr h
  subst hX
  obtain ⟨a, C, dx, fs, u, t, rfl, m, c, k, l, q⟩ := h
  show GSs _ (defBody s_Wheel_trusted) (bodyD Q) [("self", some (.ref a))] L
  refine gss_cons ?_
  tm_at "g"
  refine gat_con c k m l ?_
  tm_at "g"
  refine gc_boolB ?_
  exact ⟨_, Sub.refl, q⟩
/-- what the top tells of one of the classes of wheels -/
structure WhC (K : PySem.W.Frag) (D gT gE gS C : Addr) (t : Bool) : Prop where
  a : WhA K C
  o : OwnT K C
  kd : PySem.W.kitOne K (.ref C) (.ref D) = some true
  ct : ∃ u, Con K C "TRUSTED" (.bl t) u
  pt : ∃ p, PropOf K C "trusted" p gT
  oe : OwnEq K C gE
  st : PySem.W.findIn K (.ref C) "__str__" = some (some (.ref gS))
  si : PySem.W.isFn K (.ref gS) = true
end
section
variable {P : Program} {w : World} {K : PySem.W.Frag} {mg : Str → Option Value} {base : Heap} {C : Addr}
/-- a class of wheels that can be made -/
structure MkF (P : Program) (w : World) (K : PySem.W.Frag) (mg : Str → Option Value) (base : Heap) (x : Str) (C f : Addr) (k : Nat) (sp : SpL) : Prop where
  g : mg x = some (.ref C)
  M : Mk K C f
  R : RunG P w K mg base (L2.CX P w) k f argsP (toSp sp)
theorem okI {l i : Int} (h0 : l ≤ i) (h1 : i ≤ 1000000000000) : okPart l (.int i) = true := by
  show (decide _ && decide _) = true
  rw [decide_eq_true h0, decide_eq_true h1]
  rfl
theorem no_bad {l i : Int} {Z : Prop} (h0 : l ≤ i) (h1 : i ≤ 1000000000000) : okPart l (.int i) = false → Z := fun z => by
  rw [okI h0 h1] at z
  cases z
end
/-- a wheel as data: trust, period, back, ahead -/
abbrev WhD := Bool × Nat × Nat × Nat
/-- a meter as data -/
abbrev MtD := List WhD × Nat × Nat × Nat
/-- addresses: Wheel, Grid, trusted, __eq__, __str__, is_mark, Meter -/
structure WPar where
  D : Addr
  G0 : Addr
  gT : Addr
  gE : Addr
  gS : Addr
  gM : Addr
  CM : Addr
structure WhK (K : PySem.W.Frag) (Y : WPar) (C : Addr) (t : Bool) : Prop where
  c : WhC K Y.D Y.gT Y.gE Y.gS C t
  g : t = true → C = Y.G0
  pe : t = false → PairEq K Y.D C
  im : Meth K C "is_mark" Y.gM
  nm : PySem.W.kitOne K (.ref C) (.ref Y.CM) = some false
  ns : PySem.W.kitOne K (.ref C) (.type "str") = some false
def WhAt (K : PySem.W.Frag) (Y : WPar) (L : Lg) (v : V) (w : WhD) : Prop := ∃ x C dx, v = .ref x ∧ (x, wO C dx (.int (w.2.1 : Nat)) (.int (w.2.2.1 : Nat)) (.int (w.2.2.2 : Nat))) ∈ L ∧ WhK K Y C w.1
theorem whMono {K : PySem.W.Frag} {Y : WPar} : RepMono (WhAt K Y) := fun _ _ _ _ s ⟨x, C, dx, e, m, k⟩ => ⟨x, C, dx, e, s _ m, k⟩
abbrev mtO (C dx wt : Addr) (n : Nat × Nat × Nat) : HO := .ins C dx [("wheels", .ref wt), ("off", .int (n.1 : Nat)), ("more", .int (n.2.1 : Nat)), ("lost", .int (n.2.2 : Nat))]
def MtAt (K : PySem.W.Frag) (Y : WPar) (L : Lg) (v : V) (m : MtD) : Prop := ∃ a dx wt wz, v = .ref a ∧ (a, mtO Y.CM dx wt m.2) ∈ L ∧ (wt, HO.tup wz) ∈ L ∧ Reps (WhAt K Y L) wz m.1
structure MtC (K : PySem.W.Frag) (C : Addr) : Prop where
  c : L2.Cls K C
  n1 : NoAttr K C "wheels"
  n2 : NoAttr K C "off"
  n3 : NoAttr K C "more"
  n4 : NoAttr K C "lost"
def WhOk (w : WhD) : Prop := 2 ≤ w.2.1 ∧ w.2.1 ≤ 1000000000000 ∧ w.2.2.1 ≤ 1000000000000 ∧ w.2.2.2 ≤ 1000000000000 ∧ (w.1 = true → w.2.2.1 = 0 ∧ w.2.2.2 = 0)
section
variable {P : Program} {w : World} {K : PySem.W.Frag} {mg : Str → Option Value} {base : Heap} {f : Addr} {Y : WPar}
def spCount : SpL := fun vs L Q _ => ∃ (n : Nat) (part : Str), vs = [.int (n : Nat), .str part] ∧ n ≤ 8 ∧ Q .non L
theorem fn_need_count (F : Df K mg "need_count" s_need_count) (D1 : Fn P w K mg base CX0 "is_whole" 1 spIsWhole) {u : Value} (hM : mg "MOST_WHEELS" = some u) (rM : RelV (.int 8) u) : Fn P w K mg base CX0 "need_count" 2 spCount := by
  refine fn_plain F sc_need_count (fun _ _ _ _ _ _ us hl => match us, hl with | [_, _], _ => rfl) (by decide) (by tm_at "g_len") ?_
  intro X f cdv A outer s H E0 L vs Q E hX nd hr h
  subst hX
  obtain ⟨n, part, rfl, hn, q⟩ := h
  show GSs _ (defBody s_need_count) (bodyD Q) [("value", some (.int (n : Nat))), ("part", some (.str part))] L
  refine gss_cons ?_
  tm_at "g"
  refine ge_call (El := NoX) D1 hr passA ?_
  tm_at "g"
  refine ⟨_, _, rfl, .int, ?_⟩
  rw [show whole (.int (n : Nat)) = true from rfl]
  tm_at "g"
  refine ite_d (fun _ => ?_) (fun z => absurd (by omega) z)
  refine gv_con hM rM ?_
  tm_at "g"
  rw [decide_eq_true (show ((n : Nat) : Int) ≤ 8 by omega)]
  tm_at "g"
  exact ⟨_, Sub.refl, q⟩
/-- self, off, more, lost, wheels as they are bound -/
def spMeterInit (K : PySem.W.Frag) (Y : WPar) : SpL := fun vs L Q _ => ∃ (a dx wt : Addr) (n : Nat × Nat × Nat) (wz : List V) (ws : List WhD) (R : Lg), vs = [.ref a, .int (n.1 : Nat), .int (n.2.1 : Nat), .int (n.2.2 : Nat), .ref wt] ∧ L = (wt, HO.tup wz) :: (a, HO.ins Y.CM dx []) :: R ∧ MtC K Y.CM ∧ Reps (WhAt K Y R) wz ws ∧ 1 ≤ ws.length ∧ ws.length ≤ 8 ∧ n.1 ≤ 8 ∧ n.2.1 ≤ 8 ∧ n.2.2 ≤ 8 ∧
  Q .non ((a, mtO Y.CM dx wt n) :: (wt, HO.tup wz) :: R)
theorem body_Meter_init (B : Bi mg) (D1 : Fn P w K mg base CX0 "need_count" 2 spCount) (hD : mg "Wheel" = some (.ref Y.D)) {u : Value} (hM : mg "MOST_WHEELS" = some u) (rM : RelV (.int 8) u) : BodyOf P w K mg base N_Meter_init "Meter.__init__" s_Meter_init 3 (spMeterInit K Y) := by
  intro X f cdv A outer s H E0 L vs Q E hX nd hr h
  subst hX
  obtain ⟨a, dx, wt, ⟨o, m, l⟩, wz, ws, R, rfl, rfl, ⟨cC, na1, na2, na3, na4⟩, rw_, w1, w8, o8, m8, l8, q⟩ := h
  dsimp only at o8 m8 l8 q
  have lw := rw_.len
  show GSs _ (defBody s_Meter_init) (bodyD Q) [("self", some (.ref a)), ("off", some (.int (o : Nat))), ("more", some (.int (m : Nat))), ("lost", some (.int (l : Nat))), ("wheels", some (.ref wt)), ("wheel", none)] _
  refine gss_cons ?_
  tm_at "g"
  refine ite_d (fun z => absurd z (by omega)) (fun _ => ?_)
  tm_at "g"
  refine ge_lcP (by tm_at "g_put") (gi_rowO (o := .tup wz) (.inr rfl) ?_) (show blkC N_Meter_init (defScope s_Meter_init) _ [(_, List.idxOf _ N_Meter_init)] = true by decide +kernel)
  tm_at "g"
  refine ⟨by tm_at "g_mem", ?_⟩
  refine pure_rowO (t := fun _ => true) (g := fun _ => .bl true) mem0 (by omega) (fun v hv D acc s1 H1 C1 cl1 fp1 => ?_) fun D => ?_
  · obtain ⟨i, hi⟩ := List.mem_iff_getElem?.mp hv
    obtain ⟨wd, hw, x, C, dw, rfl, mx, wk⟩ := rw_.get hi
    refine gts_nil ⟨rfl, Sub.refl, fun _ s2 H2 C2 cl2 fp2 => ?_⟩
    tm_at "g"
    refine gv_def hD ?_
    tm_at "g"
    refine gc_isI wk.c.o (by have := mx; repeat (first | exact this | with_reducible apply memS)) (.own Y.D) wk.c.kd ?_
    exact ⟨rfl, Sub.refl⟩
  tm_at "g"
  have et : (wz.filter fun _ => true).map (fun _ => V.bl true) = (wz.map fun _ => true).map V.bl := by rw [List.filter_eq_self.mpr fun _ _ => rfl, List.map_map]; rfl
  rw [et]
  refine gc_allB (by rfl) mem0 ?_
  rw [show (wz.map fun _ => true).all id = true by rw [List.all_eq_true]; intro b hb; obtain ⟨_, _, rfl⟩ := List.mem_map.mp hb; rfl]
  tm_at "g"
  refine gv_con hM rM ?_
  tm_at "g"
  refine ite_d (fun z => absurd z (by omega)) (fun _ => ?_)
  tm_at "g"
  refine ge_call (El := NoX) D1 hr passA ?_
  tm_at "g"
  refine ⟨o, _, rfl, o8, ?_⟩
  tm_at "g"
  refine ge_call (El := NoX) D1 hr passA ?_
  tm_at "g"
  refine ⟨m, _, rfl, m8, ?_⟩
  tm_at "g"
  refine ge_call (El := NoX) D1 hr passA ?_
  tm_at "g"
  refine ⟨l, _, rfl, l8, ?_⟩
  tm_at "g"
  refine ⟨a, Y.CM, dx, [], _, rfl, by tm_at "g_mem", cC, na1, (show 0 < 1000 by decide), by tm_at "g_swap", ?_⟩
  rw [show putF ("wheels" : Str) (V.ref wt) [] = ([("wheels", .ref wt)] : List (Str × V)) from rfl]
  tm_at "g"
  refine ⟨a, Y.CM, dx, [("wheels", .ref wt)], _, rfl, by tm_at "g_mem", cC, na2, (show 1 < 1000 by decide), by tm_at "g_swap", ?_⟩
  rw [show putF ("off" : Str) (V.int (o : Nat)) [("wheels", .ref wt)] = ([("wheels", .ref wt), ("off", .int (o : Nat))] : List (Str × V)) from rfl]
  tm_at "g"
  refine ⟨a, Y.CM, dx, [("wheels", .ref wt), ("off", .int (o : Nat))], _, rfl, by tm_at "g_mem", cC, na3, (show 2 < 1000 by decide), by tm_at "g_swap", ?_⟩
  rw [show putF ("more" : Str) (V.int (m : Nat)) [("wheels", .ref wt), ("off", .int (o : Nat))] = ([("wheels", .ref wt), ("off", .int (o : Nat)), ("more", .int (m : Nat))] : List (Str × V)) from rfl]
  tm_at "g"
  refine ⟨a, Y.CM, dx, [("wheels", .ref wt), ("off", .int (o : Nat)), ("more", .int (m : Nat))], _, rfl, by tm_at "g_mem", cC, na4, (show 3 < 1000 by decide), by tm_at "g_swap", ?_⟩
  tm_at "g"
  exact ⟨_, Sub.trans (Sub.perm (List.Perm.swap _ _ _)) Sub.drop, q⟩
theorem bindM3 : BindK "__init__" "Meter.__init__" "wheels" s_Meter_init ["self"] ["off", "more", "lost"] ["off", "more", "lost"] [] (fun _ ws => ws) (fun _ => True) := fun D doc pm an cdv ct us rest mv ws h1 h2 h3 _ =>
  match us, h1, mv, h2, ws, h3 with
  | [u], _, [], _, [a, b, c], _ => by cases rest <;> exact rfl
/-- how Meter's __init__ may be called: with its three numbers by name -/
structure MtI (P : Program) (w : World) (K : PySem.W.Frag) (mg : Str → Option Value) (base : Heap) (Y : WPar) (f : Addr) : Prop where
  three : ∀ n, RunG P w K mg base CX0 4 f (argsK n ["off", "more", "lost"]) (toSp fun vs L Q E => ∃ ws rest zs, vs = (ws ++ rest) ++ zs ∧ ws.length = 1 ∧ (ws ++ rest).length = n ∧ zs.length = 3 ∧ rest.length ≤ sizeLine ∧ True ∧ ∀ p, spMeterInit K Y (ws ++ (zs ++ [.ref p])) ((p, .tup rest) :: L) Q E)
theorem mtI_of {kws : List (Str × V)} (F : FunK K "__init__" "Meter.__init__" s_Meter_init kws f) (body : BodyOf P w K mg base N_Meter_init "Meter.__init__" s_Meter_init 3 (spMeterInit K Y)) : MtI P w K mg base Y f where
  three := fun n => run_starK (ps := ["self"]) (ko := ["off", "more", "lost"]) (ms := []) n (fun _ ws => ws) F sc_Meter_init (fun q h => nomatch h) (fun _ r => r) (fun _ zs _ h => h) bindM3 (by decide) body
/-- a meter made of wheels one by one -/
theorem mk_three {Q : QV} {L : Lg} {k : Nat} {n : Nat × Nat × Nat} {wz : List V} {ws : List WhD} {vals : List V} {E : XL} (tc : MtC K Y.CM) (ev : vals = wz ++ [.int (n.1 : Nat), .int (n.2.1 : Nat), .int (n.2.2 : Nat)]) (ek : k = wz.length + 1) (rw_ : Reps (WhAt K Y L) wz ws) (w1 : 1 ≤ ws.length) (w8 : ws.length ≤ 8) (n8 : n.1 ≤ 8 ∧ n.2.1 ≤ 8 ∧ n.2.2 ≤ 8) (h : ∀ (x dx wt : Addr) , Q (.ref x) ((x, mtO Y.CM dx wt n) :: (wt, HO.tup wz) :: (dx, .own x) :: L)) :
    InitSp Y.CM (fun vs L Q E => ∃ ws rest zs, vs = (ws ++ rest) ++ zs ∧ ws.length = 1 ∧ (ws ++ rest).length = k ∧ zs.length = 3 ∧ rest.length ≤ sizeLine ∧ True ∧ ∀ p, spMeterInit K Y (ws ++ (zs ++ [.ref p])) ((p, .tup rest) :: L) Q E) Q E vals L := by
  subst ev ek
  have lw := rw_.len
  refine fun x dx => ⟨[.ref x], wz, [.int (n.1 : Nat), .int (n.2.1 : Nat), .int (n.2.2 : Nat)], by simp, rfl, by simp, rfl, szL (by omega), True.intro, fun p' => ⟨x, dx, p', n, wz, ws, (dx, .own x) :: L, rfl, rfl, tc, rw_.imp fun v a z => whMono _ _ _ _ (fun _ h => memS h) z, w1, w8, n8.1, n8.2.1, n8.2.2, rfl, h x dx p'⟩⟩
end
section
variable {P : Program} {w : World} {K : PySem.W.Frag} {mg : Str → Option Value} {base : Heap} {C D Cn CL gP : Addr}
/-- is_mark -/
def okMark (p : Int) : V → Bool
  | .int i => decide (0 ≤ i) && decide (i < p)
  | _ => false
def spIsMark (K : PySem.W.Frag) : SpL := fun vs L Q _ => ∃ (a C dx : Addr) (p b h : Int) (v : V) (T : String), vs = [.ref a, v] ∧ (a, wO C dx (.int p) (.int b) (.int h)) ∈ L ∧ WhA K C ∧ Knd L v T ∧ Q (.bl (okMark p v)) L
theorem okMark_no {p : Int} {v : V} (h : whole v = false) : okMark p v = false := by
  cases v <;> first | rfl | cases h
theorem run_Wheel_is_mark {f : Addr} {fd : FuncData} (F : Fun K "is_mark" "Wheel.is_mark" s_Wheel_is_mark f fd) (D1 : Fn P w K mg base CX0 "is_whole" 1 spIsWhole) : RunG P w K mg base CX0 2 f argsP (toSp (spIsMark K)) := by
  refine run_plain F sc_Wheel_is_mark argsP id id (fun _ _ r => r) (fun _ _ _ _ _ _ us hl => match us, hl with | [_, _], _ => rfl) (by decide) (by tm_at "g_len") ?_
  intro X f cdv A outer s H E0 L vs Q E hX nd hr h
  subst hX
  obtain ⟨a, C, dx, p, b, h, v, T0, rfl, ma, wa, kv, q⟩ := h
  obtain ⟨c, n1, n2, n3⟩ := wa
  show GSs _ (defBody s_Wheel_is_mark) (bodyD Q) [("self", some (.ref a)), ("mark", some v)] L
  refine gss_cons ?_
  tm_at "g"
  refine ge_call (El := NoX) D1 hr passA ?_
  tm_at "g"
  refine ⟨v, T0, rfl, kv, ?_⟩
  cases hw : whole v with
  | true =>
    obtain ⟨i, rfl⟩ := whole_int hw
    tm_at "g"
    have q : Q (.bl (decide (0 ≤ i) && decide (i < p))) L := q
    refine ite_d (fun z1 => ?_) (fun z1 => ?_)
    · tm_at "g"
      rw [decide_eq_true z1, Bool.true_and] at q
      exact ⟨_, Sub.refl, q⟩
    · rw [decide_eq_false z1, Bool.false_and] at q
      exact ⟨_, Sub.refl, q⟩
  | false =>
    tm_at "g"
    rw [okMark_no hw] at q
    exact ⟨_, Sub.refl, q⟩
end
section
variable {P : Program} {w : World} {K : PySem.W.Frag} {mg : Str → Option Value} {base : Heap} {Cm Cl : Addr} {Y : WPar}
def MtIt (K : PySem.W.Frag) (Y : WPar) (a t : Addr) (xs : List V) (L : Lg) : Prop := ∃ (dx : Addr) (n : Nat × Nat × Nat), (a, mtO Y.CM dx t n) ∈ L ∧ MtC K Y.CM
theorem run_Meter_iter (B : Bi mg) {f : Addr} {fd : FuncData} (F : Fun K "__iter__" "Meter.__iter__" s_Meter_iter f fd) (n : Nat) : RunN n P w K mg base CX0 1 f argsP (toSp (spIterT n (MtIt K Y))) := by
  refine run_plainN F sc_Meter_iter (fun _ _ _ _ _ _ us hl => match us, hl with | [_], _ => rfl) (by decide) (by tm_at "g_len") ?_
  intro X f cdv A outer s H E0 L vs Q E hX hn nd hr h
  subst hX
  obtain ⟨a, t, xs, rfl, ⟨dx, m, ma, ⟨c, n1, n2, n3, n4⟩⟩, mt, q⟩ := h
  show GSs _ (defBody s_Meter_iter) (bodyD Q) [("self", some (.ref a))] L
  refine gss_cons ?_
  tm_at "g"
  refine ge_B B.iter bt_iter ?_
  tm_at "g"
  refine gc_iterT mt fun it hit => ?_
  exact ⟨_, Sub.refl, q it (Nat.le_trans hn hit)⟩
/-- how a meter is walked -/
structure MtW (P : Program) (w : World) (K : PySem.W.Frag) (mg : Str → Option Value) (base : Heap) (Y : WPar) (g : Addr) : Prop where
  c : MtC K Y.CM
  o : OwnT K Y.CM
  kk : PySem.W.kitOne K (.ref Y.CM) (.ref Y.CM) = some true
  fi : PySem.W.findIn K (.ref Y.CM) "__iter__" = some (some (.ref g))
  fn : PySem.W.isFn K (.ref g) = true
  run : ∀ n, RunN n P w K mg base CX0 1 g argsP (toSp (spIterT n (MtIt K Y)))
/-- no meter -/
def NotM (K : PySem.W.Frag) (Y : WPar) (L : Lg) (v : V) : Prop := (∃ T, Knd L v T ∧ PySem.W.kitOne K (.type T) (.ref Y.CM) = some false) ∨ ∃ x C dx fs, v = .ref x ∧ (x, HO.ins C dx fs) ∈ L ∧ OwnT K C ∧ PySem.W.kitOne K (.ref C) (.ref Y.CM) = some false
theorem NotM.mono {L M : Lg} {v : V} (s : ∀ e ∈ L, e ∈ M) : NotM K Y L v → NotM K Y M v := fun h => by
  rcases h with ⟨T, k, e⟩ | ⟨x, C, dx, fs, e, m, o, k⟩
  · exact .inl ⟨T, k.sub s, e⟩
  · exact .inr ⟨x, C, dx, fs, e, s _ m, o, k⟩
def perM (m : MtD) : List Int := m.1.map fun w => ((w.2.1 : Nat) : Int)
def RefE (Cl : Addr) (E : XL) (L : Lg) (ps : List Int) (d2 : Dv) : Prop :=
  (fewD d2 = false ∧ telX Cl [("at", .non)] E L) ∨ ∃ t2 ds, d2 = .row t2 ds ∧ fewD d2 = true ∧ ∃ i x, ds[i]? = some x ∧ okEnt ps x = false ∧ (∀ j y, j < i → ds[j]? = some y → okEnt ps y = true) ∧ telX Cl [("at", .int (i : Nat))] E L
def spNeedLogD (K : PySem.W.Frag) (Y : WPar) (Cm Cl : Addr) : SpL := fun vs L Q E => ∃ (v1 v2 : V) (d2 : Dv), vs = [v1, v2] ∧ DvAt L v2 d2 ∧ LimE d2 ∧
  ((NotM K Y L v1 ∧ telX Cm [("part", .str "meter")] E L) ∨ ∃ m, MtAt K Y L v1 m ∧ m.1.length ≤ 8 ∧ (RefE Cl E L (perM m) d2 ∨ ∃ t ds, d2 = .row t ds ∧ fewD d2 = true ∧ (∀ x ∈ ds, okEnt (perM m) x = true) ∧ ∀ M, Sub L M → Q .non M))
theorem fn_need_logD (B : Bi mg) (F : Df K mg "need_log" s_need_log) (hC : mg "Meter" = some (.ref Y.CM)) {g : Addr} (W : MtW P w K mg base Y g) (D2 : Fn P w K mg base (L2.CX P w) "need_entries" 4 (spNeedEntriesD Cl)) (Tm : ErrT P w K mg base "BadMeter" Cm ["part"]) : Fn P w K mg base (L2.CX P w) "need_log" 5 (spNeedLogD K Y Cm Cl) := by
  refine fn_raise F sc_need_log (fun _ _ _ _ _ _ us hl => match us, hl with | [_, _], _ => rfl) (by decide) (by tm_at "g_len") ?_
  intro X f cdv A outer s H E0 L vs Q E hX nd hr tk h
  subst hX
  obtain ⟨v1, v2, d2, rfl, a2, lim2, h⟩ := h
  show GSs _ (defBody s_need_log) (bodyD Q) [("meter", some v1), ("entries", some v2), ("wheel", none)] L
  refine gss_cons ?_
  tm_at "g"
  refine gv_def hC ?_
  tm_at "g"
  rcases h with ⟨nm, e⟩ | ⟨m, am, m8, h⟩
  · rcases nm with ⟨T, k, ek⟩ | ⟨x, C, dx, fs, rfl, mx, ot, kx⟩
    · refine gc_isKO k ek ?_
      tm_at "g"
      refine gs_raise tk (gmk_err Tm.ck hr ?_ (by decide))
      tm_at "g"
      exact ⟨rfl, fun d => ⟨_, Sub.refl, e d _ Sub.refl⟩⟩
    · refine gc_isI ot mx (.own Y.CM) kx ?_
      tm_at "g"
      refine gs_raise tk (gmk_err Tm.ck hr ?_ (by decide))
      tm_at "g"
      exact ⟨rfl, fun d => ⟨_, Sub.refl, e d _ Sub.refl⟩⟩
  obtain ⟨a, dx, wt, wz, rfl, ma, mw, rp⟩ := am
  have lw := rp.len
  refine gc_isI W.o ma (.own Y.CM) W.kk ?_
  tm_at "g"
  refine ge_callX D2 hr tk ?_
  tm_at "g"
  refine ge_lcP (by tm_at "g_put") (gi_own W.run hr W.fi W.fn ?_) (show blkC N_need_log (defScope s_need_log) _ [(_, List.idxOf _ N_need_log)] = true by decide +kernel)
  tm_at "g"
  refine ⟨a, wt, dx, _, wz, rfl, ma, mw, ⟨dx, m.2, ma, W.c⟩, ?_⟩
  refine pure_rowI (o := .tup wz) (pt := fun _ => true) (pg := fun i => .int ((perM m).getD i 0)) mw (by omega) (fun i v hv D acc s1 H1 C1 cl1 fp1 => ?_) fun D => ?_
  · obtain ⟨wd, hw, x, C, dw, rfl, mx, wk⟩ := rp.get hv
    obtain ⟨cc, n1, n2, n3⟩ := wk.c.a
    refine gts_nil ⟨rfl, Sub.refl, fun _ s2 H2 C2 cl2 fp2 => ?_⟩
    tm_at "g"
    have ep : (perM m).getD i 0 = ((wd.2.1 : Nat) : Int) := by
      unfold perM
      rw [List.getD_eq_getElem?_getD, List.getElem?_map, hw]
      rfl
    rw [ep]
    exact ⟨rfl, Sub.refl⟩
  have lp : (perM m).length = wz.length := by unfold perM; rw [List.length_map, lw]
  rw [show ((List.range wz.length).filter fun _ => true).map (fun i => V.int ((perM m).getD i 0)) = (perM m).map V.int by
    rw [List.filter_eq_self.mpr fun _ _ => rfl]
    refine List.ext_getElem (by simp only [List.length_map, List.length_range]; omega) fun i h1 h2 => ?_
    rw [List.length_map] at h2
    rw [List.getElem_map, List.getElem_map, List.getElem_range, List.getD_eq_getElem?_getD, List.getElem?_eq_getElem h2]
    rfl]
  tm_at "g"
  refine ⟨v2, d2, D, _, perM m, rfl, dvMono (fun e h => memS h) a2, .inl rfl, mem0, by omega, lim2, fun ef d' M sb => ?_, fun t ds ed ef => ?_⟩
  · rcases h with (⟨_, e⟩ | ⟨_, _, _, z, _⟩) | ⟨_, _, _, z, _⟩
    · exact ⟨_, Sub.refl, e d' M ((Sub.cons Sub.drop).trans sb)⟩
    · exact absurd (z.symm.trans ef) (by decide)
    · exact absurd (z.symm.trans ef) (by decide)
  · subst ed
    rcases h with (⟨z, _⟩ | ⟨_, _, ed, _, k, y, hk, hb, bef, e⟩) | ⟨_, _, ed, _, al, q⟩
    · exact absurd (z.symm.trans ef) (by decide)
    · cases ed
      refine ⟨fun i x hi hx bef2 d' M sb => ?_, fun z => absurd (z y (List.mem_of_getElem? hk)) (by rw [hb]; decide)⟩
      have : k = i := by
        rcases Nat.lt_trichotomy k i with h1 | h1 | h1
        · exact absurd ((bef2 k y h1 hk).symm.trans hb) (by decide)
        · exact h1
        · exact absurd ((bef i x h1 hi).symm.trans hx) (by decide)
      subst this
      exact ⟨_, Sub.refl, e d' M ((Sub.cons Sub.drop).trans sb)⟩
    · cases ed
      refine ⟨fun i x hi hx _ => absurd ((al x (List.mem_of_getElem? hi)).symm.trans hx) (by decide), fun _ M sM => ?_⟩
      tm_at "g"
      exact ⟨_, Sub.refl, q M (Sub.drop.trans sM)⟩
end
def mkO : Option Int → V
  | none => .non
  | some i => .int i
abbrev Ent := Int × List (Option Int)
def EntAt (L : Lg) (v : V) (e : Ent) : Prop := ∃ t m o, v = .ref t ∧ (t, HO.tup [.int e.1, .ref m]) ∈ L ∧ RowO o (e.2.map mkO) ∧ (m, o) ∈ L
theorem entMono : RepMono EntAt := fun _ _ _ _ s ⟨t, m, o, e, h1, h2, h3⟩ => ⟨t, m, o, e, s _ h1, h2, s _ h3⟩
def MksOk (ms : List (Option Int)) (ps : List Int) : Prop := ms.length = ps.length ∧ ∀ (i : Nat) (x p : Int), ms[i]? = some (some x) → ps[i]? = some p → 0 ≤ x ∧ x < p
def EntOk (ps : List Int) (e : Ent) : Prop := -1000000000000000000000000000000 < e.1 ∧ e.1 < 1000000000000000000000000000000 ∧ MksOk e.2 ps
def mkAt (es : List Ent) (j i : Nat) : Option Int := (es.getD i (0, [])).2.getD j none
def vlAt (es : List Ent) (i : Nat) : Int := (es.getD i (0, [])).1
def heardL (es : List Ent) (j : Nat) : List Nat := (List.range es.length).filter fun i => (mkAt es j i).isSome
def offA (es : List Ent) (j : Nat) (p : Int) (i : Nat) : Int := ((mkAt es j i).getD 0 - vlAt es i) % p
def offL (es : List Ent) (j : Nat) (p : Int) : List (Int × Int) := (heardL es j).map fun i : Nat => ((i : Int), offA es j p i)
theorem gi_row {X : Cx} {L : Lg} {Q : QV} {p : Addr} {o : HO} {xs : List V} {i : Int} {v : V} (ro : RowO o xs) (m : (p, o) ∈ L) (e : atI xs i = some v) (h : Q v L) : GIx X (.ref p) (.int i) L Q := by
  rcases ro with rfl | rfl
  · exact gi_lst m e h
  · exact gi_tup m e h
def spOffsetsAt : SpL := fun vs L Q _ => ∃ (q : Addr) (oq : HO) (xs : List V) (es : List Ent) (j : Nat) (p : Int), vs = [.ref q, .int (j : Int), .int p] ∧ RowO oq xs ∧ (q, oq) ∈ L ∧ Reps (EntAt L) xs es ∧ (∀ e ∈ es, j < e.2.length) ∧ es.length ≤ 60 ∧ 1 ≤ p ∧
  ∀ (D : Addr) (ps : List Pr2), ps.map (·.2) = offL es j p → Q (.ref D) ((D, .lst (ps.map fun e : Pr2 => V.ref e.1)) :: (ps.map (fun e => (e.1, HO.tup [.int e.2.1, .int e.2.2])) ++ L))
theorem at_mk {ms : List (Option Int)} {j : Nat} (h : j < ms.length) : atI (ms.map mkO) (j : Int) = some (mkO (ms.getD j none)) := atI_nat (by rw [List.getElem?_map, List.getD_eq_getElem?_getD, List.getElem?_eq_getElem h]; rfl)
section
variable {P : Program} {w : World} {K : PySem.W.Frag} {mg : Str → Option Value} {base : Heap} {C D : Addr}
theorem fn_offsets_at (B : Bi mg) (F : Df K mg "offsets_at" s_offsets_at) : Fn P w K mg base CX0 "offsets_at" 1 spOffsetsAt := by
  refine fn_plain F sc_offsets_at (fun _ _ _ _ _ _ us hl => match us, hl with | [_, _, _], _ => rfl) (by decide) (by tm_at "g_len") ?_
  intro X f cdv A outer s H E0 L vs Q E hX nd hr h
  subst hX
  obtain ⟨q, oq, xs, es, j, p, rfl, ro, mq, rp, hj, hl, p1, qq⟩ := h
  show GSs _ (defBody s_offsets_at) (bodyD Q) [("entries", some (.ref q)), ("place", some (.int (j : Int))), ("period", some (.int p)), ("marks", none), ("at", none), ("entry", none), ("value", none), ("mark", none)] L
  refine gss_cons ?_
  refine gs_lcF2 (by tm_at "g_put") (by tm_at "g_put") (fun _ => by tm_at "g_put") (gi_enumO ro ?_ B.enumerate) (by decide) (show blkC N_offsets_at (defScope s_offsets_at) _ [(_, List.idxOf _ N_offsets_at), (_, List.idxOf _ N_offsets_at)] = true by decide +kernel)
  tm_at "g"
  refine ⟨mq, ?_⟩
  refine fresh_enum (p := fun _ => true) (pl := fun i => .tup [.int (i : Int), .int (vlAt es i), mkO (mkAt es j i)]) mq (by rw [rp.len]; omega) (fun i v R hv hR s1 H1 C1 cl1 fp1 => ?_) fun D es1 e1 => ?_
  · obtain ⟨e, he, t', m', o', rfl, g1, g2, g3⟩ := rp.get hv
    have h1 := hR _ g1
    have h3 := hR _ g3
    have eg : es.getD i (0, []) = e := by rw [List.getD_eq_getElem?_getD, he]; rfl
    have hjl := hj e (List.mem_of_getElem? he)
    refine gts_nil ⟨rfl, Sub.refl, fun _ s2 H2 C2 cl2 fp2 => ?_⟩
    unfold vlAt mkAt
    rw [eg]
    tm_at "g"
    refine gi_row g2 h3 (at_mk hjl) ?_
    tm_at "g"
    exact Sub.refl
  rw [List.filter_eq_self.mpr fun _ _ => rfl, rp.len] at e1
  tm_at "g"
  refine ge_lcF3 (by tm_at "g_put") (fun _ => by tm_at "g_put") (fun _ _ => by tm_at "g_put") (gi_list ?_) (show blkC N_offsets_at (defScope s_offsets_at) _ [(_, List.idxOf _ N_offsets_at), (_, List.idxOf _ N_offsets_at), (_, List.idxOf _ N_offsets_at)] = true by decide +kernel) (by rfl)
  tm_at "g"
  have l1 : es1.length = es.length := by
    have z := congrArg List.length e1
    rw [List.length_map, List.length_map, List.length_range] at z
    exact z
  refine fresh_row3 (p := fun i => (mkAt es j i).isSome) (pl := fun i => .tup [.int (i : Int), .int (offA es j p i)]) mem0 (by rw [refs, List.length_map]; omega) (fun i v hv => ?_) fun D2 es2 e2 => ?_
  · unfold refs at hv
    rw [List.getElem?_map] at hv
    obtain ⟨e, hi, rfl⟩ := Option.map_eq_some_iff.mp hv
    have z : (es1.map (·.2))[i]? = some e.2 := by rw [List.getElem?_map, hi]; rfl
    rw [e1, List.getElem?_map] at z
    obtain ⟨i', hi', ed⟩ := Option.map_eq_some_iff.mp z
    obtain ⟨hlt, ei⟩ := List.getElem?_eq_some_iff.mp hi'
    rw [List.getElem_range] at ei
    subst ei
    refine ⟨e.1, .int (i : Int), .int (vlAt es i), mkO (mkAt es j i), rfl, memS (memL (by rw [ed]; exact List.mem_of_getElem? hi)), fun R hR s1 H1 C1 cl1 fp1 => ?_⟩
    unfold offA
    cases hm : mkAt es j i with
    | none =>
      rw [show mkO none = V.non from rfl]
      show GT _ _ _ _ _
      tm_at "g"
      exact ⟨rfl, Sub.refl, fun z => nomatch z⟩
    | some x =>
      rw [show mkO (some x) = V.int x from rfl]
      show GT _ _ _ _ _
      tm_at "g"
      refine ⟨rfl, Sub.refl, fun _ s2 H2 C2 cl2 fp2 => ?_⟩
      tm_at "g"
      refine go_mod (by omega) ?_
      tm_at "g"
      exact Sub.refl
  rw [refs, List.length_map, l1] at e2
  obtain ⟨ps, e3, e4⟩ := es_pairs (ds := offL es j p) (by
    rw [e2]
    unfold offL heardL
    rw [List.map_map]
    rfl)
  subst e3
  refine ⟨_, ?_, qq D2 ps e4⟩
  rw [refs_map]
  exact Sub.cons (Sub.append (by tm_at "g_end"))
end
def offO (es : List Ent) (j : Nat) (p : Int) : List Int := (offL es j p).map (·.2)
theorem off_rng {es : List Ent} {j : Nat} {p : Int} (p1 : 1 ≤ p) : ∀ o ∈ offO es j p, 0 ≤ o ∧ o < p := fun o h => by
  unfold offO offL at h
  rw [List.map_map] at h
  obtain ⟨i, _, rfl⟩ := List.mem_map.mp h
  exact ⟨Int.emod_nonneg _ (by omega), Int.emod_lt_of_pos _ (by omega)⟩
theorem off_len {es : List Ent} {j : Nat} {p : Int} : (offO es j p).length ≤ es.length := by
  unfold offO offL heardL
  rw [List.length_map, List.length_map]
  exact Nat.le_trans (List.length_filter_le _ _) (by rw [List.length_range]; exact Nat.le_refl _)
section
variable {P : Program} {w : World} {K : PySem.W.Frag} {mg : Str → Option Value} {base : Heap} {Cm Cl gP gL : Addr} {Y : WPar}
def spNeedValI : SpL := fun vs L Q _ => ∃ i : Int, vs = [.int i] ∧ Q .non L
theorem fn_need_valueI (F : Df K mg "need_value" s_need_value) (D1 : Fn P w K mg base CX0 "is_whole" 1 spIsWhole) : Fn P w K mg base CX0 "need_value" 2 spNeedValI := by
  refine fn_plain F sc_need_value (fun _ _ _ _ _ _ us hl => match us, hl with | [_], _ => rfl) (by decide) (by tm_at "g_len") ?_
  intro X f cdv A outer s H E0 L vs Q E hX nd hr h
  subst hX
  obtain ⟨i, rfl, q⟩ := h
  show GSs _ (defBody s_need_value) (bodyD Q) [("value", some (.int i))] L
  refine gss_cons ?_
  tm_at "g"
  refine ge_call (El := NoX) D1 hr passA ?_
  tm_at "g"
  refine ⟨_, _, rfl, .int, ?_⟩
  rw [show whole (.int i) = true from rfl]
  tm_at "g"
  exact ⟨_, Sub.refl, q⟩
def spPlayW (K : PySem.W.Frag) : SpL := fun vs L Q _ => ∃ (a C dx : Addr) (p b h : Int), vs = [.ref a] ∧ (a, wO C dx (.int p) (.int b) (.int h)) ∈ L ∧ WhA K C ∧ Q (.int (b + h)) L
theorem run_Wheel_play {f : Addr} {fd : FuncData} (F : Fun K "play" "Wheel.play" s_Wheel_play f fd) : RunG P w K mg base CX0 1 f argsP (toSp (spPlayW K)) := by
  refine run_plain F sc_Wheel_play argsP id id (fun _ _ r => r) (fun _ _ _ _ _ _ us hl => match us, hl with | [_], _ => rfl) (by decide) (by tm_at "g_len") ?_
  intro X f cdv A outer s H E0 L vs Q E hX nd hr h
  subst hX
  obtain ⟨a, C, dx, p, b, h, rfl, ma, ⟨c, n1, n2, n3⟩, q⟩ := h
  show GSs _ (defBody s_Wheel_play) (bodyD Q) [("self", some (.ref a))] L
  refine gss_cons ?_
  tm_at "g"
  exact ⟨_, Sub.refl, q⟩
/-- what a wheel's class must have for lets -/
structure WhL (K : PySem.W.Frag) (Y : WPar) (gP gL C : Addr) (t : Bool) : Prop where
  k : WhK K Y C t
  pl : ∃ q, PropOf K C "play" q gP
  le : Meth K C "lets" gL
def letsB (p b h v x : Int) : Bool := decide (0 ≤ x) && decide (x < p) && decide ((x - v + b) % p ≤ b + h)
def spLets (K : PySem.W.Frag) (Y : WPar) (gP gL : Addr) : SpL := fun vs L Q _ => ∃ (a C dx : Addr) (p b h v x : Int) (t : Bool), vs = [.ref a, .int v, .int x] ∧ (a, wO C dx (.int p) (.int b) (.int h)) ∈ L ∧ WhL K Y gP gL C t ∧ 1 ≤ p ∧ Q (.bl (letsB p b h v x)) L
theorem run_Wheel_lets {f : Addr} {fd : FuncData} (F : Fun K "lets" "Wheel.lets" s_Wheel_lets f fd) (D1 : Fn P w K mg base CX0 "need_value" 2 spNeedValI) (RM : RunG P w K mg base CX0 2 Y.gM argsP (toSp (spIsMark K))) (RP : RunG P w K mg base CX0 1 gP argsP (toSp (spPlayW K))) : RunG P w K mg base CX0 4 f argsP (toSp (spLets K Y gP gL)) := by
  refine run_plain F sc_Wheel_lets argsP id id (fun _ _ r => r) (fun _ _ _ _ _ _ us hl => match us, hl with | [_, _, _], _ => rfl) (by decide) (by tm_at "g_len") ?_
  intro X f cdv A outer s H E0 L vs Q E hX nd hr h
  subst hX
  obtain ⟨a, C, dx, p, b, h, v, x, t, rfl, ma, wl, p1, q⟩ := h
  obtain ⟨c, n1, n2, n3⟩ := wl.k.c.a
  obtain ⟨gq, pq⟩ := wl.pl
  show GSs _ (defBody s_Wheel_lets) (bodyD Q) [("self", some (.ref a)), ("value", some (.int v)), ("mark", some (.int x))] L
  refine gss_cons ?_
  tm_at "g"
  refine ge_call (El := NoX) D1 hr passA ?_
  tm_at "g"
  refine ⟨v, rfl, ?_⟩
  tm_at "g"
  refine ge_meth (El := NoX) RM wl.k.im c hr passA ?_
  tm_at "g"
  refine ⟨a, dx, _, rfl, ma, rfl, ?_⟩
  tm_at "g"
  refine ⟨a, C, dx, p, b, h, .int x, _, rfl, ma, ⟨c, n1, n2, n3⟩, .int, ?_⟩
  rw [show okMark p (.int x) = (decide (0 ≤ x) && decide (x < p)) from rfl]
  have q : Q (.bl (decide (0 ≤ x) && decide (x < p) && decide ((x - v + b) % p ≤ b + h))) L := q
  tm_at "g"
  refine ite_b (fun z => ?_) (fun z => ?_)
  · rw [z, Bool.true_and] at q
    tm_at "g"
    refine go_mod (by omega) ?_
    tm_at "g"
    refine gat_prop (El := NoX) c pq RP hr passA ma ⟨a, C, dx, p, b, h, rfl, ma, ⟨c, n1, n2, n3⟩, ?_⟩
    tm_at "g"
    exact ⟨_, Sub.refl, q⟩
  · rw [z, Bool.false_and] at q
    tm_at "g"
    exact ⟨_, Sub.refl, q⟩
def WhAtL (K : PySem.W.Frag) (Y : WPar) (gP gL : Addr) (L : Lg) (v : V) (w : WhD) : Prop := ∃ x C dx, v = .ref x ∧ (x, wO C dx (.int (w.2.1 : Nat)) (.int (w.2.2.1 : Nat)) (.int (w.2.2.2 : Nat))) ∈ L ∧ WhL K Y gP gL C w.1
theorem whlMono : RepMono (WhAtL K Y gP gL) := fun _ _ _ _ s ⟨x, C, dx, e, m, k⟩ => ⟨x, C, dx, e, s _ m, k⟩
theorem WhAtL.at_ {L : Lg} {v : V} {d : WhD} (h : WhAtL K Y gP gL L v d) : WhAt K Y L v d := let ⟨x, C, dx, e, m, k⟩ := h; ⟨x, C, dx, e, m, k.k⟩
/-- the wheels that do not let a mark -/
def offPl (ws : List WhD) (e : Ent) : List Int := ((List.range (min ws.length e.2.length)).filter fun i => ((e.2.getD i none).isSome && !(letsB (((ws.getD i (false, 1, 0, 0)).2.1 : Nat)) (((ws.getD i (false, 1, 0, 0)).2.2.1 : Nat)) (((ws.getD i (false, 1, 0, 0)).2.2.2 : Nat)) e.1 ((e.2.getD i none).getD 0)))).map fun i : Nat => (i : Int)
/-- off_in -/
def spOffIn (K : PySem.W.Frag) (Y : WPar) (gP gL : Addr) : SpL := fun vs L Q _ => ∃ (a dx wt : Addr) (n : Nat × Nat × Nat) (wz : List V) (ws : List WhD) (v2 : V) (e : Ent), vs = [.ref a, v2] ∧ (a, mtO Y.CM dx wt n) ∈ L ∧ (wt, HO.tup wz) ∈ L ∧ Reps (WhAtL K Y gP gL L) wz ws ∧ wz.length ≤ 8 ∧ (∀ d ∈ ws, 1 ≤ d.2.1) ∧ EntAt L v2 e ∧ ∀ t M, Sub L M → Q (.ref t) ((t, .tup ((offPl ws e).map V.int)) :: M)
theorem fn_off_in (B : Bi mg) (F : Df K mg "off_in" s_off_in) {g : Addr} (W : MtW P w K mg base Y g) (RL : RunG P w K mg base CX0 4 gL argsP (toSp (spLets K Y gP gL))) : Fn P w K mg base CX0 "off_in" 6 (spOffIn K Y gP gL) := by
  refine fn_plain F sc_off_in (fun _ _ _ _ _ _ us hl => match us, hl with | [_, _], _ => rfl) (by decide) (by tm_at "g_len") ?_
  intro X f cdv A outer s H E0 L vs Q E hX nd hr h
  subst hX
  obtain ⟨a, dx, wt, n, wz, ws, v2, e, rfl, ma, mw, rp, l8, p1, ⟨t2, m2, o2, rfl, g1, g2, g3⟩, q⟩ := h
  show GSs _ (defBody s_off_in) (bodyD Q) [("meter", some (.ref a)), ("entry", some (.ref t2)), ("pairs", none), ("at", none), ("wheel", none), ("mark", none)] L
  refine gss_cons ?_
  refine gs_set (by tm_at "g_put") ?_
  refine ge_listEnumZip W.run hr W.fi W.fn ?_ B.list B.enumerate B.zip
  tm_at "g"
  refine ⟨a, wt, dx, m2, _, wz, _, o2, rfl, ma, mw, ⟨dx, n, ma, W.c⟩, g2, g3, by omega, fun D T U => ?_⟩
  tm_at "g"
  refine ge_lcPN (by tm_at "g_put") (fun _ => by tm_at "g_put") (fun _ _ => by tm_at "g_put") (gi_list ?_) (show blkC N_off_in (defScope s_off_in) _ [(_, List.idxOf _ N_off_in), (_, List.idxOf _ N_off_in), (_, List.idxOf _ N_off_in)] = true by decide +kernel) (by rfl)
  tm_at "g"
  generalize hn : min wz.length (e.2.map mkO).length = m
  have hm : m ≤ 8 := by omega
  have lw := rp.len
  refine pure_listN (pt := fun i => ((e.2.getD i none).isSome && !(letsB (((ws.getD i (false, 1, 0, 0)).2.1 : Nat)) (((ws.getD i (false, 1, 0, 0)).2.2.1 : Nat)) (((ws.getD i (false, 1, 0, 0)).2.2.2 : Nat)) e.1 ((e.2.getD i none).getD 0)))) (pg := fun i => .int (i : Nat)) mem0 (by rw [List.length_map, List.length_range]; omega) (fun i v hv => ?_) fun D2 => ?_
  · rw [List.getElem?_map] at hv
    obtain ⟨i', hi, rfl⟩ := Option.map_eq_some_iff.mp hv
    obtain ⟨hlt, ei⟩ := List.getElem?_eq_some_iff.mp hi
    rw [List.getElem_range] at ei
    subst ei
    rw [List.length_range] at hlt
    have hi1 : i < wz.length := by omega
    have hi2 : i < e.2.length := by rw [List.length_map] at hn; omega
    obtain ⟨wd, hw, x, C, dw, ex, mx, wl⟩ := rp.get (List.getElem?_eq_getElem hi1)
    have ew : wz.getD i .non = .ref x := by rw [List.getD_eq_getElem?_getD, List.getElem?_eq_getElem hi1]; exact ex
    have ed : ws.getD i (false, 1, 0, 0) = wd := by rw [List.getD_eq_getElem?_getD, hw]; rfl
    have ek : (e.2.map mkO).getD i .non = mkO (e.2.getD i none) := by
      rw [List.getD_eq_getElem?_getD, List.getElem?_map, List.getD_eq_getElem?_getD, List.getElem?_eq_getElem hi2]
      rfl
    have pw := p1 wd (List.mem_of_getElem? hw)
    have mT : (T i, HO.tup [V.int (i : Nat), V.ref (U i)]) ∈ (D, HO.lst ((List.range m).map fun i => V.ref (T i))) :: (((List.range m).map fun i => (T i, HO.tup [V.int (i : Nat), V.ref (U i)])) ++ (((List.range m).map fun i => (U i, HO.tup [wz.getD i .non, (e.2.map mkO).getD i .non])) ++ L)) := memS (memL (List.mem_map.mpr ⟨i, List.mem_range.mpr hlt, rfl⟩))
    have mU : (U i, HO.tup [wz.getD i .non, (e.2.map mkO).getD i .non]) ∈ (D, HO.lst ((List.range m).map fun i => V.ref (T i))) :: (((List.range m).map fun i => (T i, HO.tup [V.int (i : Nat), V.ref (U i)])) ++ (((List.range m).map fun i => (U i, HO.tup [wz.getD i .non, (e.2.map mkO).getD i .non])) ++ L)) := memS (List.mem_append_right _ (memL (List.mem_map.mpr ⟨i, List.mem_range.mpr hlt, rfl⟩)))
    refine ⟨T i, .int (i : Nat), U i, wz.getD i .non, (e.2.map mkO).getD i .non, rfl, mT, mU, fun D3 acc s1 H1 C1 cl1 fp1 => ?_⟩
    have up : ∀ z ∈ L, z ∈ (D3, HO.lst acc) :: (D, HO.lst ((List.range m).map fun i => V.ref (T i))) :: (((List.range m).map fun i => (T i, HO.tup [V.int (i : Nat), V.ref (U i)])) ++ (((List.range m).map fun i => (U i, HO.tup [wz.getD i .non, (e.2.map mkO).getD i .non])) ++ L)) := fun z hz => memS (memS (List.mem_append_right _ (List.mem_append_right _ hz)))
    rw [ew, ek]
    rw [ed]
    have mx' := up _ mx
    have g1' := up _ g1
    generalize (D3, HO.lst acc) :: (D, HO.lst ((List.range m).map fun i => V.ref (T i))) :: (((List.range m).map fun i => (T i, HO.tup [V.int (i : Nat), V.ref (U i)])) ++ (((List.range m).map fun i => (U i, HO.tup [wz.getD i .non, (e.2.map mkO).getD i .non])) ++ L)) = Z at mx' g1' ⊢
    obtain ⟨c, n1, n2, n3⟩ := wl.k.c.a
    cases hm : e.2.getD i none with
    | none =>
      rw [show mkO none = V.non from rfl]
      show GT _ _ _ _ _
      tm_at "g"
      exact ⟨rfl, Sub.refl, fun z => nomatch z⟩
    | some y =>
      rw [show mkO (some y) = V.int y from rfl]
      show GT _ _ _ _ _
      tm_at "g"
      refine ge_meth (El := NoX) RL wl.le c hr passA ?_
      tm_at "g"
      refine ⟨x, dw, _, rfl, mx', rfl, ?_⟩
      tm_at "g"
      refine ⟨x, C, dw, _, _, _, e.1, y, wd.1, rfl, mx', wl, by omega, ?_⟩
      tm_at "g"
      refine ⟨rfl, Sub.refl, fun _ s2 H2 C2 cl2 fp2 => ?_⟩
      tm_at "g"
      exact ⟨rfl, Sub.refl⟩
  tm_at "g"
  refine gc_tupL mem0 fun t => ?_
  have ez : ((List.range ((List.range m).map fun i => V.ref (T i)).length).filter fun i => ((e.2.getD i none).isSome && !(letsB (((ws.getD i (false, 1, 0, 0)).2.1 : Nat)) (((ws.getD i (false, 1, 0, 0)).2.2.1 : Nat)) (((ws.getD i (false, 1, 0, 0)).2.2.2 : Nat)) e.1 ((e.2.getD i none).getD 0)))).map (fun i : Nat => V.int (i : Nat)) = (offPl ws e).map V.int := by
    unfold offPl
    rw [List.map_map, List.length_map, List.length_range, show min ws.length e.2.length = m by rw [← hn, lw, List.length_map]]
    rfl
  rw [ez]
  refine ⟨_, Sub.refl, q t _ ?_⟩
  exact Sub.dropE.trans (Sub.dropE.trans (Sub.drop.trans Sub.drop))
end
def posD : Dv → Bool
  | .non => true
  | .int i => decide (0 ≤ i)
  | _ => false
def longD (j : Nat) : Dv → Bool
  | .row true [d, .row _ ms] => big30 (wholeD d) && (decide (j < ms.length) && ms.all posD)
  | _ => false
theorem long_no {j : Nat} {d : Dv} (h : entD d = false) : longD j d = false := by
  unfold longD
  split
  · rename_i d' _ ms
    have h : big30 (wholeD d') = false := h
    rw [h]
    rfl
  · rfl
theorem long_row {j : Nat} {x m : Dv} (h : rowB m = false) : longD j (.row true [x, m]) = false := by
  cases m with
  | row t ms => cases h
  | _ => rfl
def Lim3 (d : Dv) : Prop := ∀ ys, d = .row true ys → ys.length ≤ 1000 ∧ ∀ x ∈ ys, ∀ t zs, x = .row t zs → zs.length ≤ 1000
def spIsLongerD : SpL := fun vs L Q _ => ∃ (v : V) (d : Dv) (j : Nat), vs = [v, .int (j : Int)] ∧ DvAt L v d ∧ Lim3 d ∧ Q (.bl (longD j d)) L
section
variable {P : Program} {w : World} {K : PySem.W.Frag} {mg : Str → Option Value} {base : Heap} {Cn Cl C : Addr}
theorem fn_is_longerD (B : Bi mg) (F : Df K mg "is_longer" s_is_longer) (D0 : Fn P w K mg base CX0 "is_whole" 1 spIsWhole) (D1 : Fn P w K mg base CX0 "is_entry" 2 spIsEntryD) : Fn P w K mg base CX0 "is_longer" 3 spIsLongerD := by
  refine fn_plain F sc_is_longer (fun _ _ _ _ _ _ us hl => match us, hl with | [_, _], _ => rfl) (by decide) (by tm_at "g_len") ?_
  intro X f cdv A outer s H E0 L vs Q E hX nd hr h
  subst hX
  obtain ⟨v, d, j, rfl, dv, lim, q⟩ := h
  show GSs _ (defBody s_is_longer) (bodyD Q) [("entry", some v), ("place", some (.int (j : Int))), ("mark", none)] L
  refine gss_cons ?_
  tm_at "g"
  refine ge_call (El := NoX) D1 hr passA ?_
  tm_at "g"
  refine ⟨v, d, rfl, dv, fun ys z => (lim ys z).1, ?_⟩
  cases ee : entD d with
  | false =>
    rw [long_no ee] at q
    tm_at "g"
    exact ⟨_, Sub.refl, q⟩
  | true =>
    obtain ⟨x, m, rfl, ex⟩ := ent_row ee
    cases dv with
    | tup mt rt =>
      cases rt with
      | cons hx rt =>
      cases rt with
      | cons hm rt =>
      cases rt
      tm_at "g"
      rename_i tt
      refine gc_isT (b := rowB m) ["list", "tuple"] (dvMono (fun _ h => memS h) hm).knd mem0 (row_any hm) ?_
      cases hrow : rowB m with
      | false =>
        rw [long_row hrow] at q
        tm_at "g"
        exact ⟨_, Sub.drop, q⟩
      | true =>
        obtain ⟨t, ms, rfl⟩ : ∃ t ms, m = .row t ms := by
          cases m with
          | row t ms => exact ⟨t, ms, rfl⟩
          | _ => cases hrow
        obtain ⟨a, om, vs, rfl, ro, m1, rp⟩ := row_at hm
        have lm := (lim _ rfl).2 _ (by simp) t ms rfl
        have le := rp.len
        have q : Q (.bl (big30 (wholeD x) && (decide (j < ms.length) && ms.all posD))) L := q
        rw [ex, Bool.true_and] at q
        tm_at "g"
        refine gc_lenO ro (memS m1) ?_
        tm_at "g"
        refine ite_d (fun z => ?_) (fun z => ?_)
        · rw [decide_eq_false (show ¬ j < ms.length by omega), Bool.false_and] at q
          tm_at "g"
          exact ⟨_, Sub.drop, q⟩
        · rw [decide_eq_true (show j < ms.length by omega), Bool.true_and] at q
          tm_at "g"
          refine ge_lcP (by tm_at "g_put") (gi_rowO ro ?_) (show blkC N_is_longer (defScope s_is_longer) _ [(_, List.idxOf _ N_is_longer)] = true by decide +kernel)
          tm_at "g"
          refine ⟨memS m1, ?_⟩
          refine pure_rowI (pt := fun _ => true) (pg := fun i => .bl (posD (ms.getD i .non))) (memS m1) (by omega) (fun i v hv D acc s1 H1 C1 cl1 fp1 => ?_) fun D => ?_
          · obtain ⟨d, hd, ad⟩ := rp.get hv
            have eg : ms.getD i .non = d := by rw [List.getD_eq_getElem?_getD, hd]; rfl
            rw [eg]
            refine gts_nil ⟨rfl, Sub.refl, fun _ s2 H2 C2 cl2 fp2 => ?_⟩
            have am := dvMono (L' := (D, HO.lst acc) :: (tt, HO.tup [V.ty "list", V.ty "tuple"]) :: L) (fun e he => memS (memS he)) ad
            show GE _ _ _ _ _
            cases am with
            | non =>
              tm_at "g"
              exact ⟨rfl, Sub.refl⟩
            | int =>
              rename_i i2
              tm_at "g"
              refine ge_call (El := NoX) D0 hr passA ?_
              tm_at "g"
              refine ⟨_, _, rfl, .int, ?_⟩
              rw [show whole (V.int i2) = true from rfl]
              tm_at "g"
              exact ⟨rfl, Sub.refl⟩
            | bl =>
              tm_at "g"
              refine go_isN ?_
              rw [decide_eq_false (fun z => nomatch z)]
              tm_at "g"
              refine ge_call (El := NoX) D0 hr passA ?_
              tm_at "g"
              refine ⟨_, _, rfl, .bl, ?_⟩
              dsimp only [whole]
              tm_at "g"
              exact ⟨rfl, Sub.refl⟩
            | str =>
              tm_at "g"
              refine go_isN ?_
              rw [decide_eq_false (fun z => nomatch z)]
              tm_at "g"
              refine ge_call (El := NoX) D0 hr passA ?_
              tm_at "g"
              refine ⟨_, _, rfl, .str, ?_⟩
              dsimp only [whole]
              tm_at "g"
              exact ⟨rfl, Sub.refl⟩
            | lst m3 r3 =>
              tm_at "g"
              refine ge_call (El := NoX) D0 hr passA ?_
              tm_at "g"
              refine ⟨_, _, rfl, (.lst m3), ?_⟩
              dsimp only [whole]
              tm_at "g"
              exact ⟨rfl, Sub.refl⟩
            | tup m3 r3 =>
              tm_at "g"
              refine ge_call (El := NoX) D0 hr passA ?_
              tm_at "g"
              refine ⟨_, _, rfl, (.tup m3), ?_⟩
              dsimp only [whole]
              tm_at "g"
              exact ⟨rfl, Sub.refl⟩
            | dct m3 =>
              tm_at "g"
              refine ge_call (El := NoX) D0 hr passA ?_
              tm_at "g"
              refine ⟨_, _, rfl, (.dct m3), ?_⟩
              dsimp only [whole]
              tm_at "g"
              exact ⟨rfl, Sub.refl⟩
          rw [show ((List.range vs.length).filter fun _ => true).map (fun i => V.bl (posD (ms.getD i .non))) = (ms.map posD).map V.bl by
            rw [List.filter_eq_self.mpr fun _ _ => rfl]
            refine List.ext_getElem (by simp only [List.length_map, List.length_range]; omega) fun i h1 h2 => ?_
            rw [List.length_map, List.length_map] at h2
            rw [List.getElem_map, List.getElem_map, List.getElem_range, List.getD_eq_getElem?_getD, List.getElem?_eq_getElem h2, List.getElem_map]
            rfl]
          tm_at "g"
          refine gc_allB (by rfl) mem0 ?_
          rw [show (ms.map posD).all id = ms.all posD by rw [List.all_map]; rfl]
          exact ⟨_, Sub.drop.trans Sub.drop, q⟩
end
def dvM : Option Int → Dv
  | none => .non
  | some i => .int i
theorem mk_dv {L : Lg} : ∀ {o : Option Int}, DvAt L (mkO o) (dvM o)
  | none => .non
  | some _ => .int
theorem mks_dv {L : Lg} : ∀ {ms : List (Option Int)}, Reps (DvAt L) (ms.map mkO) (ms.map dvM)
  | [] => .nil
  | _ :: _ => .cons mk_dv mks_dv
def dvE (t : Bool) (e : Ent) : Dv := .row true [.int e.1, .row t (e.2.map dvM)]
theorem ent_dv {L : Lg} {v : V} {e : Ent} (h : EntAt L v e) : ∃ t, DvAt L v (dvE t e) := by
  obtain ⟨t, m, o, rfl, h1, ro, h2⟩ := h
  rcases ro with rfl | rfl
  · exact ⟨false, .tup h1 (.cons .int (.cons (.lst h2 mks_dv) .nil))⟩
  · exact ⟨true, .tup h1 (.cons .int (.cons (.tup h2 mks_dv) .nil))⟩
theorem ents_dv {L : Lg} : ∀ {xs : List V} {es : List Ent}, Reps (EntAt L) xs es → ∃ ds, Reps (DvAt L) xs ds ∧ ds.length = es.length ∧ ∀ d ∈ ds, ∃ e ∈ es, ∃ t, d = dvE t e
  | _, _, .nil => ⟨[], .nil, rfl, fun _ h => nomatch h⟩
  | _, _, .cons h r => by
    obtain ⟨t, a⟩ := ent_dv h
    obtain ⟨ds, b, l, c⟩ := ents_dv r
    refine ⟨_ :: ds, .cons a b, by rw [List.length_cons, List.length_cons, l], fun d hd => ?_⟩
    rcases List.mem_cons.mp hd with rfl | hd
    · exact ⟨_, List.mem_cons_self, t, rfl⟩
    · obtain ⟨e, he, t, z⟩ := c d hd
      exact ⟨e, List.mem_cons_of_mem _ he, t, z⟩
theorem zw_all {α β : Type} {f : α → β → Bool} : ∀ {xs : List α} {ys : List β}, (∀ (i : Nat) (x : α) (y : β), xs[i]? = some x → ys[i]? = some y → f x y = true) → (List.zipWith f xs ys).all id = true
  | [], [], _ => rfl
  | [], _ :: _, _ => rfl
  | _ :: _, [], _ => rfl
  | x :: xs, y :: ys, h => by
    rw [List.zipWith_cons_cons, List.all_cons, zw_all fun i a b ha hb => h (i + 1) a b ha hb, Bool.and_true]
    exact h 0 x y rfl rfl
theorem ok_dv {ps : List Int} {e : Ent} {t : Bool} (h : EntOk ps e) : okEnt ps (dvE t e) = true := by
  obtain ⟨h1, h2, h3, h4⟩ := h
  show ((decide (_ < e.1) && decide (e.1 < _)) && (decide ((e.2.map dvM).length = ps.length) && (List.zipWith markD (e.2.map dvM) ps).all id)) = true
  rw [decide_eq_true h1, decide_eq_true h2, List.length_map, decide_eq_true h3, zw_all]
  · rfl
  · intro i x y hx hy
    rw [List.getElem?_map] at hx
    obtain ⟨o, ho, rfl⟩ := Option.map_eq_some_iff.mp hx
    cases o with
    | none => rfl
    | some j =>
      obtain ⟨a, b⟩ := h4 i j y ho hy
      show (decide _ && decide _) = true
      rw [decide_eq_true a, decide_eq_true b]
      rfl
section
variable {P : Program} {w : World} {K : PySem.W.Frag} {mg : Str → Option Value} {base : Heap} {Y : WPar}
def spMtItem (K : PySem.W.Frag) (Y : WPar) : SpL := fun vs L Q _ => ∃ (a dx wt : Addr) (n : Nat × Nat × Nat) (wz : List V) (i : Nat) (v : V), vs = [.ref a, .int (i : Nat)] ∧ (a, mtO Y.CM dx wt n) ∈ L ∧ MtC K Y.CM ∧ (wt, HO.tup wz) ∈ L ∧ wz[i]? = some v ∧ Q v L
theorem run_Meter_getitem (B : Bi mg) {f : Addr} {fd : FuncData} (F : Fun K "__getitem__" "Meter.__getitem__" s_Meter_getitem f fd) (D1 : Fn P w K mg base CX0 "is_whole" 1 spIsWhole) : RunG P w K mg base CX0 2 f argsP (toSp (spMtItem K Y)) := by
  refine run_plain F sc_Meter_getitem argsP id id (fun _ _ r => r) (fun _ _ _ _ _ _ us hl => match us, hl with | [_, _], _ => rfl) (by decide) (by tm_at "g_len") ?_
  intro X f cdv A outer s H E0 L vs Q E hX nd hr h
  subst hX
  obtain ⟨a, dx, wt, n, wz, i, v, rfl, ma, ⟨c, n1, n2, n3, n4⟩, mp, hv, q⟩ := h
  have hi := (List.getElem?_eq_some_iff.mp hv).1
  show GSs _ (defBody s_Meter_getitem) (bodyD Q) [("self", some (.ref a)), ("i", some (.int (i : Nat)))] L
  refine gss_cons ?_
  tm_at "g"
  refine ge_call (El := NoX) D1 hr passA ?_
  tm_at "g"
  refine ⟨_, _, rfl, .int, ?_⟩
  rw [show whole (.int (i : Nat)) = true from rfl]
  tm_at "g"
  refine ite_d (fun _ => ?_) (fun z => absurd (by omega) z)
  tm_at "g"
  rw [decide_eq_true (show ((i : Nat) : Int) < (wz.length : Int) by omega)]
  tm_at "g"
  refine gi_tup mp (atI_nat hv) ?_
  exact ⟨_, Sub.refl, q⟩
end
theorem reps_of {α : Type} {R : V → α → Prop} : ∀ {vs : List V} {as : List α}, vs.length = as.length → (∀ (i : Nat) (v : V) (a : α), vs[i]? = some v → as[i]? = some a → R v a) → Reps R vs as
  | [], [], _, _ => .nil
  | [], _ :: _, h, _ => nomatch h
  | _ :: _, [], h, _ => nomatch h
  | v :: vs, a :: as, h, k => .cons (k 0 v a rfl rfl) (reps_of (Nat.succ.inj h) fun i v a => k (i + 1) v a)
/-- the wheels that are lost -/
def lostPl (e : Ent) : List Int := ((List.range e.2.length).filter fun i => (e.2.getD i none).isNone).map fun i : Nat => (i : Int)
def trAt (ws : List WhD) (i : Int) : Bool := (ws.getD i.toNat (false, 1, 0, 0)).1
def misB (ws : List WhD) (n : Nat × Nat × Nat) (e : Ent) : Bool := (lostPl e ++ offPl ws e).any (trAt ws) || (decide ((n.2.2 : Int) < ((lostPl e).length : Nat)) || decide (((n.1 : Int) + (n.2.1 : Int)) < ((offPl ws e).length : Nat)))
theorem lost_rng {e : Ent} : ∀ i ∈ lostPl e, ∃ k : Nat, i = k ∧ k < e.2.length := fun i h => by
  unfold lostPl at h
  obtain ⟨k, hk, rfl⟩ := List.mem_map.mp h
  exact ⟨k, rfl, List.mem_range.mp (List.mem_filter.mp hk).1⟩
theorem offp_rng {ws : List WhD} {e : Ent} : ∀ i ∈ offPl ws e, ∃ k : Nat, i = k ∧ k < min ws.length e.2.length := fun i h => by
  unfold offPl at h
  obtain ⟨k, hk, rfl⟩ := List.mem_map.mp h
  exact ⟨k, rfl, List.mem_range.mp (List.mem_filter.mp hk).1⟩
theorem lost_len {e : Ent} : (lostPl e).length ≤ e.2.length := by
  unfold lostPl
  rw [List.length_map]
  exact Nat.le_trans (List.length_filter_le _ _) (by rw [List.length_range]; exact Nat.le_refl _)
theorem offp_len {ws : List WhD} {e : Ent} : (offPl ws e).length ≤ ws.length := by
  unfold offPl
  rw [List.length_map]
  exact Nat.le_trans (List.length_filter_le _ _) (by rw [List.length_range]; exact Nat.min_le_left _ _)
section
variable {P : Program} {w : World} {K : PySem.W.Frag} {mg : Str → Option Value} {base : Heap} {Cm Cl gP gL gG : Addr} {Y : WPar}
def spIsMis (K : PySem.W.Frag) (Y : WPar) (gP gL : Addr) : SpL := fun vs L Q _ => ∃ (a dx wt : Addr) (n : Nat × Nat × Nat) (wz : List V) (ws : List WhD) (v2 : V) (e : Ent), vs = [.ref a, v2] ∧ (a, mtO Y.CM dx wt n) ∈ L ∧ (wt, HO.tup wz) ∈ L ∧ Reps (WhAtL K Y gP gL L) wz ws ∧ wz.length ≤ 8 ∧ (∀ d ∈ ws, 1 ≤ d.2.1) ∧ EntAt L v2 e ∧ e.2.length = ws.length ∧ ∀ M, Sub L M → Q (.bl (misB ws n e)) M
theorem fn_is_misread (B : Bi mg) (F : Df K mg "is_misread" s_is_misread) {g : Addr} (W : MtW P w K mg base Y g) (oi : OwnItem K Y.CM gG) (RG : RunG P w K mg base CX0 2 gG argsP (toSp (spMtItem K Y))) (RT : RunG P w K mg base CX0 1 Y.gT argsP (toSp (spTrusted K))) (D2 : Fn P w K mg base CX0 "off_in" 6 (spOffIn K Y gP gL)) : Fn P w K mg base CX0 "is_misread" 7 (spIsMis K Y gP gL) := by
  refine fn_plain F sc_is_misread (fun _ _ _ _ _ _ us hl => match us, hl with | [_, _], _ => rfl) (by decide) (by tm_at "g_len") ?_
  intro X f cdv A outer s H E0 L vs Q E hX nd hr h
  subst hX
  obtain ⟨a, dx, wt, n, wz, ws, v2, e, rfl, ma, mw, rp, l8, p1, ae, le, q⟩ := h
  obtain ⟨t2, m2, o2, rfl, g1, g2, g3⟩ := id ae
  have lw := rp.len
  obtain ⟨cM, na1, na2, na3, na4⟩ := id W.c
  show GSs _ (defBody s_is_misread) (bodyD Q) [("meter", some (.ref a)), ("entry", some (.ref t2)), ("lost", none), ("off", none), ("at", none), ("mark", none)] L
  refine gss_cons ?_
  refine gs_lcP2 (by tm_at "g_put") (by tm_at "g_put") (fun _ => by tm_at "g_put") (gi_enumO g2 ?_ B.enumerate) (by decide) (show blkC N_is_misread (defScope s_is_misread) _ [(_, List.idxOf _ N_is_misread), (_, List.idxOf _ N_is_misread)] = true by decide +kernel)
  tm_at "g"
  refine ⟨g3, ?_⟩
  refine pure_enumO (pt := fun i _ => (e.2.getD i none).isNone) (pg := fun i _ => .int (i : Nat)) g3 (by rw [List.length_map]; omega) (fun i v hv D acc s1 H1 C1 cl1 fp1 => ?_) fun D => ?_
  · rw [List.getElem?_map] at hv
    obtain ⟨y, hy, rfl⟩ := Option.map_eq_some_iff.mp hv
    have eg : e.2.getD i none = y := by rw [List.getD_eq_getElem?_getD, hy]; rfl
    rw [eg]
    show GT _ _ _ _ _
    cases y with
    | none =>
      rw [show mkO none = V.non from rfl]
      tm_at "g"
      refine ⟨rfl, Sub.refl, fun _ s2 H2 C2 cl2 fp2 => ?_⟩
      tm_at "g"
      exact ⟨rfl, Sub.refl⟩
    | some x =>
      rw [show mkO (some x) = V.int x from rfl]
      tm_at "g"
      exact ⟨rfl, Sub.refl, fun z => nomatch z⟩
  rw [show ((List.range (e.2.map mkO).length).filter fun i => (e.2.getD i none).isNone).map (fun i => V.int (i : Nat)) = (lostPl e).map V.int by
    unfold lostPl
    rw [List.map_map, List.length_map]
    rfl]
  tm_at "g"
  refine ge_call (El := NoX) D2 hr passA ?_
  tm_at "g"
  refine ⟨a, dx, wt, n, wz, ws, .ref t2, e, rfl, memS ma, memS mw, rp.imp fun v d z => whlMono _ _ _ _ (fun _ h => memS h) z, l8, p1, entMono _ _ _ _ (fun _ h => memS h) ae, fun t M sb => ?_⟩
  refine (fun h => GSs.sub (Sub.cons sb) h) ?_
  clear sb
  tm_at "g"
  have oe := offp_len (ws := ws) (e := e)
  have lo := lost_len (e := e)
  refine ge_lcP (by tm_at "g_put") (gi_list ?_) (show blkC N_is_misread (defScope s_is_misread) _ [(_, List.idxOf _ N_is_misread)] = true by decide +kernel)
  tm_at "g"
  refine ⟨D, _, rfl, .inr (memS mem0), ?_⟩
  tm_at "g"
  refine ⟨t, _, rfl, .inl mem0, ?_⟩
  tm_at "g"
  rw [List.append_nil, ← List.map_append]
  rename_i D3
  generalize hz : lostPl e ++ offPl ws e = zs
  have lz : zs.length ≤ 16 := by rw [← hz, List.length_append]; omega
  have rz : ∀ i ∈ zs, ∃ k : Nat, i = k ∧ k < ws.length := fun i hi => by
    rw [← hz] at hi
    rcases List.mem_append.mp hi with h | h
    · obtain ⟨k, e1, e2⟩ := lost_rng i h
      exact ⟨k, e1, by omega⟩
    · obtain ⟨k, e1, e2⟩ := offp_rng i h
      exact ⟨k, e1, by omega⟩
  refine pure_rowO (t := fun _ => true) (g := fun v => match v with | .int i => .bl (trAt ws i) | _ => .non) mem0 (by rw [List.length_map]; omega) (fun v hv D4 acc s1 H1 C1 cl1 fp1 => ?_) fun D4 => ?_
  · obtain ⟨i, hi, rfl⟩ := List.mem_map.mp hv
    obtain ⟨k, rfl, hk⟩ := rz i hi
    obtain ⟨wd, hw, x, C, dw, ex, mx, wl⟩ := rp.get (List.getElem?_eq_getElem (show k < wz.length by omega))
    obtain ⟨_, ct⟩ := wl.k.c.ct
    obtain ⟨_, pt⟩ := wl.k.c.pt
    refine gts_nil ⟨rfl, Sub.refl, fun _ s2 H2 C2 cl2 fp2 => ?_⟩
    show GE _ _ _ _ _
    have up : ∀ z ∈ L, z ∈ (D4, HO.lst acc) :: (D3, HO.lst (zs.map V.int)) :: (t, HO.tup ((offPl ws e).map V.int)) :: (D, HO.lst ((lostPl e).map V.int)) :: L := fun z hz => memS (memS (memS (memS hz)))
    have mx' := up _ mx
    refine G.St.to ?_
    refine ge_ixM (El := NoX) oi RG hr passA ?_
    tm_at "g"
    refine ⟨a, dx, _, rfl, up _ ma, a, dx, wt, n, wz, k, .ref x, rfl, up _ ma, W.c, up _ mw, by rw [List.getElem?_eq_getElem (show k < wz.length by omega), ex], ?_⟩
    tm_at "g"
    refine gat_prop (El := NoX) wl.k.c.a.c pt RT hr passA mx' ⟨x, C, dw, _, _, wd.1, rfl, mx', wl.k.c.a.c, ct, rfl, ?_⟩
    have et : trAt ws (k : Int) = wd.1 := by
      unfold trAt
      rw [Int.toNat_natCast, List.getD_eq_getElem?_getD, hw]
      rfl
    rw [← et]
    exact ⟨rfl, Sub.refl⟩
  rw [List.filter_eq_self.mpr fun _ _ => rfl, List.map_map, show (zs.map ((fun v => match v with | .int i => V.bl (trAt ws i) | _ => .non) ∘ V.int)) = (zs.map (trAt ws)).map V.bl by rw [List.map_map]; rfl]
  tm_at "g"
  refine gc_anyB (by rfl) mem0 ?_
  rw [show (zs.map (trAt ws)).any id = zs.any (trAt ws) by rw [List.any_map]; rfl]
  have em : misB ws n e = (zs.any (trAt ws) || (decide ((n.2.2 : Int) < ((lostPl e).length : Nat)) || decide (((n.1 : Int) + (n.2.1 : Int)) < ((offPl ws e).length : Nat)))) := by rw [← hz]; rfl
  rw [em] at q
  tm_at "g"
  refine ite_b (fun z => ?_) (fun z => ?_)
  · rw [z, Bool.true_or] at q
    tm_at "g"
    exact ⟨_, Sub.refl, q _ (by tm_at "g_end")⟩
  rw [z, Bool.false_or] at q
  tm_at "g"
  rw [List.length_map]
  have up : ∀ z ∈ L, z ∈ (D4, HO.lst ((zs.map (trAt ws)).map V.bl)) :: (D3, HO.lst (zs.map V.int)) :: (t, HO.tup ((offPl ws e).map V.int)) :: (D, HO.lst ((lostPl e).map V.int)) :: L := fun z hz => memS (memS (memS (memS hz)))
  refine ite_b (fun z2 => ?_) (fun z2 => ?_)
  · rw [z2, Bool.true_or] at q
    exact ⟨_, Sub.refl, q _ (by tm_at "g_end")⟩
  rw [z2, Bool.false_or] at q
  tm_at "g"
  rw [List.length_map]
  exact ⟨_, Sub.refl, q _ (by tm_at "g_end")⟩
/-- the entries that are misread -/
def misPl (ws : List WhD) (n : Nat × Nat × Nat) (es : List Ent) : List Int := ((List.range es.length).filter fun i => misB ws n (es.getD i (0, []))).map fun i : Nat => (i : Int)
def OffAt (ws : List WhD) (L : Lg) (v : V) (e : Ent) : Prop := ∃ t, v = .ref t ∧ (t, HO.tup ((offPl ws e).map V.int)) ∈ L
theorem offAtMono {ws : List WhD} : RepMono (OffAt ws) := fun _ _ _ _ s ⟨t, e, m⟩ => ⟨t, e, s _ m⟩
/-- a meter and a log that are let -/
structure LogOk (K : PySem.W.Frag) (Y : WPar) (gP gL : Addr) (L : Lg) (a dx wt q : Addr) (n : Nat × Nat × Nat) (wz : List V) (ws : List WhD) (oq : HO) (xs : List V) (es : List Ent) : Prop where
  ma : (a, mtO Y.CM dx wt n) ∈ L
  mw : (wt, HO.tup wz) ∈ L
  rp : Reps (WhAtL K Y gP gL L) wz ws
  l8 : wz.length ≤ 8
  p1 : ∀ d ∈ ws, 1 ≤ d.2.1
  ro : RowO oq xs
  mq : (q, oq) ∈ L
  re : Reps (EntAt L) xs es
  ok : ∀ e ∈ es, EntOk (perM (ws, n)) e
  hl : es.length ≤ 60
theorem LogOk.mono {L M : Lg} {a dx wt q : Addr} {n : Nat × Nat × Nat} {wz : List V} {ws : List WhD} {oq : HO} {xs : List V} {es : List Ent} (h : LogOk K Y gP gL L a dx wt q n wz ws oq xs es) (s : ∀ e ∈ L, e ∈ M) : LogOk K Y gP gL M a dx wt q n wz ws oq xs es :=
  ⟨s _ h.ma, s _ h.mw, h.rp.imp fun v d z => whlMono _ _ _ _ s z, h.l8, h.p1, h.ro, s _ h.mq, h.re.imp fun v d z => entMono _ _ _ _ s z, h.ok, h.hl⟩
theorem LogOk.ref {L : Lg} {Q : QV} {E : XL} {a dx wt q : Addr} {n : Nat × Nat × Nat} {wz : List V} {ws : List WhD} {oq : HO} {xs : List V} {es : List Ent} (h : LogOk K Y gP gL L a dx wt q n wz ws oq xs es) (hq : ∀ M, Sub L M → Q .non M) : spNeedLogD K Y Cm Cl [.ref a, .ref q] L Q E := by
  obtain ⟨ma, mw, rp, l8, p1, ro, mq, re, ok, hl⟩ := h
  have le := re.len
  have lw := rp.len
  obtain ⟨ds, rd, ld, hd⟩ := ents_dv re
  have dv : ∃ t, DvAt L (.ref q) (.row t ds) := by
    rcases ro with rfl | rfl
    · exact ⟨false, .lst mq rd⟩
    · exact ⟨true, .tup mq rd⟩
  obtain ⟨t, dv⟩ := dv
  refine ⟨.ref a, .ref q, .row t ds, rfl, dv, ?_, .inr ⟨(ws, n), ⟨a, dx, wt, wz, rfl, ma, mw, rp.imp fun v d z => z.at_⟩, by show ws.length ≤ 8; omega, .inr ⟨t, ds, rfl, ?_, ?_, hq⟩⟩⟩
  · intro t' ds' e
    cases e
    refine ⟨by omega, fun x hx ys e => ?_⟩
    obtain ⟨e', _, t', rfl⟩ := hd x hx
    cases e
    show 2 ≤ 1000
    decide
  · show decide (ds.length ≤ 60) = true
    exact decide_eq_true (by omega)
  · intro x hx
    obtain ⟨e, he, t', rfl⟩ := hd x hx
    exact ok_dv (ok e he)
def spOffs (K : PySem.W.Frag) (Y : WPar) (gP gL : Addr) : SpL := fun vs L Q _ => ∃ (a dx wt q : Addr) (n : Nat × Nat × Nat) (wz : List V) (ws : List WhD) (oq : HO) (xs : List V) (es : List Ent), vs = [.ref a, .ref q] ∧ LogOk K Y gP gL L a dx wt q n wz ws oq xs es ∧ ∀ D zs M, (∀ e ∈ L, e ∈ M) → Reps (OffAt ws M) zs es → Q (.ref D) ((D, .lst zs) :: M)
theorem offs_len : ∀ vs L Q E, spOffs K Y gP gL vs L Q E → vs.length = ["meter", "entries"].length := by
  rintro vs L Q E ⟨a, dx, wt, q, n, wz, ws, oq, xs, es, rfl, -⟩
  rfl
theorem body_wheels_off (B : Bi mg) (D1 : Fn P w K mg base (L2.CX P w) "need_log" 5 (spNeedLogD K Y Cm Cl)) (D2 : Fn P w K mg base CX0 "off_in" 6 (spOffIn K Y gP gL)) : BodyOf P w K mg base N_wheels_off "wheels_off" s_wheels_off 7 (spOffs K Y gP gL) := by
  intro X f cdv A outer s H E0 L vs Q E hX nd hr h
  subst hX
  obtain ⟨a, dx, wt, q, n, wz, ws, oq, xs, es, rfl, lo, qq⟩ := h
  have le := lo.re.len
  show GSs _ (defBody s_wheels_off) (bodyD Q) [("meter", some (.ref a)), ("entries", some (.ref q)), ("entry", none)] L
  refine gss_cons ?_
  tm_at "g"
  refine ge_call (El := NoX) D1 hr passN ?_
  tm_at "g"
  refine lo.ref fun M sM => ?_
  refine (fun h => GSs.sub sM h) ?_
  tm_at "g"
  refine ge_lcR (by tm_at "g_put") (gi_rowO lo.ro ?_) (show blkC N_wheels_off (defScope s_wheels_off) _ [(_, List.idxOf _ N_wheels_off)] = true by decide +kernel)
  tm_at "g"
  refine ⟨lo.mq, Nat, fun L v i => OffAt ws L v (es.getD i (0, [])), id, fun _ _ _ _ s h => offAtMono _ _ _ _ s h, by show xs.length ≤ _; have := lo.hl; omega, fun M s => s _ lo.mq, ?_, ?_⟩
  · intro D i x E2 zs R hi it hR nd
    obtain ⟨hx, hE⟩ := it
    subst hE
    obtain ⟨e, he, ae⟩ := lo.re.get hx
    have eg : es.getD i (0, []) = e := by rw [List.getD_eq_getElem?_getD, he]; rfl
    intro s2 H2 C2 cl2 fp2
    tm_at "g"
    refine ge_call (El := NoX) D2 hr passA ?_
    tm_at "g"
    have up : ∀ e ∈ L, e ∈ (D, HO.lst zs) :: R := fun e he => memS (hR _ he)
    have lu := lo.mono up
    refine ⟨a, dx, wt, n, wz, ws, x, e, rfl, lu.ma, lu.mw, lu.rp, lu.l8, lu.p1, entMono _ _ _ _ up ae, fun t M sb => ?_⟩
    refine ⟨(t, .tup ((offPl ws e).map V.int)) :: R, (Sub.perm (List.Perm.swap _ _ _)).trans (Sub.cons sb), fun e he => memS he, ?_⟩
    show OffAt ws _ _ (es.getD (id i) (0, []))
    rw [id, eg]
    exact ⟨t, rfl, mem0⟩
  · intro D zs R hR rz
    refine ⟨_, Sub.refl, qq D zs R hR ?_⟩
    rw [List.map_id] at rz
    refine reps_of (by rw [rz.len, List.length_range, le]) fun i v e hv he => ?_
    obtain ⟨k, hk, ok⟩ := rz.get hv
    obtain ⟨hlt, ek⟩ := List.getElem?_eq_some_iff.mp hk
    rw [List.getElem_range] at ek
    subst ek
    rw [show es.getD i (0, []) = e by rw [List.getD_eq_getElem?_getD, he]; rfl] at ok
    exact ok
def spMis (K : PySem.W.Frag) (Y : WPar) (gP gL : Addr) : SpL := fun vs L Q _ => ∃ (a dx wt q : Addr) (n : Nat × Nat × Nat) (wz : List V) (ws : List WhD) (oq : HO) (xs : List V) (es : List Ent), vs = [.ref a, .ref q] ∧ LogOk K Y gP gL L a dx wt q n wz ws oq xs es ∧ ∀ t M, Sub L M → Q (.ref t) ((t, .tup ((misPl ws n es).map V.int)) :: M)
theorem mis_len : ∀ vs L Q E, spMis K Y gP gL vs L Q E → vs.length = ["meter", "entries"].length := by
  rintro vs L Q E ⟨a, dx, wt, q, n, wz, ws, oq, xs, es, rfl, -⟩
  rfl
theorem body_misread (B : Bi mg) (D1 : Fn P w K mg base (L2.CX P w) "need_log" 5 (spNeedLogD K Y Cm Cl)) (D2 : Fn P w K mg base CX0 "is_misread" 7 (spIsMis K Y gP gL)) : BodyOf P w K mg base N_misread "misread" s_misread 8 (spMis K Y gP gL) := by
  intro X f cdv A outer s H E0 L vs Q E hX nd hr h
  subst hX
  obtain ⟨a, dx, wt, q, n, wz, ws, oq, xs, es, rfl, lo, qq⟩ := h
  have le := lo.re.len
  have lw := lo.rp.len
  have hl := lo.hl
  show GSs _ (defBody s_misread) (bodyD Q) [("meter", some (.ref a)), ("entries", some (.ref q)), ("at", none), ("entry", none)] L
  refine gss_cons ?_
  tm_at "g"
  refine ge_call (El := NoX) D1 hr passN ?_
  tm_at "g"
  refine lo.ref fun M sM => ?_
  refine (fun h => GSs.sub sM h) ?_
  clear sM
  tm_at "g"
  refine ge_lcP2 (by tm_at "g_put") (fun _ => by tm_at "g_put") (gi_enumO lo.ro ?_ B.enumerate) (by decide) (show blkC N_misread (defScope s_misread) _ [(_, List.idxOf _ N_misread), (_, List.idxOf _ N_misread)] = true by decide +kernel)
  tm_at "g"
  refine ⟨lo.mq, ?_⟩
  refine pure_enumO (pt := fun i _ => misB ws n (es.getD i (0, []))) (pg := fun i _ => .int (i : Nat)) lo.mq (by omega) (fun i v hv D acc s1 H1 C1 cl1 fp1 => ?_) fun D => ?_
  · obtain ⟨e, he, ae⟩ := lo.re.get hv
    have eg : es.getD i (0, []) = e := by rw [List.getD_eq_getElem?_getD, he]; rfl
    rw [eg]
    show GT _ _ _ _ _
    tm_at "g"
    refine ge_call (El := NoX) D2 hr passA ?_
    tm_at "g"
    have lu := lo.mono (M := (D, HO.lst acc) :: L) (fun e he => memS he)
    have lp : (perM (ws, n)).length = ws.length := by unfold perM; rw [List.length_map]
    refine ⟨a, dx, wt, n, wz, ws, v, e, rfl, lu.ma, lu.mw, lu.rp, lu.l8, lu.p1, entMono _ _ _ _ (fun e he => memS he) ae, by rw [← lp]; exact (lo.ok e (List.mem_of_getElem? he)).2.2.1, fun M sM => ?_⟩
    tm_at "g"
    refine ⟨rfl, sM, fun _ s2 H2 C2 cl2 fp2 => ?_⟩
    tm_at "g"
    exact ⟨rfl, sM⟩
  rw [show ((List.range xs.length).filter fun i => misB ws n (es.getD i (0, []))).map (fun i => V.int (i : Nat)) = (misPl ws n es).map V.int by unfold misPl; rw [List.map_map, le]; rfl]
  tm_at "g"
  refine gc_tupL mem0 fun t => ?_
  exact ⟨_, Sub.refl, qq t _ Sub.drop⟩
end
theorem cnt_leO {os : List Int} {p w b : Int} : cnt os p w b ≤ os.length := List.countP_le_length
theorem cnt_allO {os : List Int} {p w b : Int} (h : os.length ≤ cnt os p w b) : ∀ o ∈ os, (o - b) % p ≤ w := fun o m => by
  have e : os.countP (fun o => decide ((o - b) % p ≤ w)) = os.length := Nat.le_antisymm cnt_leO h
  exact of_decide_eq_true (List.countP_eq_length.mp e o m)
/-- some stretch of a period holds all offsets -/
def heldB (os : List Int) (p k : Int) : Bool := (List.range p.toNat).any fun b => os.all fun o => decide ((o - (b : Nat)) % p ≤ k)
theorem widthK {os : List Int} {p w b k : Int} (p1 : 1 ≤ p) (k0 : 0 ≤ k) (h : Found os p 0 w b) : decide (w ≤ k) = heldB os p k := by
  have hz : (0 : Nat) < p.toNat := by omega
  match os, h with
  | [], h =>
    rw [(h.1 (by simp)).1, decide_eq_true k0, eq_comm]
    exact List.any_eq_true.mpr ⟨0, List.mem_range.mpr hz, rfl⟩
  | c :: os, h =>
    have hl := h.2 (by simp only [List.length_cons]; omega)
    have em : (((c :: os).length : Int) - 0 - 1).toNat + 1 = (c :: os).length := by simp only [List.length_cons]; omega
    obtain ⟨w0, w1, b0, b1, hh, least⟩ := hl
    rw [em] at hh
    by_cases z : w ≤ k
    · rw [decide_eq_true z, eq_comm]
      refine List.any_eq_true.mpr ⟨b.toNat, List.mem_range.mpr (by omega), List.all_eq_true.mpr fun o ho => decide_eq_true ?_⟩
      have h1 := cnt_allO hh o ho
      rw [show ((b.toNat : Nat) : Int) = b by omega]
      omega
    · rw [decide_eq_false z, eq_comm, ← Bool.not_eq_true]
      intro hall
      obtain ⟨n, hn, ha⟩ := List.any_eq_true.mp hall
      have hn := List.mem_range.mp hn
      have hc : cnt (c :: os) p k (n : Nat) = (c :: os).length := List.countP_eq_length.mpr fun o ho => List.all_eq_true.mp ha o ho
      have := least k (n : Nat) k0 (by omega) (by omega) (by omega) (by rw [em, hc]; exact Nat.le_refl _)
      unfold le2 at this
      dsimp only at this
      omega
def marksL (es : List Ent) (j : Nat) : List Int := (heardL es j).map fun i => (mkAt es j i).getD 0
def fitK (es : List Ent) (j : Nat) (p k : Int) : Bool := !((marksL es j).any fun m => decide (p ≤ m)) && heldB (offO es j p) p k
def spIsFit : SpL := fun vs L Q _ => ∃ (q : Addr) (oq : HO) (xs : List V) (es : List Ent) (j : Nat) (p k : Int), vs = [.ref q, .int (j : Int), .int p, .int k] ∧ RowO oq xs ∧ (q, oq) ∈ L ∧ Reps (EntAt L) xs es ∧ (∀ e ∈ es, j < e.2.length) ∧ es.length ≤ 60 ∧ 1 ≤ p ∧ p ≤ 1000 ∧ 0 ≤ k ∧ ∀ M, Sub L M → Q (.bl (fitK es j p k)) M
section
variable {P : Program} {w : World} {K : PySem.W.Frag} {mg : Str → Option Value} {base : Heap} {Cn Cl C : Addr}
theorem fn_is_fit (B : Bi mg) (F : Df K mg "is_fit" s_is_fit) (D1 : Fn P w K mg base CX0 "offsets_at" 1 spOffsetsAt) (D2 : Fn P w K mg base CX0 "stretch_of" 4 (spStretchOf K C)) (c : Cls K C) (n3 : NoAttr K C "width") : Fn P w K mg base CX0 "is_fit" 5 spIsFit := by
  refine fn_plain F sc_is_fit (fun _ _ _ _ _ _ us hl => match us, hl with | [_, _, _, _], _ => rfl) (by decide) (by tm_at "g_len") ?_
  intro X f cdv A outer s H E0 L vs Q E hX nd hr h
  subst hX
  obtain ⟨q, oq, xs, es, j, p, k, rfl, ro, mq, rp, hj, hl, p1, p2, k0, qq⟩ := h
  have lx := rp.len
  show GSs _ (defBody s_is_fit) (bodyD Q) [("entries", some (.ref q)), ("place", some (.int (j : Int))), ("period", some (.int p)), ("play", some (.int k)), ("marks", none), ("offsets", none), ("entry", none), ("mark", none), ("at", none), ("offset", none)] L
  refine gss_cons ?_
  refine gs_lcP (by tm_at "g_put") (by tm_at "g_put") (gi_rowO ro ?_) (show blkC N_is_fit (defScope s_is_fit) _ [(_, List.idxOf _ N_is_fit)] = true by decide +kernel)
  tm_at "g"
  refine ⟨mq, ?_⟩
  refine pure_rowI (pt := fun i => (mkAt es j i).isSome) (pg := fun i => .int ((mkAt es j i).getD 0)) mq (by omega) (fun i v hv D acc s1 H1 C1 cl1 fp1 => ?_) fun D => ?_
  · obtain ⟨e, he, t', m', o', rfl, g1, g2, g3⟩ := rp.get hv
    have eg : es.getD i (0, []) = e := by rw [List.getD_eq_getElem?_getD, he]; rfl
    have hjl := hj e (List.mem_of_getElem? he)
    unfold mkAt
    rw [eg]
    show GT _ _ _ _ _
    have am := at_mk hjl
    cases hm : e.2.getD j none with
    | none =>
      rw [hm, show mkO none = V.non from rfl] at am
      tm_at "g"
      refine gi_row g2 (memS g3) am ?_
      tm_at "g"
      exact ⟨rfl, Sub.refl, fun z => nomatch z⟩
    | some x =>
      rw [hm, show mkO (some x) = V.int x from rfl] at am
      tm_at "g"
      refine gi_row g2 (memS g3) am ?_
      tm_at "g"
      refine ⟨rfl, Sub.refl, fun _ s2 H2 C2 cl2 fp2 => ?_⟩
      tm_at "g"
      refine gi_row g2 (memS g3) am ?_
      exact ⟨rfl, Sub.refl⟩
  have em : ((List.range xs.length).filter fun i => (mkAt es j i).isSome).map (fun i => V.int ((mkAt es j i).getD 0)) = (marksL es j).map V.int := by
    unfold marksL heardL
    rw [List.map_map, lx]
    rfl
  rw [em]
  have lm : (marksL es j).length ≤ 60 := by
    unfold marksL heardL
    rw [List.length_map]
    exact Nat.le_trans (List.length_filter_le _ _) (by rw [List.length_range]; exact hl)
  tm_at "g"
  refine ge_lcP (by tm_at "g_put") (gi_list ?_) (show blkC N_is_fit (defScope s_is_fit) _ [(_, List.idxOf _ N_is_fit)] = true by decide +kernel)
  tm_at "g"
  refine pure_rowI (o := .lst ((marksL es j).map V.int)) (pt := fun _ => true) (pg := fun i => .bl (decide (p ≤ (marksL es j).getD i 0))) mem0 (by rw [List.length_map]; omega) (fun i v hv D acc s1 H1 C1 cl1 fp1 => ?_) fun D9 => ?_
  · rw [List.getElem?_map] at hv
    obtain ⟨y, hy, rfl⟩ := Option.map_eq_some_iff.mp hv
    have eg : (marksL es j).getD i 0 = y := by rw [List.getD_eq_getElem?_getD, hy]; rfl
    rw [eg]
    refine gts_nil ⟨rfl, Sub.refl, fun _ s2 H2 C2 cl2 fp2 => ?_⟩
    tm_at "g"
    exact ⟨rfl, Sub.refl⟩
  rw [show ((List.range ((marksL es j).map V.int).length).filter fun _ => true).map (fun i => V.bl (decide (p ≤ (marksL es j).getD i 0))) = ((marksL es j).map fun m => decide (p ≤ m)).map V.bl by
    rw [List.filter_eq_self.mpr fun _ _ => rfl]
    refine List.ext_getElem (by simp only [List.length_map, List.length_range]) fun i h1 h2 => ?_
    rw [List.length_map, List.length_map] at h2
    rw [List.getElem_map, List.getElem_map, List.getElem_range, List.getD_eq_getElem?_getD, List.getElem?_eq_getElem h2, List.getElem_map]
    rfl]
  tm_at "g"
  refine gc_anyB (by rfl) mem0 ?_
  rw [show ((marksL es j).map fun m => decide (p ≤ m)).any id = (marksL es j).any fun m => decide (p ≤ m) by rw [List.any_map]; rfl]
  tm_at "g"
  refine ite_b (fun z => ?_) (fun z => ?_)
  · tm_at "g"
    have ef : fitK es j p k = false := by unfold fitK; rw [z]; rfl
    exact ⟨_, Sub.refl, by rw [← ef]; exact qq _ (Sub.drop.trans Sub.drop)⟩
  have ef : fitK es j p k = heldB (offO es j p) p k := by unfold fitK; rw [z]; rfl
  tm_at "g"
  refine gs_lcP2 (by tm_at "g_put") (by tm_at "g_put") (fun _ => by tm_at "g_put") (gi_list ?_) (by decide) (show blkC N_is_fit (defScope s_is_fit) _ [(_, List.idxOf _ N_is_fit), (_, List.idxOf _ N_is_fit)] = true by decide +kernel)
  tm_at "g"
  refine ge_call (El := NoX) D1 hr passA ?_
  tm_at "g"
  refine ⟨q, oq, xs, es, j, p, rfl, ro, by tm_at "g_mem", rp.imp fun v a z => entMono _ _ _ _ (fun e h => memS (memS h)) z, hj, hl, p1, fun D3 ps e1 => ?_⟩
  tm_at "g"
  have lp : ps.length = (offO es j p).length := by
    unfold offO
    rw [List.length_map, ← e1, List.length_map]
  have lo := off_len (es := es) (j := j) (p := p)
  refine pure_rowP2 (ps := ps) (t := fun _ => true) (g := fun e => .int e.2.2) mem0 (fun e he => memS (memL (List.mem_map.mpr ⟨e, he, rfl⟩))) (by omega) (fun e he D acc s1 H1 C1 cl1 fp1 => ?_) fun D4 => ?_
  · refine gts_nil ⟨rfl, Sub.refl, fun _ s2 H2 C2 cl2 fp2 => ?_⟩
    tm_at "g"
    exact ⟨rfl, Sub.refl⟩
  rw [List.filter_eq_self.mpr fun _ _ => rfl, show ps.map (fun e : Pr2 => V.int e.2.2) = (offO es j p).map V.int by unfold offO; rw [← e1, List.map_map, List.map_map]; rfl]
  tm_at "g"
  refine ge_call (El := NoX) D2 hr passA ?_
  tm_at "g"
  refine ⟨p, 0, D4, offO es j p, .lst ((offO es j p).map V.int), rfl, .inl rfl, mem0, by omega, off_rng p1, p1, by omega, by omega, fun w b a dx t l fd => ?_⟩
  tm_at "g"
  have q2 := qq
  rw [ef, ← widthK p1 k0 fd] at q2
  refine ⟨_, Sub.refl, q2 _ ?_⟩
  tm_at "g_end"
def fitsL (es : List Ent) (j : Nat) (k m : Int) : List Int := ((List.range (m - 1).toNat).filter fun i => fitK es j (2 + (i : Nat)) k).map fun i : Nat => 2 + (i : Int)
def spFits : SpL := fun vs L Q _ => ∃ (q : Addr) (oq : HO) (xs : List V) (es : List Ent) (j : Nat) (k m : Int), vs = [.ref q, .int (j : Int), .int k, .int m] ∧ RowO oq xs ∧ (q, oq) ∈ L ∧ Reps (EntAt L) xs es ∧ (∀ e ∈ es, j < e.2.length) ∧ (∀ e ∈ es, -1000000000000000000000000000000 < e.1 ∧ e.1 < 1000000000000000000000000000000 ∧ e.2.length ≤ 1000 ∧ ∀ x ∈ e.2, ∀ y, x = some y → 0 ≤ y) ∧ es.length ≤ 60 ∧ 0 ≤ k ∧ 2 ≤ m ∧ m ≤ 1000 ∧
  ∀ t M, Sub L M → Q (.ref t) ((t, .tup ((fitsL es j k m).map V.int)) :: M)
theorem long_dv {j : Nat} {e : Ent} {t : Bool} (hj : j < e.2.length) (h : -1000000000000000000000000000000 < e.1 ∧ e.1 < 1000000000000000000000000000000 ∧ e.2.length ≤ 1000 ∧ ∀ x ∈ e.2, ∀ y, x = some y → 0 ≤ y) : longD j (dvE t e) = true := by
  obtain ⟨h1, h2, _, h4⟩ := h
  show ((decide (_ < e.1) && decide (e.1 < _)) && (decide (j < (e.2.map dvM).length) && (e.2.map dvM).all posD)) = true
  rw [decide_eq_true h1, decide_eq_true h2, List.length_map, decide_eq_true hj, List.all_map, Bool.true_and, Bool.true_and, Bool.true_and, List.all_eq_true]
  intro x hx
  cases x with
  | none => rfl
  | some y => exact decide_eq_true (h4 _ hx y rfl)
theorem fits_len : ∀ vs L Q E, spFits vs L Q E → vs.length = ["entries", "place", "play", "most"].length := by
  rintro vs L Q E ⟨q, oq, xs, es, j, k, m, rfl, -⟩
  rfl
theorem body_fits (B : Bi mg) (D0 : Fn P w K mg base CX0 "is_whole" 1 spIsWhole) (D1 : Fn P w K mg base (L2.CX P w) "need_least" 3 (spNeedLeastD Cn)) (D2 : Fn P w K mg base (L2.CX P w) "need_few_logs" 3 (spNeedFewD Cl)) (D3 : Fn P w K mg base CX0 "is_longer" 3 spIsLongerD) (D4 : Fn P w K mg base CX0 "is_fit" 5 spIsFit) {u : Value} (hM : mg "MOST_TRIED" = some u) (rM : RelV (.int 1000) u) : BodyOf P w K mg base N_periods_that_fit "periods_that_fit" s_periods_that_fit 6 spFits := by
  intro X f cdv A outer s H E0 L vs Q E hX nd hr h
  subst hX
  obtain ⟨q, oq, xs, es, j, k, m, rfl, ro, mq, rp, hj, he, hl, k0, m1, m2, qq⟩ := h
  have lx := rp.len
  show GSs _ (defBody s_periods_that_fit) (bodyD Q) [("entries", some (.ref q)), ("place", some (.int (j : Int))), ("play", some (.int k)), ("most", some (.int m)), ("at", none), ("entry", none), ("period", none)] L
  obtain ⟨ds, rd, ld, hd⟩ := ents_dv rp
  have dv : ∃ t, DvAt L (.ref q) (.row t ds) := by
    rcases ro with rfl | rfl
    · exact ⟨false, .lst mq rd⟩
    · exact ⟨true, .tup mq rd⟩
  obtain ⟨t0, dv⟩ := dv
  refine gss_cons ?_
  tm_at "g"
  refine ge_call (El := NoX) D1 hr passN ?_
  tm_at "g"
  refine ⟨_, .int (j : Int), 0, rfl, .int, fun _ => ?_, fun y => absurd (show decide ((0 : Int) ≤ (j : Int)) = false from y) (by rw [decide_eq_true (Int.natCast_nonneg j)]; decide)⟩
  tm_at "g"
  refine ge_call (El := NoX) D1 hr passN ?_
  tm_at "g"
  refine ⟨_, .int k, 0, rfl, .int, fun _ => ?_, fun y => absurd (show decide ((0 : Int) ≤ k) = false from y) (by rw [decide_eq_true k0]; decide)⟩
  tm_at "g"
  refine ge_call (El := NoX) D0 hr passA ?_
  tm_at "g"
  refine ⟨_, _, rfl, .int, ?_⟩
  rw [show whole (.int m) = true from rfl]
  tm_at "g"
  refine ite_d (fun _ => ?_) (fun z => absurd m1 z)
  tm_at "g"
  refine gv_con hM rM ?_
  tm_at "g"
  rw [decide_eq_true (show m ≤ 1000 by omega)]
  tm_at "g"
  refine ge_call (El := NoX) D2 hr passN ?_
  tm_at "g"
  refine ⟨_, _, rfl, dv, fun t ds' e => by cases e; omega, fun _ M sM => ?_, fun y => absurd (show decide (ds.length ≤ 60) = false from y) (by rw [decide_eq_true (show ds.length ≤ 60 by omega)]; decide)⟩
  refine (fun h => GSs.sub sM h) ?_
  clear sM
  tm_at "g"
  refine gs_for (gi_enumO ro ?_ B.enumerate)
  tm_at "g"
  refine ⟨mq, fun n θ N => ∃ u1 u2, θ = ([("entries", some (.ref q)), ("place", some (.int (j : Int))), ("play", some (.int k)), ("most", some (.int m)), ("at", u1), ("entry", u2), ("period", none)] : En) ∧ Sub L N, ⟨none, none, rfl, Sub.refl⟩, fun i θ M _ nd ⟨_, _, _, sb⟩ => (sb.to nd).2 _ mq, ?_, ?_⟩
  · rintro n x E1 θ N hi ⟨t, a, b, rfl, rfl, ea, eb⟩ ⟨u1, u2, rfl, sb⟩
    cases ea
    have eb : xs[n]? = some b := eb
    obtain ⟨d, hdn, de⟩ := rd.get eb
    obtain ⟨e, hm, t', rfl⟩ := hd d (List.mem_of_getElem? hdn)
    have hee := he e hm
    refine GG.sub (Sub.cons sb) ?_
    refine gg_tup mem0 ?_
    tm_at "g"
    refine ge_call (El := NoX) D3 hr passA ?_
    tm_at "g"
    refine ⟨b, _, j, rfl, dvMono (fun _ h => memS h) de, fun ys z => ?_, ?_⟩
    · cases z
      refine ⟨by show 2 ≤ 1000; decide, fun x hx t zs z => ?_⟩
      simp only [List.mem_cons, List.not_mem_nil, or_false] at hx
      rcases hx with rfl | rfl
      · cases z
      · cases z
        rw [List.length_map]
        exact hee.2.2.1
    rw [long_dv (hj e hm) hee]
    tm_at "g"
    exact Sub.drop
  · rintro θ N ⟨u1, u2, rfl, sb⟩
    refine (fun h => GSs.sub sb h) ?_
    clear sb
    tm_at "g"
    refine ge_lcP (by tm_at "g_put") (gi_range2 ?_ B.range) (show blkC N_periods_that_fit (defScope s_periods_that_fit) _ [(_, List.idxOf _ N_periods_that_fit)] = true by decide +kernel)
    tm_at "g"
    refine ⟨⟨by decide, by decide, by omega, by omega⟩, ?_⟩
    refine pure_fn (n := (m + 1 - 2).toNat) (h := fun i => V.int (2 + (i : Nat))) (p := fun i => fitK es j (2 + (i : Nat)) k) (g := fun i => .int (2 + (i : Nat))) (by omega) (fun i hi D acc s1 H1 C1 cl1 fp1 => ?_) fun D => ?_
    · show GT _ _ _ _ _
      tm_at "g"
      refine ge_call (El := NoX) D4 hr passA ?_
      tm_at "g"
      refine ⟨q, oq, xs, es, j, 2 + (i : Nat), k, rfl, ro, memS mq, rp.imp fun v a z => entMono _ _ _ _ (fun e h => memS h) z, hj, hl, by omega, by omega, k0, fun M sM => ?_⟩
      tm_at "g"
      refine ⟨rfl, sM, fun _ s2 H2 C2 cl2 fp2 => ?_⟩
      tm_at "g"
      exact ⟨rfl, sM⟩
    rw [show (m + 1 - 2).toNat = (m - 1).toNat by omega, show ((List.range (m - 1).toNat).filter fun i => fitK es j (2 + (i : Nat)) k).map (fun i : Nat => V.int (2 + (i : Nat))) = (fitsL es j k m).map V.int by unfold fitsL; rw [List.map_map]; rfl]
    tm_at "g"
    refine gc_tupL mem0 fun t => ?_
    exact ⟨_, Sub.refl, qq t _ Sub.drop⟩
end
theorem uniqF : ∀ {L : Lg} {a : Addr} {o u : HO}, (L.map (·.1)).Nodup → (a, o) ∈ L → (a, u) ∈ L → o = u
  | e :: L, a, o, u, nd, h1, h2 => by
    obtain ⟨n, nd⟩ := List.nodup_cons.mp nd
    rcases List.mem_cons.mp h1 with rfl | k1 <;> rcases List.mem_cons.mp h2 with h2 | h2
    · exact ((Prod.mk.injEq ..).mp h2).2.symm
    · exact absurd (List.mem_map.mpr ⟨_, h2, rfl⟩) n
    · subst h2
      exact (n (List.mem_map.mpr ⟨(a, o), k1, rfl⟩)).elim
    · exact uniqF nd k1 h2
/-- from whatever is laid: what is kept ahead, and the rest -/
theorem outF {F R N : Lg} (nd : (N.map (·.1)).Nodup) (nf : ((F ++ R).map (·.1)).Nodup) (up : ∀ e ∈ F ++ R, e ∈ N) (hl : ∀ e ∈ F, ∃ xs, e.2 = HO.lst xs) : ∃ R2 : Lg, Sub (F ++ R2) N ∧ (∀ e ∈ R, e ∈ R2) ∧ ∀ e ∈ N, (∀ xs, e.2 ≠ HO.lst xs) → e ∈ R2 := by
  have hk : ∀ e : Addr × HO, e ∈ N.filter (fun e => decide (e.1 ∉ F.map (·.1))) ↔ e ∈ N ∧ e.1 ∉ F.map (·.1) := fun e => by rw [List.mem_filter, decide_eq_true_iff]
  refine ⟨N.filter fun e => decide (e.1 ∉ F.map (·.1)), ⟨fun _ => ⟨?_, fun e he => ?_⟩⟩, fun e he => (hk e).mpr ⟨up e (List.mem_append.mpr (.inr he)), fun h => ?_⟩, fun e he h => (hk e).mpr ⟨he, fun h2 => ?_⟩⟩
  · rw [List.map_append] at nf ⊢
    refine List.nodup_append.mpr ⟨(List.nodup_append.mp nf).1, (List.filter_sublist.map _).nodup nd, fun a ha b hb e => ?_⟩
    obtain ⟨y, hy, rfl⟩ := List.mem_map.mp hb
    exact ((hk y).mp hy).2 (e ▸ ha)
  · rcases List.mem_append.mp he with he | he
    · exact up e (List.mem_append.mpr (.inl he))
    · exact ((hk e).mp he).1
  · rw [List.map_append] at nf
    exact (List.nodup_append.mp nf).2.2 _ h _ (List.mem_map_of_mem he) rfl
  · obtain ⟨y, hy, ey⟩ := List.mem_map.mp h2
    obtain ⟨xs, ex⟩ := hl y hy
    obtain ⟨a, o⟩ := e
    obtain ⟨b, o2⟩ := y
    dsimp only at ey ex
    subst ey
    have := uniqF nd he (up _ (List.mem_append.mpr (.inl hy)))
    subst this
    exact h xs ex
section
variable {P : Program} {w : World} {K : PySem.W.Frag} {mg : Str → Option Value} {base : Heap} {C : Addr}
theorem pick_int {is : List Int} {k : Nat} {x : V} (h : (is.map V.int)[k]? = some x) : ∃ j ∈ is, x = .int j := by
  rw [List.getElem?_map] at h
  obtain ⟨j, hj, rfl⟩ := Option.map_eq_some_iff.mp h
  exact ⟨j, List.mem_of_getElem? hj, rfl⟩
theorem GAsubc {X : Cx} {es : List Expr} {η : En} {L M : Lg} {Q : List V → Lg → Prop} (s : Sub M L) (h : GA X es η M Q) : GA X es η L Q := fun hN H hH => h hN H (s.has H hH)
/-- a drawn wheel -/
abbrev plO (w : WhD) : HO := .tup [.int (w.2.1 : Nat), .int (w.2.2.1 : Nat), .int (w.2.2.2 : Nat), .bl w.1]
def PlAt (L : Lg) (v : V) (w : WhD) : Prop := ∃ a, v = .ref a ∧ (a, plO w) ∈ L
theorem plMono : RepMono PlAt := fun _ _ _ _ s ⟨a, e, m⟩ => ⟨a, e, s _ m⟩
/-- a wheel's period in front -/
def PvAt (L : Lg) (v : V) (x : Int) : Prop := ∃ a y z t, v = .ref a ∧ (a, HO.tup [.int x, y, z, t]) ∈ L
theorem pvMono : RepMono PvAt := fun _ _ _ _ s ⟨a, y, z, t, e, m⟩ => ⟨a, y, z, t, e, s _ m⟩
theorem pl_pv {L : Lg} : ∀ {zs : List V} {ws : List WhD}, Reps (PlAt L) zs ws → Reps (PvAt L) zs (ws.map fun w => ((w.2.1 : Nat) : Int))
  | _, _, .nil => .nil
  | _, _, .cons ⟨a, e, m⟩ r => .cons ⟨a, _, _, _, e, m⟩ (pl_pv r)
def PerOk (x : Int) : Prop := 2 ≤ x ∧ x ≤ 1000000000000
def spWheels : SpL := fun vs L Q _ => ∃ (p c : Addr) (ns : List Int) (n m : Int) (R : Lg), vs = [.ref p, .int 3] ∧ Sub ((p, penO c n m) :: (c, celO ns) :: R) L ∧ ns.length ≤ 63 ∧ 0 ≤ n ∧ n + 20 ≤ 100000 ∧ 0 ≤ m ∧
  ∀ (q : Addr) (zs : List V) (ps : List WhD) (R' : Lg) (n' m' : Int), Sub R R' → Reps (PlAt R') zs ps → 1 ≤ ps.length → ps.length ≤ 3 → (∀ x ∈ ps, WhOk x) → 0 ≤ n' → n' ≤ n + 19 → 0 ≤ m' → Q (.ref q) ((q, .lst zs) :: (p, penO c n' m') :: (c, celO ns) :: R')
theorem fn_law_wheels (B : Bi mg) (F : Df K mg "_law_wheels" s_law_wheels) (D1 : Fn P w K mg base CX0 "_law_draw" 1 spDraw) (D2 : Fn P w K mg base CX0 "_law_pick" 2 spPick) : Fn P w K mg base CX0 "_law_wheels" 3 spWheels := by
  refine fn_plain F sc_law_wheels (fun _ _ _ _ _ _ us hl => match us, hl with | [_, _], _ => rfl) (by decide) (by tm_at "g_len") ?_
  intro X f cdv A outer s H E0 L vs Q E hX nd hr h
  subst hX
  obtain ⟨p, c, ns, n, m, R, rfl, sb, h63, n0, n1, m0, q⟩ := h
  refine GSs.sub sb ?_
  show GSs _ (defBody s_law_wheels) (bodyD Q) [("_law_pen_here", some (.ref p)), ("_law_most", some (.int 3)), ("_law_found", none), ("_law_turn", none), ("_law_period", none), ("_law_plain", none)] _
  refine gss_cons ?_
  tm_at "g"
  rename_i f0
  refine gs_for (gi_range1 ?_ B.range)
  tm_at "g"
  refine ge_call (El := NoX) D1 hr passA ?_
  tm_at "g"
  tm_at "g_dr"
  intro d3 n4 m4 j2 j3 c0 c1 c2
  tm_at "g"
  refine ⟨⟨by omega, by omega⟩, fun i θ N => ∃ (u v x : Option V) (zs : List V) (ps : List WhD) (n' m' : Int) (R' : Lg), θ = ([("_law_pen_here", some (.ref p)), ("_law_most", some (.int 3)), ("_law_found", some (.ref f0)), ("_law_turn", u), ("_law_period", v), ("_law_plain", x)] : En) ∧ Sub ((p, penO c n' m') :: (c, celO ns) :: (f0, HO.lst zs) :: R') N ∧ Sub R R' ∧ Reps (PlAt R') zs ps ∧ ps.length = i ∧ (∀ x ∈ ps, WhOk x) ∧ 0 ≤ n' ∧ n' ≤ n + 1 + 6 * (i : Int) ∧ 0 ≤ m', ?_, fun _ _ _ _ _ _ => True.intro, ?_, ?_⟩
  · exact ⟨none, none, none, [], [], n4, m4, R, rfl, by tm_at "g_end", Sub.refl, .nil, rfl, (fun e h => nomatch h), c0, by omega, c2⟩
  · rintro i x E1 θ N hi ⟨rfl, rfl⟩ ⟨u, v, x, zs, ps, n5, m5, R', rfl, sb2, sR, hp, hl, hb, e0, e1, e2⟩
    dsimp only [List.nil_append] at hi ⊢
    have hi3 : i < 3 := by omega
    refine gg_name (by tm_at "g_pv") ?_
    refine GSs.sub sb2 ?_
    tm_at "g"
    refine ge_call (El := NoX) D2 hr passA ?_
    tm_at "g"
    refine ge_call (El := NoX) D1 hr passA ?_
    tm_at "g"
    tm_at "g_dr"
    intro o1 n6 m6 o2 o3 f1 f2 f3
    tm_at "g"
    refine ge_call (El := NoX) D1 hr passA ?_
    tm_at "g"
    tm_at "g_dr"
    intro o4 n7 m7 o5 o6 g1 g2 g3
    tm_at "g"
    refine go_powL (r := 1000000000000) ⟨by decide, by decide, by decide⟩ (by decide) ?_
    tm_at "g"
    refine go_powL (r := 1000000000) ⟨by decide, by decide, by decide⟩ (by decide) ?_
    tm_at "g"
    tm_at "g_pk"
    intro k6 x6 n9 m9 hx6 i0 i1 i2
    obtain ⟨pl, hpl, rfl⟩ := pick_int (is := [2 + o1, 2 + o4, 1000000000000, 360, 1000000000 + 7]) hx6
    have pl0 : PerOk pl := by
      simp only [List.mem_cons, List.not_mem_nil, or_false] at hpl
      unfold PerOk
      omega
    unfold PerOk at pl0
    obtain ⟨pl, rfl⟩ : ∃ k : Nat, pl = k := ⟨pl.toNat, by omega⟩
    clear hx6 hpl
    tm_at "g"
    refine ge_call (El := NoX) D1 hr passA ?_
    tm_at "g"
    tm_at "g_dr"
    intro s1 n10 m10 s2 s3 j0 j1 j2
    obtain ⟨s1, rfl⟩ : ∃ k : Nat, s1 = k := ⟨s1.toNat, by omega⟩
    tm_at "g"
    refine ge_call (El := NoX) D1 hr passA ?_
    tm_at "g"
    tm_at "g_dr"
    intro s4 n11 m11 s5 s6 k0 k1 k2
    obtain ⟨s4, rfl⟩ : ∃ k : Nat, s4 = k := ⟨s4.toNat, by omega⟩
    tm_at "g"
    refine ge_call (El := NoX) D1 hr passA ?_
    tm_at "g"
    tm_at "g_dr"
    intro s7 n12 m12 s8 s9 l0 l1 l2
    tm_at "g"
    refine ite_d (fun _ => ?_) (fun _ => ?_)
    · tm_at "g"
      rename_i t2 t1 t0
      have hz := hp.len
      refine ⟨zs, _, by tm_at "g_mem", szL (show zs.length + 1 ≤ 16777216 by omega), by tm_at "g_swap", ?_⟩
      tm_at "g"
      refine ⟨_, _, _, zs ++ [V.ref t0], ps ++ [(true, pl, 0, 0)], n12, m12, (t0, HO.tup [.int (pl : Nat), .int 0, .int 0, .bl true]) :: R', rfl, ?_, Sub.trans sR Sub.drop, (hp.imp fun v a z => plMono _ _ _ _ (fun _ h => memS h) z).snoc ⟨t0, rfl, mem0⟩, by rw [List.length_append, hl]; rfl, fun x hx => ?_, l0, by omega, l2⟩
      · refine Sub.trans (Sub.perm (List.perm_middle (l₁ := [(p, penO c n12 m12), (c, celO ns), _]))) ?_
        dsimp only [List.cons_append, List.nil_append]
        tm_at "g_end"
      · rcases List.mem_append.mp hx with hx | hx
        · exact hb x hx
        · rw [List.mem_singleton.mp hx]
          exact ⟨by dsimp only; omega, by dsimp only; omega, by dsimp only; omega, by dsimp only; omega, fun z => by first | exact ⟨rfl, rfl⟩ | cases z⟩
    · tm_at "g"
      rename_i t1 t0 yy
      have hz := hp.len
      refine ⟨zs, _, by tm_at "g_mem", szL (show zs.length + 1 ≤ 16777216 by omega), by tm_at "g_swap", ?_⟩
      tm_at "g"
      refine ⟨_, _, _, zs ++ [V.ref t0], ps ++ [(false, pl, s1, s4)], n12, m12, (t0, HO.tup [.int (pl : Nat), .int (s1 : Nat), .int (s4 : Nat), .bl false]) :: R', rfl, ?_, Sub.trans sR Sub.drop, (hp.imp fun v a z => plMono _ _ _ _ (fun _ h => memS h) z).snoc ⟨t0, rfl, mem0⟩, by rw [List.length_append, hl]; rfl, fun x hx => ?_, l0, by omega, l2⟩
      · refine Sub.trans (Sub.cons (Sub.cons (Sub.perm (List.Perm.swap _ _ _)))) ?_
        tm_at "g_end"
      · rcases List.mem_append.mp hx with hx | hx
        · exact hb x hx
        · rw [List.mem_singleton.mp hx]
          exact ⟨by dsimp only; omega, by dsimp only; omega, by dsimp only; omega, by dsimp only; omega, fun z => by first | exact ⟨rfl, rfl⟩ | cases z⟩
  · rintro θ N ⟨u, v, x, zs, ps, n5, m5, R', rfl, sb2, sR, hp, hl, hb, e0, e1, e2⟩
    tm_at "g"
    have hl' : ps.length = (1 + d3).toNat := hl
    refine ⟨_, (Sub.trans ?_ sb2), q f0 zs ps R' n5 m5 sR hp (by omega) (by omega) hb e0 (by omega) e2⟩
    exact Sub.perm (List.perm_middle (l₁ := [(p, penO c n5 m5), (c, celO ns)])).symm
end
section
variable {P : Program} {w : World} {K : PySem.W.Frag} {mg : Str → Option Value} {base : Heap} {C : Addr}
theorem gss_nd {X : Cx} {st : List Stmt} {D : GD} {η : En} {L : Lg} (h : (L.map (·.1)).Nodup → GSs X st D η L) : GSs X st D η L := fun hN H hH => h hH.1 hN H hH
theorem mk_app {ms : List (Option Int)} {o : Option Int} : (ms ++ [o]).map mkO = ms.map mkO ++ [mkO o] := by rw [List.map_append]; rfl
theorem oks_snoc {ms : List (Option Int)} {o : Option Int} {ps : List Int} (h : ∀ (i : Nat) (x p : Int), ms[i]? = some (some x) → ps[i]? = some p → 0 ≤ x ∧ x < p) (k : ∀ x, o = some x → ∀ p, ps[ms.length]? = some p → 0 ≤ x ∧ x < p) : ∀ (i : Nat) (x p : Int), (ms ++ [o])[i]? = some (some x) → ps[i]? = some p → 0 ≤ x ∧ x < p := fun i x p e1 e2 => by
  by_cases z : i < ms.length
  · rw [List.getElem?_append_left z] at e1
    exact h i x p e1 e2
  · rw [List.getElem?_append_right (by omega)] at e1
    by_cases y : i - ms.length = 0
    · rw [y] at e1
      have e3 : i = ms.length := by omega
      subst e3
      exact k x (Option.some.inj e1) p e2
    · obtain ⟨u, hu⟩ : ∃ u, i - ms.length = u + 1 := ⟨i - ms.length - 1, by omega⟩
      rw [hu] at e1
      simp at e1
def spEntries : SpL := fun vs L Q _ => ∃ (p c q : Addr) (ns : List Int) (zs : List V) (ps : List Int) (n m : Int) (R : Lg), vs = [.ref p, .ref q, .int 9] ∧ Sub ((p, penO c n m) :: (c, celO ns) :: R) L ∧ (q, HO.lst zs) ∈ R ∧ Reps (PvAt R) zs ps ∧ ps.length ≤ 3 ∧ (∀ x ∈ ps, PerOk x) ∧ ns.length ≤ 63 ∧ 0 ≤ n ∧ n + 130 ≤ 100000 ∧ 0 ≤ m ∧
  ∀ (f : Addr) (xs : List V) (es : List Ent) (R' : Lg) (n' m' : Int), Sub R R' → Reps (EntAt R') xs es → es.length ≤ 9 → (∀ e ∈ es, EntOk ps e) → 0 ≤ n' → n' ≤ n + 127 → 0 ≤ m' → Q (.ref f) ((f, .lst xs) :: (p, penO c n' m') :: (c, celO ns) :: R')
theorem fn_law_entries (B : Bi mg) (F : Df K mg "_law_entries" s_law_entries) (D1 : Fn P w K mg base CX0 "_law_draw" 1 spDraw) (D2 : Fn P w K mg base CX0 "_law_pick" 2 spPick) : Fn P w K mg base CX0 "_law_entries" 3 spEntries := by
  refine fn_plain F sc_law_entries (fun _ _ _ _ _ _ us hl => match us, hl with | [_, _, _], _ => rfl) (by decide) (by tm_at "g_len") ?_
  intro X f cdv A outer s H E0 L vs Q E hX nd hr h
  subst hX
  obtain ⟨p, c, q, ns, zs, ps, n, m, R, rfl, sb, mq, rp, l3, hps, h63, n0, n1, m0, qq⟩ := h
  refine GSs.sub sb ?_
  show GSs _ (defBody s_law_entries) (bodyD Q) [("_law_pen_here", some (.ref p)), ("_law_plains", some (.ref q)), ("_law_most", some (.int 9)), ("_law_found", none), ("_law_turn", none), ("_law_value", none), ("_law_marks", none), ("_law_plain", none), ("_law_slip", none)] _
  refine gss_cons ?_
  tm_at "g"
  rename_i f0
  refine gs_for (gi_range1 ?_ B.range)
  tm_at "g"
  refine ge_call (El := NoX) D1 hr passA ?_
  tm_at "g"
  tm_at "g_dr"
  intro d3 n4 m4 j2 j3 c0 c1 c2
  tm_at "g"
  refine ⟨⟨by omega, by omega⟩, fun i θ N => ∃ (u v x y z : Option V) (xs : List V) (es : List Ent) (n' m' : Int) (R' : Lg), θ = ([("_law_pen_here", some (.ref p)), ("_law_plains", some (.ref q)), ("_law_most", some (.int 9)), ("_law_found", some (.ref f0)), ("_law_turn", u), ("_law_value", v), ("_law_marks", x), ("_law_plain", y), ("_law_slip", z)] : En) ∧ Sub ((p, penO c n' m') :: (c, celO ns) :: (f0, HO.lst xs) :: R') N ∧ Sub R R' ∧ Reps (EntAt R') xs es ∧ es.length = i ∧ (∀ e ∈ es, EntOk ps e) ∧ 0 ≤ n' ∧ n' ≤ n + 1 + 14 * (i : Int) ∧ 0 ≤ m', ?_, fun _ _ _ _ _ _ => True.intro, ?_, ?_⟩
  · exact ⟨none, none, none, none, none, [], [], n4, m4, R, rfl, by tm_at "g_end", Sub.refl, .nil, rfl, (fun e h => nomatch h), c0, by omega, c2⟩
  · rintro i x E1 θ N hi ⟨rfl, rfl⟩ ⟨u, v, x, y, z, xs, es, n5, m5, R', rfl, sb2, sR, hp, hl, hb, e0, e1, e2⟩
    dsimp only [List.nil_append] at hi ⊢
    have hi9 : i < 9 := by omega
    refine gg_name (by tm_at "g_pv") ?_
    refine GSs.sub sb2 ?_
    refine gss_nd fun ndN => ?_
    have mqR : (q, HO.lst zs) ∈ R' := (sR.to (List.nodup_cons.mp (List.nodup_cons.mp (List.nodup_cons.mp ndN).2).2).2).2 _ mq
    have rpR : Reps (PvAt R') zs ps := rp.imp fun v a z => pvMono _ _ _ _ (sR.to (List.nodup_cons.mp (List.nodup_cons.mp (List.nodup_cons.mp ndN).2).2).2).2 z
    tm_at "g"
    refine ge_call (El := NoX) D2 hr passA ?_
    tm_at "g"
    refine ge_call (El := NoX) D1 hr passA ?_
    tm_at "g"
    tm_at "g_dr"
    intro o1 n6 m6 o2 o3 f1 f2 f3
    tm_at "g"
    refine go_powL (r := 1000000000000000000000000000000) ⟨by decide, by decide, by decide⟩ (by decide) ?_
    tm_at "g"
    refine ge_call (El := NoX) D1 hr passA ?_
    tm_at "g"
    tm_at "g_dr"
    intro o4 n7 m7 o5 o6 g1 g2 g3
    tm_at "g"
    refine ge_call (El := NoX) D1 hr passA ?_
    tm_at "g"
    refine go_powL (r := 1000000000) ⟨by decide, by decide, by decide⟩ (by decide) ?_
    tm_at "g"
    tm_at "g_dr"
    intro o7 n8 m8 o8 o9 g4 g5 g6
    tm_at "g"
    tm_at "g_pk"
    intro k6 x6 n9 m9 hx6 i0 i1 i2
    obtain ⟨vl, hvl, rfl⟩ := pick_int (is := [o1 - 30, 1000000000000000000000000000000 - 1 - o4, o7]) hx6
    have vl0 : -1000000000000000000000000000000 < vl ∧ vl < 1000000000000000000000000000000 := by
      simp only [List.mem_cons, List.not_mem_nil, or_false] at hvl
      omega
    clear hx6 hvl
    tm_at "g"
    rename_i l0 mk
    refine gs_for (gi_list ?_)
    tm_at "g"
    refine ⟨fun j θ N => ∃ (y z : Option V) (ms : List (Option Int)) (n' m' : Int), θ = ([("_law_pen_here", some (.ref p)), ("_law_plains", some (.ref q)), ("_law_most", some (.int 9)), ("_law_found", some (.ref f0)), ("_law_turn", some (.int (i : Int))), ("_law_value", some (.int vl)), ("_law_marks", some (.ref mk)), ("_law_plain", y), ("_law_slip", z)] : En) ∧ Sub ((p, penO c n' m') :: (c, celO ns) :: (mk, HO.lst (ms.map mkO)) :: (f0, HO.lst xs) :: R') N ∧ ms.length = j ∧ (∀ (i : Nat) (x p : Int), ms[i]? = some (some x) → ps[i]? = some p → 0 ≤ x ∧ x < p) ∧ 0 ≤ n' ∧ n' ≤ n9 + 3 * (j : Int) ∧ 0 ≤ m', ?_, fun j θ M _ nd ⟨_, _, _, _, _, _, sb, _⟩ => (sb.to nd).2 _ (memS (memS (memS (memS mqR)))), ?_, ?_⟩
    · exact ⟨y, z, [], n9, m9, rfl, Sub.trans (Sub.perm (List.perm_middle (l₁ := [(p, penO c n9 m9), (c, celO ns)]))) (Sub.cons (Sub.cons (Sub.cons Sub.drop))), rfl, (fun i x p e => by simp at e), i0, by omega, i2⟩
    · rintro j w1 E2 θ N hj ⟨hx, rfl⟩ ⟨y, z, ms, n10, m10, rfl, sb3, hml, hok, a0, a1, a2⟩
      obtain ⟨per, hper, wa, w2, w3, w4, rfl, mw⟩ := rpR.get hx
      have pok := hps per (List.mem_of_getElem? hper)
      unfold PerOk at pok
      have hj3 : j < 3 := by
        have := (List.getElem?_eq_some_iff.mp hper).1
        omega
      dsimp only [List.nil_append] at hj ⊢
      refine gg_name (by tm_at "g_pv") ?_
      refine GSs.sub sb3 ?_
      tm_at "g"
      refine ge_call (El := NoX) D2 hr passA ?_
      tm_at "g"
      refine ge_call (El := NoX) D1 hr passA ?_
      tm_at "g"
      tm_at "g_dr"
      intro q1 n11 m11 q2 q3 b0 b1 b2
      tm_at "g"
      tm_at "g_pk"
      intro k7 x7 n12 m12 hx7 s0 s1 s2
      obtain ⟨sl, hsl, rfl⟩ := pick_int (is := [0, 0, 1, -1, 2, -2, 3, q1]) hx7
      clear hx7
      tm_at "g"
      refine ge_call (El := NoX) D1 hr passA ?_
      tm_at "g"
      tm_at "g_dr"
      intro t1 n13 m13 t2 t3 v0 v1 v2
      tm_at "g"
      refine ite_d (fun _ => ?_) (fun _ => ?_)
      · tm_at "g"
        refine ⟨_, _, ms ++ [none], n13, m13, rfl, ?_, by rw [List.length_append, hml]; rfl, oks_snoc hok fun x e => (nomatch e), v0, by omega, v2⟩
        rw [mk_app, show mkO none = V.non from rfl]
        tm_at "g_end"
      · tm_at "g"
        have lms : (ms.map mkO).length ≤ 3 := by rw [List.length_map, hml]; omega
        refine go_mod (by omega) ?_
        refine ⟨ms.map mkO, _, by tm_at "g_mem", szL (show (ms.map mkO).length + 1 ≤ 16777216 by omega), by tm_at "g_swap", ?_⟩
        tm_at "g"
        refine ⟨_, _, ms ++ [some ((vl + sl) % per)], n13, m13, rfl, ?_, by rw [List.length_append, hml]; rfl, oks_snoc hok fun x e p hp => ?_, v0, by omega, v2⟩
        · rw [mk_app, show mkO (some ((vl + sl) % per)) = V.int ((vl + sl) % per) from rfl]
          tm_at "g_end"
        · rw [hml, hper] at hp
          cases e
          cases hp
          exact ⟨Int.emod_nonneg _ (by omega), Int.emod_lt_of_pos _ (by omega)⟩
    · rintro θ N ⟨y, z, ms, n10, m10, rfl, sb3, hml, hok, a0, a1, a2⟩
      have hml : ms.length = zs.length := hml
      have lz := rp.len
      refine GSs.sub sb3 ?_
      have mko : MksOk ms ps := ⟨by omega, hok⟩
      have lxs := hp.len
      tm_at "g"
      refine ge_call (El := NoX) D1 hr passA ?_
      tm_at "g"
      tm_at "g_dr"
      intro q1 n11 m11 q2 q3 b0 b1 b2
      tm_at "g"
      refine ite_d (fun _ => ?_) (fun _ => ?_)
      · tm_at "g"
        refine gc_tupL (by tm_at "g_mem") fun tq => ?_
        tm_at "g"
        rename_i t0
        refine ⟨xs, _, by tm_at "g_mem", szL (show xs.length + 1 ≤ 16777216 by omega), by tm_at "g_swap", ?_⟩
        tm_at "g"
        refine ⟨_, _, _, _, _, xs ++ [V.ref t0], es ++ [(vl, ms)], n11, m11, (t0, HO.tup [.int vl, .ref tq]) :: (tq, HO.tup (ms.map mkO)) :: R', rfl, ?_, Sub.trans sR (Sub.trans Sub.drop Sub.drop), (hp.imp fun v a z => entMono _ _ _ _ (fun _ h => memS (memS h)) z).snoc ⟨t0, tq, _, rfl, mem0, .inr rfl, memS mem0⟩, by rw [List.length_append, hl]; rfl, fun e he => ?_, b0, by omega, b2⟩
        · exact Sub.trans (Sub.perm (List.perm_middle (l₁ := [(p, penO c n11 m11), (c, celO ns), _]))) (Sub.cons (Sub.trans (Sub.perm (List.perm_middle (l₁ := [(p, penO c n11 m11), (c, celO ns), _]))) (Sub.cons (Sub.cons (Sub.cons Sub.drop)))))
        · rcases List.mem_append.mp he with he | he
          · exact hb e he
          · rw [List.mem_singleton.mp he]
            exact ⟨vl0.1, vl0.2, mko⟩
      · tm_at "g"
        rename_i t0
        refine ⟨xs, _, by tm_at "g_mem", szL (show xs.length + 1 ≤ 16777216 by omega), by tm_at "g_swap", ?_⟩
        tm_at "g"
        refine ⟨_, _, _, _, _, xs ++ [V.ref t0], es ++ [(vl, ms)], n11, m11, (t0, HO.tup [.int vl, .ref mk]) :: (mk, HO.lst (ms.map mkO)) :: R', rfl, ?_, Sub.trans sR (Sub.trans Sub.drop Sub.drop), (hp.imp fun v a z => entMono _ _ _ _ (fun _ h => memS (memS h)) z).snoc ⟨t0, mk, _, rfl, mem0, .inl rfl, memS mem0⟩, by rw [List.length_append, hl]; rfl, fun e he => ?_, b0, by omega, b2⟩
        · exact Sub.trans (Sub.perm (List.perm_middle (l₁ := [(p, penO c n11 m11), (c, celO ns), _]))) (Sub.cons (Sub.cons (Sub.cons (Sub.perm (List.Perm.swap _ _ _)))))
        · rcases List.mem_append.mp he with he | he
          · exact hb e he
          · rw [List.mem_singleton.mp he]
            exact ⟨vl0.1, vl0.2, mko⟩
  · rintro θ N ⟨u, v, x, y, z, xs, es, n5, m5, R', rfl, sb2, sR, hp, hl, hb, e0, e1, e2⟩
    tm_at "g"
    have hl' : es.length = d3.toNat := hl
    refine ⟨_, (Sub.trans ?_ sb2), qq f0 xs es R' n5 m5 sR hp (by omega) hb e0 (by omega) e2⟩
    exact Sub.perm (List.perm_middle (l₁ := [(p, penO c n5 m5), (c, celO ns)])).symm
end
theorem sub_rot {E F G R : Lg} : Sub (F ++ (E ++ R)) (E ++ (F ++ (G ++ R))) := by
  have h1 : Sub (F ++ (E ++ R)) (F ++ (E ++ (G ++ R))) := Sub.append (Sub.append Sub.dropE)
  have h2 : (F ++ (E ++ (G ++ R))).Perm (E ++ (F ++ (G ++ R))) := by
    generalize G ++ R = Z
    rw [← List.append_assoc, ← List.append_assoc]
    exact List.perm_append_comm.append_right _
  exact h1.trans (Sub.perm h2)
section
variable {P : Program} {w : World} {K : PySem.W.Frag} {mg : Str → Option Value} {base : Heap} {Y : WPar} {Ce fD fG fM g gP gL : Addr}
/-- the two classes of wheels and meters, made -/
structure Mks (P : Program) (w : World) (K : PySem.W.Frag) (mg : Str → Option Value) (base : Heap) (Y : WPar) (Ce fD fG fM g gP gL : Addr) : Prop where
  m0 : MkF P w K mg base "Wheel" Y.D fD 4 (spWheelInit K Ce)
  m4 : MkF P w K mg base "Grid" Y.G0 fG 5 (spExactInit K Ce Y.G0)
  wd : WhL K Y gP gL Y.D false
  wg : WhL K Y gP gL Y.G0 true
  hC : mg "Meter" = some (.ref Y.CM)
  M0 : Mk K Y.CM fM
  TI : MtI P w K mg base Y fM
  W : MtW P w K mg base Y g
def spOf (K : PySem.W.Frag) (Y : WPar) (gP gL : Addr) : SpL := fun vs L Q _ => ∃ (a : Addr) (wd : WhD), vs = [.ref a] ∧ (a, plO wd) ∈ L ∧ WhOk wd ∧
  ∀ x C dx, WhL K Y gP gL C wd.1 → Q (.ref x) ((x, wO C dx (.int (wd.2.1 : Nat)) (.int (wd.2.2.1 : Nat)) (.int (wd.2.2.2 : Nat))) :: (dx, HO.own x) :: L)
theorem fn_law_wheel (F : Df K mg "_law_wheel" s_law_wheel) (Z : Mks P w K mg base Y Ce fD fG fM g gP gL) : Fn P w K mg base CX0 "_law_wheel" 7 (spOf K Y gP gL) := by
  refine fn_plain F sc_law_wheel (fun _ _ _ _ _ _ us hl => match us, hl with | [_], _ => rfl) (by decide) (by tm_at "g_len") ?_
  intro X f cdv A outer s H E0 L vs Q E hX nd hr h
  subst hX
  obtain ⟨a, ⟨t, p, b, h⟩, rfl, ma, ⟨p0, p1, b1, h1, ht⟩, q⟩ := h
  dsimp only at p0 p1 b1 h1 ht q
  show GSs _ (defBody s_law_wheel) (bodyD Q) [("_law_plain", some (.ref a))] _
  refine gss_cons ?_
  tm_at "g"
  have p0' : (2 : Int) ≤ (p : Nat) := by omega
  have p1' : ((p : Nat) : Int) ≤ 1000000000000 := by omega
  have b0' : (0 : Int) ≤ (b : Nat) := by omega
  have b1' : ((b : Nat) : Int) ≤ 1000000000000 := by omega
  have h0' : (0 : Int) ≤ (h : Nat) := by omega
  have h1' : ((h : Nat) : Int) ≤ 1000000000000 := by omega
  refine ite_b (fun y => ?_) (fun y => ?_)
  · subst y
    obtain ⟨rfl, rfl⟩ := ht rfl
    tm_at "g"
    refine ge_callF Z.m4.g Z.m4.M.kp (fun _ => gf_make (El := NoX) Z.m4.M Z.m4.R (fun _ _ => rfl) hr passN) ?_
    tm_at "g"
    exact fun x dx => ⟨x, dx, _, _, _, rfl, mem0, Z.wg.k.c.a, .int, .here, fun _ => ⟨rfl, ⟨_, Sub.refl, q x Y.G0 dx Z.wg⟩⟩, no_bad p0' p1'⟩
  · subst y
    tm_at "g"
    refine ge_callF Z.m0.g Z.m0.M.kp (fun _ => gf_make (El := NoX) Z.m0.M Z.m0.R (fun _ _ => rfl) hr passN) ?_
    tm_at "g"
    exact fun x dx => ⟨x, Y.D, dx, _, _, _, _, _, _, _, rfl, mem0, Z.wd.k.c.a, .int, .int, .int, .here, fun _ _ _ => ⟨rfl, ⟨_, Sub.refl, q x Y.D dx Z.wd⟩⟩, no_bad p0' p1', fun _ => no_bad b0' b1', fun _ _ => no_bad h0' h1'⟩
def MtL (K : PySem.W.Frag) (Y : WPar) (gP gL : Addr) (L : Lg) (a : Addr) (n : Nat × Nat × Nat) (ws : List WhD) : Prop := ∃ dx wt wz, (a, mtO Y.CM dx wt n) ∈ L ∧ (wt, HO.tup wz) ∈ L ∧ Reps (WhAtL K Y gP gL L) wz ws
theorem MtL.mono {L M : Lg} {a : Addr} {n : Nat × Nat × Nat} {ws : List WhD} (s : ∀ e ∈ L, e ∈ M) : MtL K Y gP gL L a n ws → MtL K Y gP gL M a n ws := fun ⟨dx, wt, wz, h1, h2, h3⟩ => ⟨dx, wt, wz, s _ h1, s _ h2, h3.imp fun v d z => whlMono _ _ _ _ s z⟩
def spMeterL (K : PySem.W.Frag) (Y : WPar) (gP gL : Addr) : SpL := fun vs L Q _ => ∃ (q p c : Addr) (n : Nat × Nat × Nat) (zs : List V) (ws : List WhD) (ns : List Int) (k m : Int) (R : Lg), vs = [.ref q, .int (n.1 : Nat), .int (n.2.1 : Nat), .int (n.2.2 : Nat)] ∧ Sub ((p, penO c k m) :: (c, celO ns) :: R) L ∧ (q, HO.lst zs) ∈ R ∧ Reps (PlAt R) zs ws ∧ 1 ≤ ws.length ∧ ws.length ≤ 3 ∧ (∀ d ∈ ws, WhOk d) ∧ n.1 ≤ 8 ∧ n.2.1 ≤ 8 ∧ n.2.2 ≤ 8 ∧
  ∀ (x : Addr) (R' : Lg), (∀ e ∈ R, e ∈ R') → MtL K Y gP gL R' x n ws → Q (.ref x) ((p, penO c k m) :: (c, celO ns) :: R')
theorem fn_law_meter (B : Bi mg) (F : Df K mg "_law_meter" s_law_meter) (Z : Mks P w K mg base Y Ce fD fG fM g gP gL) (D1 : Fn P w K mg base CX0 "_law_wheel" 7 (spOf K Y gP gL)) : Fn P w K mg base CX0 "_law_meter" 8 (spMeterL K Y gP gL) := by
  refine fn_plain F sc_law_meter (fun _ _ _ _ _ _ us hl => match us, hl with | [_, _, _, _], _ => rfl) (by decide) (by tm_at "g_len") ?_
  intro X f cdv A outer s H E0 L vs Q E hX nd hr h
  subst hX
  obtain ⟨a, p, c, ⟨o, mo, lo⟩, zs, ws, ns, k, m, R, rfl, sb, ma, rp, m1, m3, mok, o8, mo8, l8, q⟩ := h
  dsimp only at o8 mo8 l8
  have lz := rp.len
  refine (fun h => GSs.sub sb h) ?_
  show GSs _ (defBody s_law_meter) (bodyD Q) [("_law_plains", some (.ref a)), ("_law_off_here", some (.int (o : Nat))), ("_law_more", some (.int (mo : Nat))), ("_law_lost", some (.int (lo : Nat))), ("_law_some", none), ("_law_plain", none)] _
  refine gss_nd fun ndL => ?_
  refine gss_cons ?_
  refine gs_lcR (by tm_at "g_put") (by tm_at "g_put") (gi_list ?_) (show blkC N_law_meter (defScope s_law_meter) _ [(_, List.idxOf _ N_law_meter)] = true by decide +kernel)
  tm_at "g"
  refine ⟨WhD, WhAtL K Y gP gL, fun i => ws.getD i (false, 0, 0, 0), whlMono, by dsimp only; omega, fun M s => s _ (memS (memS ma)), ?_, ?_⟩
  · intro D i x E1 zs2 R2 hi ⟨hx, hE⟩ hR nd2
    subst hE
    obtain ⟨wd, hw, b, rfl, mb⟩ := rp.get hx
    have ed : ws.getD i (false, 0, 0, 0) = wd := by rw [List.getD_eq_getElem?_getD, hw]; rfl
    show EltR _ _ _ _ _ _ _ (ws.getD i (false, 0, 0, 0)) _ _
    rw [ed]
    intro s1 H1 C1 cl1 fp1
    have mb2 := hR _ (memS (memS mb))
    tm_at "g"
    refine ge_call (El := NoX) D1 hr passA ?_
    tm_at "g"
    refine ⟨b, wd, rfl, by tm_at "g_mem", mok wd (List.mem_of_getElem? hw), fun x C dx wk => ?_⟩
    exact ⟨(x, wO C dx (.int (wd.2.1 : Nat)) (.int (wd.2.2.1 : Nat)) (.int (wd.2.2.2 : Nat))) :: (dx, HO.own x) :: R2, by first | exact Sub.perm (List.perm_middle (l₁ := [_, _])) | exact Sub.perm (List.perm_middle (l₁ := [_, _])).symm, fun e he => memS (memS he), x, C, dx, rfl, mem0, wk⟩
  intro D zs2 R2 up rp2
  have e2 : (List.range zs.length).map (fun i => ws.getD i (false, 0, 0, 0)) = ws := by
    refine List.ext_getElem? fun i => ?_
    rw [List.getElem?_map, lz]
    by_cases c : i < ws.length
    · rw [List.getElem?_range c, Option.map_some, List.getD_eq_getElem?_getD, List.getElem?_eq_getElem c]
      rfl
    · rw [List.getElem?_eq_none (by rw [List.length_range]; omega), List.getElem?_eq_none (by omega)]
      rfl
  rw [e2] at rp2
  have l2 := rp2.len
  show GSs _ _ _ _ _
  refine gss_nd fun nd3 => ?_
  have nfF : (([(p, penO c k m), (c, celO ns), (D, HO.lst zs2)] ++ R).map (·.1)).Nodup := by
    have h1 := List.nodup_cons.mp ndL
    have h2 := List.nodup_cons.mp h1.2
    have h3 : ∀ e ∈ (p, penO c k m) :: (c, celO ns) :: R, e.1 ≠ D := fun e he z => (List.nodup_cons.mp nd3).1 (by show D ∈ _; rw [← z]; exact List.mem_map_of_mem (up _ he))
    refine List.nodup_cons.mpr ⟨fun hm => ?_, List.nodup_cons.mpr ⟨fun hm => ?_, List.nodup_cons.mpr ⟨fun hm => ?_, h2.2⟩⟩⟩
    · rcases List.mem_cons.mp hm with e | hm
      · exact h1.1 (List.mem_cons.mpr (.inl e))
      rcases List.mem_cons.mp hm with e | hm
      · exact h3 _ mem0 e
      · exact h1.1 (List.mem_cons.mpr (.inr hm))
    · rcases List.mem_cons.mp hm with e | hm
      · exact h3 _ (memS mem0) e
      · exact h2.1 hm
    · obtain ⟨e, he, ee⟩ := List.mem_map.mp hm
      exact h3 e (memS (memS he)) ee
  obtain ⟨R3, sb3, uR, uN⟩ := outF (F := [(p, penO c k m), (c, celO ns), (D, HO.lst zs2)]) (R := R) nd3 nfF (fun e he => by
    rcases List.mem_append.mp he with he | he
    · simp only [List.mem_cons, List.not_mem_nil, or_false] at he
      rcases he with rfl | rfl | rfl
      · exact memS (up _ mem0)
      · exact memS (up _ (memS mem0))
      · exact mem0
    · exact memS (up _ (memS (memS he)))) (fun e he => by
    simp only [List.mem_cons, List.not_mem_nil, or_false] at he
    rcases he with rfl | rfl | rfl <;> exact ⟨_, rfl⟩)
  have rp3 : Reps (WhAtL K Y gP gL R3) zs2 ws := rp2.imp fun v d ⟨x, C, dx, e, mx, wl⟩ => ⟨x, C, dx, e, uN _ (memS mx) (fun xs z => nomatch z), wl⟩
  have rpK : Reps (WhAt K Y R3) zs2 ws := rp3.imp fun v d z => z.at_
  refine (fun h => GSs.sub sb3 h) ?_
  dsimp only [List.cons_append, List.nil_append]
  clear sb3 uN rp2 up nd3 nfF
  have fin : ∀ (x dx wt : Addr) (L0 : Lg), (∀ e ∈ R3, e ∈ L0) → MtL K Y gP gL ((x, mtO Y.CM dx wt (o, mo, lo)) :: (wt, HO.tup zs2) :: (dx, .own x) :: L0) x (o, mo, lo) ws := fun x dx wt L0 h0 => ⟨dx, wt, zs2, mem0, memS mem0, rp3.imp fun v d z => whlMono _ _ _ _ (fun e he => memS (memS (memS (h0 _ he)))) z⟩
  tm_at "g"
  refine ite_d (fun c3 => ?_) (fun c3 => ?_)
  · tm_at "g"
    refine ite_d (fun c1 => ?_) (fun c1 => ?_)
    · have c1 : zs2.length = 1 := by omega
      obtain ⟨v1, rfl⟩ : ∃ v1, zs2 = [v1] := by
        match zs2, c1 with
        | [v1], _ => exact ⟨_, rfl⟩
      tm_at "g"
      refine ge_kw (n := 1) Z.hC Z.M0.kp (fun _ => gf_make (args := argsK 1 ["off", "more", "lost"]) (El := NoX) Z.M0 (Z.TI.three 2) (fun _ _ => rfl) hr passA) ?_
      tm_at "g"
      refine ⟨rfl, mk_three Z.W.c rfl rfl (n := (o, mo, lo)) (rpK.imp fun v a h => whMono _ _ _ _ (fun e he => memS (memS (memS he))) h) m1 (by omega) ⟨o8, mo8, l8⟩ fun x1 d1 wt1 => ?_⟩
      refine ⟨_, ?_, q x1 _ (fun e he => memS (memS (memS (uR e he)))) (fin x1 d1 wt1 R3 fun _ h => h)⟩
      exact sub_rot (E := [_, _, _]) (F := [_, _]) (G := [_])
    have c2 : zs2.length = 2 := by omega
    obtain ⟨v1, v2, rfl⟩ : ∃ v1 v2, zs2 = [v1, v2] := by
      match zs2, c2 with
      | [v1, v2], _ => exact ⟨_, _, rfl⟩
    tm_at "g"
    refine ge_kw (n := 2) Z.hC Z.M0.kp (fun _ => gf_make (args := argsK 2 ["off", "more", "lost"]) (El := NoX) Z.M0 (Z.TI.three 3) (fun _ _ => rfl) hr passA) ?_
    tm_at "g"
    refine ⟨rfl, mk_three Z.W.c rfl rfl (n := (o, mo, lo)) (rpK.imp fun v a h => whMono _ _ _ _ (fun e he => memS (memS (memS he))) h) m1 (by omega) ⟨o8, mo8, l8⟩ fun x1 d1 wt1 => ?_⟩
    refine ⟨_, ?_, q x1 _ (fun e he => memS (memS (memS (uR e he)))) (fin x1 d1 wt1 R3 fun _ h => h)⟩
    exact sub_rot (E := [_, _, _]) (F := [_, _]) (G := [_])
  · have c3 : zs2.length = 3 := by omega
    obtain ⟨v1, v2, v3, rfl⟩ : ∃ v1 v2 v3, zs2 = [v1, v2, v3] := by
      match zs2, c3 with
      | [v1, v2, v3], _ => exact ⟨_, _, _, rfl⟩
    tm_at "g"
    refine ge_kw (n := 3) Z.hC Z.M0.kp (fun _ => gf_make (args := argsK 3 ["off", "more", "lost"]) (El := NoX) Z.M0 (Z.TI.three 4) (fun _ _ => rfl) hr passA) ?_
    tm_at "g"
    refine ⟨rfl, mk_three Z.W.c rfl rfl (n := (o, mo, lo)) (rpK.imp fun v a h => whMono _ _ _ _ (fun e he => memS (memS (memS he))) h) m1 (by omega) ⟨o8, mo8, l8⟩ fun x1 d1 wt1 => ?_⟩
    refine ⟨_, ?_, q x1 _ (fun e he => memS (memS (memS (uR e he)))) (fin x1 d1 wt1 R3 fun _ h => h)⟩
    exact sub_rot (E := [_, _, _]) (F := [_, _]) (G := [_])
end
def isOff (ws : List WhD) (e : Ent) (i : Nat) : Bool := (e.2.getD i none).isSome && !(letsB (((ws.getD i (false, 1, 0, 0)).2.1 : Nat)) (((ws.getD i (false, 1, 0, 0)).2.2.1 : Nat)) (((ws.getD i (false, 1, 0, 0)).2.2.2 : Nat)) e.1 ((e.2.getD i none).getD 0))
def offUp (ws : List WhD) (e : Ent) (k : Nat) : List Int := ((List.range k).filter (isOff ws e)).map fun i : Nat => (i : Int)
theorem offUp_all {ws : List WhD} {e : Ent} (h : e.2.length = ws.length) : offUp ws e ws.length = offPl ws e := by
  unfold offUp offPl
  rw [h, Nat.min_self]
  rfl
theorem offUp_succ {ws : List WhD} {e : Ent} {k : Nat} : offUp ws e (k + 1) = offUp ws e k ++ if isOff ws e k = true then [(k : Int)] else [] := by
  unfold offUp
  rw [List.range_succ, List.filter_append, List.map_append]
  by_cases h : isOff ws e k = true
  · rw [if_pos h, List.filter_cons_of_pos h]
    rfl
  · rw [if_neg h, List.filter_cons_of_neg h]
    rfl
theorem offUp_len {ws : List WhD} {e : Ent} {k : Nat} : (offUp ws e k).length ≤ k := by
  unfold offUp
  rw [List.length_map]
  exact Nat.le_trans (List.length_filter_le _ _) (by rw [List.length_range]; exact Nat.le_refl _)
theorem perM_get {ws : List WhD} {n : Nat × Nat × Nat} {i : Nat} {wd : WhD} (h : ws[i]? = some wd) : (perM (ws, n))[i]? = some ((wd.2.1 : Nat) : Int) := by
  unfold perM
  rw [List.getElem?_map, h]
  rfl
section
variable {P : Program} {w : World} {K : PySem.W.Frag} {mg : Str → Option Value} {base : Heap}
def spOffL : SpL := fun vs L Q _ => ∃ (q : Addr) (zs : List V) (ws : List WhD) (n : Nat × Nat × Nat) (v2 : V) (e : Ent), vs = [.ref q, v2] ∧ (q, HO.lst zs) ∈ L ∧ Reps (PlAt L) zs ws ∧ ws.length ≤ 8 ∧ (∀ d ∈ ws, WhOk d) ∧ EntAt L v2 e ∧ EntOk (perM (ws, n)) e ∧ ∀ t M, Sub L M → Q (.ref t) ((t, .tup ((offPl ws e).map V.int)) :: M)
theorem fn_law_off (B : Bi mg) (F : Df K mg "_law_off" s_law_off) : Fn P w K mg base CX0 "_law_off" 1 spOffL := by
  refine fn_plain F sc_law_off (fun _ _ _ _ _ _ us hl => match us, hl with | [_, _], _ => rfl) (by decide) (by tm_at "g_len") ?_
  intro X f cdv A outer s H E0 L vs Q E hX nd hr h
  subst hX
  obtain ⟨q, zs, ws, n, v2, e, rfl, mq, rp, l8, ok, ⟨t2, m2, o2, rfl, g1, g2, g3⟩, ⟨v0, v1, ml, mok⟩, qq⟩ := h
  have lz := rp.len
  have le : e.2.length = ws.length := by rw [ml]; unfold perM; rw [List.length_map]
  show GSs _ (defBody s_law_off) (bodyD Q) [("_law_plains", some (.ref q)), ("_law_entry", some (.ref t2)), ("_law_found", none), ("_law_at", none), ("_law_plain", none), ("_law_mark", none)] _
  refine gss_cons ?_
  tm_at "g"
  rename_i f0
  refine gs_for (gi_enumO (o := .lst zs) (xs := zs) (.inl rfl) ?_ B.enumerate)
  tm_at "g"
  refine ⟨memS mq, fun i θ N => ∃ u v x, θ = ([("_law_plains", some (.ref q)), ("_law_entry", some (.ref t2)), ("_law_found", some (.ref f0)), ("_law_at", u), ("_law_plain", v), ("_law_mark", x)] : En) ∧ Sub ((f0, HO.lst ((offUp ws e i).map V.int)) :: L) N, ⟨none, none, none, rfl, Sub.refl⟩, fun i θ M _ nd ⟨_, _, _, _, sb⟩ => (sb.to nd).2 _ (memS mq), ?_, ?_⟩
  · rintro i x E1 θ N hi ⟨t, a, b, rfl, rfl, ea, eb⟩ ⟨u1, u2, u3, rfl, sb⟩
    cases ea
    have eb : zs[i]? = some b := eb
    obtain ⟨wd, hw, b, rfl, mb⟩ := rp.get eb
    have hi' : i < ws.length := (List.getElem?_eq_some_iff.mp hw).1
    obtain ⟨p0, p1, b1, h1, -⟩ := ok wd (List.mem_of_getElem? hw)
    have ed : ws.getD i (false, 1, 0, 0) = wd := by rw [List.getD_eq_getElem?_getD, hw]; rfl
    have lo := offUp_len (ws := ws) (e := e) (k := i)
    refine GG.sub (Sub.cons sb) ?_
    refine gg_tup mem0 ?_
    have am := at_mk (ms := e.2) (j := i) (by omega)
    have eo := offUp_succ (ws := ws) (e := e) (k := i)
    unfold isOff at eo
    rw [ed] at eo
    cases hm : e.2.getD i none with
    | none =>
      rw [hm] at am eo
      rw [show mkO none = V.non from rfl] at am
      rw [show ((none : Option Int).isSome && !(letsB (((wd.2.1 : Nat))) (((wd.2.2.1 : Nat))) (((wd.2.2.2 : Nat))) e.1 ((none : Option Int).getD 0))) = false from rfl, if_neg (by decide), List.append_nil] at eo
      tm_at "g"
      refine gi_row g2 (memS (memS g3)) am ?_
      tm_at "g"
      rw [eo]
      exact Sub.drop
    | some y =>
      rw [hm] at am eo
      rw [show mkO (some y) = V.int y from rfl] at am
      obtain ⟨y0, y1⟩ := mok i y _ (by rw [List.getD_eq_getElem?_getD] at hm; cases h : e.2[i]? with
        | none => rw [h] at hm; cases hm
        | some z => rw [h] at hm; exact congrArg some hm) (perM_get hw)
      tm_at "g"
      refine gi_row g2 (memS (memS g3)) am ?_
      tm_at "g"
      refine go_mod (by omega) ?_
      tm_at "g"
      have el : ((some y).isSome && !letsB (((wd.2.1 : Nat) : Int)) (((wd.2.2.1 : Nat) : Int)) (((wd.2.2.2 : Nat) : Int)) e.1 ((some y).getD 0)) = decide (((wd.2.2.1 : Nat) : Int) + ((wd.2.2.2 : Nat) : Int) < (y - e.1 + ((wd.2.2.1 : Nat) : Int)) % ((wd.2.1 : Nat) : Int)) := by
        show (true && !(decide (0 ≤ y) && decide (y < _) && decide (_ ≤ _))) = _
        rw [decide_eq_true y0, decide_eq_true y1, Bool.true_and, Bool.true_and, Bool.true_and, ← decide_not, decide_eq_decide, Int.not_le]
        exact Iff.rfl
      rw [el] at eo
      refine ite_d (fun z => ?_) (fun z => ?_)
      · rw [decide_eq_true z, if_pos rfl] at eo
        tm_at "g"
        rw [eo, List.map_append]
        exact Sub.drop
      · rw [decide_eq_false z, if_neg (by decide), List.append_nil] at eo
        tm_at "g"
        rw [eo]
        exact Sub.drop
  · rintro θ N ⟨u, v, x, rfl, sb⟩
    refine (fun h => GSs.sub sb h) ?_
    clear sb
    tm_at "g"
    refine gc_tupL mem0 fun t => ?_
    rw [show zs.length = ws.length from lz, offUp_all le]
    exact ⟨_, Sub.refl, qq t _ Sub.drop⟩
/-- misread, by the law -/
def spMisL : SpL := fun vs L Q _ => ∃ (q : Addr) (zs : List V) (ws : List WhD) (n : Nat × Nat × Nat) (v2 : V) (e : Ent), vs = [.ref q, v2, .int (n.1 : Nat), .int (n.2.1 : Nat), .int (n.2.2 : Nat)] ∧ (q, HO.lst zs) ∈ L ∧ Reps (PlAt L) zs ws ∧ ws.length ≤ 8 ∧ (∀ d ∈ ws, WhOk d) ∧ EntAt L v2 e ∧ EntOk (perM (ws, n)) e ∧ ∀ M, Sub L M → Q (.bl (misB ws n e)) M
theorem filt_any {α : Type} {xs : List α} {f : α → Bool} : decide (xs.filter f ≠ []) = xs.any f := by
  induction xs with
  | nil => rfl
  | cons a l ih =>
    by_cases h : f a = true
    · rw [List.filter_cons_of_pos h, List.any_cons, h]
      rfl
    · rw [List.filter_cons_of_neg h, List.any_cons, ih, Bool.eq_false_iff.mpr h]
      rfl
theorem fn_law_is_misread (B : Bi mg) (F : Df K mg "_law_is_misread" s_law_is_misread) (D1 : Fn P w K mg base CX0 "_law_off" 1 spOffL) : Fn P w K mg base CX0 "_law_is_misread" 2 spMisL := by
  refine fn_plain F sc_law_is_misread (fun _ _ _ _ _ _ us hl => match us, hl with | [_, _, _, _, _], _ => rfl) (by decide) (by tm_at "g_len") ?_
  intro X f cdv A outer s H E0 L vs Q E hX nd hr h
  subst hX
  obtain ⟨q, zs, ws, n, v2, e, rfl, mq, rp, l8, ok, ae, oke, qq⟩ := h
  obtain ⟨t2, m2, o2, rfl, g1, g2, g3⟩ := id ae
  have lz := rp.len
  have le : e.2.length = ws.length := by rw [oke.2.2.1]; unfold perM; rw [List.length_map]
  have lo := lost_len (e := e)
  have lof := offp_len (ws := ws) (e := e)
  show GSs _ (defBody s_law_is_misread) (bodyD Q) [("_law_plains", some (.ref q)), ("_law_entry", some (.ref t2)), ("_law_off_here", some (.int (n.1 : Nat))), ("_law_more", some (.int (n.2.1 : Nat))), ("_law_lost", some (.int (n.2.2 : Nat))), ("_law_away", none), ("_law_gone", none), ("_law_at", none)] _
  refine gss_cons ?_
  tm_at "g"
  refine ge_call (El := NoX) D1 hr passA ?_
  tm_at "g"
  refine ⟨q, zs, ws, n, .ref t2, e, rfl, mq, rp, l8, ok, ae, oke, fun t M sM => ?_⟩
  show GA _ _ _ _ _
  refine GAsubc (Sub.cons sM) ?_
  clear sM
  tm_at "g"
  refine ge_lcP (by tm_at "g_put") (gi_range1 ?_ B.range) (show blkC N_law_is_misread (defScope s_law_is_misread) _ [(_, List.idxOf _ N_law_is_misread)] = true by decide +kernel)
  tm_at "g"
  refine ⟨⟨by omega, by omega⟩, ?_⟩
  refine pure_fn (n := ((zs.length : Nat) : Int).toNat) (h := fun i => .int (i : Nat)) (p := fun i => (e.2.getD i none).isNone) (g := fun i => .int (i : Nat)) (by omega) (fun i hi D acc s1 H1 C1 cl1 fp1 => ?_) fun D => ?_
  · have am := at_mk (ms := e.2) (j := i) (by omega)
    show GT _ _ _ _ _
    cases hm : e.2.getD i none with
    | none =>
      rw [hm, show mkO none = V.non from rfl] at am
      tm_at "g"
      refine gi_row g2 (memS (memS g3)) am ?_
      tm_at "g"
      refine ⟨rfl, Sub.refl, fun _ s2 H2 C2 cl2 fp2 => ?_⟩
      tm_at "g"
      exact ⟨rfl, Sub.refl⟩
    | some y =>
      rw [hm, show mkO (some y) = V.int y from rfl] at am
      tm_at "g"
      refine gi_row g2 (memS (memS g3)) am ?_
      tm_at "g"
      exact ⟨rfl, Sub.refl, fun z => nomatch z⟩
  rw [show ((List.range ((zs.length : Nat) : Int).toNat).filter fun i => (e.2.getD i none).isNone).map (fun i => V.int (i : Nat)) = (lostPl e).map V.int by
    unfold lostPl
    rw [List.map_map, Int.toNat_natCast, lz, ← le]
    rfl]
  tm_at "g"
  refine ge_lcP (by tm_at "g_put") (gi_list ?_) (show blkC N_law_is_misread (defScope s_law_is_misread) _ [(_, List.idxOf _ N_law_is_misread)] = true by decide +kernel)
  tm_at "g"
  refine gc_listT (by tm_at "g_mem") fun D2 => ?_
  tm_at "g"
  refine go_cat (by tm_at "g_mem") (by tm_at "g_mem") (szL (by rw [List.length_map, List.length_map]; omega)) fun D3 => ?_
  rw [← List.map_append]
  refine ⟨D3, _, rfl, mem0, ?_⟩
  generalize hz : lostPl e ++ offPl ws e = xs
  have lx : xs.length ≤ 16 := by rw [← hz, List.length_append]; omega
  have rz : ∀ i ∈ xs, ∃ k : Nat, i = k ∧ k < ws.length := fun i hi => by
    rw [← hz] at hi
    rcases List.mem_append.mp hi with h | h
    · obtain ⟨k, e1, e2⟩ := lost_rng i h
      exact ⟨k, e1, by omega⟩
    · obtain ⟨k, e1, e2⟩ := offp_rng i h
      exact ⟨k, e1, by omega⟩
  refine pure_rowO (t := fun v => match v with | .int i => trAt ws i | _ => false) (g := fun v => v) mem0 (by rw [List.length_map]; omega) (fun v hv D4 acc s1 H1 C1 cl1 fp1 => ?_) fun D4 => ?_
  · obtain ⟨i, hi, rfl⟩ := List.mem_map.mp hv
    obtain ⟨k, rfl, hk⟩ := rz i hi
    obtain ⟨wd, hw, b, eb, mb⟩ := rp.get (List.getElem?_eq_getElem (show k < zs.length by omega))
    have ez : atI zs (k : Int) = some (.ref b) := atI_nat (by rw [List.getElem?_eq_getElem (show k < zs.length by omega), eb])
    have et : trAt ws (k : Int) = wd.1 := by
      unfold trAt
      rw [Int.toNat_natCast, List.getD_eq_getElem?_getD, hw]
      rfl
    show GT _ _ _ _ _
    dsimp only
    rw [et]
    tm_at "g"
    refine gi_lst (by tm_at "g_mem") ez ?_
    tm_at "g"
    refine ⟨rfl, Sub.refl, fun _ s2 H2 C2 cl2 fp2 => ?_⟩
    tm_at "g"
    exact ⟨rfl, Sub.refl⟩
  tm_at "g"
  refine go_neNil hr (memS mem0) mem0 ?_
  have ea : decide (((xs.map V.int).filter fun v => match v with | .int i => trAt ws i | _ => false).map (fun v => v) ≠ []) = xs.any (trAt ws) := by
    rw [List.map_id', filt_any, List.any_map]
    rfl
  rw [ea]
  have em : misB ws n e = (xs.any (trAt ws) || (decide ((n.2.2 : Int) < ((lostPl e).length : Nat)) || decide (((n.1 : Int) + (n.2.1 : Int)) < ((offPl ws e).length : Nat)))) := by rw [← hz]; rfl
  rw [em] at qq
  tm_at "g"
  refine ite_b (fun z => ?_) (fun z => ?_)
  · rw [z, Bool.true_or] at qq
    tm_at "g"
    exact ⟨_, Sub.refl, qq _ (by tm_at "g_end")⟩
  rw [z, Bool.false_or] at qq
  tm_at "g"
  rw [List.length_map]
  refine ite_b (fun z2 => ?_) (fun z2 => ?_)
  · rw [z2, Bool.true_or] at qq
    exact ⟨_, Sub.refl, qq _ (by tm_at "g_end")⟩
  rw [z2, Bool.false_or] at qq
  tm_at "g"
  rw [List.length_map]
  exact ⟨_, Sub.refl, qq _ (by tm_at "g_end")⟩
end
abbrev tiD (T : List (List Int)) : PyData := .list (T.map fun x => .tuple (x.map PyData.int))
theorem depth_ti : ∀ T : List (List Int), PyData.depthAll (T.map fun x => PyData.tuple (x.map PyData.int)) ≤ 2
  | [] => by simp [PyData.depthAll]
  | t :: T => by
    have e := depth_ti T
    have a := depthInts t
    simp [PyData.depthAll, PyData.depth, a]
    omega
theorem lay_ti : ∀ T : List (List Int), PyData.canLayAll0 (T.map fun x => PyData.tuple (x.map PyData.int)) = true
  | [] => by simp [PyData.canLayAll0]
  | t :: T => by
    have e := lay_ti T
    have a := layInts t
    simp [PyData.canLayAll0, PyData.canLay0, e, a]
theorem shaped_ti (T : List (List Int)) : SeqAt.shaped (tiD T) = true := by
  have a := depth_ti T
  have b := lay_ti T
  simp [SeqAt.shaped, PyData.canLay0, PyData.depth, tiD, b]
  omega
theorem eqv_tis : ∀ T : List (List Int), PyData.eqvAll (T.map fun x => PyData.tuple (x.map PyData.int)) (T.map fun x => PyData.tuple (x.map PyData.int)) = true
  | [] => by simp [PyData.eqvAll]
  | t :: T => by
    have e := eqv_tis T
    have a := eqvInts t t
    simp [PyData.eqvAll, PyData.eqv, e, a]
theorem eqv_ti (T : List (List Int)) : PyData.eqv (tiD T) (tiD T) = true := by
  have e := eqv_tis T
  simp [PyData.eqv, tiD, e]
theorem eqvTT (ns : List Int) : PyData.eqv (.tuple (ns.map PyData.int)) (.tuple (ns.map PyData.int)) = true := by
  have a := eqvInts ns ns
  simp [PyData.eqv, a]
theorem dls_off {ws : List WhD} {L : Lg} : ∀ {zs : List V} {es : List Ent}, Reps (OffAt ws L) zs es → Dls L zs ((es.map (offPl ws)).map fun x => PyData.tuple (x.map PyData.int))
  | _, _, .nil => dls_nil
  | _, _, .cons ⟨_, rfl, m⟩ r => dls_cons (dl_tup m dls_ints) (dls_off r)
theorem dl_off {ws : List WhD} {L : Lg} {q : Addr} {zs : List V} {es : List Ent} (m : (q, HO.lst zs) ∈ L) (r : Reps (OffAt ws L) zs es) : Dl L (.ref q) (tiD (es.map (offPl ws))) := dl_lst m (dls_off r)
def spRight (k : Int) : SpL := fun vs L Q _ => ∃ (p c : Addr) (ns : List Int) (n m : Int) (R : Lg), vs = [.ref p] ∧ Sub ((p, penO c n m) :: (c, celO ns) :: R) L ∧ ns.length ≤ 63 ∧ 0 ≤ n ∧ n + k + 10 ≤ 100000 ∧ 0 ≤ m ∧
  ∀ n' m', 0 ≤ n' → n' ≤ n + k → 0 ≤ m' → Q (.bl true) ((p, penO c n' m') :: (c, celO ns) :: R)
theorem LogOk.row {K : PySem.W.Frag} {Y : WPar} {gP gL : Addr} {L : Lg} {a dx wt q q' : Addr} {n : Nat × Nat × Nat} {wz : List V} {ws : List WhD} {oq oq' : HO} {xs : List V} {es : List Ent} (h : LogOk K Y gP gL L a dx wt q n wz ws oq xs es) (ro : RowO oq' xs) (m : (q', oq') ∈ L) : LogOk K Y gP gL L a dx wt q' n wz ws oq' xs es :=
  ⟨h.ma, h.mw, h.rp, h.l8, h.p1, ro, m, h.re, h.ok, h.hl⟩
theorem ga_nd {X : Cx} {es : List Expr} {η : En} {L : Lg} {Q : List V → Lg → Prop} (h : (L.map (·.1)).Nodup → GA X es η L Q) : GA X es η L Q := fun hN H hH => h hH.1 hN H hH
section
variable {P : Program} {w : World} {K : PySem.W.Frag} {mg : Str → Option Value} {base : Heap} {Y : WPar} {gP gL : Addr}
theorem fn_law_log_right (B : Bi mg) (F : Df K mg "_law_log_right" s_law_log_right) (D0 : Fn P w K mg base CX0 "_law_wheels" 3 spWheels) (D1 : Fn P w K mg base CX0 "_law_pick" 2 spPick) (D2 : Fn P w K mg base CX0 "_law_meter" 8 (spMeterL K Y gP gL)) (D3 : Fn P w K mg base CX0 "_law_entries" 3 spEntries)
    (D4 : Fn P w K mg base CX0 "wheels_off" 8 (spOffs K Y gP gL)) (D5 : FnA P w K mg base CX0 "wheels_off" 8 (argsK 0 ["entries", "meter"]) (fun vs => spOffs K Y gP gL (sw2 vs))) (D6 : Fn P w K mg base CX0 "misread" 9 (spMis K Y gP gL)) (D7 : FnA P w K mg base CX0 "misread" 9 (argsK 0 ["entries", "meter"]) (fun vs => spMis K Y gP gL (sw2 vs)))
    (D8 : Fn P w K mg base CX0 "_law_off" 1 spOffL) (D9 : Fn P w K mg base CX0 "_law_is_misread" 2 spMisL) : Fn P w K mg base CX0 "_law_log_right" 10 (spRight 160) := by
  refine fn_plain F sc_law_log_right (fun _ _ _ _ _ _ us hl => match us, hl with | [_], _ => rfl) (by decide) (by tm_at "g_len") ?_
  intro X f cdv A outer s H E0 L vs Q E hX nd hr h
  subst hX
  obtain ⟨p, c, ns, n, m, R, rfl, sb, h63, n0, n1, m0, q⟩ := h
  refine (fun h => GSs.sub sb h) ?_
  show GSs _ (defBody s_law_log_right) (bodyD Q) [("_law_pen_here", some (.ref p)), ("_law_plains", none), ("_law_numbers", none), ("_law_meter_here", none), ("_law_entries_here", none), ("_law_told", none), ("_law_wrong", none), ("_law_turn", none), ("_law_entry", none), ("_law_at", none)] _
  refine gss_nd fun ndR => ?_
  refine gss_cons ?_
  tm_at "g"
  refine ge_call (El := NoX) D0 hr passA ?_
  tm_at "g"
  refine ⟨p, c, ns, n, m, _, rfl, Sub.refl, h63, n0, by omega, m0, fun fp zs ws R1 n2 m2 sR1 rz l1 l3 hok a0 a1 a2 => ?_⟩
  have lzw := rz.len
  show GA _ _ _ _ _
  tm_at "g"
  refine GE.nd ?_
  refine GE.imp (Q := drp fun v M => ∃ (D : Addr) (x y z : Nat) (n' m' : Int), v = .ref D ∧ M = (D, HO.lst [.int (x : Nat), .int (y : Nat), .int (z : Nat)]) :: (p, penO c n' m') :: (c, celO ns) :: (fp, HO.lst zs) :: R1 ∧ x ≤ 1 ∧ y ≤ 1 ∧ z ≤ 1 ∧ 0 ≤ n' ∧ n' ≤ n + 22 ∧ 0 ≤ m') ?_ ?_
  · refine ge_lc1 (by tm_at "g_put") (gi_range1 ?_ B.range) (show blkC N_law_log_right (defScope s_law_log_right) _ [(_, List.idxOf _ N_law_log_right)] = true by decide +kernel)
    tm_at "g"
    refine ⟨by omega, fun D => ?_⟩
    refine lc_drawsM (k := 1) (R := (fp, HO.lst zs) :: R1) (fun j => 0 ≤ j ∧ j ≤ 1) (by omega) (by tm_at "g_rot") a0 a2 (by decide) (by omega) (fun i hi n m R' hR b0 b1 b2 s1 H1 C1 cl1 fp1 => ?_) fun q1 os n8 m8 hl ho l0 l1 l2 => ?_
    · tm_at "g"
      refine ge_call (El := NoX) D1 hr passA ?_
      tm_at "g"
      tm_at "g_pk"
      intro k6 x6 n9 m9 hx6 i0 i1 i2
      obtain ⟨vl, hvl, rfl⟩ := pick_int (is := [0, 0, 1]) hx6
      have hv : 0 ≤ vl ∧ vl ≤ 1 := by
        simp only [List.mem_cons, List.not_mem_nil, or_false] at hvl
        omega
      exact ⟨vl, n9, m9, rfl, hv, i0, by omega, i2, by tm_at "g_end"⟩
    · have hl : os.length = 3 := hl
      obtain ⟨x, y, z, rfl⟩ : ∃ x y z : Int, os = [x, y, z] := by
        match os, hl with
        | [x, y, z], _ => exact ⟨x, y, z, rfl⟩
      obtain ⟨x0, x1⟩ := ho x (by simp)
      obtain ⟨y0, y1⟩ := ho y (by simp)
      obtain ⟨z0, z1⟩ := ho z (by simp)
      obtain ⟨x, rfl⟩ : ∃ k : Nat, x = k := ⟨x.toNat, by omega⟩
      obtain ⟨y, rfl⟩ : ∃ k : Nat, y = k := ⟨y.toNat, by omega⟩
      obtain ⟨z, rfl⟩ : ∃ k : Nat, z = k := ⟨z.toNat, by omega⟩
      exact ⟨q1, x, y, z, n8, m8, rfl, rfl, by omega, by omega, by omega, l0, by omega, l2⟩
  rintro v M ⟨M0, sM, D, x, y, z, n3, m3, rfl, rfl, x1, y1, z1, b0, b1, b2⟩ ndM
  show GA _ _ _ _ _
  refine GAsubc sM ?_
  have ndR1 := (List.nodup_cons.mp (List.nodup_cons.mp (List.nodup_cons.mp (List.nodup_cons.mp (sM.to ndM).1).2).2).2).2
  have upR := (sR1.to ndR1).2
  clear sM ndM
  tm_at "g"
  refine ge_call (El := NoX) D2 hr passA ?_
  tm_at "g"
  refine ⟨fp, p, c, (x, y, z), zs, ws, ns, n3, m3, (D, HO.lst [.int (x : Nat), .int (y : Nat), .int (z : Nat)]) :: (fp, HO.lst zs) :: R1, rfl, Sub.trans rot3' Sub.drop, memS mem0, rz.imp fun v a z => plMono _ _ _ _ (fun _ h => memS (memS h)) z, l1, l3, hok, by dsimp only; omega, by dsimp only; omega, by dsimp only; omega, fun a R2 up2 mt => ?_⟩
  have hper : ∀ x ∈ ws.map fun w => ((w.2.1 : Nat) : Int), PerOk x := fun x hx => by
    obtain ⟨wd, hw, rfl⟩ := List.mem_map.mp hx
    obtain ⟨p0, p1, -⟩ := hok wd hw
    exact ⟨by omega, by omega⟩
  tm_at "g"
  refine ge_call (El := NoX) D3 hr passA ?_
  tm_at "g"
  have rz2 : Reps (PlAt R2) zs ws := rz.imp fun v a z => plMono _ _ _ _ (fun _ h => up2 _ (memS (memS h))) z
  have mf2 : (fp, HO.lst zs) ∈ R2 := up2 _ (memS mem0)
  refine ⟨p, c, fp, ns, zs, _, n3, m3, R2, rfl, Sub.refl, mf2, pl_pv rz2, by rw [List.length_map]; exact l3, hper, h63, b0, by omega, b2, fun f1 xs es R3 n4 m4 sR3 rx le ok c0 c1 c2 => ?_⟩
  show GA _ _ _ _ _
  refine ga_nd fun nd3 => ?_
  have ndR3 := (List.nodup_cons.mp (List.nodup_cons.mp (List.nodup_cons.mp nd3).2).2).2
  have up3 := (sR3.to ndR3).2
  have upA : ∀ e ∈ R, e ∈ R3 := fun e he => up3 _ (up2 _ (memS (memS (upR e he))))
  have mf3 : (fp, HO.lst zs) ∈ R3 := up3 _ mf2
  have mD3 : (D, HO.lst [V.int (x : Nat), V.int (y : Nat), V.int (z : Nat)]) ∈ R3 := up3 _ (up2 _ mem0)
  have rz3 : Reps (PlAt R3) zs ws := rz2.imp fun v a z => plMono _ _ _ _ up3 z
  obtain ⟨dx, wt, wz, ma, mw, rw_⟩ := mt.mono up3
  have lzz := rw_.len
  have lo : LogOk K Y gP gL ((f1, HO.lst xs) :: (p, penO c n4 m4) :: (c, celO ns) :: R3) a dx wt f1 (x, y, z) wz ws (.lst xs) xs es :=
    ⟨memS (memS (memS ma)), memS (memS (memS mw)), rw_.imp fun v d h => whlMono _ _ _ _ (fun _ h => memS (memS (memS h))) h, by omega, fun d hd => by have := (hok d hd).1; omega, .inl rfl, mem0, rx.imp fun v d h => entMono _ _ _ _ (fun _ h => memS (memS (memS h))) h, ok, by omega⟩
  have rl : Reps (PlAt ((f1, HO.lst xs) :: (p, penO c n4 m4) :: (c, celO ns) :: R3)) zs ws := rz3.imp fun v a z => plMono _ _ _ _ (fun _ h => memS (memS (memS h))) z
  have fin : ∀ (M : Lg), (∀ e ∈ (f1, HO.lst xs) :: (p, penO c n4 m4) :: (c, celO ns) :: R3, e ∈ M) → Sub ((p, penO c n4 m4) :: (c, celO ns) :: R) M := fun M up => ⟨fun _ => ⟨ndR, fun e he => by
    rcases List.mem_cons.mp he with rfl | he
    · exact up _ (memS mem0)
    rcases List.mem_cons.mp he with rfl | he
    · exact up _ (memS (memS mem0))
    · exact up _ (memS (memS (memS (upA e he))))⟩⟩
  have mfL : (fp, HO.lst zs) ∈ (f1, HO.lst xs) :: (p, penO c n4 m4) :: (c, celO ns) :: R3 := memS (memS (memS mf3))
  have mDL : (D, HO.lst [V.int (x : Nat), V.int (y : Nat), V.int (z : Nat)]) ∈ (f1, HO.lst xs) :: (p, penO c n4 m4) :: (c, celO ns) :: R3 := memS (memS (memS mD3))
  have m1L : (f1, HO.lst xs) ∈ (f1, HO.lst xs) :: (p, penO c n4 m4) :: (c, celO ns) :: R3 := mem0
  generalize (f1, HO.lst xs) :: (p, penO c n4 m4) :: (c, celO ns) :: R3 = Z at lo rl fin mfL mDL m1L ⊢
  clear nd3 up3 upA mf3 mD3 rz3 ma mw rw_ rx rz2 mf2 up2 mt sR3 ndR3 upR rz sR1 sb
  have lxe := lo.re.len
  tm_at "g"
  refine ge_call (El := NoX) D4 hr passA ?_
  tm_at "g"
  refine ⟨a, dx, wt, f1, (x, y, z), wz, ws, .lst xs, xs, es, rfl, lo, fun Dt zt R4 up4 rt => ?_⟩
  have m1R := up4 _ m1L
  have mfR := up4 _ mfL
  have mDR := up4 _ mDL
  have loR := lo.mono up4
  tm_at "g"
  refine gc_isK (.lst mem0) (b := true) (by decide +kernel) ?_
  tm_at "g"
  refine ge_lcR (by tm_at "g_put") (gi_list ?_) (show blkC N_law_log_right (defScope s_law_log_right) _ [(_, List.idxOf _ N_law_log_right)] = true by decide +kernel)
  tm_at "g"
  refine ⟨Nat, fun L v i => OffAt ws L v (es.getD i (0, [])), id, fun _ _ _ _ s h => offAtMono _ _ _ _ s h, by show xs.length ≤ _; have := lo.hl; omega, fun M s => s _ (memS m1R), ?_, ?_⟩
  · intro D2 i v E2 zs2 R5 hi it hR nd
    obtain ⟨hx, hE⟩ := it
    subst hE
    obtain ⟨e, he, ae⟩ := loR.re.get hx
    have eg : es.getD i (0, []) = e := by rw [List.getD_eq_getElem?_getD, he]; rfl
    intro s2 H2 C2 cl2 fp2
    tm_at "g"
    refine ge_call (El := NoX) D8 hr passA ?_
    tm_at "g"
    have up : ∀ e ∈ R4, e ∈ (D2, HO.lst zs2) :: R5 := fun e he => memS (hR _ (memS he))
    refine ⟨fp, zs, ws, (x, y, z), v, e, rfl, up _ mfR, rl.imp fun v a h => plMono _ _ _ _ (fun e he => up _ (up4 _ he)) h, by omega, hok, entMono _ _ _ _ up ae, lo.ok e (List.mem_of_getElem? he), fun t M sb => ?_⟩
    refine ⟨(t, .tup ((offPl ws e).map V.int)) :: R5, (Sub.perm (List.Perm.swap _ _ _)).trans (Sub.cons sb), fun e he => memS he, ?_⟩
    show OffAt ws _ _ (es.getD (id i) (0, []))
    rw [id, eg]
    exact ⟨t, rfl, mem0⟩
  intro Dl zl R5 up5 rl5
  have rl5 : Reps (OffAt ws R5) zl es := by
    rw [List.map_id] at rl5
    refine reps_of (by rw [rl5.len, List.length_range, lxe]) fun i v e hv he => ?_
    obtain ⟨k, hk, ok⟩ := rl5.get hv
    obtain ⟨hlt, ek⟩ := List.getElem?_eq_some_iff.mp hk
    rw [List.getElem_range] at ek
    subst ek
    rw [show es.getD i (0, []) = e by rw [List.getD_eq_getElem?_getD, he]; rfl] at ok
    exact ok
  have rt5 : Reps (OffAt ws R5) zt es := rt.imp fun v a h => offAtMono _ _ _ _ (fun e he => up5 _ (memS he)) h
  have mDt5 := up5 _ mem0
  have upZ : ∀ e ∈ Z, e ∈ R5 := fun e he => up5 _ (memS (up4 _ he))
  refine go_neD hr.toRoom (dl_off (memS mDt5) (rt5.imp fun v a h => offAtMono _ _ _ _ (fun _ h => memS h) h)) (dl_off mem0 (rl5.imp fun v a h => offAtMono _ _ _ _ (fun _ h => memS h) h)) (shaped_ti _) (shaped_ti _) ?_
  rw [eqv_ti]
  tm_at "g"
  have upW : ∀ e ∈ Z, e ∈ (Dl, HO.lst zl) :: R5 := fun e he => memS (upZ e he)
  have mDtW : (Dt, HO.lst zt) ∈ (Dl, HO.lst zl) :: R5 := memS mDt5
  have rtW : Reps (OffAt ws ((Dl, HO.lst zl) :: R5)) zt es := rt5.imp fun v a h => offAtMono _ _ _ _ (fun _ h => memS h) h
  generalize (Dl, HO.lst zl) :: R5 = W at upW mDtW rtW ⊢
  clear up5 rl5 rt5 mDt5 upZ up4 rt m1R mfR mDR loR
  have loW := lo.mono upW
  have rlW : Reps (PlAt W) zs ws := rl.imp fun v a h => plMono _ _ _ _ upW h
  have m1W := upW _ m1L
  have mfW := upW _ mfL
  have mDW := upW _ mDL
  refine gs_lcP2 (by tm_at "g_put") (by tm_at "g_put") (fun _ => by tm_at "g_put") (gi_enumO (o := .lst xs) (xs := xs) (.inl rfl) ?_ B.enumerate) (by decide) (show blkC N_law_log_right (defScope s_law_log_right) _ [(_, List.idxOf _ N_law_log_right), (_, List.idxOf _ N_law_log_right)] = true by decide +kernel)
  tm_at "g"
  refine ⟨m1W, ?_⟩
  refine pure_enumO (o := .lst xs) (pt := fun i _ => misB ws (x, y, z) (es.getD i (0, []))) (pg := fun i _ => .int (i : Nat)) m1W (by omega) (fun i v hv D acc s1 H1 C1 cl1 fp1 => ?_) fun D4 => ?_
  · obtain ⟨e, he, ae⟩ := loW.re.get hv
    have eg : es.getD i (0, []) = e := by rw [List.getD_eq_getElem?_getD, he]; rfl
    rw [eg]
    show GT _ _ _ _ _
    tm_at "g"
    refine ge_call (El := NoX) D9 hr passA ?_
    tm_at "g"
    refine ⟨fp, zs, ws, (x, y, z), v, e, rfl, memS mfW, rlW.imp fun v a h => plMono _ _ _ _ (fun _ h => memS h) h, by omega, hok, entMono _ _ _ _ (fun e he => memS he) ae, lo.ok e (List.mem_of_getElem? he), fun M sM => ?_⟩
    tm_at "g"
    refine ⟨rfl, sM, fun _ s2 H2 C2 cl2 fp2 => ?_⟩
    tm_at "g"
    exact ⟨rfl, sM⟩
  rw [show ((List.range xs.length).filter fun i => misB ws (x, y, z) (es.getD i (0, []))).map (fun i => V.int (i : Nat)) = (misPl ws (x, y, z) es).map V.int by unfold misPl; rw [List.map_map, lxe]; rfl]
  tm_at "g"
  refine ge_call (El := NoX) D6 hr passA ?_
  tm_at "g"
  refine gc_tupL (memS m1W) fun te => ?_
  tm_at "g"
  refine ⟨a, dx, wt, te, (x, y, z), wz, ws, .tup xs, xs, es, rfl, (loW.mono fun e he => memS (memS he)).row (.inr rfl) mem0, fun t1 M1 sM1 => ?_⟩
  refine (fun h => GE.sub (Sub.cons sM1) h) ?_
  clear sM1
  tm_at "g"
  refine gc_tupL (by tm_at "g_mem") fun t2 => ?_
  refine go_neD hr.toRoom (dl_tup (memS mem0) dls_ints) (dl_tup mem0 dls_ints) (shapedT _) (shapedT _) ?_
  rw [eqvTT]
  tm_at "g"
  obtain ⟨fk, mk, kk, Rk⟩ := D7
  refine ge_kw0 mk kk (fun _ => gf_of (El := NoX) Rk hr passA) ?_
  tm_at "g"
  refine ⟨a, dx, wt, f1, (x, y, z), wz, ws, .lst xs, xs, es, rfl, loW.mono fun e he => memS (memS (memS (memS he))), fun t3 M3 sM3 => ?_⟩
  refine (fun h => GE.sub (Sub.cons sM3) h) ?_
  clear sM3
  tm_at "g"
  refine gc_tupL (by tm_at "g_mem") fun t4 => ?_
  refine go_neD hr.toRoom (dl_tup (memS mem0) dls_ints) (dl_tup mem0 dls_ints) (shapedT _) (shapedT _) ?_
  rw [eqvTT]
  tm_at "g"
  obtain ⟨fk2, mk2, kk2, Rk2⟩ := D5
  refine ge_kw0 mk2 kk2 (fun _ => gf_of (El := NoX) Rk2 hr passA) ?_
  tm_at "g"
  refine gc_tupL (by repeat (first | exact m1W | with_reducible apply memS)) fun tf => ?_
  tm_at "g"
  have up9 : ∀ (E : Lg), ∀ e ∈ W, e ∈ E ++ W := fun E e he => List.mem_append_right _ he
  refine ⟨a, dx, wt, tf, (x, y, z), wz, ws, .tup xs, xs, es, rfl, (loW.mono (up9 [_, _, _, _, _, _, _])).row (.inr rfl) mem0, fun D9 z9 M9 sM9 r9 => ?_⟩
  have upF : ∀ e ∈ W, e ∈ M9 := fun e he => sM9 _ (up9 [_, _, _, _, _, _, _] e he)
  tm_at "g"
  refine go_eqD hr.toRoom (dl_off mem0 (r9.imp fun v a h => offAtMono _ _ _ _ (fun _ h => memS h) h)) (dl_off (memS (upF _ mDtW)) (rtW.imp fun v a h => offAtMono _ _ _ _ (fun _ h => memS (upF _ h)) h)) (shaped_ti _) (shaped_ti _) ?_
  rw [eqv_ti]
  exact ⟨_, fin _ (fun e he => memS (upF _ (upW _ he))), q n4 m4 c0 (by omega) c2⟩
end
def allIn (rs : List (Int × Int)) (P k b : Int) : Bool := rs.all fun r => decide ((r.2 - r.1 - b) % P ≤ k)
def lfit (rs : List (Int × Int)) (P k : Int) : Bool := !(rs.any fun r => decide (P ≤ r.2)) && (List.range P.toNat).any fun b => allIn rs P k (b : Nat)
theorem ints1 {α : Type} (xs : List α) : xs.map (fun _ => V.int 1) = (xs.map fun _ => (1 : Int)).map V.int := by rw [List.map_map]; rfl
theorem none_all {rs : List Pr2} {P k b : Int} : decide (((rs.filter fun e => decide (k < (e.2.2 - e.2.1 - b) % P)).map fun _ => (1 : Int)) = []) = allIn (rs.map (·.2)) P k b := by
  unfold allIn
  rw [List.all_map]
  induction rs with
  | nil => rfl
  | cons a l ih =>
    rw [List.all_cons, List.filter_cons]
    by_cases h : k < (a.2.2 - a.2.1 - b) % P
    · rw [decide_eq_true h, if_pos rfl, List.map_cons, decide_eq_false (by simp)]
      rw [show ((fun r : Int × Int => decide ((r.2 - r.1 - b) % P ≤ k)) ∘ fun x : Pr2 => x.2) a = false from decide_eq_false (Int.not_le.mpr h)]
      rfl
    · rw [decide_eq_false h, if_neg (by decide), ih]
      rw [show ((fun r : Int × Int => decide ((r.2 - r.1 - b) % P ≤ k)) ∘ fun x : Pr2 => x.2) a = true from decide_eq_true (Int.not_lt.mp h)]
      rfl
section
variable {P : Program} {w : World} {K : PySem.W.Frag} {mg : Str → Option Value} {base : Heap}
def spLFit : SpL := fun vs L Q _ => ∃ (q : Addr) (ps : List Pr2) (p k : Int), vs = [.int p, .ref q, .int k] ∧ (q, HO.lst (prV ps)) ∈ L ∧ Prs2 ps L ∧ ps.length ≤ 60 ∧ 1 ≤ p ∧ p ≤ 1000 ∧ ∀ M, Sub L M → Q (.bl (lfit (ps.map (·.2)) p k)) M
theorem fn_law_is_fit (B : Bi mg) (F : Df K mg "_law_is_fit" s_law_is_fit) : Fn P w K mg base CX0 "_law_is_fit" 1 spLFit := by
  refine fn_plain F sc_law_is_fit (fun _ _ _ _ _ _ us hl => match us, hl with | [_, _, _], _ => rfl) (by decide) (by tm_at "g_len") ?_
  intro X f cdv A outer s H E0 L vs Q E hX nd hr h
  subst hX
  obtain ⟨q, ps, p, k, rfl, mq, hp, hl, p1, p2, qq⟩ := h
  show GSs _ (defBody s_law_is_fit) (bodyD Q) [("_law_period", some (.int p)), ("_law_rows", some (.ref q)), ("_law_play", some (.int k)), ("_law_begin", none), ("_law_value", none), ("_law_mark", none)] _
  refine gss_cons ?_
  tm_at "g"
  refine ge_lcP2 (by tm_at "g_put") (fun _ => by tm_at "g_put") (gi_rowO (o := .lst (prV ps)) (xs := prV ps) (.inl rfl) ?_) (by decide) (show blkC N_law_is_fit (defScope s_law_is_fit) _ [(_, List.idxOf _ N_law_is_fit), (_, List.idxOf _ N_law_is_fit)] = true by decide +kernel)
  tm_at "g"
  refine ⟨mq, ?_⟩
  refine pure_rowP2 (o := .lst (prV ps)) (ps := ps) (t := fun e => decide (p ≤ e.2.2)) (g := fun e => .int e.2.2) mq hp (by omega) (fun e he D acc s1 H1 C1 cl1 fp1 => ?_) fun D => ?_
  · show GT _ _ _ _ _
    tm_at "g"
    refine ⟨rfl, Sub.refl, fun _ s2 H2 C2 cl2 fp2 => ?_⟩
    tm_at "g"
    exact ⟨rfl, Sub.refl⟩
  tm_at "g"
  refine go_neNil hr (memS mem0) mem0 ?_
  have ea : decide ((ps.filter fun e => decide (p ≤ e.2.2)).map (fun e => V.int e.2.2) ≠ []) = (ps.map (·.2)).any fun r => decide (p ≤ r.2) := by
    rw [List.any_map, show ((fun r : Int × Int => decide (p ≤ r.2)) ∘ fun x : Pr2 => x.2) = fun e : Pr2 => decide (p ≤ e.2.2) from rfl, ← filt_any]
    exact decide_eq_decide.mpr (by rw [ne_eq, List.map_eq_nil_iff])
  rw [ea]
  tm_at "g"
  refine ite_b (fun z => ?_) (fun z => ?_)
  · tm_at "g"
    have el : lfit (ps.map (·.2)) p k = false := by unfold lfit; rw [z]; rfl
    rw [el] at qq
    exact ⟨_, Sub.refl, qq _ (by tm_at "g_end")⟩
  have el : lfit (ps.map (·.2)) p k = (List.range p.toNat).any fun b => allIn (ps.map (·.2)) p k (b : Nat) := by unfold lfit; rw [z]; rfl
  rw [el] at qq
  tm_at "g"
  refine gs_for (gi_range1 ?_ B.range)
  tm_at "g"
  refine ⟨⟨by omega, by omega⟩, fun i θ N => ∃ u v x, θ = ([("_law_period", some (.int p)), ("_law_rows", some (.ref q)), ("_law_play", some (.int k)), ("_law_begin", u), ("_law_value", v), ("_law_mark", x)] : En) ∧ Sub L N ∧ ∀ b, b < i → allIn (ps.map (·.2)) p k (b : Nat) = false, ⟨none, none, none, rfl, by tm_at "g_end", fun b hb => absurd hb (Nat.not_lt_zero _)⟩, fun _ _ _ _ _ _ => True.intro, ?_, ?_⟩
  · rintro i x E1 θ N hi ⟨rfl, rfl⟩ ⟨u1, u2, u3, rfl, sb, old⟩
    dsimp only [List.nil_append] at hi ⊢
    refine gg_name (by tm_at "g_pv") ?_
    refine (fun h => GSs.sub sb h) ?_
    clear sb
    tm_at "g"
    refine ge_lcP2 (by tm_at "g_put") (fun _ => by tm_at "g_put") (gi_rowO (o := .lst (prV ps)) (xs := prV ps) (.inl rfl) ?_) (by decide) (show blkC N_law_is_fit (defScope s_law_is_fit) _ [(_, List.idxOf _ N_law_is_fit), (_, List.idxOf _ N_law_is_fit)] = true by decide +kernel)
    tm_at "g"
    refine ⟨mq, ?_⟩
    refine pure_rowP2 (o := .lst (prV ps)) (ps := ps) (t := fun e => decide (k < (e.2.2 - e.2.1 - (i : Nat)) % p)) (g := fun _ => .int 1) mq hp (by omega) (fun e he D acc s1 H1 C1 cl1 fp1 => ?_) fun D => ?_
    · show GT _ _ _ _ _
      tm_at "g"
      refine go_mod (by omega) ?_
      tm_at "g"
      refine ⟨rfl, Sub.refl, fun _ s2 H2 C2 cl2 fp2 => ?_⟩
      tm_at "g"
      exact ⟨rfl, Sub.refl⟩
    rw [ints1]
    tm_at "g"
    refine go_eqD (d := .list _) (e := .list ([].map PyData.int)) hr.toRoom (dl_lst (memS mem0) dls_ints) (dl_lst mem0 dls_nil) (shapedL _) (shapedL _) ?_
    rw [eqvL, none_all]
    tm_at "g"
    refine ite_b (fun z2 => ?_) (fun z2 => ?_)
    · tm_at "g"
      have e1 : ((List.range p.toNat).any fun b => allIn (ps.map (·.2)) p k (b : Nat)) = true := List.any_eq_true.mpr ⟨i, List.mem_range.mpr hi, z2⟩
      rw [e1] at qq
      exact ⟨_, Sub.refl, qq _ (by tm_at "g_end")⟩
    · tm_at "g"
      refine ⟨by tm_at "g_end", fun b hb => ?_⟩
      rcases Nat.lt_or_ge b i with h | h
      · exact old b h
      · obtain rfl : b = i := by omega
        exact z2
  · rintro θ N ⟨u, v, x, rfl, sb, old⟩
    refine (fun h => GSs.sub sb h) ?_
    clear sb
    tm_at "g"
    have e0 : ((List.range p.toNat).any fun b => allIn (ps.map (·.2)) p k (b : Nat)) = false := List.any_eq_false.mpr fun b hb => by
      rw [old b (List.mem_range.mp hb)]
      decide
    rw [e0] at qq
    exact ⟨_, Sub.refl, qq _ Sub.refl⟩
end
def rowsL (es : List Ent) (j : Nat) : List (Int × Int) := (heardL es j).map fun i => (vlAt es i, (mkAt es j i).getD 0)
theorem any_mapC {α β : Type} (f : α → β) (p : β → Bool) (l : List α) : (l.map f).any p = l.any fun a => p (f a) := by rw [List.any_map]; rfl
theorem all_mapC {α β : Type} (f : α → β) (p : β → Bool) (l : List α) : (l.map f).all p = l.all fun a => p (f a) := by rw [List.all_map]; rfl
theorem lfit_eq {es : List Ent} {j : Nat} {P k : Int} : lfit (rowsL es j) P k = fitK es j P k := by
  unfold lfit fitK rowsL marksL heldB offO offL allIn
  have e : ∀ b : Nat, ((heardL es j).map fun i => (vlAt es i, (mkAt es j i).getD 0)).all (fun r => decide ((r.2 - r.1 - (b : Nat)) % P ≤ k)) = (((heardL es j).map fun i : Nat => ((i : Int), offA es j P i)).map (·.2)).all fun o => decide ((o - (b : Nat)) % P ≤ k) := fun b => by
    rw [all_mapC, all_mapC, all_mapC]
    congr 1
    funext i
    dsimp only
    unfold offA
    rw [Int.sub_emod ((_ : Int) % P), Int.emod_emod, ← Int.sub_emod]
  rw [any_mapC, any_mapC]
  congr 2
  funext b
  exact e b
theorem heard_get {es : List Ent} {j i : Nat} (h : i ∈ heardL es j) : ∃ e x, e ∈ es ∧ es.getD i (0, []) = e ∧ e.2.getD j none = some x ∧ mkAt es j i = some x := by
  unfold heardL at h
  obtain ⟨h1, h2⟩ := List.mem_filter.mp h
  have hi := List.mem_range.mp h1
  obtain ⟨x, hx⟩ := Option.isSome_iff_exists.mp h2
  have eg : es.getD i (0, []) = es[i] := by rw [List.getD_eq_getElem?_getD, List.getElem?_eq_getElem hi]; rfl
  refine ⟨es[i], x, List.getElem_mem hi, eg, ?_, hx⟩
  unfold mkAt at hx
  rw [eg] at hx
  exact hx
theorem fits_has {es : List Ent} {j : Nat} {P k : Int} (P1 : 2 ≤ P) (h : ∀ e ∈ es, ∀ x, e.2.getD j none = some x → 0 ≤ x ∧ x < P ∧ (x - e.1) % P ≤ k) : fitK es j P k = true := by
  have a : ((marksL es j).any fun m => decide (P ≤ m)) = false := by
    rw [← Bool.not_eq_true]
    intro z
    obtain ⟨m, hm, hp⟩ := List.any_eq_true.mp z
    unfold marksL at hm
    obtain ⟨i, hi, rfl⟩ := List.mem_map.mp hm
    obtain ⟨e, x, he, -, hx, ex⟩ := heard_get hi
    have := (h e he x hx).2.1
    have hp := of_decide_eq_true hp
    rw [ex] at hp
    simp only [Option.getD_some] at hp
    omega
  unfold fitK
  rw [a]
  show heldB _ _ _ = true
  unfold heldB
  refine List.any_eq_true.mpr ⟨0, List.mem_range.mpr (by omega), List.all_eq_true.mpr fun o ho => decide_eq_true ?_⟩
  unfold offO offL at ho
  rw [List.map_map] at ho
  obtain ⟨i, hi, rfl⟩ := List.mem_map.mp ho
  obtain ⟨e, x, he, eg, hx, ex⟩ := heard_get hi
  have := (h e he x hx).2.2
  show (offA es j P i - ((0 : Nat) : Int)) % P ≤ k
  unfold offA vlAt
  rw [ex, eg, Int.natCast_zero, Int.sub_zero, Int.emod_emod]
  exact this
theorem fits_mem {es : List Ent} {j : Nat} {k m P : Int} (h : fitK es j P k = true) (p2 : 2 ≤ P) (pm : P ≤ m) : P ∈ fitsL es j k m := by
  unfold fitsL
  refine List.mem_map.mpr ⟨(P - 2).toNat, List.mem_filter.mpr ⟨List.mem_range.mpr (by omega), ?_⟩, by omega⟩
  rw [show (2 : Int) + ((P - 2).toNat : Nat) = P by omega]
  exact h
def T40 : Int := 10000000000000000000000000000000000000000
def preM (j : Int) : List (Option Int) := if j = 0 then [] else if j = 1 then [some T40, some T40] else [some T40, none, some T40, none]
def preV (j : Int) : List V := (preM j).map mkO
def rv4 {α : Type} : List α → List α
  | [a, b, c, d] => [d, c, b, a]
  | l => l
theorem rv4_vals : ∀ (vs : List V) (us : List Value), Vals vs us → Vals (rv4 vs) (rv4 us)
  | [_, _, _, _], [_, _, _, _], .cons a (.cons b (.cons c (.cons d .nil))) => .cons d (.cons c (.cons b (.cons a .nil)))
  | [], _, h => by cases h; exact .nil
  | [_], _, h => by cases h with | cons a t => cases t; exact .cons a .nil
  | [_, _], _, h => by cases h with | cons a t => cases t with | cons b t => cases t; exact .cons a (.cons b .nil)
  | [_, _, _], _, h => by cases h with | cons a t => cases t with | cons b t => cases t with | cons c t => cases t; exact .cons a (.cons b (.cons c .nil))
  | _ :: _ :: _ :: _ :: _ :: _, _, h => by cases h with | cons a t => cases t with | cons b t => cases t with | cons c t => cases t with | cons d t => cases t with | cons e t => exact .cons a (.cons b (.cons c (.cons d (.cons e t))))
theorem ite_ge {X : Cx} {b : Bool} {e1 e2 : Expr} {η : En} {L : Lg} {Q Q0 : QV} (h : if b = true then GE X e1 η L Q0 else GE X e2 η L Q0) (k : ∀ v M, Q0 v M → Q v M) : if b = true then GE X e1 η L Q else GE X e2 η L Q := by
  cases b with
  | true => rw [if_pos rfl] at h ⊢; exact h.imp k
  | false => rw [if_neg (by decide)] at h ⊢; exact h.imp k
section
variable {P : Program} {w : World} {K : PySem.W.Frag} {mg : Str → Option Value} {base : Heap}
def MkOk (P k v : Int) (o : Option Int) : Prop := ∀ x, o = some x → 0 ≤ x ∧ x < P ∧ (x - v) % P ≤ k
def EnOk (P k j : Int) (e : Ent) : Prop := ∃ o, e.2 = preM j ++ [o, some 7] ∧ MkOk P k e.1 o ∧ -100 ≤ e.1 ∧ e.1 < 300
theorem fn_law_periods_right (B : Bi mg) (F : Df K mg "_law_periods_right" s_law_periods_right) (D1 : Fn P w K mg base CX0 "_law_draw" 1 spDraw) (D2 : Fn P w K mg base CX0 "_law_is_fit" 1 spLFit)
    (D3 : Fn P w K mg base CX0 "periods_that_fit" 7 spFits) (D4 : FnA P w K mg base CX0 "periods_that_fit" 7 (argsK 0 ["most", "play", "place", "entries"]) (fun vs => spFits (rv4 vs))) : Fn P w K mg base CX0 "_law_periods_right" 8 (spRight 30) := by
  refine fn_plain F sc_law_periods_right (fun _ _ _ _ _ _ us hl => match us, hl with | [_], _ => rfl) (by decide) (by tm_at "g_len") ?_
  intro X f cdv A outer s H E0 L vs Q E hX nd hr h
  subst hX
  obtain ⟨p, c, ns, n, m, R, rfl, sb, h63, n0, n1, m0, q⟩ := h
  refine (fun h => GSs.sub sb h) ?_
  show GSs _ (defBody s_law_periods_right) (bodyD Q) [("_law_pen_here", some (.ref p)), ("_law_period", none), ("_law_play", none), ("_law_place", none), ("_law_entries_here", none), ("_law_most", none), ("_law_turn", none), ("_law_value", none), ("_law_mark", none), ("_law_rows", none), ("_law_due", none), ("_law_marks", none), ("_law_other", none)] _
  refine gss_nd fun ndR => ?_
  refine gss_cons ?_
  tm_at "g"
  tm_at "g_draw"
  intro d1 n2 m2 d10 d11 a0 a1 a2
  tm_at "g"
  tm_at "g_draw"
  intro k n3 m3 k0 k1 b0 b1 b2
  tm_at "g"
  tm_at "g_draw"
  intro j n4 m4 j0 j1 c0 c1 c2
  tm_at "g"
  tm_at "g_draw"
  intro mo n5 m5 mo0 mo1 e0 e1 e2
  tm_at "g"
  rename_i f0
  refine gs_for (gi_range1 ?_ B.range)
  tm_at "g"
  tm_at "g_draw"
  intro d5 n6 m6 d50 d51 f0' f1' f2'
  tm_at "g"
  refine ⟨⟨by omega, by omega⟩, fun i θ N => ∃ (u v x : Option V) (xs : List V) (es : List Ent) (n' m' : Int) (R' : Lg), θ = ([("_law_pen_here", some (.ref p)), ("_law_period", some (.int (2 + d1))), ("_law_play", some (.int k)), ("_law_place", some (.int j)), ("_law_entries_here", some (.ref f0)), ("_law_most", some (.int (2 + mo))), ("_law_turn", u), ("_law_value", v), ("_law_mark", x), ("_law_rows", none), ("_law_due", none), ("_law_marks", none), ("_law_other", none)] : En) ∧ Sub ((p, penO c n' m') :: (c, celO ns) :: (f0, HO.lst xs) :: R') N ∧ (∀ e ∈ R, e ∈ R') ∧ Reps (EntAt R') xs es ∧ es.length = i ∧ (∀ e ∈ es, EnOk (2 + d1) k j e) ∧ 0 ≤ n' ∧ n' ≤ n + 5 + 3 * (i : Int) ∧ 0 ≤ m', ?_, fun _ _ _ _ _ _ => True.intro, ?_, ?_⟩
  · exact ⟨none, none, none, [], [], n6, m6, R, rfl, by tm_at "g_end", (fun _ h => h), .nil, rfl, (fun e h => nomatch h), f0', by omega, f2'⟩
  · rintro i x E1 θ N hi ⟨rfl, rfl⟩ ⟨u, v, x, xs, es, n7, m7, R', rfl, sb2, sR, hp, hl, hb, g0, g1, g2⟩
    dsimp only [List.nil_append] at hi ⊢
    have hi5 : i < 5 := by omega
    refine gg_name (by tm_at "g_pv") ?_
    refine (fun h => GSs.sub sb2 h) ?_
    tm_at "g"
    tm_at "g_draw"
    intro d6 n8 m8 d60 d61 h0 h1 h2
    tm_at "g"
    tm_at "g_draw"
    intro d7 n9 m9 d70 d71 i0 i1 i2
    tm_at "g"
    refine ite_ge (Q0 := fun v M => ∃ (o : Option Int) (n' m' : Int), v = mkO o ∧ MkOk (2 + d1) k (d6 - 100) o ∧ Sub ((p, penO c n' m') :: (c, celO ns) :: (f0, HO.lst xs) :: R') M ∧ 0 ≤ n' ∧ n' ≤ n9 + 1 ∧ 0 ≤ m') ?_ ?_
    · refine ite_d (fun z => ?_) (fun z => ?_)
      · tm_at "g"
        exact ⟨none, n9, m9, rfl, fun x h => (nomatch h), Sub.refl, i0, by omega, i2⟩
      · tm_at "g"
        tm_at "g_draw"
        intro d8 n10 m10 d80 d81 r0 r1 r2
        tm_at "g"
        refine go_mod (by omega) ?_
        refine ⟨some _, n10, m10, rfl, fun x h => ?_, Sub.refl, r0, by omega, r2⟩
        cases h
        refine ⟨Int.emod_nonneg _ (by omega), Int.emod_lt_of_pos _ (by omega), ?_⟩
        rw [Int.sub_emod, Int.emod_emod, ← Int.sub_emod, show d6 - 100 + d8 - (d6 - 100) = d8 by omega]
        have := Int.emod_nonneg d8 (show 2 + d1 ≠ 0 by omega)
        rcases Int.lt_or_le d8 (2 + d1) with h | h
        · rw [Int.emod_eq_of_lt d80 h]
          omega
        · have := Int.emod_lt_of_pos d8 (show 0 < 2 + d1 by omega)
          omega
    · rintro v M ⟨o, n10, m10, rfl, mk, sM, r0, r1, r2⟩
      show GSs _ _ _ _ _
      refine (fun h => GSs.sub sM h) ?_
      clear sM
      tm_at "gx1"
      tm_at "gx1"
      tm_at "gx1"
      tm_at "gx1"
      tm_at "gx1"
      tm_at "gx1"
      tm_at "gx1"
      tm_at "gx1"
      refine ga_cons (GE.imp (Q := fun v M => ∃ tm, v = .ref tm ∧ Sub ((tm, HO.tup (preV j ++ [mkO o, .int 7])) :: (p, penO c n10 m10) :: (c, celO ns) :: (f0, HO.lst xs) :: R') M) ?_ ?_)
      · tm_at "gx1"
        tm_at "gx1"
        refine ge_sliceA ?_
        tm_at "g"
        refine go_powL (r := 10000000000000000000000000000000000000000) ⟨by decide, by decide, by decide⟩ (by decide) ?_
        tm_at "g"
        refine ⟨_, [.int 10000000000000000000000000000000000000000, .non], rfl, ?_⟩
        show GE _ _ _ _ _
        tm_at "g"
        rcases (show j = 0 ∨ j = 1 ∨ j = 2 by omega) with rfl | rfl | rfl
        · refine ⟨mem0, fun ⟨_, z⟩ => absurd z (by decide), fun _ rs => ?_⟩
          rw [show cutV [V.int 10000000000000000000000000000000000000000, V.non] none (some 0) = [] from rfl]
          tm_at "g"
          refine go_repE mem0 (by decide) (by decide) ?_
          tm_at "g"
          rename_i tm
          exact go_catT (memS mem0) mem0 (by show 2 ≤ 16777216; decide) (fun _ => ⟨tm, rfl, Sub.cons (Sub.trans Sub.drop Sub.drop)⟩) (fun z => absurd rfl z) (fun z => absurd rfl z)
        · refine ⟨mem0, fun ⟨_, z⟩ => absurd z (by decide), fun _ rs => ?_⟩
          rw [show cutV [V.int 10000000000000000000000000000000000000000, V.non] none (some 1) = [V.int 10000000000000000000000000000000000000000] from rfl]
          tm_at "g"
          refine go_repT mem0 (fun z => nomatch z) (by decide) (by decide) (by show 1 ≤ 1000; decide) fun rt => ?_
          rw [show (List.replicate (2 : Int).toNat [V.int 10000000000000000000000000000000000000000]).flatten = [V.int 10000000000000000000000000000000000000000, V.int 10000000000000000000000000000000000000000] from rfl]
          tm_at "g"
          exact go_catT (memS mem0) mem0 (by show 4 ≤ 16777216; decide) (fun z => nomatch z) (fun _ z => nomatch z) (fun _ _ r => ⟨r, rfl, Sub.cons (Sub.trans Sub.drop (Sub.trans Sub.drop (Sub.trans Sub.drop Sub.drop)))⟩)
        · refine ⟨mem0, fun _ => ?_, fun h => absurd ⟨rfl, rfl⟩ h⟩
          tm_at "g"
          refine go_repT mem0 (fun z => nomatch z) (by decide) (by decide) (by show 2 ≤ 1000; decide) fun rt => ?_
          rw [show (List.replicate (2 : Int).toNat [V.int 10000000000000000000000000000000000000000, V.non]).flatten = [V.int 10000000000000000000000000000000000000000, V.non, V.int 10000000000000000000000000000000000000000, V.non] from rfl]
          tm_at "g"
          exact go_catT (memS mem0) mem0 (by show 6 ≤ 16777216; decide) (fun z => nomatch z) (fun _ z => nomatch z) (fun _ _ r => ⟨r, rfl, Sub.cons (Sub.trans Sub.drop (Sub.trans Sub.drop Sub.drop))⟩)
      · rintro v M ⟨tm, rfl, sM⟩
        show GA _ _ _ _ _
        refine GAsubc sM ?_
        clear sM
        tm_at "g"
        rename_i te
        have lx := hp.len
        refine ⟨xs, _, by tm_at "g_mem", szL (show xs.length + 1 ≤ 16777216 by omega), by tm_at "g_swap", ?_⟩
        tm_at "g"
        refine ⟨_, _, _, xs ++ [V.ref te], es ++ [(d6 - 100, preM j ++ [o, some 7])], n10, m10, (te, HO.tup [.int (d6 - 100), .ref tm]) :: (tm, HO.tup (preV j ++ [mkO o, .int 7])) :: R', rfl, ?_, fun e he => memS (memS (sR e he)), (hp.imp fun v a z => entMono _ _ _ _ (fun _ h => memS (memS h)) z).snoc ⟨te, tm, HO.tup (preV j ++ [mkO o, .int 7]), rfl, mem0, .inr (by rw [List.map_append]; rfl), memS mem0⟩, by rw [List.length_append, hl]; rfl, fun e he => ?_, r0, by omega, r2⟩
        · exact sub_rot (E := [_, _]) (F := [_, _, _]) (G := [])
        · rcases List.mem_append.mp he with he | he
          · exact hb e he
          · rw [List.mem_singleton.mp he]
            exact ⟨o, rfl, mk, by dsimp only; omega, by dsimp only; omega⟩
  · rintro θ N ⟨u, v, x, xs, es, n7, m7, R', rfl, sb2, sR, hp, hl, hb, g0, g1, g2⟩
    refine (fun h => GSs.sub sb2 h) ?_
    clear sb2
    have hl5 : es.length ≤ 5 := by
      have hl' : es.length = d5.toNat := hl
      omega
    have lx := hp.len
    tm_at "gx1"
    tm_at "gx1"
    tm_at "gx1"
    tm_at "gx1"
    refine GE.imp (Q := fun v M => ∃ tm, v = .ref tm ∧ Sub ((tm, HO.tup (preV j)) :: (p, penO c n7 m7) :: (c, celO ns) :: (f0, HO.lst xs) :: R') M) ?_ ?_
    · tm_at "gx1"
      refine ge_sliceA ?_
      tm_at "g"
      refine go_powL (r := 10000000000000000000000000000000000000000) ⟨by decide, by decide, by decide⟩ (by decide) ?_
      tm_at "g"
      refine ⟨_, [.int 10000000000000000000000000000000000000000, .non], rfl, ?_⟩
      show GE _ _ _ _ _
      tm_at "g"
      rcases (show j = 0 ∨ j = 1 ∨ j = 2 by omega) with rfl | rfl | rfl
      · refine ⟨mem0, fun ⟨_, z⟩ => absurd z (by decide), fun _ rs => ?_⟩
        rw [show cutV [V.int 10000000000000000000000000000000000000000, V.non] none (some 0) = [] from rfl]
        tm_at "g"
        refine go_repE mem0 (by decide) (by decide) ?_
        exact ⟨rs, rfl, Sub.cons Sub.drop⟩
      · refine ⟨mem0, fun ⟨_, z⟩ => absurd z (by decide), fun _ rs => ?_⟩
        rw [show cutV [V.int 10000000000000000000000000000000000000000, V.non] none (some 1) = [V.int 10000000000000000000000000000000000000000] from rfl]
        tm_at "g"
        refine go_repT mem0 (fun z => nomatch z) (by decide) (by decide) (by show 1 ≤ 1000; decide) fun rt => ?_
        rw [show (List.replicate (2 : Int).toNat [V.int 10000000000000000000000000000000000000000]).flatten = [V.int 10000000000000000000000000000000000000000, V.int 10000000000000000000000000000000000000000] from rfl]
        exact ⟨rt, rfl, Sub.cons (Sub.trans Sub.drop Sub.drop)⟩
      · refine ⟨mem0, fun _ => ?_, fun h => absurd ⟨rfl, rfl⟩ h⟩
        tm_at "g"
        refine go_repT mem0 (fun z => nomatch z) (by decide) (by decide) (by show 2 ≤ 1000; decide) fun rt => ?_
        rw [show (List.replicate (2 : Int).toNat [V.int 10000000000000000000000000000000000000000, V.non]).flatten = [V.int 10000000000000000000000000000000000000000, V.non, V.int 10000000000000000000000000000000000000000, V.non] from rfl]
        exact ⟨rt, rfl, Sub.cons Sub.drop⟩
    rintro v M ⟨tm, rfl, sM⟩
    show GA _ _ _ _ _
    refine GAsubc sM ?_
    clear sM
    obtain ⟨J, hJ⟩ : ∃ J, (preV j).length = J := ⟨_, rfl⟩
    have hJm : (preM j).length = J := by rw [← hJ]; unfold preV; rw [List.length_map]
    have hJ4 : J ≤ 4 := by
      rw [← hJm]
      unfold preM
      split
      · decide
      · split <;> decide
    have hgt : ∀ e ∈ es, J < e.2.length ∧ EnOk (2 + d1) k j e := fun e he => by
      obtain ⟨o, eo, h⟩ := hb e he
      exact ⟨by rw [eo, List.length_append, hJm]; simp, ⟨o, eo, h⟩⟩
    tm_at "g"
    rw [hJ]
    refine ge_lcF2 (by tm_at "g_put") (fun _ => by tm_at "g_put") (gi_list ?_) (by decide) (show blkC N_law_periods_right (defScope s_law_periods_right) _ [(_, List.idxOf _ N_law_periods_right), (_, List.idxOf _ N_law_periods_right)] = true by decide +kernel)
    tm_at "g"
    refine fresh_list2 (p := fun i => (mkAt es J i).isSome) (pl := fun i => .tup [.int (vlAt es i), .int ((mkAt es J i).getD 0)]) (by tm_at "g_mem") (by omega) (fun i v hv => ?_) fun D es1 e1 => ?_
    · obtain ⟨e, he, t', m', o', rfl, g1', g2', g3'⟩ := hp.get hv
      have eg : es.getD i (0, []) = e := by rw [List.getD_eq_getElem?_getD, he]; rfl
      obtain ⟨hjl, -⟩ := hgt e (List.mem_of_getElem? he)
      refine ⟨t', .int e.1, .ref m', rfl, by repeat (first | exact g1' | with_reducible apply memS), fun R9 hR9 s1 H1 C1 cl1 fp1 => ?_⟩
      have h3 : (m', o') ∈ R9 := hR9 _ (by repeat (first | exact g3' | with_reducible apply memS))
      unfold mkAt vlAt
      rw [eg]
      have am := at_mk hjl
      cases hm : e.2.getD J none with
      | none =>
        rw [hm, show mkO none = V.non from rfl] at am
        show GT _ _ _ _ _
        tm_at "g"
        refine gi_row g2' h3 am ?_
        tm_at "g"
        exact ⟨rfl, Sub.refl, fun z => nomatch z⟩
      | some y =>
        rw [hm, show mkO (some y) = V.int y from rfl] at am
        show GT _ _ _ _ _
        tm_at "g"
        refine gi_row g2' h3 am ?_
        tm_at "g"
        refine ⟨rfl, Sub.refl, fun _ s2 H2 C2 cl2 fp2 => ?_⟩
        tm_at "g"
        refine gi_row g2' h3 am ?_
        tm_at "g"
        exact Sub.refl
    obtain ⟨ps, e3, e4⟩ := es_pairs (ds := rowsL es J) (by
      rw [e1]
      unfold rowsL heardL
      rw [List.map_map, lx]
      rfl)
    subst e3
    rw [refs_map]
    have lps : ps.length ≤ 5 := by
      have z := congrArg List.length e4
      rw [List.length_map] at z
      rw [z]
      unfold rowsL heardL
      rw [List.length_map]
      exact Nat.le_trans (List.length_filter_le _ _) (by rw [List.length_range]; exact hl5)
    have mps : ∀ e ∈ ps, (e.1, HO.tup [.int e.2.1, .int e.2.2]) ∈ ps.map (fun e => (e.1, HO.tup [.int e.2.1, .int e.2.2])) ++ ((tm, HO.tup (preV j)) :: (p, penO c n7 m7) :: (c, celO ns) :: (f0, HO.lst xs) :: R') := fun e he => memL (List.mem_map.mpr ⟨e, he, rfl⟩)
    have mf : (f0, HO.lst xs) ∈ ps.map (fun e => (e.1, HO.tup [.int e.2.1, .int e.2.2])) ++ ((tm, HO.tup (preV j)) :: (p, penO c n7 m7) :: (c, celO ns) :: (f0, HO.lst xs) :: R') := List.mem_append_right _ (memS (memS (memS mem0)))
    have rpE : Reps (EntAt (ps.map (fun e => (e.1, HO.tup [.int e.2.1, .int e.2.2])) ++ ((tm, HO.tup (preV j)) :: (p, penO c n7 m7) :: (c, celO ns) :: (f0, HO.lst xs) :: R'))) xs es := hp.imp fun v a z => entMono _ _ _ _ (fun _ h => List.mem_append_right _ (memS (memS (memS (memS h))))) z
    have fin : ∀ (M : Lg), (∀ e ∈ ps.map (fun e => (e.1, HO.tup [.int e.2.1, .int e.2.2])) ++ ((tm, HO.tup (preV j)) :: (p, penO c n7 m7) :: (c, celO ns) :: (f0, HO.lst xs) :: R'), e ∈ M) → Sub ((p, penO c n7 m7) :: (c, celO ns) :: R) M := fun M up => ⟨fun _ => ⟨ndR, fun e he => by
      rcases List.mem_cons.mp he with rfl | he
      · exact up _ (List.mem_append_right _ (memS mem0))
      rcases List.mem_cons.mp he with rfl | he
      · exact up _ (List.mem_append_right _ (memS (memS mem0)))
      · exact up _ (List.mem_append_right _ (memS (memS (memS (memS (sR e he))))))⟩⟩
    generalize ps.map (fun e => (e.1, HO.tup [V.int e.2.1, V.int e.2.2])) ++ ((tm, HO.tup (preV j)) :: (p, penO c n7 m7) :: (c, celO ns) :: (f0, HO.lst xs) :: R') = Z at mps mf rpE fin ⊢
    have hgl : ∀ e ∈ es, J < e.2.length := fun e he => (hgt e he).1
    have hge : ∀ e ∈ es, ∀ x, e.2.getD J none = some x → 0 ≤ x ∧ x < 2 + d1 ∧ (x - e.1) % (2 + d1) ≤ k := fun e he x hx => by
      obtain ⟨-, o, eo, mk, -⟩ := hgt e he
      rw [eo, List.getD_eq_getElem?_getD, List.getElem?_append_right (by omega), hJm, Nat.sub_self] at hx
      exact mk x hx
    have hgo : ∀ e ∈ es, -1000000000000000000000000000000 < e.1 ∧ e.1 < 1000000000000000000000000000000 ∧ e.2.length ≤ 1000 ∧ ∀ x ∈ e.2, ∀ y, x = some y → 0 ≤ y := fun e he => by
      obtain ⟨-, o, eo, mk, v0, v1⟩ := hgt e he
      refine ⟨by omega, by omega, by rw [eo, List.length_append, hJm]; show J + 2 ≤ 1000; omega, fun x hx y ey => ?_⟩
      subst ey
      rw [eo] at hx
      rcases List.mem_append.mp hx with hx | hx
      · unfold preM at hx
        unfold T40 at hx
        split at hx
        · cases hx
        · split at hx
          all_goals (simp at hx; omega)
      · simp only [List.mem_cons, List.not_mem_nil, or_false] at hx
        rcases hx with hx | hx
        · exact (mk y hx.symm).1
        · cases hx
          decide
    clear hb hgt hJm hp sR sb
    tm_at "g"
    refine ge_lcP (by tm_at "g_put") (gi_range2 ?_ B.range) (show blkC N_law_periods_right (defScope s_law_periods_right) _ [(_, List.idxOf _ N_law_periods_right)] = true by decide +kernel)
    tm_at "g"
    refine ⟨⟨by decide, by decide, by omega, by omega⟩, ?_⟩
    refine pure_fn (n := (2 + mo + 1 - 2).toNat) (h := fun i => V.int (2 + (i : Nat))) (p := fun i => fitK es J (2 + (i : Nat)) k) (g := fun i => .int (2 + (i : Nat))) (by omega) (fun i hi D acc s1 H1 C1 cl1 fp1 => ?_) fun D5 => ?_
    · show GT _ _ _ _ _
      tm_at "g"
      refine ge_call (El := NoX) D2 hr passA ?_
      tm_at "g"
      refine ⟨_, ps, 2 + (i : Nat), k, rfl, memS mem0, fun e he => memS (memS (mps e he)), by omega, by omega, by omega, fun M sM => ?_⟩
      rw [e4, lfit_eq]
      tm_at "g"
      refine ⟨rfl, sM, fun _ s2 H2 C2 cl2 fp2 => ?_⟩
      tm_at "g"
      exact ⟨rfl, sM⟩
    rw [show ((List.range (2 + mo + 1 - 2).toNat).filter fun i => fitK es J (2 + (i : Nat)) k).map (fun i : Nat => V.int (2 + (i : Nat))) = (fitsL es J k (2 + mo)).map V.int by unfold fitsL; rw [List.map_map, show 2 + mo + 1 - 2 = 2 + mo - 1 by omega]; rfl]
    tm_at "g"
    refine gc_tupL mem0 fun td => ?_
    tm_at "g"
    refine ge_call (El := NoX) D3 hr passA ?_
    tm_at "g"
    refine ⟨f0, .lst xs, xs, es, J, k, 2 + mo, rfl, .inl rfl, memS (memS (memS mf)), rpE.imp fun v a z => entMono _ _ _ _ (fun _ h => memS (memS (memS h))) z, hgl, hgo, by omega, k0, by omega, by omega, fun t1 M1 sM1 => ?_⟩
    refine (fun h => GE.sub (Sub.cons sM1) h) ?_
    clear sM1
    tm_at "g"
    refine go_neD hr.toRoom (dl_tup mem0 dls_ints) (dl_tup (memS mem0) dls_ints) (shapedT _) (shapedT _) ?_
    rw [eqvTT]
    tm_at "g"
    obtain ⟨fk, mk4, kk4, Rk4⟩ := D4
    refine ite_d (fun z => ?_) (fun z => ?_)
    · tm_at "g"
      refine go_notInT (.inl (by tm_at "g_mem")) (by rfl) flat_ints ?_
      rw [inV_ints, decide_eq_true (fits_mem (fits_has (by omega) hge) (by omega) z)]
      tm_at "g"
      refine ge_kw0 mk4 kk4 (fun _ => gf_of (El := NoX) Rk4 hr passA) ?_
      tm_at "g"
      refine gc_tupL (by repeat (first | exact mf | with_reducible apply memS)) fun te => ?_
      tm_at "g"
      refine ⟨te, .tup xs, xs, es, J, k, 2 + mo, rfl, .inr rfl, mem0, rpE.imp fun v a z => entMono _ _ _ _ (fun _ h => memS (memS (memS (memS (memS h))))) z, hgl, hgo, by omega, k0, by omega, by omega, fun t2 M2 sM2 => ?_⟩
      refine (fun h => GE.sub (Sub.cons sM2) h) ?_
      clear sM2
      tm_at "g"
      refine go_eqD hr.toRoom (dl_tup mem0 dls_ints) (dl_tup (by tm_at "g_mem") dls_ints) (shapedT _) (shapedT _) ?_
      rw [eqvTT]
      exact ⟨_, fin _ (fun e he => memS (memS (memS (memS (memS (memS he)))))), q n7 m7 g0 (by omega) g2⟩
    · tm_at "g"
      refine ge_kw0 mk4 kk4 (fun _ => gf_of (El := NoX) Rk4 hr passA) ?_
      tm_at "g"
      refine gc_tupL (by repeat (first | exact mf | with_reducible apply memS)) fun te => ?_
      tm_at "g"
      refine ⟨te, .tup xs, xs, es, J, k, 2 + mo, rfl, .inr rfl, mem0, rpE.imp fun v a z => entMono _ _ _ _ (fun _ h => memS (memS (memS (memS (memS h))))) z, hgl, hgo, by omega, k0, by omega, by omega, fun t2 M2 sM2 => ?_⟩
      refine (fun h => GE.sub (Sub.cons sM2) h) ?_
      clear sM2
      tm_at "g"
      refine go_eqD hr.toRoom (dl_tup mem0 dls_ints) (dl_tup (by tm_at "g_mem") dls_ints) (shapedT _) (shapedT _) ?_
      rw [eqvTT]
      exact ⟨_, fin _ (fun e he => memS (memS (memS (memS (memS (memS he)))))), q n7 m7 g0 (by omega) g2⟩
end
def g1 {α : Type} (mz ws : List α) : List α := mz.take 1 ++ (ws ++ mz.drop 1)
theorem vals_app : ∀ {xs ys : List V} {us ws : List Value}, Vals xs us → Vals ys ws → Vals (xs ++ ys) (us ++ ws)
  | _, _, _, _, .nil, h => h
  | _, _, _, _, .cons a r, h => .cons a (vals_app r h)
theorem g1_vals : ∀ {mz zs : List V} {mv ws : List Value}, Vals mz mv → Vals zs ws → Vals (g1 mz zs) (g1 mv ws)
  | _, _, _, _, .nil, h => vals_app .nil (vals_app h .nil)
  | _, _, _, _, .cons a r, h => vals_app (.cons a .nil) (vals_app h r)
theorem bindM1 : BindK "__init__" "Meter.__init__" "wheels" s_Meter_init ["self"] ["off", "more", "lost"] ["more"] [("off", .int 0), ("lost", .int 0)] g1 (fun _ => True) := fun D doc pm an cdv ct us rest mv ws h1 h2 h3 _ =>
  match us, h1, mv, h2, ws, h3 with
  | [u], _, [a, b], _, [c], _ => by cases rest <;> exact ⟨_, _, _, _, _, _, rfl, rfl, _, _, _, _, _, _, rfl, rfl, rfl⟩
theorem bindM0 : BindK "__init__" "Meter.__init__" "wheels" s_Meter_init ["self"] ["off", "more", "lost"] [] [("off", .int 0), ("more", .int 0), ("lost", .int 0)] (fun mz _ => mz) (fun _ => True) := fun D doc pm an cdv ct us rest mv ws h1 h2 h3 _ =>
  match us, h1, mv, h2, ws, h3 with
  | [u], _, [a, b, c], _, [], _ => by cases rest <;> exact ⟨_, _, _, _, _, _, rfl, rfl, _, _, _, _, _, _, rfl, rfl, _, _, _, _, _, _, rfl, rfl, rfl⟩
section
variable {P : Program} {w : World} {K : PySem.W.Frag} {mg : Str → Option Value} {base : Heap} {Y : WPar}
abbrev spTwo (K : PySem.W.Frag) (Y : WPar) : SpL := fun vs L Q E => ∃ ws rest zs, vs = (ws ++ rest) ++ zs ∧ ws.length = 1 ∧ (ws ++ rest).length = 3 ∧ zs.length = 0 ∧ rest.length ≤ sizeLine ∧ True ∧ ∀ p, spMeterInit K Y (ws ++ ([.int 0, .int 0, .int 0] ++ [.ref p])) ((p, .tup rest) :: L) Q E
theorem run_two {f : Addr} (F : FunK K "__init__" "Meter.__init__" s_Meter_init [("off", .int 0), ("more", .int 0), ("lost", .int 0)] f) (body : BodyOf P w K mg base N_Meter_init "Meter.__init__" s_Meter_init 3 (spMeterInit K Y)) : RunG P w K mg base CX0 4 f argsP (toSp (spTwo K Y)) := fun A outer s H us vs Q E hr e0 r hs => by
  have z := run_starK (ps := ["self"]) (ko := ["off", "more", "lost"]) (ms := [("off", .int 0), ("more", .int 0), ("lost", .int 0)]) 3 (fun mz _ => mz) F sc_Meter_init (fun q h => h) (fun r _ => r) (fun mz _ h _ => h) bindM0 (by decide) body A outer s H us vs Q E hr e0 r hs
  have hl : us.length = 3 := by
    rw [← r.length]
    obtain ⟨_, _, _, _, ⟨ws, rest, zs, rfl, h1, h2, h3, _⟩, _⟩ := hs
    rw [List.length_append, h2, h3]
  match us, hl, z with
  | [u1, u2, u3], _, z => exact z
theorem mk_two {Q : QV} {L : Lg} {wz : List V} {ws : List WhD} {E : XL} (tc : MtC K Y.CM) (rw_ : Reps (WhAt K Y L) wz ws) (l2 : ws.length = 2) (h : ∀ (x dx wt : Addr), Q (.ref x) ((x, mtO Y.CM dx wt (0, 0, 0)) :: (wt, HO.tup wz) :: (dx, .own x) :: L)) : InitSp Y.CM (spTwo K Y) Q E wz L := by
  have lw := rw_.len
  refine fun x dx => ⟨[.ref x], wz, [], by simp, rfl, by simp; omega, rfl, szL (by omega), True.intro, fun p' => ⟨x, dx, p', (0, 0, 0), wz, ws, (dx, .own x) :: L, rfl, rfl, tc, rw_.imp fun v a z => whMono _ _ _ _ (fun _ h => memS h) z, by omega, by omega, by decide, by decide, by decide, ⟨rfl, h x dx p'⟩⟩⟩
/-- eight wheels and more by name -/
abbrev spMore (K : PySem.W.Frag) (Y : WPar) : SpL := fun vs L Q E => ∃ ws rest zs, vs = (ws ++ rest) ++ zs ∧ ws.length = 1 ∧ (ws ++ rest).length = 9 ∧ zs.length = 1 ∧ rest.length ≤ sizeLine ∧ True ∧ ∀ p, spMeterInit K Y (ws ++ (g1 [.int 0, .int 0] zs ++ [.ref p])) ((p, .tup rest) :: L) Q E
theorem run_more {f : Addr} (F : FunK K "__init__" "Meter.__init__" s_Meter_init [("off", .int 0), ("more", .int 0), ("lost", .int 0)] f) (body : BodyOf P w K mg base N_Meter_init "Meter.__init__" s_Meter_init 3 (spMeterInit K Y)) : RunG P w K mg base CX0 4 f (argsK 9 ["more"]) (toSp (spMore K Y)) :=
  run_starK (ps := ["self"]) (ko := ["off", "more", "lost"]) (ms := [("off", .int 0), ("lost", .int 0)]) 9 g1 F sc_Meter_init (fun q h => by
    simp only [List.mem_cons, List.not_mem_nil, or_false] at h ⊢
    rcases h with rfl | rfl
    · exact .inl rfl
    · exact .inr (.inr rfl)) g1_vals (fun mz zs h1 h2 => by
    unfold g1
    rw [List.length_append, List.length_append, List.length_take, List.length_drop, h1, h2]
    rfl) bindM1 (by decide) body
theorem mk_more {Q : QV} {L : Lg} {m : Nat} {wz : List V} {ws : List WhD} {vals : List V} {E : XL} (tc : MtC K Y.CM) (ev : vals = wz ++ [.int (m : Nat)]) (rw_ : Reps (WhAt K Y L) wz ws) (l8 : ws.length = 8) (hm : m ≤ 8) (h : ∀ (x dx wt : Addr), Q (.ref x) ((x, mtO Y.CM dx wt (0, m, 0)) :: (wt, HO.tup wz) :: (dx, .own x) :: L)) : InitSp Y.CM (spMore K Y) Q E vals L := by
  subst ev
  have lw := rw_.len
  refine fun x dx => ⟨[.ref x], wz, [.int (m : Nat)], by simp, rfl, by simp; omega, rfl, szL (by omega), True.intro, fun p' => ⟨x, dx, p', (0, m, 0), wz, ws, (dx, .own x) :: L, rfl, rfl, tc, rw_.imp fun v a z => whMono _ _ _ _ (fun _ h => memS h) z, by omega, by omega, Nat.zero_le _, hm, Nat.zero_le _, ⟨rfl, h x dx p'⟩⟩⟩
end
def entB (ps : List Int) (e : Ent) : Bool := (decide (-1000000000000000000000000000000 < e.1) && decide (e.1 < 1000000000000000000000000000000)) && (decide (e.2.length = ps.length) && (List.zipWith (fun (o : Option Int) (p : Int) => match o with | none => true | some x => decide (0 ≤ x) && decide (x < p)) e.2 ps).all id)
theorem zw_get {α β : Type} {f : α → β → Bool} : ∀ {xs : List α} {ys : List β}, (List.zipWith f xs ys).all id = true → ∀ (i : Nat) (x : α) (y : β), xs[i]? = some x → ys[i]? = some y → f x y = true
  | x :: xs, y :: ys, h, 0, a, b, ha, hb => by
    cases ha
    cases hb
    rw [List.zipWith_cons_cons, List.all_cons, Bool.and_eq_true] at h
    exact h.1
  | x :: xs, y :: ys, h, i + 1, a, b, ha, hb => by
    rw [List.zipWith_cons_cons, List.all_cons, Bool.and_eq_true] at h
    exact zw_get h.2 i a b ha hb
  | [], _, _, i, a, b, ha, _ => by simp at ha
  | _ :: _, [], _, i, a, b, _, hb => by simp at hb
theorem entB_ok {ps : List Int} {e : Ent} (h : entB ps e = true) : EntOk ps e := by
  unfold entB at h
  simp only [Bool.and_eq_true] at h
  obtain ⟨⟨h1, h2⟩, h3, h4⟩ := h
  refine ⟨of_decide_eq_true h1, of_decide_eq_true h2, of_decide_eq_true h3, fun i x p hx hp => ?_⟩
  have z := zw_get h4 i _ _ hx hp
  dsimp only at z
  rw [Bool.and_eq_true] at z
  exact ⟨of_decide_eq_true z.1, of_decide_eq_true z.2⟩
theorem ents_ok {ps : List Int} {es : List Ent} (h : es.all (entB ps) = true) : ∀ e ∈ es, EntOk ps e := fun e he => entB_ok (List.all_eq_true.mp h e he)
def pairW : List WhD := [(false, 100, 1, 1), (false, 90, 1, 1)]
def fourE : List Ent := [(0, [some 99, some 0]), (205, [some 6, some 25]), (898, [some 99, none]), (450, [some 50, some 3])]
theorem four_ok : ∀ e ∈ fourE, EntOk (perM (pairW, (0, 0, 0))) e := ents_ok (by decide +kernel)
theorem four_off : fourE.map (offPl pairW) = [[], [], [], [1]] := by decide +kernel
theorem four_mis : misPl pairW (0, 0, 0) fourE = [2, 3] := by decide +kernel
def wideP (i : Nat) : Nat := [7, 9, 11, 13, 17, 19, 23, 25].getD i 7
def wideW : List WhD := (List.range 8).map fun i => (false, wideP i, 0, 1)
def eightE : List Ent := [(5, [some 5, some 6, some 5, some 6, some 5, some 6, some 5, some 4]), (5, [some 4, some 5, some 5, some 7, some 5, some 5, some 5, some 8])]
theorem eight_ok : ∀ e ∈ eightE, EntOk (perM (wideW, (0, 1, 0))) e := ents_ok (by decide +kernel)
theorem eight_off : eightE.map (offPl wideW) = [[7], [0, 3, 7]] := by decide +kernel
theorem eight_mis : misPl wideW (0, 1, 0) eightE = [1] := by decide +kernel
def threeE : List Ent := [(3, [some 3]), (17, [some 7]), (28, [some 8])]
theorem three_fit : fitsL threeE 0 0 30 = [10] := by decide +kernel
theorem none_fit : fitsL [] 0 0 5 = [2, 3, 4, 5] := by decide +kernel
theorem ge_pk {X : Cx} {e : Expr} {η : En} {Q : QV} {F : Lg → Prop} {L : Lg} (h : F L) (k : ∀ L2, F L2 → GE X e η L2 Q) : GE X e η L Q := k L h
theorem ent_t {L : Lg} {t m : Addr} {v : Int} {ms : List (Option Int)} {xs : List V} (h1 : (t, HO.tup [.int v, .ref m]) ∈ L) (h2 : (m, HO.tup xs) ∈ L) (e : ms.map mkO = xs) : EntAt L (.ref t) (v, ms) := ⟨t, m, .tup xs, rfl, h1, .inr (by rw [e]), h2⟩
theorem ent_l {L : Lg} {t m : Addr} {v : Int} {ms : List (Option Int)} {xs : List V} (h1 : (t, HO.tup [.int v, .ref m]) ∈ L) (h2 : (m, HO.lst xs) ∈ L) (e : ms.map mkO = xs) : EntAt L (.ref t) (v, ms) := ⟨t, m, .lst xs, rfl, h1, .inl (by rw [e]), h2⟩
theorem wide_at {i : Nat} {x : V} (hi : i < 8) (h : ([V.int 7, .int 9, .int 11, .int 13, .int 17, .int 19, .int 23, .int 25] : List V)[i]? = some x) : x = .int ((wideP i : Nat) : Int) ∧ 2 ≤ wideP i ∧ wideP i ≤ 1000000000000 := by
  match i, hi, h with
  | 0, _, h => exact ⟨(Option.some.inj h).symm, by decide, by decide⟩
  | 1, _, h => exact ⟨(Option.some.inj h).symm, by decide, by decide⟩
  | 2, _, h => exact ⟨(Option.some.inj h).symm, by decide, by decide⟩
  | 3, _, h => exact ⟨(Option.some.inj h).symm, by decide, by decide⟩
  | 4, _, h => exact ⟨(Option.some.inj h).symm, by decide, by decide⟩
  | 5, _, h => exact ⟨(Option.some.inj h).symm, by decide, by decide⟩
  | 6, _, h => exact ⟨(Option.some.inj h).symm, by decide, by decide⟩
  | 7, _, h => exact ⟨(Option.some.inj h).symm, by decide, by decide⟩
section
variable {P : Program} {w : World} {K : PySem.W.Frag} {mg : Str → Option Value} {base : Heap} {Y : WPar} {Ce fD fG fM g gP gL : Addr}
theorem law_body (B : Bi mg) (A0 : Fn P w K mg base CX0 "_law_pen" 1 (fun vs L Q _ => ∃ (a : Addr) (ns : List Int), vs = [.ref a] ∧ InL K L a (ns.map V.int) ∧ ∀ p c ms, ms.length ≤ 63 → Q (.ref p) ((p, penO c 0 0) :: (c, celO ms) :: L)))
    (A1 : Fn P w K mg base CX0 "_law_log_right" 10 (spRight 160)) (A2 : Fn P w K mg base CX0 "_law_periods_right" 8 (spRight 30)) (D4 : Fn P w K mg base CX0 "wheels_off" 8 (spOffs K Y gP gL)) (D6 : Fn P w K mg base CX0 "misread" 9 (spMis K Y gP gL)) (D3 : Fn P w K mg base CX0 "periods_that_fit" 7 spFits)
    (Z : Mks P w K mg base Y Ce fD fG fM g gP gL) (R2 : RunG P w K mg base CX0 4 fM argsP (toSp (spTwo K Y))) (R9 : RunG P w K mg base CX0 4 fM (argsK 9 ["more"]) (toSp (spMore K Y))) : BodyOf P w K mg base N_law "law" s_law 11 (spLaw K (tabsL [])) := by
  intro X f cdv A outer s H E0 L vs Q E hX nd hr h
  subst hX
  obtain ⟨a, ns, _, rfl, rfl, hi, -, q⟩ := h
  show GSs _ (defBody s_law) (bodyD Q) [("_law_script", some (.ref a)), ("_law_pen_here", none), ("_law_turn", none), ("_law_pair", none), ("_law_entries_here", none), ("_law_some", none), ("_law_wide", none), ("_law_eight", none), ("_law_period", none)] _
  refine gss_cons ?_
  tm_at "g"
  refine ge_call (El := NoX) A0 hr passA ?_
  tm_at "g"
  refine ⟨a, ns, rfl, hi, fun p c ms h63 => ?_⟩
  tm_at "g"
  refine gs_for (gi_range1 ?_ B.range)
  tm_at "g"
  refine ⟨by decide, fun i θ N => ∃ u n m, θ = ([("_law_script", some (.ref a)), ("_law_pen_here", some (.ref p)), ("_law_turn", u), ("_law_pair", none), ("_law_entries_here", none), ("_law_some", none), ("_law_wide", none), ("_law_eight", none), ("_law_period", none)] : En) ∧ Sub ((p, penO c n m) :: (c, celO ms) :: L) N ∧ 0 ≤ n ∧ n ≤ 190 * (i : Int) ∧ 0 ≤ m, ⟨none, 0, 0, rfl, Sub.refl, by decide, by decide, by decide⟩, fun _ _ _ _ _ _ => True.intro, ?_, ?_⟩
  · rintro i x E1 θ N hi ⟨rfl, rfl⟩ ⟨u, n, m, rfl, sb, n0, n1, m0⟩
    dsimp only [List.nil_append] at hi ⊢
    have hi8 : i < 11 := hi
    refine gg_name (by tm_at "g_pv") ?_
    refine (fun h => GSs.sub sb h) ?_
    tm_at "g"
    refine ge_call (El := NoX) A1 hr passA ?_
    tm_at "g"
    refine ⟨p, c, ms, n, m, _, rfl, Sub.refl, h63, n0, by omega, m0, fun n2 m2 a0 a1 a2 => ?_⟩
    tm_at "g"
    refine ge_call (El := NoX) A2 hr passA ?_
    tm_at "g"
    refine ⟨p, c, ms, n2, m2, _, rfl, Sub.refl, h63, a0, by omega, a2, fun n3 m3 b0 b1 b2 => ?_⟩
    tm_at "g"
    exact ⟨_, n3, m3, rfl, Sub.refl, b0, by omega, b2⟩
  rintro θ N ⟨u, n, m, rfl, sb, -, -, -⟩
  show GSs _ _ _ _ _
  refine (fun h => GSs.sub (Sub.trans (Sub.trans Sub.drop Sub.drop) sb) h) ?_
  tm_at "g"
  refine ge_callF Z.hC Z.M0.kp (fun _ => gf_make (El := NoX) Z.M0 R2 (fun _ _ => rfl) hr passA) ?_
  tm_at "g"
  refine ge_callF Z.m0.g Z.m0.M.kp (fun _ => gf_make (El := NoX) Z.m0.M Z.m0.R (fun _ _ => rfl) hr passN) ?_
  tm_at "g"
  refine fun e1 dx1 => ⟨e1, Y.D, dx1, _, _, _, _, _, _, _, rfl, mem0, Z.wd.k.c.a, .int, .int, .int, .here, fun _ _ _ => ⟨rfl, ?_⟩, no_bad (by decide) (by decide), fun _ => no_bad (by decide) (by decide), fun _ _ => no_bad (by decide) (by decide)⟩
  tm_at "g"
  refine ge_callF Z.m0.g Z.m0.M.kp (fun _ => gf_make (El := NoX) Z.m0.M Z.m0.R (fun _ _ => rfl) hr passN) ?_
  tm_at "g"
  refine fun e2 dx2 => ⟨e2, Y.D, dx2, _, _, _, _, _, _, _, rfl, mem0, Z.wd.k.c.a, .int, .int, .int, .here, fun _ _ _ => ⟨rfl, ?_⟩, no_bad (by decide) (by decide), fun _ => no_bad (by decide) (by decide), fun _ _ => no_bad (by decide) (by decide)⟩
  tm_at "g"
  refine mk_two Z.W.c (ws := pairW) (.cons ⟨e1, Y.D, dx1, rfl, by tm_at "d_mem", Z.wd.k⟩ (.cons ⟨e2, Y.D, dx2, rfl, by tm_at "d_mem", Z.wd.k⟩ .nil)) rfl fun mt dxm wt => ?_
  tm_at "g"
  rename_i z8 z7 z6 z5 z4 z3 z2 z1 z0
  refine ge_pk (F := fun L2 => LogOk K Y gP gL L2 mt dxm wt z0 (0, 0, 0) [V.ref e1, V.ref e2] pairW (.lst [V.ref z7, V.ref z5, V.ref z3, V.ref z1]) [V.ref z7, V.ref z5, V.ref z3, V.ref z1] fourE) ?_ ?_
  · refine ⟨by tm_at "d_mem", by tm_at "d_mem", .cons ⟨e1, Y.D, dx1, rfl, by tm_at "d_mem", Z.wd⟩ (.cons ⟨e2, Y.D, dx2, rfl, by tm_at "d_mem", Z.wd⟩ .nil), by show 2 ≤ 8; decide, by decide, .inl rfl, mem0, ?_, four_ok, by decide⟩
    exact .cons (ent_t (m := z8) (xs := [.int 99, .int 0]) (by tm_at "d_mem") (by tm_at "d_mem") rfl) (.cons (ent_t (m := z6) (xs := [.int 6, .int 25]) (by tm_at "d_mem") (by tm_at "d_mem") rfl) (.cons (ent_t (m := z4) (xs := [.int 99, .non]) (by tm_at "d_mem") (by tm_at "d_mem") rfl) (.cons (ent_l (m := z2) (xs := [.int 50, .int 3]) (by tm_at "d_mem") (by tm_at "d_mem") rfl) .nil)))
  intro L4 lo
  refine ge_call (El := NoX) D4 hr passA ?_
  tm_at "g"
  refine ⟨mt, dxm, wt, z0, _, _, pairW, _, _, fourE, rfl, lo, fun D1 t1 M1 up1 r1 => ?_⟩
  have lo1 := lo.mono up1
  clear lo up1
  tm_at "g"
  rename_i y3 y2 y1 y0 yl
  refine go_neD hr.toRoom (dl_off (memS (memS (memS (memS (memS mem0))))) (r1.imp fun v a h => offAtMono _ _ _ _ (fun _ h => memS (memS (memS (memS (memS (memS h)))))) h)) (dl_lst mem0 (ds := ([[], [], [], [1]] : List (List Int)).map fun x => PyData.tuple (x.map PyData.int)) (dls_cons (dl_tup (by tm_at "d_mem") (dls_ints (ns := []))) (dls_cons (dl_tup (by tm_at "d_mem") (dls_ints (ns := []))) (dls_cons (dl_tup (by tm_at "d_mem") (dls_ints (ns := []))) (dls_cons (dl_tup (by tm_at "d_mem") (dls_ints (ns := [1]))) dls_nil))))) (shaped_ti _) (shaped_ti [[], [], [], [1]]) ?_
  rw [four_off, show PyData.eqv (tiD [[], [], [], [1]]) (.list (([[], [], [], [1]] : List (List Int)).map fun x => PyData.tuple (x.map PyData.int))) = true from eqv_ti _]
  tm_at "g"
  refine ge_call (El := NoX) D6 hr passA ?_
  tm_at "g"
  refine ⟨mt, dxm, wt, z0, _, _, pairW, _, _, fourE, rfl, lo1.mono (fun e he => by repeat (first | exact he | with_reducible apply memS)), fun t2 M2 sM2 => ?_⟩
  rw [four_mis]
  refine (fun h => GE.sub (Sub.cons sM2) h) ?_
  clear sM2
  tm_at "g"
  refine go_neD (d := .tuple ([2, 3].map PyData.int)) (e := .tuple ([2, 3].map PyData.int)) hr.toRoom (dl_tup (memS mem0) dls_ints) (dl_tup mem0 (dls_ints (ns := [2, 3]))) (shapedT _) (shapedT _) ?_
  rw [eqvTT]
  tm_at "g"
  refine ge_call (El := NoX) D6 hr passA ?_
  tm_at "g"
  rename_i le
  have lo2 := lo1.mono (M := M1) (fun e he => he)
  refine ⟨mt, dxm, wt, le, (0, 0, 0), _, pairW, .lst [], [], [], rfl, ⟨by repeat (first | exact lo1.ma | with_reducible apply memS), by repeat (first | exact lo1.mw | with_reducible apply memS), lo1.rp.imp fun v d h => whlMono _ _ _ _ (fun e he => by repeat (first | exact he | with_reducible apply memS)) h, lo1.l8, lo1.p1, .inl rfl, mem0, .nil, (fun e he => nomatch he), by decide⟩, fun t3 M3 sM3 => ?_⟩
  refine (fun h => GE.sub (Sub.cons sM3) h) ?_
  clear sM3
  tm_at "g"
  refine go_neD (d := .tuple (([] : List Int).map PyData.int)) (e := .tuple (([] : List Int).map PyData.int)) hr.toRoom (dl_tup (memS mem0) (dls_ints (ns := []))) (dl_tup mem0 (dls_ints (ns := []))) (shapedT _) (shapedT _) ?_
  rw [eqvTT]
  repeat (refine G.St.to ?_)
  dsimp only [G.bodyD]
  refine (fun h => gs_lcR (by tm_at "g_put") (by tm_at "g_put") (gi_tuple h) (show blkC N_law (defScope s_law) _ [(_, List.idxOf _ N_law)] = true by decide +kernel)) ?_
  tm_at "g"
  refine ⟨WhD, WhAtL K Y gP gL, fun i => (false, wideP i, 0, 1), whlMono, by show 8 ≤ 1000000; decide, fun M s => s _ mem0, ?_, ?_⟩
  · intro D i x E1 zs2 R2 hi ⟨hx, hE⟩ hR nd2
    subst hE
    obtain ⟨rfl, p0, p1⟩ := wide_at hi hx
    intro s1 H1 C1 cl1 fp1
    tm_at "g"
    refine ge_callF Z.m0.g Z.m0.M.kp (fun _ => gf_make (El := NoX) Z.m0.M Z.m0.R (fun _ _ => rfl) hr passN) ?_
    tm_at "g"
    refine fun e dx => ⟨e, Y.D, dx, _, _, _, _, _, _, _, rfl, mem0, Z.wd.k.c.a, .int, .int, .int, .here, fun _ _ _ => ⟨rfl, ?_⟩, no_bad (by omega) (by omega), fun _ => no_bad (by decide) (by decide), fun _ _ => no_bad (by decide) (by decide)⟩
    exact ⟨(e, wO Y.D dx (.int (wideP i : Nat)) (.int 0) (.int 1)) :: (dx, HO.own e) :: R2, by first | exact Sub.perm (List.perm_middle (l₁ := [_, _])) | exact Sub.perm (List.perm_middle (l₁ := [_, _])).symm, fun e he => memS (memS he), e, Y.D, dx, rfl, mem0, Z.wd⟩
  intro D8 zs8 R8 up8 rp8
  have rp8 : Reps (WhAtL K Y gP gL R8) zs8 wideW := rp8
  obtain ⟨v0, v1, v2, v3, v4, v5, v6, v7, rfl⟩ : ∃ v0 v1 v2 v3 v4 v5 v6 v7, zs8 = [v0, v1, v2, v3, v4, v5, v6, v7] := by
    have l8 : zs8.length = 8 := rp8.len
    match zs8, l8 with
    | [a, b, c, d, e, f, g, h], _ => exact ⟨_, _, _, _, _, _, _, _, rfl⟩
  show GSs _ _ _ _ _
  repeat (refine G.St.to ?_)
  refine ge_kw (n := 8) Z.hC Z.M0.kp (fun _ => gf_make (args := argsK 8 ["more"]) (El := NoX) Z.M0 R9 (fun _ _ => rfl) hr passA) ?_
  tm_at "g"
  refine ⟨rfl, mk_more (m := 1) Z.W.c rfl (rp8.imp fun v d z => whMono _ _ _ _ (fun e he => by repeat (first | exact he | with_reducible apply memS)) z.at_) rfl (by decide) fun mt2 dxm2 wt2 => ?_⟩
  tm_at "g"
  rename_i y3 y2 y1 y0 ye
  refine ge_pk (F := fun L2 => LogOk K Y gP gL L2 mt2 dxm2 wt2 ye (0, 1, 0) [v0, v1, v2, v3, v4, v5, v6, v7] wideW (.lst [V.ref y2, V.ref y0]) [V.ref y2, V.ref y0] eightE) ?_ ?_
  · refine ⟨by tm_at "d_mem", by tm_at "d_mem", rp8.imp fun v d z => whlMono _ _ _ _ (fun e he => by repeat (first | exact he | with_reducible apply memS)) z, by show 8 ≤ 8; decide, by decide, .inl rfl, mem0, ?_, eight_ok, by decide⟩
    exact .cons (ent_t (m := y3) (by tm_at "d_mem") (by tm_at "d_mem") rfl) (.cons (ent_t (m := y1) (by tm_at "d_mem") (by tm_at "d_mem") rfl) .nil)
  intro L8 lo8
  refine ge_call (El := NoX) D4 hr passA ?_
  tm_at "g"
  refine ⟨mt2, dxm2, wt2, ye, _, _, wideW, _, _, eightE, rfl, lo8, fun D3' t3 M3 up3 r3 => ?_⟩
  have lo3 := lo8.mono up3
  clear lo8 up3
  tm_at "g"
  refine go_neD hr.toRoom (dl_off (memS (memS (memS mem0))) (r3.imp fun v a h => offAtMono _ _ _ _ (fun _ h => memS (memS (memS (memS h)))) h)) (dl_lst mem0 (ds := ([[7], [0, 3, 7]] : List (List Int)).map fun x => PyData.tuple (x.map PyData.int)) (dls_cons (dl_tup (by tm_at "d_mem") (dls_ints (ns := [7]))) (dls_cons (dl_tup (by tm_at "d_mem") (dls_ints (ns := [0, 3, 7]))) dls_nil))) (shaped_ti _) (shaped_ti [[7], [0, 3, 7]]) ?_
  rw [eight_off, show PyData.eqv (tiD [[7], [0, 3, 7]]) (.list (([[7], [0, 3, 7]] : List (List Int)).map fun x => PyData.tuple (x.map PyData.int))) = true from eqv_ti _]
  tm_at "g"
  refine ge_call (El := NoX) D6 hr passA ?_
  tm_at "g"
  refine ⟨mt2, dxm2, wt2, ye, _, _, wideW, _, _, eightE, rfl, lo3.mono (fun e he => by repeat (first | exact he | with_reducible apply memS)), fun t4 M4 sM4 => ?_⟩
  rw [eight_mis]
  refine (fun h => GE.sub (Sub.cons sM4) h) ?_
  clear sM4
  tm_at "g"
  refine go_neD (d := .tuple ([1].map PyData.int)) (e := .tuple ([1].map PyData.int)) hr.toRoom (dl_tup (memS mem0) dls_ints) (dl_tup mem0 (dls_ints (ns := [1]))) (shapedT _) (shapedT _) ?_
  rw [eqvTT]
  tm_at "g"
  refine ge_call (El := NoX) D3 hr passA ?_
  tm_at "g"
  rename_i x5 x4 x3 x2 x1 x0 xl
  refine ⟨xl, _, _, threeE, 0, 0, 30, rfl, .inl rfl, mem0, .cons (ent_t (m := x5) (by tm_at "d_mem") (by tm_at "d_mem") rfl) (.cons (ent_t (m := x3) (by tm_at "d_mem") (by tm_at "d_mem") rfl) (.cons (ent_t (m := x1) (by tm_at "d_mem") (by tm_at "d_mem") rfl) .nil)), by decide, by decide, by decide, by decide, by decide, by decide, fun t5 M5 sM5 => ?_⟩
  rw [three_fit]
  refine (fun h => GE.sub (Sub.cons sM5) h) ?_
  clear sM5
  tm_at "g"
  refine go_eqD (d := .tuple ([10].map PyData.int)) (e := .tuple ([10].map PyData.int)) hr.toRoom (dl_tup (memS mem0) dls_ints) (dl_tup mem0 (dls_ints (ns := [10]))) (shapedT _) (shapedT _) ?_
  rw [eqvTT]
  tm_at "g"
  refine ge_call (El := NoX) D3 hr passA ?_
  tm_at "g"
  refine ⟨_, _, _, [], 0, 0, 5, rfl, .inl rfl, mem0, .nil, by decide, by decide, by decide, by decide, by decide, by decide, fun t6 M6 sM6 => ?_⟩
  rw [none_fit]
  refine (fun h => GE.sub (Sub.cons sM6) h) ?_
  clear sM6
  tm_at "g"
  refine go_eqD (d := .tuple ([2, 3, 4, 5].map PyData.int)) (e := .tuple ([2, 3, 4, 5].map PyData.int)) hr.toRoom (dl_tup (memS mem0) dls_ints) (dl_tup mem0 (dls_ints (ns := [2, 3, 4, 5]))) (shapedT _) (shapedT _) ?_
  rw [eqvTT]
  tm_at "g"
  exact ⟨_, Sub.refl, q _⟩
end
theorem all_mk {l : PySem.W.OpenLaw} {q : Program} {w : World} {K : PySem.W.Frag} {h : Heap} {mg : Str → Option Value} {fa : Addr} {f0 f1 f2 f3 f4 f5 f6 f7 f8 f9 f10 f11 f12 f13 f14 f15 f16 f17 f18 f19 f20 f21 f22 f23 f24 f25 f26 f27 f28 f29 f30 f31 : Addr} (X : K.In h) (G : h.Ns mainGlobals mg) (hfa : mg "law" = some (.ref fa))
    {od0 an0 od1 an1 od2 an2 od3 an3 od4 an4 od5 an5 od6 an6 od7 an7 od8 an8 od9 an9 od10 an10 od11 an11 od12 an12 od13 an13 od14 an14 od15 an15 od16 an16 od17 an17 od18 an18 od19 an19 od20 an20 od21 an21 od22 an22 od23 an23 od24 an24 od25 an25 od26 an26 od27 an27 od28 an28 od29 an29 od30 an30 od31 an31 : Option Addr} {sl0 sl1 sl2 sl3 sl4 sl5 sl6 sl7 sl8 sl9 sl10 sl11 sl12 sl13 sl14 sl15 sl16 sl17 sl18 sl19 sl20 sl21 sl22 sl23 sl24 sl25 sl26 sl27 sl28 sl29 sl30 sl31 : Array (Option Value)} {oc0 kV0 dc0 pm0 cd0 ct0 oc1 kV1 dc1 pm1 cd1 ct1 oc2 kV2 dc2 pm2 cd2 ct2 oc3 kV3 dc3 pm3 cd3 ct3 oc4 kV4 dc4 pm4 cd4 ct4 oc5 kV5 dc5 pm5 cd5 ct5 oc6 kV6 dc6 pm6 cd6 ct6 oc7 kV7 dc7 pm7 cd7 ct7 oc8 kV8 dc8 pm8 cd8 ct8 oc9 kV9 dc9 pm9 cd9 ct9 oc10 kV10 dc10 pm10 cd10 ct10 oc11 kV11 dc11 pm11 cd11 ct11 oc12 kV12 dc12 pm12 cd12 ct12 oc13 kV13 dc13 pm13 cd13 ct13 oc14 kV14 dc14 pm14 cd14 ct14 oc15 kV15 dc15 pm15 cd15 ct15 oc16 kV16 dc16 pm16 cd16 ct16 oc17 kV17 dc17 pm17 cd17 ct17 oc18 kV18 dc18 pm18 cd18 ct18 oc19 kV19 dc19 pm19 cd19 ct19 oc20 kV20 dc20 pm20 cd20 ct20 oc21 kV21 dc21 pm21 cd21 ct21 oc22 kV22 dc22 pm22 cd22 ct22 oc23 kV23 dc23 pm23 cd23 ct23 oc24 kV24 dc24 pm24 cd24 ct24 oc25 kV25 dc25 pm25 cd25 ct25 oc26 kV26 dc26 pm26 cd26 ct26 oc27 kV27 dc27 pm27 cd27 ct27 oc28 kV28 dc28 pm28 cd28 ct28 oc29 kV29 dc29 pm29 cd29 ct29 oc30 kV30 dc30 pm30 cd30 ct30 oc31 kV31 dc31 pm31 cd31 ct31 : Value}
    (a0 : PySem.W.nsIn K mainGlobals "is_whole" = some (some (.ref f0))) (l0 : K.lookup f0 = some ⟨oc0, od0, .func (PySem.W.fnOf "is_whole" "is_whole" (defArgs s_is_whole) (defBody s_is_whole) (defScope s_is_whole) .none kV0 dc0 pm0 an0 cd0 ct0), sl0⟩) (c0 : PySem.W.codeIn K cd0 "is_whole" = true) (k0 : PySem.W.keepIn K (.ref f0) = true)
    (a1 : PySem.W.nsIn K mainGlobals "need_part" = some (some (.ref f1))) (l1 : K.lookup f1 = some ⟨oc1, od1, .func (PySem.W.fnOf "need_part" "need_part" (defArgs s_need_part) (defBody s_need_part) (defScope s_need_part) .none kV1 dc1 pm1 an1 cd1 ct1), sl1⟩) (c1 : PySem.W.codeIn K cd1 "need_part" = true) (k1 : PySem.W.keepIn K (.ref f1) = true)
    (a2 : PySem.W.nsIn K mainGlobals "need_value" = some (some (.ref f2))) (l2 : K.lookup f2 = some ⟨oc2, od2, .func (PySem.W.fnOf "need_value" "need_value" (defArgs s_need_value) (defBody s_need_value) (defScope s_need_value) .none kV2 dc2 pm2 an2 cd2 ct2), sl2⟩) (c2 : PySem.W.codeIn K cd2 "need_value" = true) (k2 : PySem.W.keepIn K (.ref f2) = true)
    (a3 : PySem.W.nsIn K mainGlobals "need_count" = some (some (.ref f3))) (l3 : K.lookup f3 = some ⟨oc3, od3, .func (PySem.W.fnOf "need_count" "need_count" (defArgs s_need_count) (defBody s_need_count) (defScope s_need_count) .none kV3 dc3 pm3 an3 cd3 ct3), sl3⟩) (c3 : PySem.W.codeIn K cd3 "need_count" = true) (k3 : PySem.W.keepIn K (.ref f3) = true)
    (a4 : PySem.W.nsIn K mainGlobals "need_least" = some (some (.ref f4))) (l4 : K.lookup f4 = some ⟨oc4, od4, .func (PySem.W.fnOf "need_least" "need_least" (defArgs s_need_least) (defBody s_need_least) (defScope s_need_least) .none kV4 dc4 pm4 an4 cd4 ct4), sl4⟩) (c4 : PySem.W.codeIn K cd4 "need_least" = true) (k4 : PySem.W.keepIn K (.ref f4) = true)
    (a5 : PySem.W.nsIn K mainGlobals "need_few" = some (some (.ref f5))) (l5 : K.lookup f5 = some ⟨oc5, od5, .func (PySem.W.fnOf "need_few" "need_few" (defArgs s_need_few) (defBody s_need_few) (defScope s_need_few) .none kV5 dc5 pm5 an5 cd5 ct5), sl5⟩) (c5 : PySem.W.codeIn K cd5 "need_few" = true) (k5 : PySem.W.keepIn K (.ref f5) = true)
    (a6 : PySem.W.nsIn K mainGlobals "is_marks" = some (some (.ref f6))) (l6 : K.lookup f6 = some ⟨oc6, od6, .func (PySem.W.fnOf "is_marks" "is_marks" (defArgs s_is_marks) (defBody s_is_marks) (defScope s_is_marks) .none kV6 dc6 pm6 an6 cd6 ct6), sl6⟩) (c6 : PySem.W.codeIn K cd6 "is_marks" = true) (k6 : PySem.W.keepIn K (.ref f6) = true)
    (a7 : PySem.W.nsIn K mainGlobals "is_entry" = some (some (.ref f7))) (l7 : K.lookup f7 = some ⟨oc7, od7, .func (PySem.W.fnOf "is_entry" "is_entry" (defArgs s_is_entry) (defBody s_is_entry) (defScope s_is_entry) .none kV7 dc7 pm7 an7 cd7 ct7), sl7⟩) (c7 : PySem.W.codeIn K cd7 "is_entry" = true) (k7 : PySem.W.keepIn K (.ref f7) = true)
    (a8 : PySem.W.nsIn K mainGlobals "need_entries" = some (some (.ref f8))) (l8 : K.lookup f8 = some ⟨oc8, od8, .func (PySem.W.fnOf "need_entries" "need_entries" (defArgs s_need_entries) (defBody s_need_entries) (defScope s_need_entries) .none kV8 dc8 pm8 an8 cd8 ct8), sl8⟩) (c8 : PySem.W.codeIn K cd8 "need_entries" = true) (k8 : PySem.W.keepIn K (.ref f8) = true)
    (a9 : PySem.W.nsIn K mainGlobals "stretch_of" = some (some (.ref f9))) (l9 : K.lookup f9 = some ⟨oc9, od9, .func (PySem.W.fnOf "stretch_of" "stretch_of" (defArgs s_stretch_of) (defBody s_stretch_of) (defScope s_stretch_of) .none kV9 dc9 pm9 an9 cd9 ct9), sl9⟩) (c9 : PySem.W.codeIn K cd9 "stretch_of" = true) (k9 : PySem.W.keepIn K (.ref f9) = true)
    (a10 : PySem.W.nsIn K mainGlobals "offsets_at" = some (some (.ref f10))) (l10 : K.lookup f10 = some ⟨oc10, od10, .func (PySem.W.fnOf "offsets_at" "offsets_at" (defArgs s_offsets_at) (defBody s_offsets_at) (defScope s_offsets_at) .none kV10 dc10 pm10 an10 cd10 ct10), sl10⟩) (c10 : PySem.W.codeIn K cd10 "offsets_at" = true) (k10 : PySem.W.keepIn K (.ref f10) = true)
    (a11 : PySem.W.nsIn K mainGlobals "need_log" = some (some (.ref f11))) (l11 : K.lookup f11 = some ⟨oc11, od11, .func (PySem.W.fnOf "need_log" "need_log" (defArgs s_need_log) (defBody s_need_log) (defScope s_need_log) .none kV11 dc11 pm11 an11 cd11 ct11), sl11⟩) (c11 : PySem.W.codeIn K cd11 "need_log" = true) (k11 : PySem.W.keepIn K (.ref f11) = true)
    (a12 : PySem.W.nsIn K mainGlobals "off_in" = some (some (.ref f12))) (l12 : K.lookup f12 = some ⟨oc12, od12, .func (PySem.W.fnOf "off_in" "off_in" (defArgs s_off_in) (defBody s_off_in) (defScope s_off_in) .none kV12 dc12 pm12 an12 cd12 ct12), sl12⟩) (c12 : PySem.W.codeIn K cd12 "off_in" = true) (k12 : PySem.W.keepIn K (.ref f12) = true)
    (a13 : PySem.W.nsIn K mainGlobals "wheels_off" = some (some (.ref f13))) (l13 : K.lookup f13 = some ⟨oc13, od13, .func (PySem.W.fnOf "wheels_off" "wheels_off" (defArgs s_wheels_off) (defBody s_wheels_off) (defScope s_wheels_off) .none kV13 dc13 pm13 an13 cd13 ct13), sl13⟩) (c13 : PySem.W.codeIn K cd13 "wheels_off" = true) (k13 : PySem.W.keepIn K (.ref f13) = true)
    (a14 : PySem.W.nsIn K mainGlobals "is_misread" = some (some (.ref f14))) (l14 : K.lookup f14 = some ⟨oc14, od14, .func (PySem.W.fnOf "is_misread" "is_misread" (defArgs s_is_misread) (defBody s_is_misread) (defScope s_is_misread) .none kV14 dc14 pm14 an14 cd14 ct14), sl14⟩) (c14 : PySem.W.codeIn K cd14 "is_misread" = true) (k14 : PySem.W.keepIn K (.ref f14) = true)
    (a15 : PySem.W.nsIn K mainGlobals "misread" = some (some (.ref f15))) (l15 : K.lookup f15 = some ⟨oc15, od15, .func (PySem.W.fnOf "misread" "misread" (defArgs s_misread) (defBody s_misread) (defScope s_misread) .none kV15 dc15 pm15 an15 cd15 ct15), sl15⟩) (c15 : PySem.W.codeIn K cd15 "misread" = true) (k15 : PySem.W.keepIn K (.ref f15) = true)
    (a16 : PySem.W.nsIn K mainGlobals "is_longer" = some (some (.ref f16))) (l16 : K.lookup f16 = some ⟨oc16, od16, .func (PySem.W.fnOf "is_longer" "is_longer" (defArgs s_is_longer) (defBody s_is_longer) (defScope s_is_longer) .none kV16 dc16 pm16 an16 cd16 ct16), sl16⟩) (c16 : PySem.W.codeIn K cd16 "is_longer" = true) (k16 : PySem.W.keepIn K (.ref f16) = true)
    (a17 : PySem.W.nsIn K mainGlobals "is_fit" = some (some (.ref f17))) (l17 : K.lookup f17 = some ⟨oc17, od17, .func (PySem.W.fnOf "is_fit" "is_fit" (defArgs s_is_fit) (defBody s_is_fit) (defScope s_is_fit) .none kV17 dc17 pm17 an17 cd17 ct17), sl17⟩) (c17 : PySem.W.codeIn K cd17 "is_fit" = true) (k17 : PySem.W.keepIn K (.ref f17) = true)
    (a18 : PySem.W.nsIn K mainGlobals "periods_that_fit" = some (some (.ref f18))) (l18 : K.lookup f18 = some ⟨oc18, od18, .func (PySem.W.fnOf "periods_that_fit" "periods_that_fit" (defArgs s_periods_that_fit) (defBody s_periods_that_fit) (defScope s_periods_that_fit) .none kV18 dc18 pm18 an18 cd18 ct18), sl18⟩) (c18 : PySem.W.codeIn K cd18 "periods_that_fit" = true) (k18 : PySem.W.keepIn K (.ref f18) = true)
    (a19 : PySem.W.nsIn K mainGlobals "_law_pen" = some (some (.ref f19))) (l19 : K.lookup f19 = some ⟨oc19, od19, .func (PySem.W.fnOf "_law_pen" "_law_pen" (defArgs s_law_pen) (defBody s_law_pen) (defScope s_law_pen) .none kV19 dc19 pm19 an19 cd19 ct19), sl19⟩) (c19 : PySem.W.codeIn K cd19 "_law_pen" = true) (k19 : PySem.W.keepIn K (.ref f19) = true)
    (a20 : PySem.W.nsIn K mainGlobals "_law_draw" = some (some (.ref f20))) (l20 : K.lookup f20 = some ⟨oc20, od20, .func (PySem.W.fnOf "_law_draw" "_law_draw" (defArgs s_law_draw) (defBody s_law_draw) (defScope s_law_draw) .none kV20 dc20 pm20 an20 cd20 ct20), sl20⟩) (c20 : PySem.W.codeIn K cd20 "_law_draw" = true) (k20 : PySem.W.keepIn K (.ref f20) = true)
    (a21 : PySem.W.nsIn K mainGlobals "_law_pick" = some (some (.ref f21))) (l21 : K.lookup f21 = some ⟨oc21, od21, .func (PySem.W.fnOf "_law_pick" "_law_pick" (defArgs s_law_pick) (defBody s_law_pick) (defScope s_law_pick) .none kV21 dc21 pm21 an21 cd21 ct21), sl21⟩) (c21 : PySem.W.codeIn K cd21 "_law_pick" = true) (k21 : PySem.W.keepIn K (.ref f21) = true)
    (a22 : PySem.W.nsIn K mainGlobals "_law_wheels" = some (some (.ref f22))) (l22 : K.lookup f22 = some ⟨oc22, od22, .func (PySem.W.fnOf "_law_wheels" "_law_wheels" (defArgs s_law_wheels) (defBody s_law_wheels) (defScope s_law_wheels) .none kV22 dc22 pm22 an22 cd22 ct22), sl22⟩) (c22 : PySem.W.codeIn K cd22 "_law_wheels" = true) (k22 : PySem.W.keepIn K (.ref f22) = true)
    (a23 : PySem.W.nsIn K mainGlobals "_law_wheel" = some (some (.ref f23))) (l23 : K.lookup f23 = some ⟨oc23, od23, .func (PySem.W.fnOf "_law_wheel" "_law_wheel" (defArgs s_law_wheel) (defBody s_law_wheel) (defScope s_law_wheel) .none kV23 dc23 pm23 an23 cd23 ct23), sl23⟩) (c23 : PySem.W.codeIn K cd23 "_law_wheel" = true) (k23 : PySem.W.keepIn K (.ref f23) = true)
    (a24 : PySem.W.nsIn K mainGlobals "_law_meter" = some (some (.ref f24))) (l24 : K.lookup f24 = some ⟨oc24, od24, .func (PySem.W.fnOf "_law_meter" "_law_meter" (defArgs s_law_meter) (defBody s_law_meter) (defScope s_law_meter) .none kV24 dc24 pm24 an24 cd24 ct24), sl24⟩) (c24 : PySem.W.codeIn K cd24 "_law_meter" = true) (k24 : PySem.W.keepIn K (.ref f24) = true)
    (a25 : PySem.W.nsIn K mainGlobals "_law_entries" = some (some (.ref f25))) (l25 : K.lookup f25 = some ⟨oc25, od25, .func (PySem.W.fnOf "_law_entries" "_law_entries" (defArgs s_law_entries) (defBody s_law_entries) (defScope s_law_entries) .none kV25 dc25 pm25 an25 cd25 ct25), sl25⟩) (c25 : PySem.W.codeIn K cd25 "_law_entries" = true) (k25 : PySem.W.keepIn K (.ref f25) = true)
    (a26 : PySem.W.nsIn K mainGlobals "_law_off" = some (some (.ref f26))) (l26 : K.lookup f26 = some ⟨oc26, od26, .func (PySem.W.fnOf "_law_off" "_law_off" (defArgs s_law_off) (defBody s_law_off) (defScope s_law_off) .none kV26 dc26 pm26 an26 cd26 ct26), sl26⟩) (c26 : PySem.W.codeIn K cd26 "_law_off" = true) (k26 : PySem.W.keepIn K (.ref f26) = true)
    (a27 : PySem.W.nsIn K mainGlobals "_law_is_misread" = some (some (.ref f27))) (l27 : K.lookup f27 = some ⟨oc27, od27, .func (PySem.W.fnOf "_law_is_misread" "_law_is_misread" (defArgs s_law_is_misread) (defBody s_law_is_misread) (defScope s_law_is_misread) .none kV27 dc27 pm27 an27 cd27 ct27), sl27⟩) (c27 : PySem.W.codeIn K cd27 "_law_is_misread" = true) (k27 : PySem.W.keepIn K (.ref f27) = true)
    (a28 : PySem.W.nsIn K mainGlobals "_law_log_right" = some (some (.ref f28))) (l28 : K.lookup f28 = some ⟨oc28, od28, .func (PySem.W.fnOf "_law_log_right" "_law_log_right" (defArgs s_law_log_right) (defBody s_law_log_right) (defScope s_law_log_right) .none kV28 dc28 pm28 an28 cd28 ct28), sl28⟩) (c28 : PySem.W.codeIn K cd28 "_law_log_right" = true) (k28 : PySem.W.keepIn K (.ref f28) = true)
    (a29 : PySem.W.nsIn K mainGlobals "_law_is_fit" = some (some (.ref f29))) (l29 : K.lookup f29 = some ⟨oc29, od29, .func (PySem.W.fnOf "_law_is_fit" "_law_is_fit" (defArgs s_law_is_fit) (defBody s_law_is_fit) (defScope s_law_is_fit) .none kV29 dc29 pm29 an29 cd29 ct29), sl29⟩) (c29 : PySem.W.codeIn K cd29 "_law_is_fit" = true) (k29 : PySem.W.keepIn K (.ref f29) = true)
    (a30 : PySem.W.nsIn K mainGlobals "_law_periods_right" = some (some (.ref f30))) (l30 : K.lookup f30 = some ⟨oc30, od30, .func (PySem.W.fnOf "_law_periods_right" "_law_periods_right" (defArgs s_law_periods_right) (defBody s_law_periods_right) (defScope s_law_periods_right) .none kV30 dc30 pm30 an30 cd30 ct30), sl30⟩) (c30 : PySem.W.codeIn K cd30 "_law_periods_right" = true) (k30 : PySem.W.keepIn K (.ref f30) = true)
    (a31 : PySem.W.nsIn K mainGlobals "law" = some (some (.ref f31))) (l31 : K.lookup f31 = some ⟨oc31, od31, .func (PySem.W.fnOf "law" "law" (defArgs s_law) (defBody s_law) (defScope s_law) .none kV31 dc31 pm31 an31 cd31 ct31), sl31⟩) (c31 : PySem.W.codeIn K cd31 "law" = true) (k31 : PySem.W.keepIn K (.ref f31) = true)
    (z0 : PySem.W.nsIn K mainGlobals "len" = some none) (z1 : PySem.W.nsIn K mainGlobals "int" = some none) (z2 : PySem.W.nsIn K mainGlobals "abs" = some none) (z3 : PySem.W.nsIn K mainGlobals "min" = some none) (z4 : PySem.W.nsIn K mainGlobals "max" = some none) (z5 : PySem.W.nsIn K mainGlobals "range" = some none) (z6 : PySem.W.nsIn K mainGlobals "isinstance" = some none) (z7 : PySem.W.nsIn K mainGlobals "list" = some none) (z8 : PySem.W.nsIn K mainGlobals "tuple" = some none) (z9 : PySem.W.nsIn K mainGlobals "bool" = some none) (z10 : PySem.W.nsIn K mainGlobals "str" = some none) (z11 : PySem.W.nsIn K mainGlobals "repr" = some none) (z12 : PySem.W.nsIn K mainGlobals "sum" = some none) (z13 : PySem.W.nsIn K mainGlobals "sorted" = some none) (z14 : PySem.W.nsIn K mainGlobals "any" = some none) (z15 : PySem.W.nsIn K mainGlobals "all" = some none) (z16 : PySem.W.nsIn K mainGlobals "enumerate" = some none) (z17 : PySem.W.nsIn K mainGlobals "zip" = some none) (z18 : PySem.W.nsIn K mainGlobals "ValueError" = some none) (z19 : PySem.W.nsIn K mainGlobals "LookupError" = some none) (z20 : PySem.W.nsIn K mainGlobals "reversed" = some none) (z21 : PySem.W.nsIn K mainGlobals "set" = some none) (z22 : PySem.W.nsIn K mainGlobals "dict" = some none) (z23 : PySem.W.nsIn K mainGlobals "iter" = some none) (z24 : PySem.W.nsIn K mainGlobals "next" = some none) (z25 : PySem.W.nsIn K mainGlobals "type" = some none) (zs : PySem.W.nsIn K mainGlobals "super" = some none) (op : PySem.W.nsIn K cStatics "thirdparty.any" = some none)
    (g1 : PySem.W.specialIn K (.builtin "object.__class__") "__get__" = some (some (.builtin "getset_descriptor.__get__"))) (g2 : PySem.W.takesIn K (.builtin "object.__class__") = some true) (g3 : (l.prog.main.scope.names.lookup ("super" : Str)).isSome = false)
    {C_0 fI_0 c_0 cc_0 N_0 : Addr} {nm_0 qn_0 fl_0 : Str} {bs_0 bm_0 sub_0 : List Value} {sn_0 : List Str} {ab_0 : Bool} {col_0 : Option Bool} {k0_0 k1_0 k2_0 k3_0 k5_0 : Option Value} {oc_0 kV_0 doc_0 pm_0 ct_0 cl_0 ccl_0 : Value} {dd_0 od_0 an_0 cld_0 cdd_0 : Option Addr} {osl_0 csl_0 ccs_0 : Array (Option Value)} {vs_0 : Array Value} {tf_0 : Tok} {cd_0 : ClassData}
    (E_0 : ErrFacts l.prog K "BadNumber" "BadNumber.__init__" s_BadNumber_init C_0 fI_0 c_0 cc_0 nm_0 qn_0 N_0 bs_0 bm_0 sn_0 sub_0 ab_0 col_0 dd_0 k0_0 k1_0 k2_0 k3_0 k5_0 oc_0 kV_0 doc_0 pm_0 ct_0 cl_0 ccl_0 od_0 an_0 cld_0 cdd_0 osl_0 csl_0 ccs_0 vs_0 fl_0 tf_0 cd_0)
    (e0_0 : PySem.W.findIn K (.ref C_0) "value" = some none)
    {C_1 fI_1 c_1 cc_1 N_1 : Addr} {nm_1 qn_1 fl_1 : Str} {bs_1 bm_1 sub_1 : List Value} {sn_1 : List Str} {ab_1 : Bool} {col_1 : Option Bool} {k0_1 k1_1 k2_1 k3_1 k5_1 : Option Value} {oc_1 kV_1 doc_1 pm_1 ct_1 cl_1 ccl_1 : Value} {dd_1 od_1 an_1 cld_1 cdd_1 : Option Addr} {osl_1 csl_1 ccs_1 : Array (Option Value)} {vs_1 : Array Value} {tf_1 : Tok} {cd_1 : ClassData}
    (E_1 : ErrFacts l.prog K "BadLot" "BadLot.__init__" s_BadLot_init C_1 fI_1 c_1 cc_1 nm_1 qn_1 N_1 bs_1 bm_1 sn_1 sub_1 ab_1 col_1 dd_1 k0_1 k1_1 k2_1 k3_1 k5_1 oc_1 kV_1 doc_1 pm_1 ct_1 cl_1 ccl_1 od_1 an_1 cld_1 cdd_1 osl_1 csl_1 ccs_1 vs_1 fl_1 tf_1 cd_1)
    (e1_0 : PySem.W.findIn K (.ref C_1) "part" = some none)
    {C_2 fI_2 c_2 cc_2 N_2 : Addr} {nm_2 qn_2 fl_2 : Str} {bs_2 bm_2 sub_2 : List Value} {sn_2 : List Str} {ab_2 : Bool} {col_2 : Option Bool} {k0_2 k1_2 k2_2 k3_2 k5_2 : Option Value} {oc_2 kV_2 doc_2 pm_2 ct_2 cl_2 ccl_2 : Value} {dd_2 od_2 an_2 cld_2 cdd_2 : Option Addr} {osl_2 csl_2 ccs_2 : Array (Option Value)} {vs_2 : Array Value} {tf_2 : Tok} {cd_2 : ClassData}
    (E_2 : ErrFacts l.prog K "BadWheel" "BadWheel.__init__" s_BadWheel_init C_2 fI_2 c_2 cc_2 nm_2 qn_2 N_2 bs_2 bm_2 sn_2 sub_2 ab_2 col_2 dd_2 k0_2 k1_2 k2_2 k3_2 k5_2 oc_2 kV_2 doc_2 pm_2 ct_2 cl_2 ccl_2 od_2 an_2 cld_2 cdd_2 osl_2 csl_2 ccs_2 vs_2 fl_2 tf_2 cd_2)
    (e2_0 : PySem.W.findIn K (.ref C_2) "part" = some none)
    {C_3 fI_3 c_3 cc_3 N_3 : Addr} {nm_3 qn_3 fl_3 : Str} {bs_3 bm_3 sub_3 : List Value} {sn_3 : List Str} {ab_3 : Bool} {col_3 : Option Bool} {k0_3 k1_3 k2_3 k3_3 k5_3 : Option Value} {oc_3 kV_3 doc_3 pm_3 ct_3 cl_3 ccl_3 : Value} {dd_3 od_3 an_3 cld_3 cdd_3 : Option Addr} {osl_3 csl_3 ccs_3 : Array (Option Value)} {vs_3 : Array Value} {tf_3 : Tok} {cd_3 : ClassData}
    (E_3 : ErrFacts l.prog K "BadMeter" "BadMeter.__init__" s_BadMeter_init C_3 fI_3 c_3 cc_3 nm_3 qn_3 N_3 bs_3 bm_3 sn_3 sub_3 ab_3 col_3 dd_3 k0_3 k1_3 k2_3 k3_3 k5_3 oc_3 kV_3 doc_3 pm_3 ct_3 cl_3 ccl_3 od_3 an_3 cld_3 cdd_3 osl_3 csl_3 ccs_3 vs_3 fl_3 tf_3 cd_3)
    (e3_0 : PySem.W.findIn K (.ref C_3) "part" = some none)
    {C_4 fI_4 c_4 cc_4 N_4 : Addr} {nm_4 qn_4 fl_4 : Str} {bs_4 bm_4 sub_4 : List Value} {sn_4 : List Str} {ab_4 : Bool} {col_4 : Option Bool} {k0_4 k1_4 k2_4 k3_4 k5_4 : Option Value} {oc_4 kV_4 doc_4 pm_4 ct_4 cl_4 ccl_4 : Value} {dd_4 od_4 an_4 cld_4 cdd_4 : Option Addr} {osl_4 csl_4 ccs_4 : Array (Option Value)} {vs_4 : Array Value} {tf_4 : Tok} {cd_4 : ClassData}
    (E_4 : ErrFacts l.prog K "BadValue" "BadValue.__init__" s_BadValue_init C_4 fI_4 c_4 cc_4 nm_4 qn_4 N_4 bs_4 bm_4 sn_4 sub_4 ab_4 col_4 dd_4 k0_4 k1_4 k2_4 k3_4 k5_4 oc_4 kV_4 doc_4 pm_4 ct_4 cl_4 ccl_4 od_4 an_4 cld_4 cdd_4 osl_4 csl_4 ccs_4 vs_4 fl_4 tf_4 cd_4)
    (e4_0 : PySem.W.findIn K (.ref C_4) "value" = some none)
    {C_5 fI_5 c_5 cc_5 N_5 : Addr} {nm_5 qn_5 fl_5 : Str} {bs_5 bm_5 sub_5 : List Value} {sn_5 : List Str} {ab_5 : Bool} {col_5 : Option Bool} {k0_5 k1_5 k2_5 k3_5 k5_5 : Option Value} {oc_5 kV_5 doc_5 pm_5 ct_5 cl_5 ccl_5 : Value} {dd_5 od_5 an_5 cld_5 cdd_5 : Option Addr} {osl_5 csl_5 ccs_5 : Array (Option Value)} {vs_5 : Array Value} {tf_5 : Tok} {cd_5 : ClassData}
    (E_5 : ErrFacts l.prog K "BadLog" "BadLog.__init__" s_BadLog_init C_5 fI_5 c_5 cc_5 nm_5 qn_5 N_5 bs_5 bm_5 sn_5 sub_5 ab_5 col_5 dd_5 k0_5 k1_5 k2_5 k3_5 k5_5 oc_5 kV_5 doc_5 pm_5 ct_5 cl_5 ccl_5 od_5 an_5 cld_5 cdd_5 osl_5 csl_5 ccs_5 vs_5 fl_5 tf_5 cd_5)
    (e5_0 : PySem.W.findIn K (.ref C_5) "at" = some none)
    {C_6 fI_6 c_6 cc_6 N_6 : Addr} {nm_6 qn_6 fl_6 : Str} {bs_6 bm_6 sub_6 : List Value} {sn_6 : List Str} {ab_6 : Bool} {col_6 : Option Bool} {k0_6 k1_6 k2_6 k3_6 k5_6 : Option Value} {oc_6 kV_6 doc_6 pm_6 ct_6 cl_6 ccl_6 : Value} {dd_6 od_6 an_6 cld_6 cdd_6 : Option Addr} {osl_6 csl_6 ccs_6 : Array (Option Value)} {vs_6 : Array Value} {tf_6 : Tok} {cd_6 : ClassData}
    (E_6 : ErrFacts l.prog K "BadText" "BadText.__init__" s_BadText_init C_6 fI_6 c_6 cc_6 nm_6 qn_6 N_6 bs_6 bm_6 sn_6 sub_6 ab_6 col_6 dd_6 k0_6 k1_6 k2_6 k3_6 k5_6 oc_6 kV_6 doc_6 pm_6 ct_6 cl_6 ccl_6 od_6 an_6 cld_6 cdd_6 osl_6 csl_6 ccs_6 vs_6 fl_6 tf_6 cd_6)
    (e6_0 : PySem.W.findIn K (.ref C_6) "line" = some none)
    (e6_1 : PySem.W.findIn K (.ref C_6) "word" = some none)
    {C_7 fI_7 c_7 cc_7 N_7 : Addr} {nm_7 qn_7 fl_7 : Str} {bs_7 bm_7 sub_7 : List Value} {sn_7 : List Str} {ab_7 : Bool} {col_7 : Option Bool} {k0_7 k1_7 k2_7 k3_7 k5_7 : Option Value} {oc_7 kV_7 doc_7 pm_7 ct_7 cl_7 ccl_7 : Value} {dd_7 od_7 an_7 cld_7 cdd_7 : Option Addr} {osl_7 csl_7 ccs_7 : Array (Option Value)} {vs_7 : Array Value} {tf_7 : Tok} {cd_7 : ClassData}
    (E_7 : ErrFacts l.prog K "NoPlace" "NoPlace.__init__" s_NoPlace_init C_7 fI_7 c_7 cc_7 nm_7 qn_7 N_7 bs_7 bm_7 sn_7 sub_7 ab_7 col_7 dd_7 k0_7 k1_7 k2_7 k3_7 k5_7 oc_7 kV_7 doc_7 pm_7 ct_7 cl_7 ccl_7 od_7 an_7 cld_7 cdd_7 osl_7 csl_7 ccs_7 vs_7 fl_7 tf_7 cd_7)
    (e7_0 : PySem.W.findIn K (.ref C_7) "at" = some none)
    {C_8 fI_8 c_8 cc_8 N_8 : Addr} {nm_8 qn_8 fl_8 : Str} {bs_8 bm_8 sub_8 : List Value} {sn_8 : List Str} {ab_8 : Bool} {col_8 : Option Bool} {k0_8 k1_8 k2_8 k3_8 k5_8 : Option Value} {oc_8 kV_8 doc_8 pm_8 ct_8 cl_8 ccl_8 : Value} {dd_8 od_8 an_8 cld_8 cdd_8 : Option Addr} {osl_8 csl_8 ccs_8 : Array (Option Value)} {vs_8 : Array Value} {tf_8 : Tok} {cd_8 : ClassData}
    (E_8 : ErrFacts l.prog K "Unlike" "Unlike.__init__" s_Unlike_init C_8 fI_8 c_8 cc_8 nm_8 qn_8 N_8 bs_8 bm_8 sn_8 sub_8 ab_8 col_8 dd_8 k0_8 k1_8 k2_8 k3_8 k5_8 oc_8 kV_8 doc_8 pm_8 ct_8 cl_8 ccl_8 od_8 an_8 cld_8 cdd_8 osl_8 csl_8 ccs_8 vs_8 fl_8 tf_8 cd_8)
    (e8_0 : PySem.W.findIn K (.ref C_8) "part" = some none)
    {C_9 fI_9 c_9 cc_9 N_9 : Addr} {nm_9 qn_9 fl_9 : Str} {bs_9 bm_9 sub_9 : List Value} {sn_9 : List Str} {ab_9 : Bool} {col_9 : Option Bool} {k0_9 k1_9 k2_9 k3_9 k5_9 : Option Value} {oc_9 kV_9 doc_9 pm_9 ct_9 cl_9 ccl_9 : Value} {dd_9 od_9 an_9 cld_9 cdd_9 : Option Addr} {osl_9 csl_9 ccs_9 : Array (Option Value)} {vs_9 : Array Value} {tf_9 : Tok} {cd_9 : ClassData}
    (E_9 : ErrFacts l.prog K "TooMany" "TooMany.__init__" s_TooMany_init C_9 fI_9 c_9 cc_9 nm_9 qn_9 N_9 bs_9 bm_9 sn_9 sub_9 ab_9 col_9 dd_9 k0_9 k1_9 k2_9 k3_9 k5_9 oc_9 kV_9 doc_9 pm_9 ct_9 cl_9 ccl_9 od_9 an_9 cld_9 cdd_9 osl_9 csl_9 ccs_9 vs_9 fl_9 tf_9 cd_9)
    (e9_0 : PySem.W.findIn K (.ref C_9) "what" = some none)
    (e9_1 : PySem.W.findIn K (.ref C_9) "most" = some none)
    {D_0 : Addr} (d0 : PySem.W.nsIn K mainGlobals "ReachError" = some (some (.ref D_0)))
    {D_1 : Addr} (d1 : PySem.W.nsIn K mainGlobals "NoMember" = some (some (.ref D_1)))
    {O_Wheel : Addr} (oa_Wheel : PySem.W.nsIn K mainGlobals "Wheel" = some (some (.ref O_Wheel)))
    (ob_Wheel : PySem.W.plainGet K O_Wheel Str.empty = true)
    (oc_Wheel : PySem.W.hasDictIn K O_Wheel = true)
    (od_Wheel : PySem.W.plainOver K O_Wheel = true)
    (oe_Wheel : PySem.W.findIn K (.ref O_Wheel) "__setattr__" = some (some (.builtin "object.__setattr__")))
    (of_Wheel : PySem.W.keepIn K (.ref O_Wheel) = true)
    (og_Wheel : PySem.W.plainGet K O_Wheel "__class__" = true)
    (oh_Wheel : PySem.W.findIn K (.ref O_Wheel) "__class__" = some (some (.builtin "object.__class__")))
    (oi_Wheel : PySem.W.mroIn K O_Wheel (.type "object") = some true)
    {O_Grid : Addr} (oa_Grid : PySem.W.nsIn K mainGlobals "Grid" = some (some (.ref O_Grid)))
    (ob_Grid : PySem.W.plainGet K O_Grid Str.empty = true)
    (oc_Grid : PySem.W.hasDictIn K O_Grid = true)
    (od_Grid : PySem.W.plainOver K O_Grid = true)
    (oe_Grid : PySem.W.findIn K (.ref O_Grid) "__setattr__" = some (some (.builtin "object.__setattr__")))
    (of_Grid : PySem.W.keepIn K (.ref O_Grid) = true)
    (og_Grid : PySem.W.plainGet K O_Grid "__class__" = true)
    (oh_Grid : PySem.W.findIn K (.ref O_Grid) "__class__" = some (some (.builtin "object.__class__")))
    (oi_Grid : PySem.W.mroIn K O_Grid (.type "object") = some true)
    {O_Meter : Addr} (oa_Meter : PySem.W.nsIn K mainGlobals "Meter" = some (some (.ref O_Meter)))
    (ob_Meter : PySem.W.plainGet K O_Meter Str.empty = true)
    (oc_Meter : PySem.W.hasDictIn K O_Meter = true)
    (od_Meter : PySem.W.plainOver K O_Meter = true)
    (oe_Meter : PySem.W.findIn K (.ref O_Meter) "__setattr__" = some (some (.builtin "object.__setattr__")))
    (of_Meter : PySem.W.keepIn K (.ref O_Meter) = true)
    (og_Meter : PySem.W.plainGet K O_Meter "__class__" = true)
    (oh_Meter : PySem.W.findIn K (.ref O_Meter) "__class__" = some (some (.builtin "object.__class__")))
    (oi_Meter : PySem.W.mroIn K O_Meter (.type "object") = some true)
    {O_Paper : Addr} (oa_Paper : PySem.W.nsIn K mainGlobals "Paper" = some (some (.ref O_Paper)))
    (ob_Paper : PySem.W.plainGet K O_Paper Str.empty = true)
    (oc_Paper : PySem.W.hasDictIn K O_Paper = true)
    (od_Paper : PySem.W.plainOver K O_Paper = true)
    (oe_Paper : PySem.W.findIn K (.ref O_Paper) "__setattr__" = some (some (.builtin "object.__setattr__")))
    (of_Paper : PySem.W.keepIn K (.ref O_Paper) = true)
    (og_Paper : PySem.W.plainGet K O_Paper "__class__" = true)
    (oh_Paper : PySem.W.findIn K (.ref O_Paper) "__class__" = some (some (.builtin "object.__class__")))
    (oi_Paper : PySem.W.mroIn K O_Paper (.type "object") = some true)
    {O_Stretch : Addr} (oa_Stretch : PySem.W.nsIn K mainGlobals "Stretch" = some (some (.ref O_Stretch)))
    (ob_Stretch : PySem.W.plainGet K O_Stretch Str.empty = true)
    (oc_Stretch : PySem.W.hasDictIn K O_Stretch = true)
    (od_Stretch : PySem.W.plainOver K O_Stretch = true)
    (oe_Stretch : PySem.W.findIn K (.ref O_Stretch) "__setattr__" = some (some (.builtin "object.__setattr__")))
    (of_Stretch : PySem.W.keepIn K (.ref O_Stretch) = true)
    (og_Stretch : PySem.W.plainGet K O_Stretch "__class__" = true)
    (oh_Stretch : PySem.W.findIn K (.ref O_Stretch) "__class__" = some (some (.builtin "object.__class__")))
    (oi_Stretch : PySem.W.mroIn K O_Stretch (.type "object") = some true)
    {m_Wheel_init : Addr} (ma_Wheel_init : PySem.W.findIn K (.ref O_Wheel) "__init__" = some (some (.ref m_Wheel_init)))
    {voc_Wheel_init vkV_Wheel_init vdc_Wheel_init vpm_Wheel_init vcd_Wheel_init vct_Wheel_init : Value} {vod_Wheel_init van_Wheel_init : Option Addr} {vsl_Wheel_init : Array (Option Value)} (ml_Wheel_init : K.lookup m_Wheel_init = some ⟨voc_Wheel_init, vod_Wheel_init, .func (PySem.W.fnOf "__init__" "Wheel.__init__" (defArgs s_Wheel_init) (defBody s_Wheel_init) (defScope s_Wheel_init) .none vkV_Wheel_init vdc_Wheel_init vpm_Wheel_init van_Wheel_init vcd_Wheel_init vct_Wheel_init), vsl_Wheel_init⟩)
    (mc_Wheel_init : PySem.W.codeIn K vcd_Wheel_init "Wheel.__init__" = true)
    (mk_Wheel_init : PySem.W.keepIn K (.ref m_Wheel_init) = true)
    (mi_Wheel_init : PySem.W.isFn K (.ref m_Wheel_init) = true)
    {m_Wheel_eq : Addr} (ma_Wheel_eq : PySem.W.findIn K (.ref O_Wheel) "__eq__" = some (some (.ref m_Wheel_eq)))
    {voc_Wheel_eq vkV_Wheel_eq vdc_Wheel_eq vpm_Wheel_eq vcd_Wheel_eq vct_Wheel_eq : Value} {vod_Wheel_eq van_Wheel_eq : Option Addr} {vsl_Wheel_eq : Array (Option Value)} (ml_Wheel_eq : K.lookup m_Wheel_eq = some ⟨voc_Wheel_eq, vod_Wheel_eq, .func (PySem.W.fnOf "__eq__" "Wheel.__eq__" (defArgs s_Wheel_eq) (defBody s_Wheel_eq) (defScope s_Wheel_eq) .none vkV_Wheel_eq vdc_Wheel_eq vpm_Wheel_eq van_Wheel_eq vcd_Wheel_eq vct_Wheel_eq), vsl_Wheel_eq⟩)
    (mc_Wheel_eq : PySem.W.codeIn K vcd_Wheel_eq "Wheel.__eq__" = true)
    (mk_Wheel_eq : PySem.W.keepIn K (.ref m_Wheel_eq) = true)
    (mi_Wheel_eq : PySem.W.isFn K (.ref m_Wheel_eq) = true)
    {m_Wheel_str : Addr} (ma_Wheel_str : PySem.W.findIn K (.ref O_Wheel) "__str__" = some (some (.ref m_Wheel_str)))
    {voc_Wheel_str vkV_Wheel_str vdc_Wheel_str vpm_Wheel_str vcd_Wheel_str vct_Wheel_str : Value} {vod_Wheel_str van_Wheel_str : Option Addr} {vsl_Wheel_str : Array (Option Value)} (ml_Wheel_str : K.lookup m_Wheel_str = some ⟨voc_Wheel_str, vod_Wheel_str, .func (PySem.W.fnOf "__str__" "Wheel.__str__" (defArgs s_Wheel_str) (defBody s_Wheel_str) (defScope s_Wheel_str) .none vkV_Wheel_str vdc_Wheel_str vpm_Wheel_str van_Wheel_str vcd_Wheel_str vct_Wheel_str), vsl_Wheel_str⟩)
    (mc_Wheel_str : PySem.W.codeIn K vcd_Wheel_str "Wheel.__str__" = true)
    (mk_Wheel_str : PySem.W.keepIn K (.ref m_Wheel_str) = true)
    (mi_Wheel_str : PySem.W.isFn K (.ref m_Wheel_str) = true)
    {m_Wheel_is_mark : Addr} (ma_Wheel_is_mark : PySem.W.findIn K (.ref O_Wheel) "is_mark" = some (some (.ref m_Wheel_is_mark)))
    {voc_Wheel_is_mark vkV_Wheel_is_mark vdc_Wheel_is_mark vpm_Wheel_is_mark vcd_Wheel_is_mark vct_Wheel_is_mark : Value} {vod_Wheel_is_mark van_Wheel_is_mark : Option Addr} {vsl_Wheel_is_mark : Array (Option Value)} (ml_Wheel_is_mark : K.lookup m_Wheel_is_mark = some ⟨voc_Wheel_is_mark, vod_Wheel_is_mark, .func (PySem.W.fnOf "is_mark" "Wheel.is_mark" (defArgs s_Wheel_is_mark) (defBody s_Wheel_is_mark) (defScope s_Wheel_is_mark) .none vkV_Wheel_is_mark vdc_Wheel_is_mark vpm_Wheel_is_mark van_Wheel_is_mark vcd_Wheel_is_mark vct_Wheel_is_mark), vsl_Wheel_is_mark⟩)
    (mc_Wheel_is_mark : PySem.W.codeIn K vcd_Wheel_is_mark "Wheel.is_mark" = true)
    (mk_Wheel_is_mark : PySem.W.keepIn K (.ref m_Wheel_is_mark) = true)
    (mi_Wheel_is_mark : PySem.W.isFn K (.ref m_Wheel_is_mark) = true)
    {m_Wheel_lets : Addr} (ma_Wheel_lets : PySem.W.findIn K (.ref O_Wheel) "lets" = some (some (.ref m_Wheel_lets)))
    {voc_Wheel_lets vkV_Wheel_lets vdc_Wheel_lets vpm_Wheel_lets vcd_Wheel_lets vct_Wheel_lets : Value} {vod_Wheel_lets van_Wheel_lets : Option Addr} {vsl_Wheel_lets : Array (Option Value)} (ml_Wheel_lets : K.lookup m_Wheel_lets = some ⟨voc_Wheel_lets, vod_Wheel_lets, .func (PySem.W.fnOf "lets" "Wheel.lets" (defArgs s_Wheel_lets) (defBody s_Wheel_lets) (defScope s_Wheel_lets) .none vkV_Wheel_lets vdc_Wheel_lets vpm_Wheel_lets van_Wheel_lets vcd_Wheel_lets vct_Wheel_lets), vsl_Wheel_lets⟩)
    (mc_Wheel_lets : PySem.W.codeIn K vcd_Wheel_lets "Wheel.lets" = true)
    (mk_Wheel_lets : PySem.W.keepIn K (.ref m_Wheel_lets) = true)
    (mi_Wheel_lets : PySem.W.isFn K (.ref m_Wheel_lets) = true)
    {mq_Wheel_trusted : Addr} (ma_Wheel_trusted : PySem.W.findIn K (.ref O_Wheel) "trusted" = some (some (.ref mq_Wheel_trusted)))
    {m_Wheel_trusted : Addr} {mr_Wheel_trusted : List Value} (mb_Wheel_trusted : PySem.W.recIn K mq_Wheel_trusted "property" = some (.ref m_Wheel_trusted :: mr_Wheel_trusted))
    {voc_Wheel_trusted vkV_Wheel_trusted vdc_Wheel_trusted vpm_Wheel_trusted vcd_Wheel_trusted vct_Wheel_trusted : Value} {vod_Wheel_trusted van_Wheel_trusted : Option Addr} {vsl_Wheel_trusted : Array (Option Value)} (ml_Wheel_trusted : K.lookup m_Wheel_trusted = some ⟨voc_Wheel_trusted, vod_Wheel_trusted, .func (PySem.W.fnOf "trusted" "Wheel.trusted" (defArgs s_Wheel_trusted) (defBody s_Wheel_trusted) (defScope s_Wheel_trusted) .none vkV_Wheel_trusted vdc_Wheel_trusted vpm_Wheel_trusted van_Wheel_trusted vcd_Wheel_trusted vct_Wheel_trusted), vsl_Wheel_trusted⟩)
    (mc_Wheel_trusted : PySem.W.codeIn K vcd_Wheel_trusted "Wheel.trusted" = true)
    (mk_Wheel_trusted : PySem.W.keepIn K (.ref m_Wheel_trusted) = true)
    (mi_Wheel_trusted : PySem.W.isFn K (.ref m_Wheel_trusted) = true)
    {mq_Wheel_play : Addr} (ma_Wheel_play : PySem.W.findIn K (.ref O_Wheel) "play" = some (some (.ref mq_Wheel_play)))
    {m_Wheel_play : Addr} {mr_Wheel_play : List Value} (mb_Wheel_play : PySem.W.recIn K mq_Wheel_play "property" = some (.ref m_Wheel_play :: mr_Wheel_play))
    {voc_Wheel_play vkV_Wheel_play vdc_Wheel_play vpm_Wheel_play vcd_Wheel_play vct_Wheel_play : Value} {vod_Wheel_play van_Wheel_play : Option Addr} {vsl_Wheel_play : Array (Option Value)} (ml_Wheel_play : K.lookup m_Wheel_play = some ⟨voc_Wheel_play, vod_Wheel_play, .func (PySem.W.fnOf "play" "Wheel.play" (defArgs s_Wheel_play) (defBody s_Wheel_play) (defScope s_Wheel_play) .none vkV_Wheel_play vdc_Wheel_play vpm_Wheel_play van_Wheel_play vcd_Wheel_play vct_Wheel_play), vsl_Wheel_play⟩)
    (mc_Wheel_play : PySem.W.codeIn K vcd_Wheel_play "Wheel.play" = true)
    (mk_Wheel_play : PySem.W.keepIn K (.ref m_Wheel_play) = true)
    (mi_Wheel_play : PySem.W.isFn K (.ref m_Wheel_play) = true)
    {m_Grid_init : Addr} (ma_Grid_init : PySem.W.findIn K (.ref O_Grid) "__init__" = some (some (.ref m_Grid_init)))
    {voc_Grid_init vkV_Grid_init vdc_Grid_init vpm_Grid_init vct_Grid_init : Value} {vod_Grid_init van_Grid_init : Option Addr} {vsl_Grid_init : Array (Option Value)} {vc_Grid_init vcc_Grid_init : Addr} (ml_Grid_init : K.lookup m_Grid_init = some ⟨voc_Grid_init, vod_Grid_init, .func (PySem.W.fnX "__init__" "Grid.__init__" (defArgs s_Grid_init) (defBody s_Grid_init) (defScope s_Grid_init) [("__class__", vcc_Grid_init)] .none vkV_Grid_init vdc_Grid_init vpm_Grid_init van_Grid_init (.ref vc_Grid_init) vct_Grid_init), vsl_Grid_init⟩)
    (mc_Grid_init : PySem.W.codeIn K (.ref vc_Grid_init) "Grid.__init__" = true)
    (mk_Grid_init : PySem.W.keepIn K (.ref m_Grid_init) = true)
    (mi_Grid_init : PySem.W.isFn K (.ref m_Grid_init) = true)
    {vcl_Grid_init : Value} {vcld_Grid_init : Option Addr} {vcsl_Grid_init : Array (Option Value)} (mx_Grid_init : K.lookup vcc_Grid_init = some ⟨vcl_Grid_init, vcld_Grid_init, .cell (some (.ref O_Grid)), vcsl_Grid_init⟩)
    {vccl_Grid_init : Value} {vcdd_Grid_init : Option Addr} {vvs_Grid_init : Array Value} {vccs_Grid_init : Array (Option Value)} (my_Grid_init : K.lookup vc_Grid_init = some ⟨vccl_Grid_init, vcdd_Grid_init, .fields vvs_Grid_init, vccs_Grid_init⟩)
    {vfl_Grid_init : Str} {vtf_Grid_init : Tok} (mz_Grid_init : vvs_Grid_init[2]? = some (.str vfl_Grid_init vtf_Grid_init))
    (mf_Grid_init : (l.prog.main.file == vfl_Grid_init) = true)
    {vcd_Grid_init : ClassData} (mg_Grid_init : PySem.W.clsIn K O_Grid = some vcd_Grid_init)
    (ka_Wheel : PySem.W.makesIn K O_Wheel = true)
    (kb_Wheel : PySem.W.findIn K (.ref O_Wheel) "__init__" = some (some (.ref m_Wheel_init)))
    (ka_Grid : PySem.W.makesIn K O_Grid = true)
    (kb_Grid : PySem.W.findIn K (.ref O_Grid) "__init__" = some (some (.ref m_Grid_init)))
    (sa_Grid_Grid_init : PySem.W.ks_superIn K O_Grid O_Grid "__init__" = some (some (.ref m_Wheel_init)))
    (sb_Grid_Grid_init : PySem.W.typeIn K (.ref m_Wheel_init) = some (.type "function"))
    (sc_Grid_Grid_init : PySem.W.fnIn K m_Wheel_init = true)
    {vsd_Grid_Grid_init : ClassData} (sd_Grid_Grid_init : PySem.W.clsIn K O_Grid = some vsd_Grid_Grid_init)
    (se_Grid_Grid_init : PySem.W.mroIn K O_Grid (.ref O_Grid) = some true)
    (qa_Wheel : PySem.W.findIn K (.ref O_Wheel) "__eq__" = some (some (.ref m_Wheel_eq)))
    (qb_Wheel : PySem.W.findIn K (.ref O_Wheel) "__ne__" = some (some (.builtin "object.__ne__")))
    (no_Wheel_period : PySem.W.findIn K (.ref O_Wheel) "period" = some none)
    (no_Wheel_back : PySem.W.findIn K (.ref O_Wheel) "back" = some none)
    (no_Wheel_ahead : PySem.W.findIn K (.ref O_Wheel) "ahead" = some none)
    {u_Wheel_TRUSTED : Value} (ca_Wheel_TRUSTED : PySem.W.findIn K (.ref O_Wheel) "TRUSTED" = some (some u_Wheel_TRUSTED))
    (cb_Wheel_TRUSTED : RelV (.bl false) u_Wheel_TRUSTED)
    (cc_Wheel_TRUSTED : PySem.W.specialIn K u_Wheel_TRUSTED "__get__" = some none)
    {pp_Wheel_trusted : Addr} (pa_Wheel_trusted : PySem.W.findIn K (.ref O_Wheel) "trusted" = some (some (.ref pp_Wheel_trusted)))
    (pb_Wheel_trusted : PySem.W.specialIn K (.ref pp_Wheel_trusted) "__get__" = some (some (.builtin "property.__get__")))
    (pc_Wheel_trusted : PySem.W.takesIn K (.ref pp_Wheel_trusted) = some true)
    {pr_Wheel_trusted : List Value} (pd_Wheel_trusted : PySem.W.recIn K pp_Wheel_trusted "property" = some (.ref m_Wheel_trusted :: pr_Wheel_trusted))
    (xa_Wheel_is_mark : PySem.W.findIn K (.ref O_Wheel) "is_mark" = some (some (.ref m_Wheel_is_mark)))
    {pp_Wheel_play : Addr} (pa_Wheel_play : PySem.W.findIn K (.ref O_Wheel) "play" = some (some (.ref pp_Wheel_play)))
    (pb_Wheel_play : PySem.W.specialIn K (.ref pp_Wheel_play) "__get__" = some (some (.builtin "property.__get__")))
    (pc_Wheel_play : PySem.W.takesIn K (.ref pp_Wheel_play) = some true)
    {pr_Wheel_play : List Value} (pd_Wheel_play : PySem.W.recIn K pp_Wheel_play "property" = some (.ref m_Wheel_play :: pr_Wheel_play))
    (xa_Wheel_lets : PySem.W.findIn K (.ref O_Wheel) "lets" = some (some (.ref m_Wheel_lets)))
    (qa_Grid : PySem.W.findIn K (.ref O_Grid) "__eq__" = some (some (.ref m_Wheel_eq)))
    (qb_Grid : PySem.W.findIn K (.ref O_Grid) "__ne__" = some (some (.builtin "object.__ne__")))
    (no_Grid_period : PySem.W.findIn K (.ref O_Grid) "period" = some none)
    (no_Grid_back : PySem.W.findIn K (.ref O_Grid) "back" = some none)
    (no_Grid_ahead : PySem.W.findIn K (.ref O_Grid) "ahead" = some none)
    {u_Grid_TRUSTED : Value} (ca_Grid_TRUSTED : PySem.W.findIn K (.ref O_Grid) "TRUSTED" = some (some u_Grid_TRUSTED))
    (cb_Grid_TRUSTED : RelV (.bl true) u_Grid_TRUSTED)
    (cc_Grid_TRUSTED : PySem.W.specialIn K u_Grid_TRUSTED "__get__" = some none)
    {pp_Grid_trusted : Addr} (pa_Grid_trusted : PySem.W.findIn K (.ref O_Grid) "trusted" = some (some (.ref pp_Grid_trusted)))
    (pb_Grid_trusted : PySem.W.specialIn K (.ref pp_Grid_trusted) "__get__" = some (some (.builtin "property.__get__")))
    (pc_Grid_trusted : PySem.W.takesIn K (.ref pp_Grid_trusted) = some true)
    {pr_Grid_trusted : List Value} (pd_Grid_trusted : PySem.W.recIn K pp_Grid_trusted "property" = some (.ref m_Wheel_trusted :: pr_Grid_trusted))
    (xa_Grid_is_mark : PySem.W.findIn K (.ref O_Grid) "is_mark" = some (some (.ref m_Wheel_is_mark)))
    {pp_Grid_play : Addr} (pa_Grid_play : PySem.W.findIn K (.ref O_Grid) "play" = some (some (.ref pp_Grid_play)))
    (pb_Grid_play : PySem.W.specialIn K (.ref pp_Grid_play) "__get__" = some (some (.builtin "property.__get__")))
    (pc_Grid_play : PySem.W.takesIn K (.ref pp_Grid_play) = some true)
    {pr_Grid_play : List Value} (pd_Grid_play : PySem.W.recIn K pp_Grid_play "property" = some (.ref m_Wheel_play :: pr_Grid_play))
    (xa_Grid_lets : PySem.W.findIn K (.ref O_Grid) "lets" = some (some (.ref m_Wheel_lets)))
    {m_Meter_init : Addr} (ma_Meter_init : PySem.W.findIn K (.ref O_Meter) "__init__" = some (some (.ref m_Meter_init)))
    {voc_Meter_init vdc_Meter_init vpm_Meter_init vcd_Meter_init vct_Meter_init : Value} {vod_Meter_init van_Meter_init : Option Addr} {vsl_Meter_init : Array (Option Value)} {vD_Meter_init : Addr} (ml_Meter_init : K.lookup m_Meter_init = some ⟨voc_Meter_init, vod_Meter_init, .func (PySem.W.fnOf "__init__" "Meter.__init__" (defArgs s_Meter_init) (defBody s_Meter_init) (defScope s_Meter_init) .none (.ref vD_Meter_init) vdc_Meter_init vpm_Meter_init van_Meter_init vcd_Meter_init vct_Meter_init), vsl_Meter_init⟩)
    (mc_Meter_init : PySem.W.codeIn K vcd_Meter_init "Meter.__init__" = true)
    (mk_Meter_init : PySem.W.keepIn K (.ref m_Meter_init) = true)
    (mi_Meter_init : PySem.W.isFn K (.ref m_Meter_init) = true)
    {vu0_Meter_init : Value} (mn0_Meter_init : PySem.W.nsIn K vD_Meter_init "off" = some (some vu0_Meter_init))
    (mw0_Meter_init : RelV (.int 0) vu0_Meter_init)
    {vu1_Meter_init : Value} (mn1_Meter_init : PySem.W.nsIn K vD_Meter_init "more" = some (some vu1_Meter_init))
    (mw1_Meter_init : RelV (.int 0) vu1_Meter_init)
    {vu2_Meter_init : Value} (mn2_Meter_init : PySem.W.nsIn K vD_Meter_init "lost" = some (some vu2_Meter_init))
    (mw2_Meter_init : RelV (.int 0) vu2_Meter_init)
    (ka_Meter : PySem.W.makesIn K O_Meter = true)
    (kb_Meter : PySem.W.findIn K (.ref O_Meter) "__init__" = some (some (.ref m_Meter_init)))
    {m_Meter_iter : Addr} (ma_Meter_iter : PySem.W.findIn K (.ref O_Meter) "__iter__" = some (some (.ref m_Meter_iter)))
    {voc_Meter_iter vkV_Meter_iter vdc_Meter_iter vpm_Meter_iter vcd_Meter_iter vct_Meter_iter : Value} {vod_Meter_iter van_Meter_iter : Option Addr} {vsl_Meter_iter : Array (Option Value)} (ml_Meter_iter : K.lookup m_Meter_iter = some ⟨voc_Meter_iter, vod_Meter_iter, .func (PySem.W.fnOf "__iter__" "Meter.__iter__" (defArgs s_Meter_iter) (defBody s_Meter_iter) (defScope s_Meter_iter) .none vkV_Meter_iter vdc_Meter_iter vpm_Meter_iter van_Meter_iter vcd_Meter_iter vct_Meter_iter), vsl_Meter_iter⟩)
    (mc_Meter_iter : PySem.W.codeIn K vcd_Meter_iter "Meter.__iter__" = true)
    (mk_Meter_iter : PySem.W.keepIn K (.ref m_Meter_iter) = true)
    (mi_Meter_iter : PySem.W.isFn K (.ref m_Meter_iter) = true)
    {m_Meter_getitem : Addr} (ma_Meter_getitem : PySem.W.findIn K (.ref O_Meter) "__getitem__" = some (some (.ref m_Meter_getitem)))
    {voc_Meter_getitem vkV_Meter_getitem vdc_Meter_getitem vpm_Meter_getitem vcd_Meter_getitem vct_Meter_getitem : Value} {vod_Meter_getitem van_Meter_getitem : Option Addr} {vsl_Meter_getitem : Array (Option Value)} (ml_Meter_getitem : K.lookup m_Meter_getitem = some ⟨voc_Meter_getitem, vod_Meter_getitem, .func (PySem.W.fnOf "__getitem__" "Meter.__getitem__" (defArgs s_Meter_getitem) (defBody s_Meter_getitem) (defScope s_Meter_getitem) .none vkV_Meter_getitem vdc_Meter_getitem vpm_Meter_getitem van_Meter_getitem vcd_Meter_getitem vct_Meter_getitem), vsl_Meter_getitem⟩)
    (mc_Meter_getitem : PySem.W.codeIn K vcd_Meter_getitem "Meter.__getitem__" = true)
    (mk_Meter_getitem : PySem.W.keepIn K (.ref m_Meter_getitem) = true)
    (mi_Meter_getitem : PySem.W.isFn K (.ref m_Meter_getitem) = true)
    (no_Meter_wheels : PySem.W.findIn K (.ref O_Meter) "wheels" = some none)
    (no_Meter_off : PySem.W.findIn K (.ref O_Meter) "off" = some none)
    (no_Meter_more : PySem.W.findIn K (.ref O_Meter) "more" = some none)
    (no_Meter_lost : PySem.W.findIn K (.ref O_Meter) "lost" = some none)
    {m_Paper_init : Addr} (ma_Paper_init : PySem.W.findIn K (.ref O_Paper) "__init__" = some (some (.ref m_Paper_init)))
    {voc_Paper_init vkV_Paper_init vdc_Paper_init vpm_Paper_init vcd_Paper_init vct_Paper_init : Value} {vod_Paper_init van_Paper_init : Option Addr} {vsl_Paper_init : Array (Option Value)} (ml_Paper_init : K.lookup m_Paper_init = some ⟨voc_Paper_init, vod_Paper_init, .func (PySem.W.fnOf "__init__" "Paper.__init__" (defArgs s_Paper_init) (defBody s_Paper_init) (defScope s_Paper_init) .none vkV_Paper_init vdc_Paper_init vpm_Paper_init van_Paper_init vcd_Paper_init vct_Paper_init), vsl_Paper_init⟩)
    (mc_Paper_init : PySem.W.codeIn K vcd_Paper_init "Paper.__init__" = true)
    (mk_Paper_init : PySem.W.keepIn K (.ref m_Paper_init) = true)
    (mi_Paper_init : PySem.W.isFn K (.ref m_Paper_init) = true)
    {m_Stretch_init : Addr} (ma_Stretch_init : PySem.W.findIn K (.ref O_Stretch) "__init__" = some (some (.ref m_Stretch_init)))
    {voc_Stretch_init vkV_Stretch_init vdc_Stretch_init vpm_Stretch_init vct_Stretch_init : Value} {vod_Stretch_init van_Stretch_init : Option Addr} {vsl_Stretch_init : Array (Option Value)} {vc_Stretch_init vcc_Stretch_init : Addr} (ml_Stretch_init : K.lookup m_Stretch_init = some ⟨voc_Stretch_init, vod_Stretch_init, .func (PySem.W.fnX "__init__" "Stretch.__init__" (defArgs s_Stretch_init) (defBody s_Stretch_init) (defScope s_Stretch_init) [("__class__", vcc_Stretch_init)] .none vkV_Stretch_init vdc_Stretch_init vpm_Stretch_init van_Stretch_init (.ref vc_Stretch_init) vct_Stretch_init), vsl_Stretch_init⟩)
    (mc_Stretch_init : PySem.W.codeIn K (.ref vc_Stretch_init) "Stretch.__init__" = true)
    (mk_Stretch_init : PySem.W.keepIn K (.ref m_Stretch_init) = true)
    (mi_Stretch_init : PySem.W.isFn K (.ref m_Stretch_init) = true)
    {vcl_Stretch_init : Value} {vcld_Stretch_init : Option Addr} {vcsl_Stretch_init : Array (Option Value)} (mx_Stretch_init : K.lookup vcc_Stretch_init = some ⟨vcl_Stretch_init, vcld_Stretch_init, .cell (some (.ref O_Stretch)), vcsl_Stretch_init⟩)
    {vccl_Stretch_init : Value} {vcdd_Stretch_init : Option Addr} {vvs_Stretch_init : Array Value} {vccs_Stretch_init : Array (Option Value)} (my_Stretch_init : K.lookup vc_Stretch_init = some ⟨vccl_Stretch_init, vcdd_Stretch_init, .fields vvs_Stretch_init, vccs_Stretch_init⟩)
    {vfl_Stretch_init : Str} {vtf_Stretch_init : Tok} (mz_Stretch_init : vvs_Stretch_init[2]? = some (.str vfl_Stretch_init vtf_Stretch_init))
    (mf_Stretch_init : (l.prog.main.file == vfl_Stretch_init) = true)
    {vcd_Stretch_init : ClassData} (mg_Stretch_init : PySem.W.clsIn K O_Stretch = some vcd_Stretch_init)
    (ka_Stretch : PySem.W.makesIn K O_Stretch = true)
    (kb_Stretch : PySem.W.findIn K (.ref O_Stretch) "__init__" = some (some (.ref m_Stretch_init)))
    (sa_Stretch_Stretch_init : PySem.W.ks_superIn K O_Stretch O_Stretch "__init__" = some (some (.ref m_Paper_init)))
    (sb_Stretch_Stretch_init : PySem.W.typeIn K (.ref m_Paper_init) = some (.type "function"))
    (sc_Stretch_Stretch_init : PySem.W.fnIn K m_Paper_init = true)
    {vsd_Stretch_Stretch_init : ClassData} (sd_Stretch_Stretch_init : PySem.W.clsIn K O_Stretch = some vsd_Stretch_Stretch_init)
    (se_Stretch_Stretch_init : PySem.W.mroIn K O_Stretch (.ref O_Stretch) = some true)
    (no_Stretch_own_parts : PySem.W.findIn K (.ref O_Stretch) "own_parts" = some none)
    (no_Stretch_begin : PySem.W.findIn K (.ref O_Stretch) "begin" = some none)
    (no_Stretch_width : PySem.W.findIn K (.ref O_Stretch) "width" = some none)
    (no_Stretch_left : PySem.W.findIn K (.ref O_Stretch) "left" = some none)
    (al0_need_few_logs : PySem.W.nsIn K mainGlobals "need_few_logs" = some (some (.ref f5)))
    {u_MOST : Value} (ga_MOST : PySem.W.nsIn K mainGlobals "MOST" = some (some u_MOST))
    (r_MOST : RelV (.int 1000000000000) u_MOST)
    {u_MOST_WHEELS : Value} (ga_MOST_WHEELS : PySem.W.nsIn K mainGlobals "MOST_WHEELS" = some (some u_MOST_WHEELS))
    (r_MOST_WHEELS : RelV (.int 8) u_MOST_WHEELS)
    {u_MOST_ENTRIES : Value} (ga_MOST_ENTRIES : PySem.W.nsIn K mainGlobals "MOST_ENTRIES" = some (some u_MOST_ENTRIES))
    (r_MOST_ENTRIES : RelV (.int 60) u_MOST_ENTRIES)
    {u_MOST_VALUE : Value} (ga_MOST_VALUE : PySem.W.nsIn K mainGlobals "MOST_VALUE" = some (some u_MOST_VALUE))
    (r_MOST_VALUE : RelV (.int 1000000000000000000000000000000) u_MOST_VALUE)
    {u_MOST_TRIED : Value} (ga_MOST_TRIED : PySem.W.nsIn K mainGlobals "MOST_TRIED" = some (some u_MOST_TRIED))
    (r_MOST_TRIED : RelV (.int 1000) u_MOST_TRIED)
    (st_Wheel : PySem.W.findIn K (.ref O_Wheel) "__str__" = some (some (.ref m_Wheel_str)))
    (kd_Wheel : PySem.W.kitOne K (.ref O_Wheel) (.ref O_Wheel) = some true)
    (kx_Wheel : PySem.W.kitOne K (.ref O_Wheel) (.type "str") = some false)
    (km_Wheel : PySem.W.kitOne K (.ref O_Wheel) (.ref O_Meter) = some false)
    (st_Grid : PySem.W.findIn K (.ref O_Grid) "__str__" = some (some (.ref m_Wheel_str)))
    (kd_Grid : PySem.W.kitOne K (.ref O_Grid) (.ref O_Wheel) = some true)
    (kx_Grid : PySem.W.kitOne K (.ref O_Grid) (.type "str") = some false)
    (km_Grid : PySem.W.kitOne K (.ref O_Grid) (.ref O_Meter) = some false)
    (pf_Wheel : PySem.W.notFirst K O_Wheel (.ref O_Wheel) = true)
    (kmm : PySem.W.kitOne K (.ref O_Meter) (.ref O_Meter) = some true)
    (xfi : PySem.W.fnIn K m_Meter_getitem = true) :
    LawG q l.prog w K 12 mg fa := by
  have e := hfa.symm.trans (PySem.W.mg_of X G a31)
  cases e
  have B : Bi mg := ⟨PySem.W.mg_none_of X G z0, PySem.W.mg_none_of X G z1, PySem.W.mg_none_of X G z2, PySem.W.mg_none_of X G z3, PySem.W.mg_none_of X G z4, PySem.W.mg_none_of X G z5, PySem.W.mg_none_of X G z6, PySem.W.mg_none_of X G z7, PySem.W.mg_none_of X G z8, PySem.W.mg_none_of X G z9, PySem.W.mg_none_of X G z10, PySem.W.mg_none_of X G z11, PySem.W.mg_none_of X G z12, PySem.W.mg_none_of X G z13, PySem.W.mg_none_of X G z14, PySem.W.mg_none_of X G z15, PySem.W.mg_none_of X G z16, PySem.W.mg_none_of X G z17, PySem.W.mg_none_of X G z18, PySem.W.mg_none_of X G z19, PySem.W.mg_none_of X G z20, PySem.W.mg_none_of X G z21, PySem.W.mg_none_of X G z22, PySem.W.mg_none_of X G z23, PySem.W.mg_none_of X G z24, PySem.W.mg_none_of X G z25⟩
  have F_is_whole : Df K mg "is_whole" s_is_whole := ⟨_, _, PySem.W.mg_of X G a0, fun_mk l0 c0 k0⟩
  have F_need_part : Df K mg "need_part" s_need_part := ⟨_, _, PySem.W.mg_of X G a1, fun_mk l1 c1 k1⟩
  have F_need_value : Df K mg "need_value" s_need_value := ⟨_, _, PySem.W.mg_of X G a2, fun_mk l2 c2 k2⟩
  have F_need_count : Df K mg "need_count" s_need_count := ⟨_, _, PySem.W.mg_of X G a3, fun_mk l3 c3 k3⟩
  have F_need_least : Df K mg "need_least" s_need_least := ⟨_, _, PySem.W.mg_of X G a4, fun_mk l4 c4 k4⟩
  have F_need_few : Df K mg "need_few" s_need_few := ⟨_, _, PySem.W.mg_of X G a5, fun_mk l5 c5 k5⟩
  have F_is_marks : Df K mg "is_marks" s_is_marks := ⟨_, _, PySem.W.mg_of X G a6, fun_mk l6 c6 k6⟩
  have F_is_entry : Df K mg "is_entry" s_is_entry := ⟨_, _, PySem.W.mg_of X G a7, fun_mk l7 c7 k7⟩
  have F_need_entries : Df K mg "need_entries" s_need_entries := ⟨_, _, PySem.W.mg_of X G a8, fun_mk l8 c8 k8⟩
  have F_stretch_of : Df K mg "stretch_of" s_stretch_of := ⟨_, _, PySem.W.mg_of X G a9, fun_mk l9 c9 k9⟩
  have F_offsets_at : Df K mg "offsets_at" s_offsets_at := ⟨_, _, PySem.W.mg_of X G a10, fun_mk l10 c10 k10⟩
  have F_need_log : Df K mg "need_log" s_need_log := ⟨_, _, PySem.W.mg_of X G a11, fun_mk l11 c11 k11⟩
  have F_off_in : Df K mg "off_in" s_off_in := ⟨_, _, PySem.W.mg_of X G a12, fun_mk l12 c12 k12⟩
  have F_wheels_off : Df K mg "wheels_off" s_wheels_off := ⟨_, _, PySem.W.mg_of X G a13, fun_mk l13 c13 k13⟩
  have F_is_misread : Df K mg "is_misread" s_is_misread := ⟨_, _, PySem.W.mg_of X G a14, fun_mk l14 c14 k14⟩
  have F_misread : Df K mg "misread" s_misread := ⟨_, _, PySem.W.mg_of X G a15, fun_mk l15 c15 k15⟩
  have F_is_longer : Df K mg "is_longer" s_is_longer := ⟨_, _, PySem.W.mg_of X G a16, fun_mk l16 c16 k16⟩
  have F_is_fit : Df K mg "is_fit" s_is_fit := ⟨_, _, PySem.W.mg_of X G a17, fun_mk l17 c17 k17⟩
  have F_periods_that_fit : Df K mg "periods_that_fit" s_periods_that_fit := ⟨_, _, PySem.W.mg_of X G a18, fun_mk l18 c18 k18⟩
  have F_law_pen : Df K mg "_law_pen" s_law_pen := ⟨_, _, PySem.W.mg_of X G a19, fun_mk l19 c19 k19⟩
  have F_law_draw : Df K mg "_law_draw" s_law_draw := ⟨_, _, PySem.W.mg_of X G a20, fun_mk l20 c20 k20⟩
  have F_law_pick : Df K mg "_law_pick" s_law_pick := ⟨_, _, PySem.W.mg_of X G a21, fun_mk l21 c21 k21⟩
  have F_law_wheels : Df K mg "_law_wheels" s_law_wheels := ⟨_, _, PySem.W.mg_of X G a22, fun_mk l22 c22 k22⟩
  have F_law_wheel : Df K mg "_law_wheel" s_law_wheel := ⟨_, _, PySem.W.mg_of X G a23, fun_mk l23 c23 k23⟩
  have F_law_meter : Df K mg "_law_meter" s_law_meter := ⟨_, _, PySem.W.mg_of X G a24, fun_mk l24 c24 k24⟩
  have F_law_entries : Df K mg "_law_entries" s_law_entries := ⟨_, _, PySem.W.mg_of X G a25, fun_mk l25 c25 k25⟩
  have F_law_off : Df K mg "_law_off" s_law_off := ⟨_, _, PySem.W.mg_of X G a26, fun_mk l26 c26 k26⟩
  have F_law_is_misread : Df K mg "_law_is_misread" s_law_is_misread := ⟨_, _, PySem.W.mg_of X G a27, fun_mk l27 c27 k27⟩
  have F_law_log_right : Df K mg "_law_log_right" s_law_log_right := ⟨_, _, PySem.W.mg_of X G a28, fun_mk l28 c28 k28⟩
  have F_law_is_fit : Df K mg "_law_is_fit" s_law_is_fit := ⟨_, _, PySem.W.mg_of X G a29, fun_mk l29 c29 k29⟩
  have F_law_periods_right : Df K mg "_law_periods_right" s_law_periods_right := ⟨_, _, PySem.W.mg_of X G a30, fun_mk l30 c30 k30⟩
  have FL := fun_mk (st := s_law) l31 c31 k31
  have A : ErrAll l.prog K mg := ⟨g3, op, PySem.W.mg_none_of X G zs, g1, g2⟩
  refine ⟨[], List.nodup_nil, fun p hp => absurd hp (List.not_mem_nil)
  , fun base hK hG hT => ?_⟩
  have T_BadNumber : ErrT l.prog w K mg base "BadNumber" C_0 ["value"] := err_mk1 "value" X G A E_0 e0_0 sc_BadNumber_init rfl rfl rfl rfl (fun _ => rfl) (fun _ => rfl) (fun _ => ⟨_, rfl⟩) (fun _ => rfl) (by decide) (by decide) (fun us hl => match us, hl with | [_, _], _ => rfl)
  have T_BadLot : ErrT l.prog w K mg base "BadLot" C_1 ["part"] := err_mk1 "part" X G A E_1 e1_0 sc_BadLot_init rfl rfl rfl rfl (fun _ => rfl) (fun _ => rfl) (fun _ => ⟨_, rfl⟩) (fun _ => rfl) (by decide) (by decide) (fun us hl => match us, hl with | [_, _], _ => rfl)
  have T_BadWheel : ErrT l.prog w K mg base "BadWheel" C_2 ["part"] := err_mk1 "part" X G A E_2 e2_0 sc_BadWheel_init rfl rfl rfl rfl (fun _ => rfl) (fun _ => rfl) (fun _ => ⟨_, rfl⟩) (fun _ => rfl) (by decide) (by decide) (fun us hl => match us, hl with | [_, _], _ => rfl)
  have T_BadMeter : ErrT l.prog w K mg base "BadMeter" C_3 ["part"] := err_mk1 "part" X G A E_3 e3_0 sc_BadMeter_init rfl rfl rfl rfl (fun _ => rfl) (fun _ => rfl) (fun _ => ⟨_, rfl⟩) (fun _ => rfl) (by decide) (by decide) (fun us hl => match us, hl with | [_, _], _ => rfl)
  have T_BadValue : ErrT l.prog w K mg base "BadValue" C_4 ["value"] := err_mk1 "value" X G A E_4 e4_0 sc_BadValue_init rfl rfl rfl rfl (fun _ => rfl) (fun _ => rfl) (fun _ => ⟨_, rfl⟩) (fun _ => rfl) (by decide) (by decide) (fun us hl => match us, hl with | [_, _], _ => rfl)
  have T_BadLog : ErrT l.prog w K mg base "BadLog" C_5 ["at"] := err_mk1 "at" X G A E_5 e5_0 sc_BadLog_init rfl rfl rfl rfl (fun _ => rfl) (fun _ => rfl) (fun _ => ⟨_, rfl⟩) (fun _ => rfl) (by decide) (by decide) (fun us hl => match us, hl with | [_, _], _ => rfl)
  have T_BadText : ErrT l.prog w K mg base "BadText" C_6 ["line", "word"] := err_mk2 "line" "word" X G A E_6 e6_0 e6_1 sc_BadText_init rfl rfl rfl rfl (fun _ => rfl) (fun _ => rfl) (fun _ => ⟨_, rfl⟩) (fun _ => rfl) (fun _ => rfl) (by decide) (by decide) (by decide) (by decide) (fun us hl => match us, hl with | [_, _, _], _ => rfl)
  have T_NoPlace : ErrT l.prog w K mg base "NoPlace" C_7 ["at"] := err_mk1 "at" X G A E_7 e7_0 sc_NoPlace_init rfl rfl rfl rfl (fun _ => rfl) (fun _ => rfl) (fun _ => ⟨_, rfl⟩) (fun _ => rfl) (by decide) (by decide) (fun us hl => match us, hl with | [_, _], _ => rfl)
  have T_Unlike : ErrT l.prog w K mg base "Unlike" C_8 ["part"] := err_mk1 "part" X G A E_8 e8_0 sc_Unlike_init rfl rfl rfl rfl (fun _ => rfl) (fun _ => rfl) (fun _ => ⟨_, rfl⟩) (fun _ => rfl) (by decide) (by decide) (fun us hl => match us, hl with | [_, _], _ => rfl)
  have T_TooMany : ErrT l.prog w K mg base "TooMany" C_9 ["what", "most"] := err_mk2 "what" "most" X G A E_9 e9_0 e9_1 sc_TooMany_init rfl rfl rfl rfl (fun _ => rfl) (fun _ => rfl) (fun _ => ⟨_, rfl⟩) (fun _ => rfl) (fun _ => rfl) (by decide) (by decide) (by decide) (by decide) (fun us hl => match us, hl with | [_, _, _], _ => rfl)
  have G_ReachError : mg "ReachError" = some (.ref D_0) := PySem.W.mg_of X G d0
  have G_NoMember : mg "NoMember" = some (.ref D_1) := PySem.W.mg_of X G d1
  have G_Wheel : mg "Wheel" = some (.ref O_Wheel) := PySem.W.mg_of X G oa_Wheel
  have c_Wheel : L2.Cls K O_Wheel := ⟨ob_Wheel, oc_Wheel, od_Wheel, oe_Wheel⟩
  have t_Wheel : OwnT K O_Wheel := ⟨og_Wheel, oc_Wheel, oh_Wheel, g1, g2, oi_Wheel⟩
  have G_Grid : mg "Grid" = some (.ref O_Grid) := PySem.W.mg_of X G oa_Grid
  have c_Grid : L2.Cls K O_Grid := ⟨ob_Grid, oc_Grid, od_Grid, oe_Grid⟩
  have t_Grid : OwnT K O_Grid := ⟨og_Grid, oc_Grid, oh_Grid, g1, g2, oi_Grid⟩
  have G_Meter : mg "Meter" = some (.ref O_Meter) := PySem.W.mg_of X G oa_Meter
  have c_Meter : L2.Cls K O_Meter := ⟨ob_Meter, oc_Meter, od_Meter, oe_Meter⟩
  have t_Meter : OwnT K O_Meter := ⟨og_Meter, oc_Meter, oh_Meter, g1, g2, oi_Meter⟩
  have G_Paper : mg "Paper" = some (.ref O_Paper) := PySem.W.mg_of X G oa_Paper
  have c_Paper : L2.Cls K O_Paper := ⟨ob_Paper, oc_Paper, od_Paper, oe_Paper⟩
  have t_Paper : OwnT K O_Paper := ⟨og_Paper, oc_Paper, oh_Paper, g1, g2, oi_Paper⟩
  have G_Stretch : mg "Stretch" = some (.ref O_Stretch) := PySem.W.mg_of X G oa_Stretch
  have c_Stretch : L2.Cls K O_Stretch := ⟨ob_Stretch, oc_Stretch, od_Stretch, oe_Stretch⟩
  have t_Stretch : OwnT K O_Stretch := ⟨og_Stretch, oc_Stretch, oh_Stretch, g1, g2, oi_Stretch⟩
  have FM_Wheel_init := fun_mk (st := s_Wheel_init) ml_Wheel_init mc_Wheel_init mk_Wheel_init
  have FM_Wheel_eq := fun_mk (st := s_Wheel_eq) ml_Wheel_eq mc_Wheel_eq mk_Wheel_eq
  have FM_Wheel_str := fun_mk (st := s_Wheel_str) ml_Wheel_str mc_Wheel_str mk_Wheel_str
  have FM_Wheel_is_mark := fun_mk (st := s_Wheel_is_mark) ml_Wheel_is_mark mc_Wheel_is_mark mk_Wheel_is_mark
  have FM_Wheel_lets := fun_mk (st := s_Wheel_lets) ml_Wheel_lets mc_Wheel_lets mk_Wheel_lets
  have FM_Wheel_trusted := fun_mk (st := s_Wheel_trusted) ml_Wheel_trusted mc_Wheel_trusted mk_Wheel_trusted
  have FM_Wheel_play := fun_mk (st := s_Wheel_play) ml_Wheel_play mc_Wheel_play mk_Wheel_play
  have FM_Grid_init : SupF l.prog K "__init__" "Grid.__init__" s_Grid_init m_Grid_init vc_Grid_init vcc_Grid_init O_Grid _ := ⟨⟨voc_Grid_init, vod_Grid_init, vkV_Grid_init, vdc_Grid_init, vpm_Grid_init, vct_Grid_init, van_Grid_init, vsl_Grid_init, rfl, ml_Grid_init⟩, mc_Grid_init, ⟨vcl_Grid_init, vcld_Grid_init, vcsl_Grid_init, mx_Grid_init⟩, ⟨vccl_Grid_init, vcdd_Grid_init, vvs_Grid_init, vccs_Grid_init, vfl_Grid_init, vtf_Grid_init, my_Grid_init, mz_Grid_init, mf_Grid_init⟩, ⟨vcd_Grid_init, mg_Grid_init⟩, g3⟩
  have mk_Wheel : Mk K O_Wheel m_Wheel_init := ⟨ka_Wheel, kb_Wheel, mi_Wheel_init, of_Wheel⟩
  have mk_Grid : Mk K O_Grid m_Grid_init := ⟨ka_Grid, kb_Grid, mi_Grid_init, of_Grid⟩
  have su_Grid_Grid_init : SupM K mg O_Grid O_Grid "__init__" m_Wheel_init := ⟨sa_Grid_Grid_init, sb_Grid_Grid_init, sc_Grid_Grid_init, ⟨_, sd_Grid_Grid_init⟩, se_Grid_Grid_init, op, PySem.W.mg_none_of X G zs⟩
  have oe_Wheel : OwnEq K O_Wheel m_Wheel_eq := ⟨qa_Wheel, mi_Wheel_eq, qb_Wheel, oi_Wheel⟩
  have co_Wheel_TRUSTED : Con K O_Wheel "TRUSTED" (.bl false) u_Wheel_TRUSTED := ⟨ca_Wheel_TRUSTED, cb_Wheel_TRUSTED, cc_Wheel_TRUSTED, by decide +kernel⟩
  have pr_Wheel_trusted : PropOf K O_Wheel "trusted" pp_Wheel_trusted m_Wheel_trusted := ⟨pa_Wheel_trusted, pb_Wheel_trusted, pc_Wheel_trusted, ⟨_, pd_Wheel_trusted⟩⟩
  have me_Wheel_is_mark : Meth K O_Wheel "is_mark" m_Wheel_is_mark := ⟨xa_Wheel_is_mark, mi_Wheel_is_mark, mk_Wheel_is_mark⟩
  have pr_Wheel_play : PropOf K O_Wheel "play" pp_Wheel_play m_Wheel_play := ⟨pa_Wheel_play, pb_Wheel_play, pc_Wheel_play, ⟨_, pd_Wheel_play⟩⟩
  have me_Wheel_lets : Meth K O_Wheel "lets" m_Wheel_lets := ⟨xa_Wheel_lets, mi_Wheel_lets, mk_Wheel_lets⟩
  have oe_Grid : OwnEq K O_Grid m_Wheel_eq := ⟨qa_Grid, mi_Wheel_eq, qb_Grid, oi_Grid⟩
  have co_Grid_TRUSTED : Con K O_Grid "TRUSTED" (.bl true) u_Grid_TRUSTED := ⟨ca_Grid_TRUSTED, cb_Grid_TRUSTED, cc_Grid_TRUSTED, by decide +kernel⟩
  have pr_Grid_trusted : PropOf K O_Grid "trusted" pp_Grid_trusted m_Wheel_trusted := ⟨pa_Grid_trusted, pb_Grid_trusted, pc_Grid_trusted, ⟨_, pd_Grid_trusted⟩⟩
  have me_Grid_is_mark : Meth K O_Grid "is_mark" m_Wheel_is_mark := ⟨xa_Grid_is_mark, mi_Wheel_is_mark, mk_Wheel_is_mark⟩
  have pr_Grid_play : PropOf K O_Grid "play" pp_Grid_play m_Wheel_play := ⟨pa_Grid_play, pb_Grid_play, pc_Grid_play, ⟨_, pd_Grid_play⟩⟩
  have me_Grid_lets : Meth K O_Grid "lets" m_Wheel_lets := ⟨xa_Grid_lets, mi_Wheel_lets, mk_Wheel_lets⟩
  have FK_Meter_init : FunK K "__init__" "Meter.__init__" s_Meter_init [("off", .int 0), ("more", .int 0), ("lost", .int 0)] m_Meter_init := funk_mk (st := s_Meter_init) ml_Meter_init mc_Meter_init mk_Meter_init (.cons mn0_Meter_init mw0_Meter_init ( .cons mn1_Meter_init mw1_Meter_init ( .cons mn2_Meter_init mw2_Meter_init (.nil))))
  have mk_Meter : Mk K O_Meter m_Meter_init := ⟨ka_Meter, kb_Meter, mi_Meter_init, of_Meter⟩
  have FM_Meter_iter := fun_mk (st := s_Meter_iter) ml_Meter_iter mc_Meter_iter mk_Meter_iter
  have FM_Meter_getitem := fun_mk (st := s_Meter_getitem) ml_Meter_getitem mc_Meter_getitem mk_Meter_getitem
  have FM_Paper_init := fun_mk (st := s_Paper_init) ml_Paper_init mc_Paper_init mk_Paper_init
  have FM_Stretch_init : SupF l.prog K "__init__" "Stretch.__init__" s_Stretch_init m_Stretch_init vc_Stretch_init vcc_Stretch_init O_Stretch _ := ⟨⟨voc_Stretch_init, vod_Stretch_init, vkV_Stretch_init, vdc_Stretch_init, vpm_Stretch_init, vct_Stretch_init, van_Stretch_init, vsl_Stretch_init, rfl, ml_Stretch_init⟩, mc_Stretch_init, ⟨vcl_Stretch_init, vcld_Stretch_init, vcsl_Stretch_init, mx_Stretch_init⟩, ⟨vccl_Stretch_init, vcdd_Stretch_init, vvs_Stretch_init, vccs_Stretch_init, vfl_Stretch_init, vtf_Stretch_init, my_Stretch_init, mz_Stretch_init, mf_Stretch_init⟩, ⟨vcd_Stretch_init, mg_Stretch_init⟩, g3⟩
  have mk_Stretch : Mk K O_Stretch m_Stretch_init := ⟨ka_Stretch, kb_Stretch, mi_Stretch_init, of_Stretch⟩
  have su_Stretch_Stretch_init : SupM K mg O_Stretch O_Stretch "__init__" m_Paper_init := ⟨sa_Stretch_Stretch_init, sb_Stretch_Stretch_init, sc_Stretch_Stretch_init, ⟨_, sd_Stretch_Stretch_init⟩, se_Stretch_Stretch_init, op, PySem.W.mg_none_of X G zs⟩
  have al_need_few_logs : mg "need_few_logs" = mg "need_few" := (PySem.W.mg_of X G al0_need_few_logs).trans (PySem.W.mg_of X G a5).symm
  have g_MOST := PySem.W.mg_of X G ga_MOST
  have g_MOST_WHEELS := PySem.W.mg_of X G ga_MOST_WHEELS
  have g_MOST_ENTRIES := PySem.W.mg_of X G ga_MOST_ENTRIES
  have g_MOST_VALUE := PySem.W.mg_of X G ga_MOST_VALUE
  have g_MOST_TRIED := PySem.W.mg_of X G ga_MOST_TRIED
  have D_whole := fn_is_whole (P := l.prog) (w := w) (base := base) B F_is_whole
  have D_np := fn_need_part F_need_part D_whole T_BadWheel g_MOST r_MOST
  have RT := run_Wheel_trusted (P := l.prog) (w := w) (base := base) B FM_Wheel_trusted
  have wa_Wheel : WhA K O_Wheel := ⟨c_Wheel, no_Wheel_period, no_Wheel_back, no_Wheel_ahead⟩
  have wc_Wheel : WhC K O_Wheel m_Wheel_trusted m_Wheel_eq m_Wheel_str O_Wheel false := ⟨wa_Wheel, t_Wheel, kd_Wheel, ⟨_, co_Wheel_TRUSTED⟩, ⟨_, pr_Wheel_trusted⟩, oe_Wheel, st_Wheel, mi_Wheel_str⟩
  have wk_Wheel : WhK K ⟨O_Wheel, O_Grid, m_Wheel_trusted, m_Wheel_eq, m_Wheel_str, m_Wheel_is_mark, O_Meter⟩ O_Wheel false := ⟨wc_Wheel, (fun z => nomatch z), (fun _ => .inl pf_Wheel), me_Wheel_is_mark, km_Wheel, kx_Wheel⟩
  have wl_Wheel : WhL K ⟨O_Wheel, O_Grid, m_Wheel_trusted, m_Wheel_eq, m_Wheel_str, m_Wheel_is_mark, O_Meter⟩ m_Wheel_play m_Wheel_lets O_Wheel false := ⟨wk_Wheel, ⟨_, pr_Wheel_play⟩, me_Wheel_lets⟩
  have wa_Grid : WhA K O_Grid := ⟨c_Grid, no_Grid_period, no_Grid_back, no_Grid_ahead⟩
  have wc_Grid : WhC K O_Wheel m_Wheel_trusted m_Wheel_eq m_Wheel_str O_Grid true := ⟨wa_Grid, t_Grid, kd_Grid, ⟨_, co_Grid_TRUSTED⟩, ⟨_, pr_Grid_trusted⟩, oe_Grid, st_Grid, mi_Wheel_str⟩
  have wk_Grid : WhK K ⟨O_Wheel, O_Grid, m_Wheel_trusted, m_Wheel_eq, m_Wheel_str, m_Wheel_is_mark, O_Meter⟩ O_Grid true := ⟨wc_Grid, (fun _ => rfl), (fun z => nomatch z), me_Grid_is_mark, km_Grid, kx_Grid⟩
  have wl_Grid : WhL K ⟨O_Wheel, O_Grid, m_Wheel_trusted, m_Wheel_eq, m_Wheel_str, m_Wheel_is_mark, O_Meter⟩ m_Wheel_play m_Wheel_lets O_Grid true := ⟨wk_Grid, ⟨_, pr_Grid_play⟩, me_Grid_lets⟩
  have R_w := run_Wheel_init FM_Wheel_init D_np
  have R_gr := run_Grid_init FM_Grid_init R_w su_Grid_Grid_init argsP id id (fun _ _ r => r) (fun _ _ _ _ _ us hl => match us, hl with | [_, _], _ => rfl)
  have D_cnt := fn_need_count (P := l.prog) (w := w) (base := base) F_need_count D_whole g_MOST_WHEELS r_MOST_WHEELS
  have mtc : MtC K O_Meter := ⟨c_Meter, no_Meter_wheels, no_Meter_off, no_Meter_more, no_Meter_lost⟩
  have Bi_m := body_Meter_init (P := l.prog) (w := w) (base := base) (K := K) (mg := mg) (Y := ⟨O_Wheel, O_Grid, m_Wheel_trusted, m_Wheel_eq, m_Wheel_str, m_Wheel_is_mark, O_Meter⟩) B D_cnt G_Wheel g_MOST_WHEELS r_MOST_WHEELS
  have MW : MtW l.prog w K mg base ⟨O_Wheel, O_Grid, m_Wheel_trusted, m_Wheel_eq, m_Wheel_str, m_Wheel_is_mark, O_Meter⟩ m_Meter_iter := ⟨mtc, t_Meter, kmm, ma_Meter_iter, mi_Meter_iter, fun n => run_Meter_iter B FM_Meter_iter n⟩
  have MK : Mks l.prog w K mg base ⟨O_Wheel, O_Grid, m_Wheel_trusted, m_Wheel_eq, m_Wheel_str, m_Wheel_is_mark, O_Meter⟩ C_2 m_Wheel_init m_Grid_init m_Meter_init m_Meter_iter m_Wheel_play m_Wheel_lets := ⟨⟨G_Wheel, mk_Wheel, R_w⟩, ⟨G_Grid, mk_Grid, R_gr⟩, wl_Wheel, wl_Grid, G_Meter, mk_Meter, mtI_of FK_Meter_init Bi_m, MW⟩
  have R_gi := run_Meter_getitem (P := l.prog) (w := w) (base := base) (Y := ⟨O_Wheel, O_Grid, m_Wheel_trusted, m_Wheel_eq, m_Wheel_str, m_Wheel_is_mark, O_Meter⟩) B FM_Meter_getitem D_whole
  have oi : OwnItem K O_Meter m_Meter_getitem := ⟨ma_Meter_getitem, mi_Meter_getitem, xfi⟩
  have R_pi := run_Paper_init (P := l.prog) (w := w) (mg := mg) (base := base) FM_Paper_init
  have R_si := run_Stretch_init (w := w) (base := base) FM_Stretch_init R_pi su_Stretch_Stretch_init argsP id id (fun _ _ r => r) (fun _ _ _ _ _ us hl => match us, hl with | [_, _, _, _], _ => rfl)
  have D_st := fn_stretch_of B F_stretch_of G_Stretch mk_Stretch c_Stretch no_Stretch_own_parts no_Stretch_begin no_Stretch_width no_Stretch_left R_si
  have D_oa := fn_offsets_at (P := l.prog) (w := w) (base := base) B F_offsets_at
  have E_ie := fn_is_entryD B F_is_entry D_whole g_MOST_VALUE r_MOST_VALUE
  have E_im := fn_is_marksD B F_is_marks D_whole
  have E_nf := (fn_need_fewD B F_need_few T_BadLog g_MOST_ENTRIES r_MOST_ENTRIES).as al_need_few_logs
  have E_ne := fn_need_entriesD B F_need_entries E_nf E_ie E_im T_BadLog
  have E_nl := fn_need_leastD F_need_least D_whole T_BadNumber
  have E_log := fn_need_logD B F_need_log G_Meter MW E_ne T_BadMeter
  have D_nv := fn_need_valueI (P := l.prog) (w := w) (base := base) F_need_value D_whole
  have R_im := run_Wheel_is_mark FM_Wheel_is_mark D_whole
  have R_pw := run_Wheel_play (mg := mg) (P := l.prog) (w := w) (base := base) FM_Wheel_play
  have R_le := run_Wheel_lets (Y := ⟨O_Wheel, O_Grid, m_Wheel_trusted, m_Wheel_eq, m_Wheel_str, m_Wheel_is_mark, O_Meter⟩) (gL := m_Wheel_lets) FM_Wheel_lets D_nv R_im R_pw
  have D_oi := fn_off_in B F_off_in MW R_le
  have b_wo := body_wheels_off B E_log D_oi
  have D_wo := fn_plain F_wheels_off sc_wheels_off (fun _ _ _ _ _ _ us hl => match us, hl with | [_, _], _ => rfl) (by decide) offs_len b_wo
  have D_wk := fn_plainK 0 ["entries", "meter"] sw2 sw2 sw2_vals F_wheels_off sc_wheels_off (fun _ _ _ _ _ _ us hl => match us, hl with | [_, _], _ => rfl) (by decide) offs_len b_wo
  have D_ism := fn_is_misread B F_is_misread MW oi R_gi RT D_oi
  have b_mi := body_misread B E_log D_ism
  have D_mi := fn_plain F_misread sc_misread (fun _ _ _ _ _ _ us hl => match us, hl with | [_, _], _ => rfl) (by decide) mis_len b_mi
  have D_mk := fn_plainK 0 ["entries", "meter"] sw2 sw2 sw2_vals F_misread sc_misread (fun _ _ _ _ _ _ us hl => match us, hl with | [_, _], _ => rfl) (by decide) mis_len b_mi
  have E_il := fn_is_longerD B F_is_longer D_whole E_ie
  have D_if := fn_is_fit B F_is_fit D_oa D_st c_Stretch no_Stretch_width
  have b_pf := body_fits B D_whole E_nl E_nf E_il D_if g_MOST_TRIED r_MOST_TRIED
  have D_pf := fn_plain F_periods_that_fit sc_periods_that_fit (fun _ _ _ _ _ _ us hl => match us, hl with | [_, _, _, _], _ => rfl) (by decide) fits_len b_pf
  have D_pk := fn_plainK 0 ["most", "play", "place", "entries"] rv4 rv4 rv4_vals F_periods_that_fit sc_periods_that_fit (fun _ _ _ _ _ _ us hl => match us, hl with | [_, _, _, _], _ => rfl) (by decide) fits_len b_pf
  have L_pen := fn_law_pen (P := l.prog) (w := w) (base := base) B F_law_pen
  have L_draw := fn_law_draw (P := l.prog) (w := w) (base := base) B F_law_draw
  have L_pick := fn_law_pick B F_law_pick L_draw
  have L_wh := fn_law_wheels B F_law_wheels L_draw L_pick
  have L_en := fn_law_entries B F_law_entries L_draw L_pick
  have L_of := fn_law_wheel F_law_wheel MK
  have L_mt := fn_law_meter B F_law_meter MK L_of
  have L_off := fn_law_off (P := l.prog) (w := w) (base := base) B F_law_off
  have L_ism := fn_law_is_misread B F_law_is_misread L_off
  have L_fit := fn_law_is_fit (P := l.prog) (w := w) (base := base) B F_law_is_fit
  have L_1 := fn_law_log_right B F_law_log_right L_wh L_pick L_mt L_en D_wo D_wk D_mi D_mk L_off L_ism
  have L_2 := fn_law_periods_right B F_law_periods_right L_draw L_fit D_pf D_pk
  exact (fn_entry FL sc_law (fun _ _ _ _ _ _ us hl => match us, hl with | [_], _ => rfl) (by decide) (by tm_at "g_len") (law_body B L_pen L_1 L_2 D_wo D_mi D_pf MK (run_two FK_Meter_init Bi_m) (run_more FK_Meter_init Bi_m))).mono (by decide)
theorem walk {l : PySem.W.OpenLaw} {q : Program} {loose : List Str} {XP : (Str → Option Value) → Heap → Prop} {YP : World → Heap → Prop} {d : DefRec} {K : Params → PySem.W.Frag} (hn : l.most = some 63) (hdf : d.params.defaults = [])
    (hY : ∀ (w : World) (h : Heap), YP w h → (K w.params).In h)
    (F : ∀ (w : World) (mg : Str → Option Value) (fa : Addr) (h : Heap), (K w.params).In h → h.Ns mainGlobals mg → mg d.name = some (.ref fa) → LawG q l.prog w (K w.params) 12 mg fa) : PySem.W.WalkO q loose XP YP l.row.toRowW d [] (fun f vs => PySem.call f vs) :=
  walkG (n := 63) hn (by decide) hdf ⟨rfl, by decide, by decide⟩ hY F
end T
open PySem PySem.W PyProof.Rows G in
set_option maxRecDepth 100000 in
set_option maxHeartbeats 0 in
theorem PySem.Challenge.cw_wheelreach_k88_misread_entries_and_perio_holds : PySem.Challenge.rw_wheelreach_k88_misread_entries_and_perio.Holds := by
  refine T.headT ?_
  k_fill
  refine T.walk (l := PySem.Challenge.rw_wheelreach_k88_misread_entries_and_perio) rfl rfl (fun w h Y => by first | exact PySem.W.kIn_of Y | exact PySem.W.km_in_of Y) ?F
  case F =>
    intro w mg fa h KX G hmg
    refine' T.all_mk KX G hmg ?a0 ?l0 ?c0 ?k0 ?a1 ?l1 ?c1 ?k1 ?a2 ?l2 ?c2 ?k2 ?a3 ?l3 ?c3 ?k3 ?a4 ?l4 ?c4 ?k4 ?a5 ?l5 ?c5 ?k5 ?a6 ?l6 ?c6 ?k6 ?a7 ?l7 ?c7 ?k7 ?a8 ?l8 ?c8 ?k8 ?a9 ?l9 ?c9 ?k9 ?a10 ?l10 ?c10 ?k10 ?a11 ?l11 ?c11 ?k11 ?a12 ?l12 ?c12 ?k12 ?a13 ?l13 ?c13 ?k13 ?a14 ?l14 ?c14 ?k14 ?a15 ?l15 ?c15 ?k15 ?a16 ?l16 ?c16 ?k16 ?a17 ?l17 ?c17 ?k17 ?a18 ?l18 ?c18 ?k18 ?a19 ?l19 ?c19 ?k19 ?a20 ?l20 ?c20 ?k20 ?a21 ?l21 ?c21 ?k21 ?a22 ?l22 ?c22 ?k22 ?a23 ?l23 ?c23 ?k23 ?a24 ?l24 ?c24 ?k24 ?a25 ?l25 ?c25 ?k25 ?a26 ?l26 ?c26 ?k26 ?a27 ?l27 ?c27 ?k27 ?a28 ?l28 ?c28 ?k28 ?a29 ?l29 ?c29 ?k29 ?a30 ?l30 ?c30 ?k30 ?a31 ?l31 ?c31 ?k31 ?z0 ?z1 ?z2 ?z3 ?z4 ?z5 ?z6 ?z7 ?z8 ?z9 ?z10 ?z11 ?z12 ?z13 ?z14 ?z15 ?z16 ?z17 ?z18 ?z19 ?z20 ?z21 ?z22 ?z23 ?z24 ?z25 ?zs ?op ?g1 ?g2 ?g3 ?E_0 ?e0_0 ?E_1 ?e1_0 ?E_2 ?e2_0 ?E_3 ?e3_0 ?E_4 ?e4_0 ?E_5 ?e5_0 ?E_6 ?e6_0 ?e6_1 ?E_7 ?e7_0 ?E_8 ?e8_0 ?E_9 ?e9_0 ?e9_1 ?d0 ?d1 ?oa_Wheel ?ob_Wheel ?oc_Wheel ?od_Wheel ?oe_Wheel ?of_Wheel ?og_Wheel ?oh_Wheel ?oi_Wheel ?oa_Grid ?ob_Grid ?oc_Grid ?od_Grid ?oe_Grid ?of_Grid ?og_Grid ?oh_Grid ?oi_Grid ?oa_Meter ?ob_Meter ?oc_Meter ?od_Meter ?oe_Meter ?of_Meter ?og_Meter ?oh_Meter ?oi_Meter ?oa_Paper ?ob_Paper ?oc_Paper ?od_Paper ?oe_Paper ?of_Paper ?og_Paper ?oh_Paper ?oi_Paper ?oa_Stretch ?ob_Stretch ?oc_Stretch ?od_Stretch ?oe_Stretch ?of_Stretch ?og_Stretch ?oh_Stretch ?oi_Stretch ?ma_Wheel_init ?ml_Wheel_init ?mc_Wheel_init ?mk_Wheel_init ?mi_Wheel_init ?ma_Wheel_eq ?ml_Wheel_eq ?mc_Wheel_eq ?mk_Wheel_eq ?mi_Wheel_eq ?ma_Wheel_str ?ml_Wheel_str ?mc_Wheel_str ?mk_Wheel_str ?mi_Wheel_str ?ma_Wheel_is_mark ?ml_Wheel_is_mark ?mc_Wheel_is_mark ?mk_Wheel_is_mark ?mi_Wheel_is_mark ?ma_Wheel_lets ?ml_Wheel_lets ?mc_Wheel_lets ?mk_Wheel_lets ?mi_Wheel_lets ?ma_Wheel_trusted ?mb_Wheel_trusted ?ml_Wheel_trusted ?mc_Wheel_trusted ?mk_Wheel_trusted ?mi_Wheel_trusted ?ma_Wheel_play ?mb_Wheel_play ?ml_Wheel_play ?mc_Wheel_play ?mk_Wheel_play ?mi_Wheel_play ?ma_Grid_init ?ml_Grid_init ?mc_Grid_init ?mk_Grid_init ?mi_Grid_init ?mx_Grid_init ?my_Grid_init ?mz_Grid_init ?mf_Grid_init ?mg_Grid_init ?ka_Wheel ?kb_Wheel ?ka_Grid ?kb_Grid ?sa_Grid_Grid_init ?sb_Grid_Grid_init ?sc_Grid_Grid_init ?sd_Grid_Grid_init ?se_Grid_Grid_init ?qa_Wheel ?qb_Wheel ?no_Wheel_period ?no_Wheel_back ?no_Wheel_ahead ?ca_Wheel_TRUSTED ?cb_Wheel_TRUSTED ?cc_Wheel_TRUSTED ?pa_Wheel_trusted ?pb_Wheel_trusted ?pc_Wheel_trusted ?pd_Wheel_trusted ?xa_Wheel_is_mark ?pa_Wheel_play ?pb_Wheel_play ?pc_Wheel_play ?pd_Wheel_play ?xa_Wheel_lets ?qa_Grid ?qb_Grid ?no_Grid_period ?no_Grid_back ?no_Grid_ahead ?ca_Grid_TRUSTED ?cb_Grid_TRUSTED ?cc_Grid_TRUSTED ?pa_Grid_trusted ?pb_Grid_trusted ?pc_Grid_trusted ?pd_Grid_trusted ?xa_Grid_is_mark ?pa_Grid_play ?pb_Grid_play ?pc_Grid_play ?pd_Grid_play ?xa_Grid_lets ?ma_Meter_init ?ml_Meter_init ?mc_Meter_init ?mk_Meter_init ?mi_Meter_init ?mn0_Meter_init ?mw0_Meter_init ?mn1_Meter_init ?mw1_Meter_init ?mn2_Meter_init ?mw2_Meter_init ?ka_Meter ?kb_Meter ?ma_Meter_iter ?ml_Meter_iter ?mc_Meter_iter ?mk_Meter_iter ?mi_Meter_iter ?ma_Meter_getitem ?ml_Meter_getitem ?mc_Meter_getitem ?mk_Meter_getitem ?mi_Meter_getitem ?no_Meter_wheels ?no_Meter_off ?no_Meter_more ?no_Meter_lost ?ma_Paper_init ?ml_Paper_init ?mc_Paper_init ?mk_Paper_init ?mi_Paper_init ?ma_Stretch_init ?ml_Stretch_init ?mc_Stretch_init ?mk_Stretch_init ?mi_Stretch_init ?mx_Stretch_init ?my_Stretch_init ?mz_Stretch_init ?mf_Stretch_init ?mg_Stretch_init ?ka_Stretch ?kb_Stretch ?sa_Stretch_Stretch_init ?sb_Stretch_Stretch_init ?sc_Stretch_Stretch_init ?sd_Stretch_Stretch_init ?se_Stretch_Stretch_init ?no_Stretch_own_parts ?no_Stretch_begin ?no_Stretch_width ?no_Stretch_left ?al0_need_few_logs ?ga_MOST ?r_MOST ?ga_MOST_WHEELS ?r_MOST_WHEELS ?ga_MOST_ENTRIES ?r_MOST_ENTRIES ?ga_MOST_VALUE ?r_MOST_VALUE ?ga_MOST_TRIED ?r_MOST_TRIED ?st_Wheel ?kd_Wheel ?kx_Wheel ?km_Wheel ?st_Grid ?kd_Grid ?kx_Grid ?km_Grid ?pf_Wheel ?kmm ?xfi
    (case a0 => k_is)
    (case l0 => k_is)
    (case c0 => k_is)
    (case k0 => k_is)
    (case a1 => k_is)
    (case l1 => k_is)
    (case c1 => k_is)
    (case k1 => k_is)
    (case a2 => k_is)
    (case l2 => k_is)
    (case c2 => k_is)
    (case k2 => k_is)
    (case a3 => k_is)
    (case l3 => k_is)
    (case c3 => k_is)
    (case k3 => k_is)
    (case a4 => k_is)
    (case l4 => k_is)
    (case c4 => k_is)
    (case k4 => k_is)
    (case a5 => k_is)
    (case l5 => k_is)
    (case c5 => k_is)
    (case k5 => k_is)
    (case a6 => k_is)
    (case l6 => k_is)
    (case c6 => k_is)
    (case k6 => k_is)
    (case a7 => k_is)
    (case l7 => k_is)
    (case c7 => k_is)
    (case k7 => k_is)
    (case a8 => k_is)
    (case l8 => k_is)
    (case c8 => k_is)
    (case k8 => k_is)
    (case a9 => k_is)
    (case l9 => k_is)
    (case c9 => k_is)
    (case k9 => k_is)
    (case a10 => k_is)
    (case l10 => k_is)
    (case c10 => k_is)
    (case k10 => k_is)
    (case a11 => k_is)
    (case l11 => k_is)
    (case c11 => k_is)
    (case k11 => k_is)
    (case a12 => k_is)
    (case l12 => k_is)
    (case c12 => k_is)
    (case k12 => k_is)
    (case a13 => k_is)
    (case l13 => k_is)
    (case c13 => k_is)
    (case k13 => k_is)
    (case a14 => k_is)
    (case l14 => k_is)
    (case c14 => k_is)
    (case k14 => k_is)
    (case a15 => k_is)
    (case l15 => k_is)
    (case c15 => k_is)
    (case k15 => k_is)
    (case a16 => k_is)
    (case l16 => k_is)
    (case c16 => k_is)
    (case k16 => k_is)
    (case a17 => k_is)
    (case l17 => k_is)
    (case c17 => k_is)
    (case k17 => k_is)
    (case a18 => k_is)
    (case l18 => k_is)
    (case c18 => k_is)
    (case k18 => k_is)
    (case a19 => k_is)
    (case l19 => k_is)
    (case c19 => k_is)
    (case k19 => k_is)
    (case a20 => k_is)
    (case l20 => k_is)
    (case c20 => k_is)
    (case k20 => k_is)
    (case a21 => k_is)
    (case l21 => k_is)
    (case c21 => k_is)
    (case k21 => k_is)
    (case a22 => k_is)
    (case l22 => k_is)
    (case c22 => k_is)
    (case k22 => k_is)
    (case a23 => k_is)
    (case l23 => k_is)
    (case c23 => k_is)
    (case k23 => k_is)
    (case a24 => k_is)
    (case l24 => k_is)
    (case c24 => k_is)
    (case k24 => k_is)
    (case a25 => k_is)
    (case l25 => k_is)
    (case c25 => k_is)
    (case k25 => k_is)
    (case a26 => k_is)
    (case l26 => k_is)
    (case c26 => k_is)
    (case k26 => k_is)
    (case a27 => k_is)
    (case l27 => k_is)
    (case c27 => k_is)
    (case k27 => k_is)
    (case a28 => k_is)
    (case l28 => k_is)
    (case c28 => k_is)
    (case k28 => k_is)
    (case a29 => k_is)
    (case l29 => k_is)
    (case c29 => k_is)
    (case k29 => k_is)
    (case a30 => k_is)
    (case l30 => k_is)
    (case c30 => k_is)
    (case k30 => k_is)
    (case a31 => k_is)
    (case l31 => k_is)
    (case c31 => k_is)
    (case k31 => k_is)
    (case z0 => k_is)
    (case z1 => k_is)
    (case z2 => k_is)
    (case z3 => k_is)
    (case z4 => k_is)
    (case z5 => k_is)
    (case z6 => k_is)
    (case z7 => k_is)
    (case z8 => k_is)
    (case z9 => k_is)
    (case z10 => k_is)
    (case z11 => k_is)
    (case z12 => k_is)
    (case z13 => k_is)
    (case z14 => k_is)
    (case z15 => k_is)
    (case z16 => k_is)
    (case z17 => k_is)
    (case z18 => k_is)
    (case z19 => k_is)
    (case z20 => k_is)
    (case z21 => k_is)
    (case z22 => k_is)
    (case z23 => k_is)
    (case z24 => k_is)
    (case z25 => k_is)
    (case zs => k_is)
    (case op => k_is)
    (case g1 => k_is)
    (case g2 => k_is)
    (case g3 => rfl)
    (case E_0 => (refine' ErrFacts.mk ?y_a1 ?y_a2 ?y_a3 ?y_a4 ?y_a5 ?y_a6 ?y_a7 ?y_a8 ?y_a9 ?y_b1 ?y_b2 ?y_b3 ?y_b4 ?y_b5 ?y_b6 ?y_b7 ?y_b8 ?y_b9 ?y_c1 ?y_c2 ?y_c3 ?y_c4 ?y_c5 ?y_c6; (case y_a1 => k_is); (case y_a2 => k_is); (case y_a3 => rfl); (case y_a4 => k_is); (case y_a5 => k_is); (case y_a6 => k_is); (case y_a7 => k_is); (case y_a8 => k_is); (case y_a9 => k_is); (case y_b1 => first | kernel_rfl | rfl | decide +kernel); (case y_b2 => k_is); (case y_b3 => k_is); (case y_b4 => k_is); (case y_b5 => k_is); (case y_b6 => k_is); (case y_b7 => k_is); (case y_b8 => rfl); (case y_b9 => rfl); (case y_c1 => k_is); (case y_c2 => k_is); (case y_c3 => k_is); (case y_c4 => k_is); (case y_c5 => k_is); (case y_c6 => k_is)))
    (case e0_0 => k_is)
    (case E_1 => (refine' ErrFacts.mk ?y_a1 ?y_a2 ?y_a3 ?y_a4 ?y_a5 ?y_a6 ?y_a7 ?y_a8 ?y_a9 ?y_b1 ?y_b2 ?y_b3 ?y_b4 ?y_b5 ?y_b6 ?y_b7 ?y_b8 ?y_b9 ?y_c1 ?y_c2 ?y_c3 ?y_c4 ?y_c5 ?y_c6; (case y_a1 => k_is); (case y_a2 => k_is); (case y_a3 => rfl); (case y_a4 => k_is); (case y_a5 => k_is); (case y_a6 => k_is); (case y_a7 => k_is); (case y_a8 => k_is); (case y_a9 => k_is); (case y_b1 => first | kernel_rfl | rfl | decide +kernel); (case y_b2 => k_is); (case y_b3 => k_is); (case y_b4 => k_is); (case y_b5 => k_is); (case y_b6 => k_is); (case y_b7 => k_is); (case y_b8 => rfl); (case y_b9 => rfl); (case y_c1 => k_is); (case y_c2 => k_is); (case y_c3 => k_is); (case y_c4 => k_is); (case y_c5 => k_is); (case y_c6 => k_is)))
    (case e1_0 => k_is)
    (case E_2 => (refine' ErrFacts.mk ?y_a1 ?y_a2 ?y_a3 ?y_a4 ?y_a5 ?y_a6 ?y_a7 ?y_a8 ?y_a9 ?y_b1 ?y_b2 ?y_b3 ?y_b4 ?y_b5 ?y_b6 ?y_b7 ?y_b8 ?y_b9 ?y_c1 ?y_c2 ?y_c3 ?y_c4 ?y_c5 ?y_c6; (case y_a1 => k_is); (case y_a2 => k_is); (case y_a3 => rfl); (case y_a4 => k_is); (case y_a5 => k_is); (case y_a6 => k_is); (case y_a7 => k_is); (case y_a8 => k_is); (case y_a9 => k_is); (case y_b1 => first | kernel_rfl | rfl | decide +kernel); (case y_b2 => k_is); (case y_b3 => k_is); (case y_b4 => k_is); (case y_b5 => k_is); (case y_b6 => k_is); (case y_b7 => k_is); (case y_b8 => rfl); (case y_b9 => rfl); (case y_c1 => k_is); (case y_c2 => k_is); (case y_c3 => k_is); (case y_c4 => k_is); (case y_c5 => k_is); (case y_c6 => k_is)))
    (case e2_0 => k_is)
    (case E_3 => (refine' ErrFacts.mk ?y_a1 ?y_a2 ?y_a3 ?y_a4 ?y_a5 ?y_a6 ?y_a7 ?y_a8 ?y_a9 ?y_b1 ?y_b2 ?y_b3 ?y_b4 ?y_b5 ?y_b6 ?y_b7 ?y_b8 ?y_b9 ?y_c1 ?y_c2 ?y_c3 ?y_c4 ?y_c5 ?y_c6; (case y_a1 => k_is); (case y_a2 => k_is); (case y_a3 => rfl); (case y_a4 => k_is); (case y_a5 => k_is); (case y_a6 => k_is); (case y_a7 => k_is); (case y_a8 => k_is); (case y_a9 => k_is); (case y_b1 => first | kernel_rfl | rfl | decide +kernel); (case y_b2 => k_is); (case y_b3 => k_is); (case y_b4 => k_is); (case y_b5 => k_is); (case y_b6 => k_is); (case y_b7 => k_is); (case y_b8 => rfl); (case y_b9 => rfl); (case y_c1 => k_is); (case y_c2 => k_is); (case y_c3 => k_is); (case y_c4 => k_is); (case y_c5 => k_is); (case y_c6 => k_is)))
    (case e3_0 => k_is)
    (case E_4 => (refine' ErrFacts.mk ?y_a1 ?y_a2 ?y_a3 ?y_a4 ?y_a5 ?y_a6 ?y_a7 ?y_a8 ?y_a9 ?y_b1 ?y_b2 ?y_b3 ?y_b4 ?y_b5 ?y_b6 ?y_b7 ?y_b8 ?y_b9 ?y_c1 ?y_c2 ?y_c3 ?y_c4 ?y_c5 ?y_c6; (case y_a1 => k_is); (case y_a2 => k_is); (case y_a3 => rfl); (case y_a4 => k_is); (case y_a5 => k_is); (case y_a6 => k_is); (case y_a7 => k_is); (case y_a8 => k_is); (case y_a9 => k_is); (case y_b1 => first | kernel_rfl | rfl | decide +kernel); (case y_b2 => k_is); (case y_b3 => k_is); (case y_b4 => k_is); (case y_b5 => k_is); (case y_b6 => k_is); (case y_b7 => k_is); (case y_b8 => rfl); (case y_b9 => rfl); (case y_c1 => k_is); (case y_c2 => k_is); (case y_c3 => k_is); (case y_c4 => k_is); (case y_c5 => k_is); (case y_c6 => k_is)))
    (case e4_0 => k_is)
    (case E_5 => (refine' ErrFacts.mk ?y_a1 ?y_a2 ?y_a3 ?y_a4 ?y_a5 ?y_a6 ?y_a7 ?y_a8 ?y_a9 ?y_b1 ?y_b2 ?y_b3 ?y_b4 ?y_b5 ?y_b6 ?y_b7 ?y_b8 ?y_b9 ?y_c1 ?y_c2 ?y_c3 ?y_c4 ?y_c5 ?y_c6; (case y_a1 => k_is); (case y_a2 => k_is); (case y_a3 => rfl); (case y_a4 => k_is); (case y_a5 => k_is); (case y_a6 => k_is); (case y_a7 => k_is); (case y_a8 => k_is); (case y_a9 => k_is); (case y_b1 => first | kernel_rfl | rfl | decide +kernel); (case y_b2 => k_is); (case y_b3 => k_is); (case y_b4 => k_is); (case y_b5 => k_is); (case y_b6 => k_is); (case y_b7 => k_is); (case y_b8 => rfl); (case y_b9 => rfl); (case y_c1 => k_is); (case y_c2 => k_is); (case y_c3 => k_is); (case y_c4 => k_is); (case y_c5 => k_is); (case y_c6 => k_is)))
    (case e5_0 => k_is)
    (case E_6 => (refine' ErrFacts.mk ?y_a1 ?y_a2 ?y_a3 ?y_a4 ?y_a5 ?y_a6 ?y_a7 ?y_a8 ?y_a9 ?y_b1 ?y_b2 ?y_b3 ?y_b4 ?y_b5 ?y_b6 ?y_b7 ?y_b8 ?y_b9 ?y_c1 ?y_c2 ?y_c3 ?y_c4 ?y_c5 ?y_c6; (case y_a1 => k_is); (case y_a2 => k_is); (case y_a3 => rfl); (case y_a4 => k_is); (case y_a5 => k_is); (case y_a6 => k_is); (case y_a7 => k_is); (case y_a8 => k_is); (case y_a9 => k_is); (case y_b1 => first | kernel_rfl | rfl | decide +kernel); (case y_b2 => k_is); (case y_b3 => k_is); (case y_b4 => k_is); (case y_b5 => k_is); (case y_b6 => k_is); (case y_b7 => k_is); (case y_b8 => rfl); (case y_b9 => rfl); (case y_c1 => k_is); (case y_c2 => k_is); (case y_c3 => k_is); (case y_c4 => k_is); (case y_c5 => k_is); (case y_c6 => k_is)))
    (case e6_0 => k_is)
    (case e6_1 => k_is)
    (case E_7 => (refine' ErrFacts.mk ?y_a1 ?y_a2 ?y_a3 ?y_a4 ?y_a5 ?y_a6 ?y_a7 ?y_a8 ?y_a9 ?y_b1 ?y_b2 ?y_b3 ?y_b4 ?y_b5 ?y_b6 ?y_b7 ?y_b8 ?y_b9 ?y_c1 ?y_c2 ?y_c3 ?y_c4 ?y_c5 ?y_c6; (case y_a1 => k_is); (case y_a2 => k_is); (case y_a3 => rfl); (case y_a4 => k_is); (case y_a5 => k_is); (case y_a6 => k_is); (case y_a7 => k_is); (case y_a8 => k_is); (case y_a9 => k_is); (case y_b1 => first | kernel_rfl | rfl | decide +kernel); (case y_b2 => k_is); (case y_b3 => k_is); (case y_b4 => k_is); (case y_b5 => k_is); (case y_b6 => k_is); (case y_b7 => k_is); (case y_b8 => rfl); (case y_b9 => rfl); (case y_c1 => k_is); (case y_c2 => k_is); (case y_c3 => k_is); (case y_c4 => k_is); (case y_c5 => k_is); (case y_c6 => k_is)))
    (case e7_0 => k_is)
    (case E_8 => (refine' ErrFacts.mk ?y_a1 ?y_a2 ?y_a3 ?y_a4 ?y_a5 ?y_a6 ?y_a7 ?y_a8 ?y_a9 ?y_b1 ?y_b2 ?y_b3 ?y_b4 ?y_b5 ?y_b6 ?y_b7 ?y_b8 ?y_b9 ?y_c1 ?y_c2 ?y_c3 ?y_c4 ?y_c5 ?y_c6; (case y_a1 => k_is); (case y_a2 => k_is); (case y_a3 => rfl); (case y_a4 => k_is); (case y_a5 => k_is); (case y_a6 => k_is); (case y_a7 => k_is); (case y_a8 => k_is); (case y_a9 => k_is); (case y_b1 => first | kernel_rfl | rfl | decide +kernel); (case y_b2 => k_is); (case y_b3 => k_is); (case y_b4 => k_is); (case y_b5 => k_is); (case y_b6 => k_is); (case y_b7 => k_is); (case y_b8 => rfl); (case y_b9 => rfl); (case y_c1 => k_is); (case y_c2 => k_is); (case y_c3 => k_is); (case y_c4 => k_is); (case y_c5 => k_is); (case y_c6 => k_is)))
    (case e8_0 => k_is)
    (case E_9 => (refine' ErrFacts.mk ?y_a1 ?y_a2 ?y_a3 ?y_a4 ?y_a5 ?y_a6 ?y_a7 ?y_a8 ?y_a9 ?y_b1 ?y_b2 ?y_b3 ?y_b4 ?y_b5 ?y_b6 ?y_b7 ?y_b8 ?y_b9 ?y_c1 ?y_c2 ?y_c3 ?y_c4 ?y_c5 ?y_c6; (case y_a1 => k_is); (case y_a2 => k_is); (case y_a3 => rfl); (case y_a4 => k_is); (case y_a5 => k_is); (case y_a6 => k_is); (case y_a7 => k_is); (case y_a8 => k_is); (case y_a9 => k_is); (case y_b1 => first | kernel_rfl | rfl | decide +kernel); (case y_b2 => k_is); (case y_b3 => k_is); (case y_b4 => k_is); (case y_b5 => k_is); (case y_b6 => k_is); (case y_b7 => k_is); (case y_b8 => rfl); (case y_b9 => rfl); (case y_c1 => k_is); (case y_c2 => k_is); (case y_c3 => k_is); (case y_c4 => k_is); (case y_c5 => k_is); (case y_c6 => k_is)))
    (case e9_0 => k_is)
    (case e9_1 => k_is)
    (case d0 => k_is)
    (case d1 => k_is)
    (case oa_Wheel => k_is)
    (case ob_Wheel => k_is)
    (case oc_Wheel => k_is)
    (case od_Wheel => k_is)
    (case oe_Wheel => k_is)
    (case of_Wheel => k_is)
    (case og_Wheel => k_is)
    (case oh_Wheel => k_is)
    (case oi_Wheel => k_is)
    (case oa_Grid => k_is)
    (case ob_Grid => k_is)
    (case oc_Grid => k_is)
    (case od_Grid => k_is)
    (case oe_Grid => k_is)
    (case of_Grid => k_is)
    (case og_Grid => k_is)
    (case oh_Grid => k_is)
    (case oi_Grid => k_is)
    (case oa_Meter => k_is)
    (case ob_Meter => k_is)
    (case oc_Meter => k_is)
    (case od_Meter => k_is)
    (case oe_Meter => k_is)
    (case of_Meter => k_is)
    (case og_Meter => k_is)
    (case oh_Meter => k_is)
    (case oi_Meter => k_is)
    (case oa_Paper => k_is)
    (case ob_Paper => k_is)
    (case oc_Paper => k_is)
    (case od_Paper => k_is)
    (case oe_Paper => k_is)
    (case of_Paper => k_is)
    (case og_Paper => k_is)
    (case oh_Paper => k_is)
    (case oi_Paper => k_is)
    (case oa_Stretch => k_is)
    (case ob_Stretch => k_is)
    (case oc_Stretch => k_is)
    (case od_Stretch => k_is)
    (case oe_Stretch => k_is)
    (case of_Stretch => k_is)
    (case og_Stretch => k_is)
    (case oh_Stretch => k_is)
    (case oi_Stretch => k_is)
    (case ma_Wheel_init => k_is)
    (case ml_Wheel_init => k_is)
    (case mc_Wheel_init => k_is)
    (case mk_Wheel_init => k_is)
    (case mi_Wheel_init => k_is)
    (case ma_Wheel_eq => k_is)
    (case ml_Wheel_eq => k_is)
    (case mc_Wheel_eq => k_is)
    (case mk_Wheel_eq => k_is)
    (case mi_Wheel_eq => k_is)
    (case ma_Wheel_str => k_is)
    (case ml_Wheel_str => k_is)
    (case mc_Wheel_str => k_is)
    (case mk_Wheel_str => k_is)
    (case mi_Wheel_str => k_is)
    (case ma_Wheel_is_mark => k_is)
    (case ml_Wheel_is_mark => k_is)
    (case mc_Wheel_is_mark => k_is)
    (case mk_Wheel_is_mark => k_is)
    (case mi_Wheel_is_mark => k_is)
    (case ma_Wheel_lets => k_is)
    (case ml_Wheel_lets => k_is)
    (case mc_Wheel_lets => k_is)
    (case mk_Wheel_lets => k_is)
    (case mi_Wheel_lets => k_is)
    (case ma_Wheel_trusted => k_is)
    (case mb_Wheel_trusted => k_is)
    (case ml_Wheel_trusted => k_is)
    (case mc_Wheel_trusted => k_is)
    (case mk_Wheel_trusted => k_is)
    (case mi_Wheel_trusted => k_is)
    (case ma_Wheel_play => k_is)
    (case mb_Wheel_play => k_is)
    (case ml_Wheel_play => k_is)
    (case mc_Wheel_play => k_is)
    (case mk_Wheel_play => k_is)
    (case mi_Wheel_play => k_is)
    (case ma_Grid_init => k_is)
    (case ml_Grid_init => k_is)
    (case mc_Grid_init => k_is)
    (case mk_Grid_init => k_is)
    (case mi_Grid_init => k_is)
    (case mx_Grid_init => k_is)
    (case my_Grid_init => k_is)
    (case mz_Grid_init => rfl)
    (case mf_Grid_init => rfl)
    (case mg_Grid_init => k_is)
    (case ka_Wheel => k_is)
    (case kb_Wheel => k_is)
    (case ka_Grid => k_is)
    (case kb_Grid => k_is)
    (case sa_Grid_Grid_init => first | kernel_rfl | rfl | decide +kernel)
    (case sb_Grid_Grid_init => k_is)
    (case sc_Grid_Grid_init => k_is)
    (case sd_Grid_Grid_init => k_is)
    (case se_Grid_Grid_init => k_is)
    (case qa_Wheel => k_is)
    (case qb_Wheel => k_is)
    (case no_Wheel_period => k_is)
    (case no_Wheel_back => k_is)
    (case no_Wheel_ahead => k_is)
    (case ca_Wheel_TRUSTED => k_is)
    (case cb_Wheel_TRUSTED => first | exact rfl | exact ⟨_, rfl⟩)
    (case cc_Wheel_TRUSTED => k_is)
    (case pa_Wheel_trusted => k_is)
    (case pb_Wheel_trusted => k_is)
    (case pc_Wheel_trusted => k_is)
    (case pd_Wheel_trusted => k_is)
    (case xa_Wheel_is_mark => k_is)
    (case pa_Wheel_play => k_is)
    (case pb_Wheel_play => k_is)
    (case pc_Wheel_play => k_is)
    (case pd_Wheel_play => k_is)
    (case xa_Wheel_lets => k_is)
    (case qa_Grid => k_is)
    (case qb_Grid => k_is)
    (case no_Grid_period => k_is)
    (case no_Grid_back => k_is)
    (case no_Grid_ahead => k_is)
    (case ca_Grid_TRUSTED => k_is)
    (case cb_Grid_TRUSTED => first | exact rfl | exact ⟨_, rfl⟩)
    (case cc_Grid_TRUSTED => k_is)
    (case pa_Grid_trusted => k_is)
    (case pb_Grid_trusted => k_is)
    (case pc_Grid_trusted => k_is)
    (case pd_Grid_trusted => k_is)
    (case xa_Grid_is_mark => k_is)
    (case pa_Grid_play => k_is)
    (case pb_Grid_play => k_is)
    (case pc_Grid_play => k_is)
    (case pd_Grid_play => k_is)
    (case xa_Grid_lets => k_is)
    (case ma_Meter_init => k_is)
    (case ml_Meter_init => k_is)
    (case mc_Meter_init => k_is)
    (case mk_Meter_init => k_is)
    (case mi_Meter_init => k_is)
    (case mn0_Meter_init => k_is)
    (case mw0_Meter_init => first | exact rfl | exact ⟨_, rfl⟩)
    (case mn1_Meter_init => k_is)
    (case mw1_Meter_init => first | exact rfl | exact ⟨_, rfl⟩)
    (case mn2_Meter_init => k_is)
    (case mw2_Meter_init => first | exact rfl | exact ⟨_, rfl⟩)
    (case ka_Meter => k_is)
    (case kb_Meter => k_is)
    (case ma_Meter_iter => k_is)
    (case ml_Meter_iter => k_is)
    (case mc_Meter_iter => k_is)
    (case mk_Meter_iter => k_is)
    (case mi_Meter_iter => k_is)
    (case ma_Meter_getitem => k_is)
    (case ml_Meter_getitem => k_is)
    (case mc_Meter_getitem => k_is)
    (case mk_Meter_getitem => k_is)
    (case mi_Meter_getitem => k_is)
    (case no_Meter_wheels => k_is)
    (case no_Meter_off => k_is)
    (case no_Meter_more => k_is)
    (case no_Meter_lost => k_is)
    (case ma_Paper_init => k_is)
    (case ml_Paper_init => k_is)
    (case mc_Paper_init => k_is)
    (case mk_Paper_init => k_is)
    (case mi_Paper_init => k_is)
    (case ma_Stretch_init => k_is)
    (case ml_Stretch_init => k_is)
    (case mc_Stretch_init => k_is)
    (case mk_Stretch_init => k_is)
    (case mi_Stretch_init => k_is)
    (case mx_Stretch_init => k_is)
    (case my_Stretch_init => k_is)
    (case mz_Stretch_init => rfl)
    (case mf_Stretch_init => rfl)
    (case mg_Stretch_init => k_is)
    (case ka_Stretch => k_is)
    (case kb_Stretch => k_is)
    (case sa_Stretch_Stretch_init => first | kernel_rfl | rfl | decide +kernel)
    (case sb_Stretch_Stretch_init => k_is)
    (case sc_Stretch_Stretch_init => k_is)
    (case sd_Stretch_Stretch_init => k_is)
    (case se_Stretch_Stretch_init => k_is)
    (case no_Stretch_own_parts => k_is)
    (case no_Stretch_begin => k_is)
    (case no_Stretch_width => k_is)
    (case no_Stretch_left => k_is)
    (case al0_need_few_logs => k_is)
    (case ga_MOST => k_is)
    (case r_MOST => first | exact rfl | exact ⟨_, rfl⟩)
    (case ga_MOST_WHEELS => k_is)
    (case r_MOST_WHEELS => first | exact rfl | exact ⟨_, rfl⟩)
    (case ga_MOST_ENTRIES => k_is)
    (case r_MOST_ENTRIES => first | exact rfl | exact ⟨_, rfl⟩)
    (case ga_MOST_VALUE => k_is)
    (case r_MOST_VALUE => first | exact rfl | exact ⟨_, rfl⟩)
    (case ga_MOST_TRIED => k_is)
    (case r_MOST_TRIED => first | exact rfl | exact ⟨_, rfl⟩)
    (case st_Wheel => first | kts_exm | kit_is | k_is | decide +kernel)
    (case kd_Wheel => first | kts_exm | kit_is | k_is | decide +kernel)
    (case kx_Wheel => first | kts_exm | kit_is | k_is | decide +kernel)
    (case km_Wheel => first | kts_exm | kit_is | k_is | decide +kernel)
    (case st_Grid => first | kts_exm | kit_is | k_is | decide +kernel)
    (case kd_Grid => first | kts_exm | kit_is | k_is | decide +kernel)
    (case kx_Grid => first | kts_exm | kit_is | k_is | decide +kernel)
    (case km_Grid => first | kts_exm | kit_is | k_is | decide +kernel)
    (case pf_Wheel => first | kts_exm | kit_is | k_is | decide +kernel)
    (case kmm => first | kts_exm | kit_is | k_is | decide +kernel)
    (case xfi => first | kts_exm | kit_is | k_is | decide +kernel)
